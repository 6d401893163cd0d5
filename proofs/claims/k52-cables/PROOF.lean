import PyProof.Rows.All
import Wide.All
import OpenK.AllK
import Wide.FinOn
import HandS.ForMost
import KE.DataCmp
import KE.DataEq
import KE.DataIsa
import KE.DataMinMax
import KE.DataAny
import KE.SortData
import KE.DataFind
import HandS.Exc
import HandS.ExcOwn
import HandS.CallSlots
import HandS.WordsExc
import HandS.Wide
import HandS.Flow
import HandS.IsInst
import HandS.Defaults
import HandS.Lambda
import HandS.TupLen
import HandS.TupAny
import HandS.Strs
import HandS.WordsDict
import HandS.SetFor
import HandS.Ends
import HandS.More
import HandS.Words
import HandS.Head0
import HandS.Head1
import HandS.Head2
import HandS.HeadEnd
import HandS.HeadHook1
import HandS.HeadHook2
import PyProof.P3In
import HandS.Text
import HandS.Conv
import KE.KSortTup
import KE.LtSeq
import HandS.Iter
import HandS.Zip
import HandS.Rev
import HandS.Style
import HandS.TupMul
import HandS.Deep
import HandS.Dict
import PyProof.ReprRoads
import PyProof.CallFns
import KE.KTupSum
import HandS.DictComp
import HandS.HotCalls
import HandS.ExcIs
import HandS.ExcField
import HandS.RaiseMore
import HandS.FStr
import KE.GoesMore
import KE.GoesZip
import KE.KDictDisplayH
import PySem.Challenge.RW_everyweather_k52_cable_papers_judged
set_option Elab.async false
set_option linter.all false
set_option maxRecDepth 100000
set_option maxHeartbeats 4000000
set_option autoImplicit false
namespace Ew
open PySem (PyData Str)
abbrev D := PyData
structure Pool where
  script : List Int
  i : Nat
  c : Int
  n : Int
  salt : Int
inductive Slot where
  | dat (d : D)
  | own (ds : List D)
  | odic (kvs : List (D × D))
  | odicT (kvs : List (D × D))
  | pool
inductive Arg where
  | d (x : D)
  | pool
abbrev Rho := List (Option Slot)
structure Exn where
  cls : Str
  arg : Option (Str × Int)
inductive R (α : Type) where
  | ok (a : α) (p : Pool)
  | err (x : Exn) (p : Pool)
  | stuck
abbrev M (α : Type) := Pool → R α
def M.ret {α : Type} (a : α) : M α := fun p => .ok a p
def M.stuck {α : Type} : M α := fun _ => .stuck
def M.err {α : Type} (x : Exn) : M α := fun p => .err x p
def M.bnd {α β : Type} (m : M α) (f : α → M β) : M β := fun p => match m p with
  | .ok a q => f a q
  | .err x q => .err x q
  | .stuck => .stuck
def M.noerr {α : Type} (m : M α) : M α := fun p => match m p with
  | .ok a q => .ok a q
  | .err _ _ => .stuck
  | .stuck => .stuck
abbrev DE := Rho → M D
abbrev DT := Rho → M Bool
abbrev DA := Rho → M Arg
abbrev DI := Rho → M (List D)
def Slot.val? : Slot → Option D
  | .dat d => some d
  | .own ds => some (.list ds)
  | .odic kvs => some (.dict kvs)
  | .odicT kvs => some (.dict kvs)
  | .pool => none
def dVar (i : Nat) : DE := fun ρ => match ρ[i]? with
  | some (some s) => (match s.val? with
    | some d => M.ret d
    | none => M.stuck)
  | _ => M.stuck
def dC (d : D) : DE := fun _ => M.ret d
def dBin (f : D → D → M D) (a b : DE) : DE := fun ρ => M.bnd (a ρ) fun x => M.bnd (b ρ) fun y => f x y
def dUn (f : D → M D) (a : DE) : DE := fun ρ => M.bnd (a ρ) f
def dEach : List DE → Rho → M (List D)
  | [], _ => M.ret []
  | e :: es, ρ => M.bnd (e ρ) fun x => M.bnd (dEach es ρ) fun xs => M.ret (x :: xs)
def dTup (es : List DE) : DE := fun ρ => M.bnd (dEach es ρ) fun xs => M.ret (.tuple xs)
def dLst (es : List DE) : DE := fun ρ => M.bnd (dEach es ρ) fun xs => M.ret (.list xs)
def aD (e : DE) : DA := fun ρ => M.bnd (e ρ) fun x => M.ret (.d x)
def aPool (i : Nat) : DA := fun ρ => match ρ[i]? with
  | some (some .pool) => M.ret .pool
  | _ => M.stuck
def dArgs : List DA → Rho → M (List Arg)
  | [], _ => M.ret []
  | e :: es, ρ => M.bnd (e ρ) fun x => M.bnd (dArgs es ρ) fun xs => M.ret (x :: xs)
def dCall (f : List Arg → M D) (as : List DA) : DE := fun ρ => M.bnd (dArgs as ρ) f
def tOf (a : DE) : DT := fun ρ => M.bnd (a ρ) fun x => match x with
  | .bool b => M.ret b
  | _ => M.stuck
def tAnd (a b : DT) : DT := fun ρ => M.bnd (a ρ) fun c => if c = true then b ρ else M.ret false
def tOr (a b : DT) : DT := fun ρ => M.bnd (a ρ) fun c => if c = true then M.ret true else b ρ
def tNot (a : DT) : DT := fun ρ => M.bnd (a ρ) fun c => M.ret (!c)
def dAnd (a b : DE) : DE := fun ρ => M.bnd (tOf a ρ) fun c => if c = true then b ρ else M.ret (.bool false)
def dOr (a b : DE) : DE := fun ρ => M.bnd (tOf a ρ) fun c => if c = true then M.ret (.bool true) else b ρ
def dNot (a : DE) : DE := fun ρ => M.bnd (tOf a ρ) fun c => M.ret (.bool (!c))
def dIf (t : DT) (a b : DE) : DE := fun ρ => M.bnd (t ρ) fun c => if c = true then a ρ else b ρ
def dChain (f g : D → D → M D) (a b c : DE) : DE := fun ρ => M.bnd (a ρ) fun x => M.bnd (b ρ) fun y => M.bnd (f x y) fun k => match k with
  | .bool true => M.bnd (c ρ) fun z => g y z
  | .bool false => M.ret (.bool false)
  | _ => M.stuck

abbrev Tgt := D → Rho → M Rho
def gN (i : Nat) : Tgt := fun d ρ => M.ret (ρ.set i (some (.dat d)))
def gEach : List Tgt → List D → Rho → M Rho
  | [], [], ρ => M.ret ρ
  | g :: gs, d :: ds, ρ => M.bnd (g d ρ) fun ρ' => gEach gs ds ρ'
  | _, _, _ => M.stuck
def gT (gs : List Tgt) : Tgt := fun d ρ => match d with
  | .tuple ds => if ds.length = gs.length then gEach gs ds ρ else M.stuck
  | _ => M.stuck
def wipeR (ρ : Rho) : List Nat → Rho
  | [] => ρ
  | v :: vs => (wipeR ρ vs).set v none
def compGo (f : D → M (Option D)) : List D → M (List D)
  | [] => M.ret []
  | x :: xs => M.bnd (f x) fun o => M.bnd (compGo f xs) fun r => M.ret (o.toList ++ r)
def compTurn (g : Tgt) (t : DT) (e : DE) (ρ : Rho) : D → M (Option D) := fun x => M.bnd (g x ρ) fun ρ' => M.bnd (t ρ') fun c => if c = true then M.bnd (e ρ') fun y => M.ret (some y) else M.ret none
def tTrue : DT := fun _ => M.ret true
def dComp (own : List Nat) (it : DI) (g : Tgt) (t : DT) (e : DE) : DE := fun ρ => M.bnd (it ρ) fun xs => if xs.length ≤ PySem.sizeLine then M.bnd (M.noerr (compGo (compTurn g t e (wipeR ρ own)) xs)) fun ys => M.ret (.list ys) else M.stuck

def iSeq (a : DE) : DI := fun ρ => M.bnd (a ρ) fun x => match x with
  | .list ds => M.ret ds
  | .tuple ds => M.ret ds
  | _ => M.stuck
def intsFrom (lo : Int) (n : Nat) : List D := (List.range n).map fun (k : Nat) => .int (lo + (k : Int))
def small62 (i : Int) : Bool := decide (-(2 ^ 62) ≤ i) && decide (i < 2 ^ 62)
def rng2 (x y : D) : M (List D) := match x, y with
  | .int i, .int j => if (small62 i && small62 j) = true then M.ret (intsFrom i (j - i).toNat) else M.stuck
  | _, _ => M.stuck
def rng1 (y : D) : M (List D) := match y with
  | .int j => if small62 j = true then M.ret (intsFrom 0 j.toNat) else M.stuck
  | _ => M.stuck
def iR1 (a : DE) : DI := fun ρ => M.bnd (a ρ) rng1
def iR2 (a b : DE) : DI := fun ρ => M.bnd (a ρ) fun x => M.bnd (b ρ) fun y => rng2 x y

inductive Out where
  | next (ρ : Rho)
  | ret (d : D)
  | brk (ρ : Rho)
  | cont (ρ : Rho)
abbrev DS := Rho → M Out
def sNil : DS := fun ρ => M.ret (.next ρ)
def sSeq (a b : DS) : DS := fun ρ => M.bnd (a ρ) fun o => match o with
  | .next ρ' => b ρ'
  | o => M.ret o
def Slot.mine : Slot → Bool
  | .own _ => true
  | .odic _ => true
  | .odicT _ => true
  | _ => false
def hide1 : Option Slot → Option Slot
  | some s => if s.mine = true then none else some s
  | none => none
def hideR (ρ : Rho) : Rho := ρ.map hide1
mutual
/-- no list, no dict within -/
def flatD : D → Bool
  | .none | .bool _ | .int _ | .str _ => true
  | .tuple xs => flatAll xs
  | .list _ => false
  | .dict _ => false
def flatAll : List D → Bool
  | [] => true
  | x :: xs => flatD x && flatAll xs
end
def sAsg (g : Tgt) (e : DE) : DS := fun ρ => M.bnd (e (hideR ρ)) fun d => M.bnd (g d ρ) fun ρ' => M.ret (.next ρ')
def sAsgF (g : Tgt) (e : DE) : DS := fun ρ => M.bnd (e ρ) fun d => if flatD d = true then M.bnd (g d ρ) fun ρ' => M.ret (.next ρ') else M.stuck
def sOwn (i : Nat) (e : DE) : DS := fun ρ => M.bnd (e (hideR ρ)) fun d => match d with
  | .list ds => M.ret (.next (ρ.set i (some (.own ds))))
  | _ => M.stuck
def sOwnF (i : Nat) (e : DE) : DS := fun ρ => M.bnd (e ρ) fun d => match d with
  | .list ds => if flatAll ds = true then M.ret (.next (ρ.set i (some (.own ds)))) else M.stuck
  | _ => M.stuck
def sRet (e : DE) : DS := fun ρ => M.bnd (e ρ) fun d => M.ret (.ret d)
def sRetN : DS := fun _ => M.ret (.ret .none)
def sIf (t : DT) (a b : DS) : DS := fun ρ => M.bnd (t ρ) fun c => if c = true then a ρ else b ρ
def sDrop (e : DE) : DS := fun ρ => M.bnd (e ρ) fun _ => M.ret (.next ρ)
def sBrk : DS := fun ρ => M.ret (.brk ρ)
def sCont : DS := fun ρ => M.ret (.cont ρ)
def forGo (g : Tgt) (body : DS) : List D → Rho → M Out
  | [], ρ => M.ret (.next ρ)
  | x :: xs, ρ => M.bnd (g x ρ) fun ρ1 => M.bnd (body ρ1) fun o => match o with
    | .next ρ2 => forGo g body xs ρ2
    | .cont ρ2 => forGo g body xs ρ2
    | .brk ρ2 => M.ret (.next ρ2)
    | .ret d => M.ret (.ret d)
def sFor (it : DI) (g : Tgt) (body : DS) : DS := fun ρ => M.bnd (it (hideR ρ)) fun xs => forGo g body xs ρ
def whileGo (t : DT) (body : DS) : Nat → Rho → M Out
  | 0, _ => M.stuck
  | n + 1, ρ => M.bnd (t ρ) fun c => if c = true then M.bnd (body ρ) fun o => (match o with
      | .next ρ2 => whileGo t body n ρ2
      | .cont ρ2 => whileGo t body n ρ2
      | .brk ρ2 => M.ret (.next ρ2)
      | .ret d => M.ret (.ret d)) else M.ret (.next ρ)
def sWhile (fuel : Nat) (t : DT) (body : DS) : DS := fun ρ => whileGo t body fuel ρ
abbrev lineMax : Nat := PySem.sizeLine
def sApp (i : Nat) (e : DE) : DS := fun ρ => match ρ[i]? with
  | some (some (.own ds)) => M.bnd (e (hideR ρ)) fun d => if ds.length < lineMax then M.ret (.next (ρ.set i (some (.own (ds ++ [d]))))) else M.stuck
  | _ => M.stuck
def sAppF (i : Nat) (e : DE) : DS := fun ρ => match ρ[i]? with
  | some (some (.own ds)) => M.bnd (e ρ) fun d => if ds.length < lineMax ∧ flatD d = true then M.ret (.next (ρ.set i (some (.own (ds ++ [d]))))) else M.stuck
  | _ => M.stuck
def argSlot : Arg → Option Slot
  | .d x => some (.dat x)
  | .pool => some .pool
def fnD (n N : Nat) (body : DS) : List Arg → M D := fun as => if as.length = n then M.bnd (body (as.map argSlot ++ List.replicate (N - n) none)) fun o => (match o with
    | .ret d => M.ret d
    | .next _ => M.ret .none
    | _ => M.stuck) else M.stuck

def oAdd (x y : D) : M D := match x, y with
  | .int i, .int j => M.ret (.int (i + j))
  | .tuple xs, .tuple ys => if xs.length + ys.length ≤ lineMax then M.ret (.tuple (xs ++ ys)) else M.stuck
  | .list xs, .list ys => if xs.length + ys.length ≤ lineMax then M.ret (.list (xs ++ ys)) else M.stuck
  | .str a, .str b => if a.cps.size + b.cps.size ≤ lineMax then M.ret (.str (a ++ b)) else M.stuck
  | _, _ => M.stuck
def oSub (x y : D) : M D := match x, y with
  | .int i, .int j => M.ret (.int (i - j))
  | _, _ => M.stuck
def bits (i : Int) : Nat := i.natAbs.log2
def mulOk (i j : Int) : Prop := ((-(2 ^ 64) < i ∧ i < 2 ^ 64) ∨ (-(2 ^ 64) < j ∧ j < 2 ^ 64)) ∨ bits i + bits j < 1000000
instance (i j : Int) : Decidable (mulOk i j) := by unfold mulOk; infer_instance
def deep : Nat := 100
def eqD (x y : D) : Option Bool := match x, y with
  | .int i, .int j => some (decide (i = j))
  | .str a, .str b => some (decide (a = b))
  | _, _ => if (x.plain && y.plain) = true ∧ x.depth ≤ deep then some (PyData.eqv x y) else none
def oEq (x y : D) : M D := match eqD x y with
  | some b => M.ret (.bool b)
  | none => M.stuck
def oNe (x y : D) : M D := match eqD x y with
  | some b => M.ret (.bool (!b))
  | none => M.stuck
def cmpI (f : Int → Int → Bool) (x y : D) : M D := match x, y with
  | .int i, .int j => M.ret (.bool (f i j))
  | _, _ => M.stuck
def oLt := cmpI fun i j => decide (i < j)
def oLe := cmpI fun i j => decide (i ≤ j)
def oGt := cmpI fun i j => decide (j < i)
def oGe := cmpI fun i j => decide (j ≤ i)
def isN (x : D) : Bool := match x with
  | .none => true
  | _ => false
def oIsN (x : D) : M D := M.ret (.bool (isN x))
def oNotN (x : D) : M D := M.ret (.bool (!isN x))
def uNeg (x : D) : M D := match x with
  | .int i => M.ret (.int (-i))
  | _ => M.stuck
abbrev atD (xs : List D) (i : Int) : Option D := L2.atI xs i
def oIx (x y : D) : M D := match x, y with
  | .list xs, .int i => (match atD xs i with
    | some d => M.ret d
    | none => M.stuck)
  | .tuple xs, .int i => (match atD xs i with
    | some d => M.ret d
    | none => M.stuck)
  | _, _ => M.stuck
def bLen (x : D) : M D := match x with
  | .list xs => M.ret (.int xs.length)
  | .tuple xs => M.ret (.int xs.length)
  | .str a => if a.cps.size ≤ lineMax then M.ret (.int a.cps.size) else M.stuck
  | .dict kvs => M.ret (.int kvs.length)
  | _ => M.stuck
def bIsTup (x : D) : M D := M.ret (.bool x.isTuple)
def bIsLst (x : D) : M D := M.ret (.bool x.isList)
def bIsInt (x : D) : M D := M.ret (.bool x.isInt)
def bIsBool (x : D) : M D := M.ret (.bool x.isBool)
def bIsStr (x : D) : M D := M.ret (.bool x.isStr)
def bTuple (x : D) : M D := match x with
  | .list xs => M.ret (.tuple xs)
  | .tuple xs => M.ret (.tuple xs)
  | _ => M.stuck
def bList (x : D) : M D := match x with
  | .list xs => M.ret (.list xs)
  | .tuple xs => M.ret (.list xs)
  | _ => M.stuck
def ints? : List D → Option (List Int)
  | [] => some []
  | .int i :: r => (ints? r).map (i :: ·)
  | _ :: _ => none
def insU (x : Int) : List Int → List Int
  | [] => [x]
  | y :: r => if x < y then x :: y :: r else if x = y then y :: r else y :: insU x r
def sortU (xs : List Int) : List Int := xs.foldl (fun acc x => insU x acc) []
def spread1 (s : Int × Int) (k : Int) : Int × Int := ((s.1 * 48271 + 12345 + k) % 2147483647, s.2 * 2147483647 + (s.1 * 48271 + 12345 + k) % 2147483647)
def spreadF (cell : Int) : Int := (spread1 (spread1 (spread1 (spread1 (cell % 2147483647, 1) 0) 1) 2) 3).2
def takeCell (q : Pool) : Pool := if q.c ≤ 0 then (match q.script[q.i]? with
  | some cell => { q with i := q.i + 1, c := if cell < 1000000000000000000 then spreadF cell else cell }
  | none => q) else q
def tick (q : Pool) : Pool := { q with n := q.n + 1 }
def mixF (q : Pool) : Int := (((q.salt * 48271 + q.n * 69621 + 1) % 2147483647) * 16807 + q.n) % 2147483629
def drawF (many : Int) : M D := fun q => if 0 < many ∧ many < 2 ^ 2000 then (let q1 := tick (takeCell q)
  if q1.c ≤ 0 then .ok (.int (mixF q1 / 5 % many)) q1 else .ok (.int (q1.c % many)) { q1 with c := q1.c / many }) else .stuck
def F_draw : List Arg → M D
  | [.pool, .d (.int many)] => drawF many
  | _ => M.stuck
theorem draw_ok (many : Int) (h : 0 < many) (h2 : many < 2 ^ 2000) (q : Pool) : ∃ (v : Int) (q' : Pool), drawF many q = .ok (.int v) q' ∧ 0 ≤ v ∧ v < many := by
  unfold drawF
  rw [if_pos ⟨h, h2⟩]
  dsimp only
  by_cases hc : (tick (takeCell q)).c ≤ 0
  · rw [if_pos hc]
    exact ⟨_, _, rfl, Int.emod_nonneg _ (by omega), Int.emod_lt_of_pos _ h⟩
  · rw [if_neg hc]
    exact ⟨_, _, rfl, Int.emod_nonneg _ (by omega), Int.emod_lt_of_pos _ h⟩
end Ew
namespace Ew
open PySem PySem.Spec PyProof.Rows L2
abbrev Rg := Addr → Prop
def keyD : Key → D
  | .inl i => .int i
  | .inr x => .str x
def SqU (K : PySem.W.Frag) (H : Hp) (a : Addr) (xs : List V) : Prop :=
  H a = some (.tup xs) ∨ ∃ (o : Obj) (its : Array Value) (n : Nat), K.lookup a = some o ∧ o.cls = .type "tuple" ∧ o.data = .seq its n ∧ its.size ≤ sizeLine ∧ Vals xs its.toList
theorem SqU.t {K : PySem.W.Frag} {H : Hp} {a : Addr} {xs : List V} (h : SqU K H a xs) : SqT K H a xs := h.imp .inl id
instance {K : PySem.W.Frag} {H : Hp} {a : Addr} {xs : List V} : Coe (SqU K H a xs) (SqT K H a xs) := ⟨SqU.t⟩
def keyT (ks : List Key) : D := .tuple (ks.map keyD)
mutual
/-- v stands for the datum; its lists and dicts lie in the region Z -/
inductive Rp (K : PySem.W.Frag) (Z : Rg) (H : Hp) : V → D → Prop
  | non : Rp K Z H .non .none
  | bl (b : Bool) : Rp K Z H (.bl b) (.bool b)
  | int (i : Int) : Rp K Z H (.int i) (.int i)
  | str (x : Str) : Rp K Z H (.str x) (.str x)
  | tup {a : Addr} {vs : List V} {ds : List D} : SqU K H a vs → RpL K Z H vs ds → Rp K Z H (.ref a) (.tuple ds)
  | lst {a : Addr} {vs : List V} {ds : List D} : H a = some (.lst vs) → Z a → RpL K Z H vs ds → Rp K Z H (.ref a) (.list ds)
  | dic {a : Addr} {kvs : List (Key × V)} {ds : List (D × D)} : Rd H a (.dK kvs) → Z a → ds.map (fun q => q.1) = kvs.map (fun q => keyD q.1) → RpL K Z H (kvs.map fun q => q.2) (ds.map fun q => q.2) → Rp K Z H (.ref a) (.dict ds)
  | dit {a : Addr} {kvs : List (List Key × V)} {ds : List (D × D)} : Rd H a (.dT kvs) → Z a → ds.map (fun q => q.1) = kvs.map (fun q => keyT q.1) → RpL K Z H (kvs.map fun q => q.2) (ds.map fun q => q.2) → Rp K Z H (.ref a) (.dict ds)
inductive RpL (K : PySem.W.Frag) (Z : Rg) (H : Hp) : List V → List D → Prop
  | nil : RpL K Z H [] []
  | cons {v : V} {vs : List V} {d : D} {ds : List D} : Rp K Z H v d → RpL K Z H vs ds → RpL K Z H (v :: vs) (d :: ds)
end
theorem nt_l {xs : List V} : ∀ ps, HO.lst xs ≠ HO.tbl ps := fun _ e => nomatch e
theorem nt_k {ks : List (Key × V)} : ∀ ps, HO.dK ks ≠ HO.tbl ps := fun _ e => nomatch e
theorem nt_t {ks : List (List Key × V)} : ∀ ps, HO.dT ks ≠ HO.tbl ps := fun _ e => nomatch e
theorem nt_u {xs : List V} : ∀ ps, HO.tup xs ≠ HO.tbl ps := fun _ e => nomatch e
theorem nt_f {o : Obj} {u : HO} : ∀ ps, HO.frz o u ≠ HO.tbl ps := fun _ e => nomatch e
structure Stand (Z : Rg) (H H' : Hp) : Prop where
  rg : ∀ b o, Z b → (∀ ps, o ≠ HO.tbl ps) → H b = some o → H' b = some o
  tup : ∀ b xs, H b = some (.tup xs) → H' b = some (.tup xs)
  frz : ∀ b o u, H b = some (.frz o u) → H' b = some (.frz o u)
theorem Stand.refl (Z : Rg) (H : Hp) : Stand Z H H := ⟨fun _ _ _ _ h => h, fun _ _ h => h, fun _ _ _ h => h⟩
theorem Stand.trans {Z : Rg} {H H1 H2 : Hp} (a : Stand Z H H1) (b : Stand Z H1 H2) : Stand Z H H2 := ⟨fun c o z n h => b.rg c o z n (a.rg c o z n h), fun c xs h => b.tup c xs (a.tup c xs h), fun c o u h => b.frz c o u (a.frz c o u h)⟩
theorem Stand.sub {Z Z' : Rg} {H H' : Hp} (a : Stand Z H H') (h : ∀ b, Z' b → Z b) : Stand Z' H H' := ⟨fun b o z n q => a.rg b o (h b z) n q, a.tup, a.frz⟩
section
variable {K : PySem.W.Frag} {Z Z' : Rg} {H H' : Hp}
theorem Stand.sqU {a : Addr} {vs : List V} (s : Stand Z H H') (h : SqU K H a vs) : SqU K H' a vs := h.imp (s.tup _ _) id
theorem Stand.sqT {a : Addr} {vs : List V} (s : Stand Z H H') (h : SqT K H a vs) : SqT K H' a vs := by
  rcases h with (h | ⟨o, h⟩) | h
  · exact .inl (.inl (s.tup _ _ h))
  · exact .inl (.inr ⟨o, s.frz _ _ _ h⟩)
  · exact .inr h
theorem Stand.rd {a : Addr} {u : HO} (s : Stand Z H H') (z : Z a) (n : ∀ ps, u ≠ HO.tbl ps) (h : Rd H a u) : Rd H' a u := by
  rcases h with h | ⟨o, h⟩
  · exact .inl (s.rg _ _ z n h)
  · exact .inr ⟨o, s.frz _ _ _ h⟩
theorem rd_some {a : Addr} {u : HO} (h : Rd H a u) : H a ≠ none := by
  rcases h with h | ⟨o, h⟩ <;> rw [h] <;> exact Option.some_ne_none _
mutual
theorem Rp.stand (s : Stand Z H H') : ∀ {v : V} {d : D}, Rp K Z H v d → Rp K Z H' v d
  | _, _, .non => .non
  | _, _, .bl b => .bl b
  | _, _, .int i => .int i
  | _, _, .str x => .str x
  | _, _, .tup h r => .tup (s.sqU h) (RpL.stand s r)
  | _, _, .lst h z r => .lst (s.rg _ _ z nt_l h) z (RpL.stand s r)
  | _, _, .dic h z e r => .dic (s.rd z nt_k h) z e (RpL.stand s r)
  | _, _, .dit h z e r => .dit (s.rd z nt_t h) z e (RpL.stand s r)
theorem RpL.stand (s : Stand Z H H') : ∀ {vs : List V} {ds : List D}, RpL K Z H vs ds → RpL K Z H' vs ds
  | _, _, .nil => .nil
  | _, _, .cons h r => .cons (Rp.stand s h) (RpL.stand s r)
end
mutual
theorem Rp.sub (s : ∀ b, Z b → H b ≠ none → Z' b) : ∀ {v : V} {d : D}, Rp K Z H v d → Rp K Z' H v d
  | _, _, .non => .non
  | _, _, .bl b => .bl b
  | _, _, .int i => .int i
  | _, _, .str x => .str x
  | _, _, .tup h r => .tup h (RpL.sub s r)
  | _, _, .lst h z r => .lst h (s _ z (by rw [h]; exact Option.some_ne_none _)) (RpL.sub s r)
  | _, _, .dic h z e r => .dic h (s _ z (rd_some h)) e (RpL.sub s r)
  | _, _, .dit h z e r => .dit h (s _ z (rd_some h)) e (RpL.sub s r)
theorem RpL.sub (s : ∀ b, Z b → H b ≠ none → Z' b) : ∀ {vs : List V} {ds : List D}, RpL K Z H vs ds → RpL K Z' H vs ds
  | _, _, .nil => .nil
  | _, _, .cons h r => .cons (Rp.sub s h) (RpL.sub s r)
end
theorem Rp.grow (s : ∀ b, Z b → Z' b) {v : V} {d : D} (r : Rp K Z H v d) : Rp K Z' H v d := r.sub fun b z _ => s b z
theorem RpL.grow (s : ∀ b, Z b → Z' b) {v : List V} {d : List D} (r : RpL K Z H v d) : RpL K Z' H v d := r.sub fun b z _ => s b z
theorem RpL.length : ∀ {vs : List V} {ds : List D}, RpL K Z H vs ds → vs.length = ds.length
  | _, _, .nil => rfl
  | _, _, .cons _ r => by rw [List.length_cons, List.length_cons, RpL.length r]
theorem RpL.append : ∀ {vs ws : List V} {ds es : List D}, RpL K Z H vs ds → RpL K Z H ws es → RpL K Z H (vs ++ ws) (ds ++ es)
  | _, _, _, _, .nil, s => s
  | _, _, _, _, .cons h r, s => .cons h (RpL.append r s)
theorem RpL.one {v : V} {d : D} (h : Rp K Z H v d) : RpL K Z H [v] [d] := .cons h .nil
theorem RpL.at : ∀ {vs : List V} {ds : List D} {i : Nat} {d : D}, RpL K Z H vs ds → ds[i]? = some d → ∃ v, vs[i]? = some v ∧ Rp K Z H v d
  | _, _, _, _, .nil, e => by simp at e
  | _, _, 0, _, .cons h _, e => by simp at e; subst e; exact ⟨_, rfl, h⟩
  | _, _, i + 1, d, .cons _ r, e => by
    obtain ⟨v, h1, h2⟩ := RpL.at (i := i) (d := d) r (by simpa using e)
    exact ⟨v, by simpa using h1, h2⟩
theorem RpL.at' : ∀ {vs : List V} {ds : List D} {i : Nat} {v : V}, RpL K Z H vs ds → vs[i]? = some v → ∃ d, ds[i]? = some d ∧ Rp K Z H v d
  | _, _, _, _, .nil, e => by simp at e
  | _, _, 0, _, .cons h _, e => by simp at e; subst e; exact ⟨_, rfl, h⟩
  | _, _, i + 1, v, .cons _ r, e => by
    obtain ⟨d, h1, h2⟩ := RpL.at' (i := i) (v := v) r (by simpa using e)
    exact ⟨d, by simpa using h1, h2⟩
theorem RpL.set : ∀ {vs : List V} {ds : List D} {v : V} {d : D} (i : Nat), RpL K Z H vs ds → Rp K Z H v d → RpL K Z H (vs.set i v) (ds.set i d)
  | _, _, _, _, _, .nil, _ => .nil
  | _, _, _, _, 0, .cons _ r, h => .cons h r
  | _, _, _, _, i + 1, .cons q r, h => .cons q (RpL.set i r h)
theorem RpL.take : ∀ {vs : List V} {ds : List D} (n : Nat), RpL K Z H vs ds → RpL K Z H (vs.take n) (ds.take n)
  | _, _, 0, _ => .nil
  | _, _, _ + 1, .nil => .nil
  | _, _, n + 1, .cons h r => .cons h (RpL.take n r)
theorem RpL.drop : ∀ {vs : List V} {ds : List D} (n : Nat), RpL K Z H vs ds → RpL K Z H (vs.drop n) (ds.drop n)
  | _, _, 0, r => r
  | _, _, _ + 1, .nil => .nil
  | _, _, n + 1, .cons _ r => RpL.drop n r
theorem RpL.reverse : ∀ {vs : List V} {ds : List D}, RpL K Z H vs ds → RpL K Z H vs.reverse ds.reverse
  | _, _, .nil => .nil
  | _, _, .cons h r => by rw [List.reverse_cons, List.reverse_cons]; exact (RpL.reverse r).append (.one h)
theorem Rp.atI {vs : List V} {ds : List D} {i : Int} {d : D} (r : RpL K Z H vs ds) (h : L2.atI ds i = some d) : ∃ v, L2.atI vs i = some v ∧ Rp K Z H v d := by
  unfold L2.atI at h ⊢
  rw [r.length]
  cases e : ixN ds.length i with
  | none => rw [e] at h; cases h
  | some j =>
    rw [e] at h
    exact r.at h
end
section
variable {K : PySem.W.Frag} {Z Z' : Rg} {H H' : Hp}
mutual
theorem Rp.flat : ∀ {v : V} {d : D}, flatD d = true → Rp K Z H v d → Rp K Z' H v d
  | _, _, _, .non => .non
  | _, _, _, .bl b => .bl b
  | _, _, _, .int i => .int i
  | _, _, _, .str x => .str x
  | _, _, e, .tup h r => .tup h (RpL.flat (by rw [flatD] at e; exact e) r)
  | _, _, e, .lst h z r => by rw [flatD] at e; cases e
  | _, _, e, .dic h z _ r => by rw [flatD] at e; cases e
  | _, _, e, .dit h z _ r => by rw [flatD] at e; cases e
theorem RpL.flat : ∀ {vs : List V} {ds : List D}, flatAll ds = true → RpL K Z H vs ds → RpL K Z' H vs ds
  | _, _, _, .nil => .nil
  | _, _, e, .cons h r => by
    rw [flatAll, Bool.and_eq_true] at e
    exact .cons (Rp.flat e.1 h) (RpL.flat e.2 r)
end
end
section
variable {X : Cx} {pins : List (Addr × Obj)} {σ : L2.St} {H : Hp} {s : Shared} {Z : Rg}
theorem keys_reads {h : Heap} : ∀ {kvs : List (Key × V)} {vs : List (Key × Value)} {es : List DictEntry}, KV kvs vs → Pairs (mixKind X.prog X.w) es vs → (∃ as, ReadsAll h (es.map (·.key)) (kvs.map fun q => keyD q.1) as) ∧ Vals (kvs.map fun q => q.2) (es.map (·.val))
  | _, _, _, .nil, p => by
    cases p
    exact ⟨⟨_, .nil⟩, .nil⟩
  | _, _, _, .cons (a := q) (b := q') r rs, p => by
    cases p with
    | cons h1 h2 h3 =>
      obtain ⟨⟨as, q1⟩, q2⟩ := keys_reads (h := h) rs h3
      obtain ⟨e1, e2⟩ := r
      rw [mixKind_is] at h1
      refine ⟨?_, .cons (by dsimp only; rw [h2]; exact e2) q2⟩
      rcases keyIs_shape h1 with ⟨i, t, e3, e4⟩ | ⟨x, t, e3, e4⟩
      · exact ⟨_, ReadsAll.cons (as := []) (by dsimp only; rw [e4, e1, e3]; exact .int i t) q1⟩
      · exact ⟨_, ReadsAll.cons (as := []) (by dsimp only; rw [e4, e1, e3]; exact .str x t) q1⟩
theorem keyL_reads {h : Heap} : ∀ {k : List Key} {its : List Value}, Vals (k.map kV) its → ∃ as, ReadsAll h its (k.map keyD) as
  | [], _, r => by
    rw [List.map_nil] at r
    cases r
    exact ⟨_, .nil⟩
  | k :: ks, _, r => by
    rw [List.map_cons] at r
    cases r with
    | cons r1 r2 =>
      obtain ⟨as, q⟩ := keyL_reads (h := h) r2
      cases k with
      | inl i => obtain ⟨t, rfl⟩ := r1; exact ⟨_, ReadsAll.cons (as := []) (.int i t) q⟩
      | inr x => obtain ⟨t, rfl⟩ := r1; exact ⟨_, ReadsAll.cons (as := []) (.str x t) q⟩
theorem keysT_reads (I : Inv X pins σ H s) : ∀ {kvs : List (List Key × V)} {xs : List (List Key × Addr × Value)}, KT H kvs xs →
    (∃ as, ReadsAll s.heap ((xs.map (entryOfKey (tupleKind (mixKind X.prog X.w)))).map (·.key)) (kvs.map fun q => keyT q.1) as) ∧ Vals (kvs.map fun q => q.2) ((xs.map (entryOfKey (tupleKind (mixKind X.prog X.w)))).map (·.val))
  | _, _, .nil => ⟨⟨_, .nil⟩, .nil⟩
  | _, _, .cons (a := q) (b := q') r rs => by
    obtain ⟨⟨as, q1⟩, q2⟩ := keysT_reads I rs
    obtain ⟨e1, e2, e3⟩ := r
    obtain ⟨its, rv, ⟨o, ho, hc, n, hd⟩, hz⟩ := I.tuple (.inl (.inl e2) : SqT X.K H q'.2.1 (q.1.map kV))
    obtain ⟨bs, k1⟩ := keyL_reads (h := s.heap) rv
    exact ⟨⟨_, ReadsAll.cons (.tuple ho hc hd (by simpa using k1)) q1⟩, .cons e3 q2⟩
mutual
theorem Rp.reads (I : Inv X pins σ H s) : ∀ {v : V} {d : D} (u : Value), Rp X.K Z H v d → RelV v u → ∃ as, Reads s.heap u d as
  | _, _, u, .non, ru => by cases ru; exact ⟨_, .none⟩
  | _, _, u, .bl b, ru => by cases ru; exact ⟨_, .bool b⟩
  | _, _, u, .int i, ru => by obtain ⟨t, rfl⟩ := ru; exact ⟨_, .int i t⟩
  | _, _, u, .str x, ru => by obtain ⟨t, rfl⟩ := ru; exact ⟨_, .str x t⟩
  | _, _, u, .tup h r, ru => by
    cases ru
    obtain ⟨its, rv, ⟨o, ho, hc, n, hd⟩, hz⟩ := I.tuple h.t
    obtain ⟨as, q⟩ := RpL.reads I its r rv
    exact ⟨_, .tuple ho hc hd (by simpa using q)⟩
  | _, _, u, .lst h z r, ru => by
    cases ru
    obtain ⟨its, rv, ⟨o, n, ho, hc, hd, hs⟩, hz⟩ := I.list (.inl (.inl h))
    obtain ⟨as, q⟩ := RpL.reads I its r rv
    exact ⟨_, .list ho hc hs (by simpa using q)⟩
  | _, _, u, .dic (a := a) (kvs := kvs) (ds := ds) h z e r, ru => by
    cases ru
    obtain ⟨hz, hm, vs, kv, o, es, ep, ho, hx, hd, hk, he, hn⟩ := h.ok I.hok
    obtain ⟨⟨as, q1⟩, q2⟩ := keys_reads (X := X) (h := s.heap) kv he
    obtain ⟨bs, q3⟩ := RpL.reads I _ r q2
    exact ⟨_, .dict ho hx.1 hd (by rw [show ds.map (·.1) = ds.map (fun q => q.1) from rfl, e]; exact q1) q3⟩
  | _, _, u, .dit (a := a) (kvs := kvs) (ds := ds) h z e r, ru => by
    cases ru
    obtain ⟨hz, hm, xs, kt, o, es, ep, ho, hx, hd, he, hn⟩ := h.ok I.hok
    obtain ⟨⟨as, q1⟩, q2⟩ := keysT_reads I kt
    obtain ⟨bs, q3⟩ := RpL.reads I _ r q2
    exact ⟨_, .dict ho hx.1 hd (by rw [he, show ds.map (·.1) = ds.map (fun q => q.1) from rfl, e]; exact q1) (by rw [he]; exact q3)⟩
theorem RpL.reads (I : Inv X pins σ H s) : ∀ {vs : List V} {ds : List D} (us : List Value), RpL X.K Z H vs ds → Vals vs us → ∃ as, ReadsAll s.heap us ds as
  | _, _, us, .nil, ru => by cases ru; exact ⟨_, .nil⟩
  | _, _, us, .cons h r, ru => by
    cases ru with
    | cons r1 r2 =>
      obtain ⟨as, q1⟩ := Rp.reads I _ h r1
      obtain ⟨bs, q2⟩ := RpL.reads I _ r r2
      exact ⟨_, .cons q1 q2⟩
end
end

def TABS : List (Addr × Str) := []
theorem tabs_upd {T : List (Addr × Str)} {H : Hp} {a : Addr} {o : HO} (t : LamX.Tabs T H) (h : ∀ u, H a = some u → (∀ ps, u ≠ HO.tbl ps) ∧ ∀ φ, u ≠ HO.ext φ) : LamX.Tabs T (upd H a o) := fun p hp => by
  obtain ⟨ps, h1, h2, h3⟩ := t p hp
  refine ⟨ps, by rw [upd_ne (fun e => (h _ (by rw [← e]; exact h1)).1 ps rfl)]; exact h1, h2, fun pos cv hc => ?_⟩
  obtain ⟨c, e1, e2⟩ := h3 pos cv hc
  exact ⟨c, e1, by rw [upd_ne (fun e => (h _ (by rw [← e]; exact e2)).2 _ rfl)]; exact e2⟩
theorem tabs_new {T : List (Addr × Str)} {H : Hp} {a : Addr} {o : HO} (t : LamX.Tabs T H) (h : H a = none) : LamX.Tabs T (upd H a o) := tabs_upd t fun u e => by rw [h] at e; cases e
theorem lst_t {H : Hp} {a : Addr} {xs : List V} (h : H a = some (.lst xs)) : ∀ u, H a = some u → (∀ ps, u ≠ HO.tbl ps) ∧ ∀ φ, u ≠ HO.ext φ := fun u e => by
  rw [h] at e
  cases e
  exact ⟨nt_l, fun _ z => nomatch z⟩
def Keep (p : Addr) (H H' : Hp) : Prop := ∀ b o, b ≠ p → H b = some o → H' b = some o ∨ ∃ ps ps', o = HO.tbl ps ∧ H' b = some (.tbl ps')
theorem Keep.at {p : Addr} {H H' : Hp} (k : Keep p H H') (b : Addr) (o : HO) (n : b ≠ p) (t : ∀ ps, o ≠ HO.tbl ps) (h : H b = some o) : H' b = some o := (k b o n h).resolve_right fun ⟨ps, _, e, _⟩ => t ps e
theorem Keep.any {p : Addr} {H H' : Hp} (k : Keep p H H') {b : Addr} {o : HO} (n : b ≠ p) (h : H b = some o) : H' b ≠ none := by
  rcases k b o n h with e | ⟨_, _, _, e⟩ <;> rw [e] <;> exact Option.some_ne_none _
theorem Keep.of {p : Addr} {H H' : Hp} (k : ∀ b o, b ≠ p → H b = some o → H' b = some o) : Keep p H H' := fun b o n h => .inl (k b o n h)
theorem Keep.refl (p : Addr) (H : Hp) : Keep p H H := fun _ _ _ h => .inl h
theorem Keep.trans {p : Addr} {H H1 H2 : Hp} (a : Keep p H H1) (b : Keep p H1 H2) : Keep p H H2 := fun c o n h => by
  rcases a c o n h with e | ⟨ps, ps', e, e2⟩
  · exact b c o n e
  · rcases b c _ n e2 with e3 | ⟨ps1, ps2, _, e4⟩
    · exact .inr ⟨ps, ps', e, e3⟩
    · exact .inr ⟨ps, ps2, e, e4⟩
def PoolAt (p sc : Addr) (H : Hp) (q : Pool) : Prop := H p = some (.lst [.ref sc, .int (q.i : Int), .int q.c, .int q.n, .int q.salt]) ∧ H sc = some (.lst (q.script.map V.int)) ∧ sc ≠ p ∧ LamX.Tabs TABS H
def Zn (Z : Rg) (H : Hp) : Rg := fun b => Z b ∨ H b = none
section
variable {p sc : Addr} {H H1 H2 : Hp} {q q1 : Pool} {Z Z' : Rg}
theorem none_back (k : Keep p H H1) (b : PoolAt p sc H1 q1) {c : Addr} (h : H1 c = none) : H c = none := by
  cases e : H c with
  | none => rfl
  | some o =>
    by_cases hc : c = p
    · subst hc; rw [b.1] at h; cases h
    · exact absurd h (k.any hc e)
theorem Zn.step (k : Keep p H H1) (a : PoolAt p sc H q) (b : PoolAt p sc H1 q1) : ∀ c, Zn Z H1 c → Zn Z H c := fun c h => by
  rcases h with h | h
  · exact .inl h
  · refine .inr ?_
    cases e : H c with
    | none => rfl
    | some o =>
      by_cases hc : c = p
      · subst hc; rw [b.1] at h; cases h
      · exact absurd h (k.any hc e)
theorem Zn.twice (k : Keep p H H1) (a : PoolAt p sc H q) (b : PoolAt p sc H1 q1) : ∀ c, Zn (Zn Z H) H1 c → Zn Z H c := fun c h => by
  rcases h with h | h
  · exact h
  · exact Zn.step k a b c (.inr h)
theorem Zn.base : ∀ c, Z c → Zn Z H c := fun _ h => .inl h
theorem Zn.mono (h : ∀ c, Z c → Z' c) : ∀ c, Zn Z H c → Zn Z' H c := fun c z => z.elim (fun z => .inl (h c z)) .inr
theorem Zn.nop (a : PoolAt p sc H q) (nz : ¬ Z p) : ¬ Zn Z H p := fun h => h.elim nz fun e => by rw [a.1] at e; cases e
theorem Keep.stand (k : Keep p H H1) (a : PoolAt p sc H q) (nz : ¬ Z p) : Stand Z H H1 :=
  ⟨fun b o z n h => k.at b o (fun e => nz (e ▸ z)) n h, fun b xs h => k.at b _ (fun e => by rw [e, a.1] at h; cases h) nt_u h, fun b o u h => k.at b _ (fun e => by rw [e, a.1] at h; cases h) nt_f h⟩
end
def ExR (mg : Str → Option Value) (H' : Hp) (x : Exn) (c : Value) (od : Option Addr) : Prop :=
  ∃ C, mg x.cls = some (.ref C) ∧ c = .ref C ∧ match x.arg with
    | none => od = none
    | some (f, i) => ∃ dd, od = some dd ∧ H' dd = some (.xd [(f, .int i)])
def Post {α β : Type} (mg : Str → Option Value) (p sc : Addr) (H : Hp) (Rel : Hp → β → α → Prop) (W : Value → Option Addr → Hp → Prop) (Q : β → Hp → Prop) : R α → Prop
  | .ok a q => ∀ b H', Keep p H H' → PoolAt p sc H' q → Rel H' b a → Q b H'
  | .err x q => ∀ c od H', Keep p H H' → PoolAt p sc H' q → ExR mg H' x c od → W c od H'
  | .stuck => False
theorem Post.bnd {α β α' β' : Type} {mg : Str → Option Value} {p sc : Addr} {H : Hp} {Rel : Hp → β → α → Prop} {Rel' : Hp → β' → α' → Prop} {W : Value → Option Addr → Hp → Prop} {Q : β' → Hp → Prop} {m : M α} {f : α → M α'} {q : Pool}
    (h : Post mg p sc H Rel' W Q (M.bnd m f q)) : Post mg p sc H Rel W (fun b H1 => ∃ a q1, m q = .ok a q1 ∧ Keep p H H1 ∧ PoolAt p sc H1 q1 ∧ Rel H1 b a ∧ Post mg p sc H Rel' W Q (f a q1)) (m q) := by
  unfold M.bnd at h
  cases e : m q with
  | ok a q1 =>
    rw [e] at h
    intro b H1 k pl r
    exact ⟨a, q1, rfl, k, pl, r, h⟩
  | err x q1 =>
    rw [e] at h
    exact h
  | stuck =>
    rw [e] at h
    exact h.elim
theorem Post.later {α β : Type} {mg : Str → Option Value} {p sc : Addr} {H H1 : Hp} {Rel : Hp → β → α → Prop} {W : Value → Option Addr → Hp → Prop} {Q : β → Hp → Prop} {r : R α} (k : Keep p H H1) (h : Post mg p sc H Rel W Q r) : Post mg p sc H1 Rel W Q r := by
  cases r with
  | ok a q => exact fun b H' k' pl rl => h b H' (k.trans k') pl rl
  | err x q => exact fun c od H' k' pl rl => h c od H' (k.trans k') pl rl
  | stuck => exact h
theorem Post.imp {α β : Type} {mg : Str → Option Value} {p sc : Addr} {H : Hp} {Rel Rel' : Hp → β → α → Prop} {W : Value → Option Addr → Hp → Prop} {Q : β → Hp → Prop} {r : R α} (h : Post mg p sc H Rel W Q r)
    (hr : ∀ H' b a, Rel' H' b a → Rel H' b a) : Post mg p sc H Rel' W Q r := by
  cases r with
  | ok a q => exact fun b H' k' pl rl => h b H' k' pl (hr _ _ _ rl)
  | err x q => exact h
  | stuck => exact h
theorem Post.to {α β : Type} {mg : Str → Option Value} {p sc : Addr} {H : Hp} {Rel : Hp → β → α → Prop} {W : Value → Option Addr → Hp → Prop} {Q Q' : β → Hp → Prop} {r : R α} (h : Post mg p sc H Rel W Q r)
    (hq : ∀ b H', Q b H' → Q' b H') : Post mg p sc H Rel W Q' r := by
  cases r with
  | ok a q => exact fun b H' k' pl rl => hq _ _ (h b H' k' pl rl)
  | err x q => exact h
  | stuck => exact h
def EnvR (K : PySem.W.Frag) (p : Addr) (Z : Rg) (σ : L2.St) (H : Hp) (ρ : Rho) : Prop := ∀ (i : Nat) (s : Slot), ρ[i]? = some (some s) → match s.val? with
  | some d => ∃ v, σ[i]? = some (some v) ∧ Rp K Z H v d
  | none => σ[i]? = some (some (.ref p))
theorem EnvR.stand {K : PySem.W.Frag} {p : Addr} {Z : Rg} {σ : L2.St} {H H' : Hp} {ρ : Rho} (e : EnvR K p Z σ H ρ) (s : Stand Z H H') : EnvR K p Z σ H' ρ := fun i sl h => by
  have q := e i sl h
  cases z : sl.val? with
  | some d =>
    rw [z] at q
    obtain ⟨v, h1, h2⟩ := q
    exact ⟨v, h1, h2.stand s⟩
  | none =>
    rw [z] at q
    exact q
theorem EnvR.grow {K : PySem.W.Frag} {p : Addr} {Z Z' : Rg} {σ : L2.St} {H : Hp} {ρ : Rho} (e : EnvR K p Z σ H ρ) (s : ∀ b, Z b → Z' b) : EnvR K p Z' σ H ρ := fun i sl h => by
  have q := e i sl h
  cases z : sl.val? with
  | some d =>
    rw [z] at q
    obtain ⟨v, h1, h2⟩ := q
    exact ⟨v, h1, h2.grow s⟩
  | none =>
    rw [z] at q
    exact q
structure Sit (K : PySem.W.Frag) (p sc : Addr) (Z : Rg) (σ : L2.St) (H : Hp) (ρ : Rho) (q : Pool) : Prop where
  env : EnvR K p Z σ H ρ
  pool : PoolAt p sc H q
  nz : ¬ Z p
  len : ρ.length = σ.length
theorem Sit.next {K : PySem.W.Frag} {p sc : Addr} {Z : Rg} {σ : L2.St} {H H1 : Hp} {ρ : Rho} {q q1 : Pool} (s : Sit K p sc Z σ H ρ q) (k : Keep p H H1) (a : PoolAt p sc H1 q1) : Sit K p sc Z σ H1 ρ q1 :=
  ⟨s.env.stand (k.stand s.pool s.nz), a, s.nz, s.len⟩
abbrev RT (β : Type) := L2.St → Hp → (β → Hp → Prop) → Prop
abbrev RelT (β α : Type) := Addr → Rg → Hp → Hp → β → α → Prop
def Rd1 {α β : Type} (X : Cx) (W : WX) (Rel : RelT β α) (t : RT β) (F : Rho → M α) : Prop := ∀ (p sc : Addr) (Z : Rg) (σ : L2.St) (H : Hp) (ρ : Rho) (q : Pool) (Q : β → Hp → Prop), Sit X.K p sc Z σ H ρ q →
  Post X.mg p sc H (Rel p Z H) (fun c od H' => W c od σ H') Q (F ρ q) → t σ H Q
abbrev RpF (K : PySem.W.Frag) : RelT V D := fun _ Z H H' v d => Rp K (Zn Z H) H' v d
abbrev RlF (K : PySem.W.Frag) (n : Nat) : RelT (List V) (List D) := fun _ Z H H' v d => RpL K (Zn Z H) H' v d ∧ v.length = n
abbrev BoF : RelT Bool Bool := fun _ _ _ _ c b => c = b
def ArgR (K : PySem.W.Frag) (p : Addr) (Z : Rg) (H : Hp) : List V → List Arg → Prop
  | [], [] => True
  | v :: vs, .d x :: as => Rp K Z H v x ∧ ArgR K p Z H vs as
  | v :: vs, .pool :: as => v = .ref p ∧ ArgR K p Z H vs as
  | _, _ => False
def NewF (K : PySem.W.Frag) : RelT V D := fun _ Z H H' v d => ∃ a vs ds, v = .ref a ∧ d = .list ds ∧ H a = none ∧ H' a = some (.lst vs) ∧ RpL K (fun b => Zn Z H b ∧ b ≠ a) H' vs ds
def Shf {α β : Type} (Rel : RelT β α) : Prop := ∀ (p sc : Addr) (Z : Rg) (H H2 H' : Hp) (q q2 : Pool) (b : β) (a : α), Keep p H H2 → PoolAt p sc H q → PoolAt p sc H2 q2 → Rel p (Zn Z H) H2 H' b a → Rel p Z H H' b a
abbrev ArF (K : PySem.W.Frag) : RelT (List V) (List Arg) := fun p Z H H' v d => ArgR K p (Zn Z H) H' v d
theorem ArgR.grow {K : PySem.W.Frag} {p : Addr} {Z Z' : Rg} {H : Hp} (s : ∀ b, Z b → Z' b) : ∀ {vs : List V} {as : List Arg}, ArgR K p Z H vs as → ArgR K p Z' H vs as
  | [], [], _ => trivial
  | _ :: _, .d _ :: _, h => ⟨h.1.grow s, ArgR.grow s h.2⟩
  | _ :: _, .pool :: _, h => ⟨h.1, ArgR.grow s h.2⟩
theorem ArgR.stand {K : PySem.W.Frag} {p : Addr} {Z : Rg} {H H' : Hp} (s : Stand Z H H') : ∀ {vs : List V} {as : List Arg}, ArgR K p Z H vs as → ArgR K p Z H' vs as
  | [], [], _ => trivial
  | _ :: _, .d _ :: _, h => ⟨h.1.stand s, ArgR.stand s h.2⟩
  | _ :: _, .pool :: _, h => ⟨h.1, ArgR.stand s h.2⟩
theorem ArgR.length {K : PySem.W.Frag} {p : Addr} {Z : Rg} {H : Hp} : ∀ {vs : List V} {as : List Arg}, ArgR K p Z H vs as → vs.length = as.length
  | [], [], _ => rfl
  | _ :: _, .d _ :: _, h => by rw [List.length_cons, List.length_cons, ArgR.length h.2]
  | _ :: _, .pool :: _, h => by rw [List.length_cons, List.length_cons, ArgR.length h.2]
theorem sh_ar {K : PySem.W.Frag} : Shf (ArF K) := fun p sc Z H H2 H' q q2 b a k pl pl2 r => ArgR.grow (Zn.twice k pl pl2) r
theorem sh_rp {K : PySem.W.Frag} : Shf (RpF K) := fun p sc Z H H2 H' q q2 b a k pl pl2 r => r.grow (Zn.twice k pl pl2)
theorem sh_rl {K : PySem.W.Frag} {n : Nat} : Shf (RlF K n) := fun p sc Z H H2 H' q q2 b a k pl pl2 r => ⟨r.1.grow (Zn.twice k pl pl2), r.2⟩
theorem sh_bo : Shf BoF := fun p sc Z H H2 H' q q2 b a k pl pl2 r => r
theorem sh_new {K : PySem.W.Frag} : Shf (NewF K) := by
  intro p sc Z H H2 H' q q2 b a k pl pl2 r
  obtain ⟨c, vs, ds, e1, e2, h1, h2, h3⟩ := r
  refine ⟨c, vs, ds, e1, e2, ?_, h2, h3.grow fun b z => ⟨Zn.twice k pl pl2 b z.1, z.2⟩⟩
  cases e : H c with
  | none => rfl
  | some o =>
    by_cases hc : c = p
    · subst hc; rw [pl2.1] at h1; cases h1
    · exact absurd h1 (k.any hc e)
theorem NewF.rp {K : PySem.W.Frag} {p : Addr} {Z : Rg} {H H' : Hp} {v : V} {d : D} (h : NewF K p Z H H' v d) : Rp K (Zn Z H) H' v d := by
  obtain ⟨a, vs, ds, rfl, rfl, h1, h2, h3⟩ := h
  exact .lst h2 (.inr h1) (h3.grow fun b z => z.1)
section
variable {p sc a : Addr} {H : Hp} {q : Pool} {Z : Rg} {o : HO}
theorem new_keep (h : H a = none) : Keep p H (upd H a o) := fun b u _ e => .inl (by rw [upd_ne (ne_of_none e h)]; exact e)
theorem new_pool (h : H a = none) (pl : PoolAt p sc H q) : PoolAt p sc (upd H a o) q := ⟨by rw [upd_ne (ne_of_none pl.1 h)]; exact pl.1, by rw [upd_ne (ne_of_none pl.2.1 h)]; exact pl.2.1, pl.2.2.1, tabs_new pl.2.2.2 h⟩
theorem new_stand (h : H a = none) : Stand Z H (upd H a o) := ⟨fun b u _ _ e => by rw [upd_ne (ne_of_none e h)]; exact e, fun b u e => by rw [upd_ne (ne_of_none e h)]; exact e, fun b u v e => by rw [upd_ne (ne_of_none e h)]; exact e⟩
end
section
variable {X : Cx} {W : WX} {α β α' β' : Type} {RelA : RelT β α} {RelF : RelT β' α'}
theorem rd_bnd {ValA : Addr → Rg → Hp → β → α → Prop} {ta : RT β} {A : Rho → M α} {f : Rho → α → M α'} {k : β → RT β'} (sh : Shf RelF) (va : ∀ p Z H H' b a, RelA p Z H H' b a → ValA p (Zn Z H) H' b a) (ha : Rd1 X W RelA ta A)
    (hk : ∀ (p sc : Addr) (Z : Rg) (σ : L2.St) (H : Hp) (ρ : Rho) (q : Pool) (b : β) (a : α) (Q : β' → Hp → Prop), Sit X.K p sc Z σ H ρ q → ValA p Z H b a → Post X.mg p sc H (RelF p Z H) (fun c od H' => W c od σ H') Q (f ρ a q) → k b σ H Q) :
    Rd1 X W RelF (fun σ H Q => ta σ H fun b H1 => k b σ H1 Q) (fun ρ => M.bnd (A ρ) (f ρ)) := by
  intro p sc Z σ H ρ q Q s hp
  refine ha p sc Z σ H ρ q _ s ((Post.bnd (Rel := RelA p Z H) (Rel' := RelF p Z H) hp).to (Q' := fun b H1 => k b σ H1 Q) fun x H1 ⟨dx, q1, e1, k1, pl1, r1, hp1⟩ => ?_)
  have s1 := s.next k1 pl1
  refine hk p sc (Zn Z H) σ H1 ρ q1 x dx Q ⟨s1.env.grow Zn.base, pl1, Zn.nop s.pool s.nz, s.len⟩ (va _ _ _ _ _ _ r1) ((hp1.later k1).imp fun H' b a r => sh p sc Z H H1 H' q q1 b a k1 s.pool pl1 r)
end
def tF {α β : Type} (K : PySem.W.Frag) (mg : Str → Option Value) (W : WX) (Rel : RelT β α) (F : Rho → M α) : RT β := fun σ H Q => ∃ (p sc : Addr) (Z : Rg) (ρ : Rho) (q : Pool), Sit K p sc Z σ H ρ q ∧ Post mg p sc H (Rel p Z H) (fun c od H' => W c od σ H') Q (F ρ q)
theorem Rd1.tF {α β : Type} {X : Cx} {W : WX} {Rel : RelT β α} {t : RT β} {F : Rho → M α} (h : Rd1 X W Rel t F) {σ : L2.St} {H : Hp} {Q : β → Hp → Prop} (x : tF X.K X.mg W Rel F σ H Q) : t σ H Q := by
  obtain ⟨p, sc, Z, ρ, q, s, hp⟩ := x
  exact h p sc Z σ H ρ q Q s hp
def PDe (X : Cx) (W : WX) (e : Expr) (F : DE) : Prop := ∃ t, PE X e t ∧ Rd1 X W (RpF X.K) t F
def PDf (X : Cx) (W : WX) (e : Expr) (F : DE) : Prop := ∃ t, PE X e t ∧ Rd1 X W (NewF X.K) t F
theorem pde_f {X : Cx} {W : WX} {e : Expr} {F : DE} (h : PDf X W e F) : PDe X W e F := by
  obtain ⟨t, h1, h2⟩ := h
  exact ⟨t, h1, fun p sc Z σ H ρ q Q s hp => h2 p sc Z σ H ρ q Q s (hp.imp fun _ _ _ r => r.rp)⟩
def PDt (X : Cx) (W : WX) (e : Expr) (F : DT) : Prop := ∃ t, PT X e t ∧ Rd1 X W BoF t F
def PDw (X : Cx) (W : WX) (e : Expr) (F : DT) : Prop := ∃ t, PW X e t ∧ Rd1 X W BoF t F
theorem pdt_w {X : Cx} {W : WX} {e : Expr} {F : DT} (h : PDw X W e F) : PDt X W e F := by
  obtain ⟨t, h1, h2⟩ := h
  exact ⟨t, h1.pt, h2⟩
theorem PDe.run {X : Cx} {W : WX} {e : Expr} {F : DE} (h : PDe X W e F) : PE X e (tF X.K X.mg W (RpF X.K) F) := by
  obtain ⟨t, h1, h2⟩ := h
  exact ⟨fun pins s σ H Q I x => h1.run pins s σ H Q I (h2.tF x)⟩
theorem PDt.run {X : Cx} {W : WX} {e : Expr} {F : DT} (h : PDt X W e F) : PT X e (tF X.K X.mg W BoF F) := by
  obtain ⟨t, h1, h2⟩ := h
  exact ⟨fun pins s σ H Q I x => h1.run pins s σ H Q I (h2.tF x)⟩
def PDa (X : Cx) (W : WX) (es : List Expr) (F : Rho → M (List Arg)) : Prop := ∃ t, PA X es t ∧ Rd1 X W (ArF X.K) t F
def PDl (X : Cx) (W : WX) (es : List Expr) (F : Rho → M (List D)) : Prop := ∃ t, PA X es t ∧ Rd1 X W (RlF X.K es.length) t F

section
variable {K : PySem.W.Frag} {p sc a : Addr} {H H' : Hp} {q : Pool} {Z : Rg} {xs ys : List V}
theorem own_stand (h : H a = some (.lst xs)) (nz : ¬ Z a) : Stand Z H (upd H a (.lst ys)) := ⟨fun b o z _ e => by rw [upd_ne (fun x => nz (by rw [← x]; exact z))]; exact e, fun b xs e => by rw [upd_ne (fun x => by rw [x, h] at e; cases e)]; exact e, fun b o u e => by rw [upd_ne (fun x => by rw [x, h] at e; cases e)]; exact e⟩
def setsV (l : List (Nat × V × D)) (σ : L2.St) : L2.St := l.foldl (fun σ x => σ.set x.1 (some x.2.1)) σ
def setsR (l : List (Nat × V × D)) (ρ : Rho) : Rho := l.foldl (fun ρ x => ρ.set x.1 (some (.dat x.2.2))) ρ
theorem setsV_len : ∀ (l : List (Nat × V × D)) (σ : L2.St), (setsV l σ).length = σ.length
  | [], _ => rfl
  | x :: l, σ => (setsV_len l _).trans (by rw [List.length_set])
theorem setsR_len : ∀ (l : List (Nat × V × D)) (ρ : Rho), (setsR l ρ).length = ρ.length
  | [], _ => rfl
  | x :: l, ρ => (setsR_len l _).trans (by rw [List.length_set])
theorem setsV_app (l m : List (Nat × V × D)) (σ : L2.St) : setsV (l ++ m) σ = setsV m (setsV l σ) := by unfold setsV; rw [List.foldl_append]
theorem setsR_app (l m : List (Nat × V × D)) (ρ : Rho) : setsR (l ++ m) ρ = setsR m (setsR l ρ) := by unfold setsR; rw [List.foldl_append]
theorem EnvR.set {σ : L2.St} {ρ : Rho} {i : Nat} {v : V} {d : D} (e : EnvR K p Z σ H ρ) (hl : ρ.length = σ.length) (r : Rp K Z H v d) : EnvR K p Z (σ.set i (some v)) H (ρ.set i (some (.dat d))) := by
  intro j s hs
  by_cases hj : j = i
  · subst hj
    have hlt : j < ρ.length := by
      have z := (List.getElem?_eq_some_iff.mp hs).1
      rwa [List.length_set] at z
    rw [List.getElem?_set_self hlt] at hs
    cases hs
    exact ⟨v, by rw [List.getElem?_set_self (hl ▸ hlt)], r⟩
  · rw [List.getElem?_set_ne (Ne.symm hj)] at hs
    rw [List.getElem?_set_ne (Ne.symm hj)]
    exact e j s hs
theorem EnvR.sets : ∀ (l : List (Nat × V × D)) {σ : L2.St} {ρ : Rho}, EnvR K p Z σ H ρ → ρ.length = σ.length → (∀ x ∈ l, Rp K Z H x.2.1 x.2.2) → EnvR K p Z (setsV l σ) H (setsR l ρ)
  | [], _, _, e, _, _ => e
  | x :: l, σ, ρ, e, hl, h => EnvR.sets l (e.set hl (h x List.mem_cons_self)) (by rw [List.length_set, List.length_set]; exact hl) fun y hy => h y (List.mem_cons_of_mem _ hy)
theorem wipeR_len (ρ : Rho) : ∀ vs : List Nat, (wipeR ρ vs).length = ρ.length
  | [] => rfl
  | v :: vs => by unfold wipeR; rw [List.length_set, wipeR_len ρ vs]
theorem EnvR.wipe1 {σ : L2.St} {ρ : Rho} {i : Nat} (e : EnvR K p Z σ H ρ) : EnvR K p Z (σ.set i none) H (ρ.set i none) := by
  intro j s hs
  by_cases hj : j = i
  · subst hj
    have hlt : j < ρ.length := by
      have z := (List.getElem?_eq_some_iff.mp hs).1
      rwa [List.length_set] at z
    rw [List.getElem?_set_self hlt] at hs
    cases hs
  · rw [List.getElem?_set_ne (Ne.symm hj)] at hs
    rw [List.getElem?_set_ne (Ne.symm hj)]
    exact e j s hs
theorem EnvR.wipe {σ : L2.St} {ρ : Rho} (e : EnvR K p Z σ H ρ) : ∀ vs : List Nat, EnvR K p Z (wipe σ vs) H (wipeR ρ vs)
  | [] => e
  | v :: vs => (EnvR.wipe e vs).wipe1
theorem wipe_at (σ : L2.St) (j : Nat) : ∀ vs : List Nat, (wipe σ vs)[j]? = if j ∈ vs ∧ j < σ.length then some none else σ[j]?
  | [] => by simp [wipe]
  | v :: vs => by
    unfold wipe
    by_cases hj : v = j
    · subst hj
      by_cases hv : v < σ.length
      · rw [List.getElem?_set_self (by rw [wipe_length]; exact hv), if_pos ⟨List.mem_cons_self, hv⟩]
      · rw [List.getElem?_eq_none (by rw [List.length_set, wipe_length]; omega), if_neg (fun z => hv z.2), List.getElem?_eq_none (by omega)]
    · rw [List.getElem?_set_ne hj, wipe_at σ j vs]
      have e : (j ∈ v :: vs ∧ j < σ.length) = (j ∈ vs ∧ j < σ.length) := by simp [List.mem_cons, Ne.symm hj]
      simp only [e]
theorem wipe_ext {vs : List Nat} {τ σ : L2.St} (h : ∀ j, j ∉ vs → τ[j]? = σ[j]?) (hl : τ.length = σ.length) : wipe τ vs = wipe σ vs := by
  refine List.ext_getElem? fun j => ?_
  rw [wipe_at, wipe_at]
  by_cases hj : j ∈ vs
  · by_cases hl2 : j < σ.length
    · rw [if_pos ⟨hj, by omega⟩, if_pos ⟨hj, hl2⟩]
    · rw [if_neg (fun z => hl2 (by omega)), if_neg (fun z => hl2 z.2), List.getElem?_eq_none (by omega), List.getElem?_eq_none (by omega)]
  · rw [if_neg (fun z => hj z.1), if_neg (fun z => hj z.1)]
    exact h j hj
theorem setsV_off {j : Nat} : ∀ (l : List (Nat × V × D)) (σ : L2.St), (∀ x ∈ l, x.1 ≠ j) → (setsV l σ)[j]? = σ[j]?
  | [], _, _ => rfl
  | x :: l, σ, h => (setsV_off l _ fun y hy => h y (List.mem_cons_of_mem _ hy)).trans (List.getElem?_set_ne (h x List.mem_cons_self))
theorem wipe_sets {σ : L2.St} {vs : List Nat} (l : List (Nat × V × D)) (h : ∀ x ∈ l, x.1 ∈ vs) : wipe (setsV l (wipe σ vs)) vs = wipe σ vs := by
  refine wipe_ext (fun j hj => ?_) (by rw [setsV_len, wipe_length])
  rw [setsV_off l _ fun x hx e => hj (by rw [← e]; exact h x hx), wipe_at, if_neg fun z => hj z.1]
end
end Ew
namespace Ew
open PySem PySem.Spec PyProof.Rows L2
section
variable {X : Cx} {W : WX} {e a b c : Expr} {A B C : DE} {pos : Pos}
theorem pd_var (i : Nat) {x : Str} (hN : X.N[i]? = some x := by rfl) (hv : Vis X.env.scope x := by first | exact Or.inl rfl | exact Or.inr (Or.inl rfl) | exact Or.inr (Or.inr rfl)) (hd : (x == ("__debug__" : Str)) = false := by decide)
    (hcd : (x == ("__classdict__" : Str)) = false := by decide) : PDe X W (.Name x pos) (dVar i) := by
  refine ⟨tVar i, pe_var hN hv hd hcd, fun p sc Z σ H ρ q Q s hp => ?_⟩
  unfold dVar at hp
  cases e : ρ[i]? with
  | none => rw [e] at hp; exact hp.elim
  | some o =>
    cases o with
    | none => rw [e] at hp; exact hp.elim
    | some sl =>
      rw [e] at hp
      have z := s.env i sl e
      cases ev : sl.val? with
      | none => simp only [ev] at hp; exact hp.elim
      | some d =>
        simp only [ev] at hp z
        obtain ⟨v, h1, h2⟩ := z
        exact ⟨v, h1, hp v H (Keep.refl _ _) s.pool (h2.grow Zn.base)⟩
theorem rd_c {v : V} {d : D} (h : ∀ Z H, Rp X.K Z H v d) : Rd1 X W (RpF X.K) (tC v) (dC d) := fun p sc Z σ H ρ q Q s hp => hp v H (Keep.refl _ _) s.pool (h _ _)
theorem pd_int {i j} : PDe X W (.Constant (.int i) j pos) (dC (.int i)) := ⟨_, pe_int, rd_c fun _ _ => .int i⟩
theorem pd_bl {k j} : PDe X W (.Constant (.bool k) j pos) (dC (.bool k)) := ⟨_, pe_bl, rd_c fun _ _ => .bl k⟩
theorem pd_non {j} : PDe X W (.Constant .none j pos) (dC .none) := ⟨_, pe_non, rd_c fun _ _ => .non⟩
theorem pd_str {x j} : PDe X W (.Constant (.str x) j pos) (dC (.str x)) := ⟨_, pe_str, rd_c fun _ _ => .str x⟩
def Op1 {α β : Type} (X : Cx) (W : WX) (Rel : RelT β α) (r : V → Hp → (β → Hp → Prop) → Prop) (f : D → M α) : Prop := ∀ (p sc : Addr) (Z : Rg) (σ : L2.St) (H : Hp) (q : Pool) (x : V) (dx : D) (Q : β → Hp → Prop), PoolAt p sc H q → ¬ Z p → Rp X.K Z H x dx →
  Post X.mg p sc H (Rel p Z H) (fun c od H' => W c od σ H') Q (f dx q) → r x H Q
def Op2 {α β : Type} (X : Cx) (W : WX) (Rel : RelT β α) (r : V → V → Hp → (β → Hp → Prop) → Prop) (f : D → D → M α) : Prop := ∀ (p sc : Addr) (Z : Rg) (σ : L2.St) (H : Hp) (q : Pool) (x y : V) (dx dy : D) (Q : β → Hp → Prop), PoolAt p sc H q → ¬ Z p → Rp X.K Z H x dx → Rp X.K Z H y dy →
  Post X.mg p sc H (Rel p Z H) (fun c od H' => W c od σ H') Q (f dx dy q) → r x y H Q
theorem rd_1 {α β : Type} {Rel : RelT β α} {r : V → Hp → (β → Hp → Prop) → Prop} {f : D → M α} {ta : TE} (sh : Shf Rel) (ho : Op1 X W Rel r f) (ha : Rd1 X W (RpF X.K) ta A) : Rd1 X W Rel (fun σ H Q => ta σ H fun x H1 => r x H1 Q) (fun ρ => M.bnd (A ρ) f) :=
  rd_bnd (ValA := fun _ Z H v d => Rp X.K Z H v d) (f := fun _ => f) (k := fun x _ H Q => r x H Q) sh (fun _ _ _ _ _ _ h => h) ha fun p sc Z σ H ρ q x dx Q s hv hp => ho p sc Z σ H q x dx Q s.pool s.nz hv hp
theorem rd_2 {α β : Type} {Rel : RelT β α} {r : V → V → Hp → (β → Hp → Prop) → Prop} {f : D → D → M α} {ta tb : TE} (sh : Shf Rel) (ho : Op2 X W Rel r f) (ha : Rd1 X W (RpF X.K) ta A) (hb : Rd1 X W (RpF X.K) tb B) :
    Rd1 X W Rel (fun σ H Q => ta σ H fun x H1 => tb σ H1 fun y H2 => r x y H2 Q) (fun ρ => M.bnd (A ρ) fun x => M.bnd (B ρ) fun y => f x y) :=
  rd_bnd (ValA := fun _ Z H v d => Rp X.K Z H v d) (f := fun ρ x => M.bnd (B ρ) fun y => f x y) (k := fun x σ H Q => tb σ H fun y H2 => r x y H2 Q) sh (fun _ _ _ _ _ _ h => h) ha fun p sc Z σ H ρ q x dx Q s hv hp => by
    refine hb p sc Z σ H ρ q _ s ((Post.bnd (Rel := RpF X.K p Z H) (Rel' := Rel p Z H) hp).to fun y H1 ⟨dy, q1, e1, k1, pl1, r1, hp1⟩ => ?_)
    exact ho p sc (Zn Z H) σ H1 q1 x y dx dy Q pl1 (Zn.nop s.pool s.nz) ((hv.stand (k1.stand s.pool s.nz)).grow Zn.base) r1 ((hp1.later k1).imp fun H' b a r => sh p sc Z H H1 H' q q1 b a k1 s.pool pl1 r)
def OpD (X : Cx) (W : WX) (f : Value → Value → Sem Value) (F : D → D → M D) : Prop := ∃ r : R2, OpR X f r ∧ Op2 X W (RpF X.K) r F
theorem pd_bin {op : Operator} {f : D → D → M D} (ho : OpD X W (binaryOp op) f) (ha : PDe X W a A) (hb : PDe X W b B) : PDe X W (.BinOp a op b pos) (dBin f A B) := by
  obtain ⟨r, h1, h2⟩ := ho
  obtain ⟨ta, a1, a2⟩ := ha
  obtain ⟨tb, b1, b2⟩ := hb
  exact ⟨_, pe_op h1 a1 b1, rd_2 sh_rp h2 a2 b2⟩
theorem pd_cmp {op : CmpOp} {f : D → D → M D} (ho : OpD X W (compareOp op) f) (ha : PDe X W a A) (hb : PDe X W b B) (hm : behindInMarks op b = false := by first | exact nomark _ | rfl) : PDe X W (.Compare a [op] [b] pos) (dBin f A B) := by
  obtain ⟨r, h1, h2⟩ := ho
  obtain ⟨ta, a1, a2⟩ := ha
  obtain ⟨tb, b1, b2⟩ := hb
  exact ⟨_, pe_cmpR h1 a1 b1 hm, rd_2 sh_rp h2 a2 b2⟩
def IxD (X : Cx) (W : WX) (F : D → D → M D) : Prop := ∃ r : R2, IxR X r ∧ Op2 X W (RpF X.K) r F
theorem pd_ix {f : D → D → M D} (ho : IxD X W f) (ha : PDe X W a A) (hb : PDe X W b B) (hs : PlainIx b := by exact fun _ _ => rfl) : PDe X W (.Subscript a b pos) (dBin f A B) := by
  obtain ⟨r, h1, h2⟩ := ho
  obtain ⟨ta, a1, a2⟩ := ha
  obtain ⟨tb, b1, b2⟩ := hb
  exact ⟨_, pe_ix h1 a1 b1 hs, rd_2 sh_rp h2 a2 b2⟩
theorem pd_un {op : UnaryOp} {r : V → Hp → VK → Prop} {f : D → M D} (h1 : UnR X (unaryOp op) r) (h2 : Op1 X W (RpF X.K) r f) (ha : PDe X W a A) : PDe X W (.UnaryOp op a pos) (dUn f A) := by
  obtain ⟨ta, a1, a2⟩ := ha
  exact ⟨_, pe_un h1 a1, rd_1 (r := r) sh_rp h2 a2⟩

variable {T U : DT}
theorem op_tof : Op1 X W BoF (fun x H Q => ∃ k, x = .bl k ∧ Q k H) (fun x => match x with
  | .bool b => M.ret b
  | _ => M.stuck) := by
  intro p sc Z σ H q x dx Q pl nz hv hp
  cases hv with
  | bl k => exact ⟨k, rfl, hp k H (Keep.refl _ _) pl rfl⟩
  | _ => exact hp.elim
theorem rd_tof {ta : TE} (ha : Rd1 X W (RpF X.K) ta A) : Rd1 X W BoF (tB ta) (tOf A) := rd_1 sh_bo op_tof ha
theorem pdt_val (ha : PDe X W e A) (he : ∀ whole, isTrue e X.env whole = (do let v ← whole; standAt e.pos; holding [v] (truthy v)) := by intro _; rfl) : PDt X W e (tOf A) := by
  obtain ⟨ta, a1, a2⟩ := ha
  exact ⟨_, pt_val a1 he, rd_tof a2⟩
theorem pdt_cmp {op : CmpOp} {f : D → D → M D} (ho : OpD X W (compareOp op) f) (ha : PDe X W a A) (hb : PDe X W b B) (hm : behindInMarks op b = false := by first | exact nomark _ | rfl) : PDt X W (.Compare a [op] [b] pos) (tOf (dBin f A B)) := by
  obtain ⟨r, h1, h2⟩ := ho
  obtain ⟨ta, a1, a2⟩ := ha
  obtain ⟨tb, b1, b2⟩ := hb
  exact ⟨_, pt_cmpR h1 a1 b1 hm, rd_tof (rd_2 sh_rp h2 a2 b2)⟩
theorem pdw_and1 (ha : PDt X W a T) : PDw X W (.BoolOp .And [a] pos) T := by
  obtain ⟨t, h1, h2⟩ := ha
  exact ⟨_, pw_and1 h1, h2⟩
theorem pdw_or1 (ha : PDt X W a T) : PDw X W (.BoolOp .Or [a] pos) T := by
  obtain ⟨t, h1, h2⟩ := ha
  exact ⟨_, pw_or1 h1, h2⟩
theorem rd_if {α β : Type} {Rel : RelT β α} {t : TT} {u v : RT β} {F G : Rho → M α} (sh : Shf Rel) (ht : Rd1 X W BoF t T) (hu : Rd1 X W Rel u F) (hv : Rd1 X W Rel v G) :
    Rd1 X W Rel (fun σ H Q => t σ H fun c H1 => if c = true then u σ H1 Q else v σ H1 Q) (fun ρ => M.bnd (T ρ) fun c => if c = true then F ρ else G ρ) :=
  rd_bnd (ValA := fun _ _ _ c b => c = b) (f := fun ρ c => if c = true then F ρ else G ρ) (k := fun c σ H Q => if c = true then u σ H Q else v σ H Q) sh (fun _ _ _ _ _ _ h => h) ht fun p sc Z σ H ρ q x dx Q s hv' hp => by
    subst hv'
    cases x with
    | true => exact hu p sc Z σ H ρ q Q s hp
    | false => exact hv p sc Z σ H ρ q Q s hp
theorem rd_b {k : Bool} : Rd1 X W BoF (fun _ H Q => Q k H) (fun _ => M.ret k) := fun p sc Z σ H ρ q Q s hp => hp k H (Keep.refl _ _) s.pool rfl
theorem pdw_and {rest : List Expr} (ha : PDt X W a T) (hb : PDw X W (.BoolOp .And (b :: rest) pos) U) : PDw X W (.BoolOp .And (a :: b :: rest) pos) (tAnd T U) := by
  obtain ⟨t, h1, h2⟩ := ha
  obtain ⟨u, g1, g2⟩ := hb
  exact ⟨_, pw_and h1 g1, rd_if sh_bo h2 g2 (rd_b (k := false))⟩
theorem pdw_or {rest : List Expr} (ha : PDt X W a T) (hb : PDw X W (.BoolOp .Or (b :: rest) pos) U) : PDw X W (.BoolOp .Or (a :: b :: rest) pos) (tOr T U) := by
  obtain ⟨t, h1, h2⟩ := ha
  obtain ⟨u, g1, g2⟩ := hb
  exact ⟨_, pw_or h1 g1, rd_if sh_bo h2 (rd_b (k := true)) g2⟩
theorem pdt_not (ha : PDt X W a T) : PDt X W (.UnaryOp .Not a pos) (tNot T) := by
  obtain ⟨t, h1, h2⟩ := ha
  refine ⟨_, pt_not h1, rd_bnd (ValA := fun _ _ _ c b => c = b) (f := fun _ c => M.ret (!c)) (k := fun c _ H Q => Q (!c) H) sh_bo (fun _ _ _ _ _ _ h => h) h2 fun p sc Z σ H ρ q x dx Q s hv' hp => ?_⟩
  subst hv'
  exact hp _ H (Keep.refl _ _) s.pool rfl
theorem pd_one {op} (ha : PDe X W a A) : PDe X W (.BoolOp op [a] pos) A := by
  obtain ⟨t, h1, h2⟩ := ha
  exact ⟨_, pe_one h1, h2⟩
theorem pd_and {rest : List Expr} (ha : PDe X W a A) (hb : PDe X W (.BoolOp .And (b :: rest) pos) B) : PDe X W (.BoolOp .And (a :: b :: rest) pos) (dAnd A B) := by
  obtain ⟨t, h1, h2⟩ := ha
  obtain ⟨u, g1, g2⟩ := hb
  refine ⟨_, pe_and h1 g1, ?_⟩
  have z := rd_if (X := X) (W := W) sh_rp (rd_tof h2) g2 (rd_c (v := .bl false) fun _ _ => .bl false)
  intro p sc Z σ H ρ q Q s hp
  have y := z p sc Z σ H ρ q Q s hp
  refine cast (congrArg (t σ H) (funext fun x => funext fun H1 => propext ⟨?_, ?_⟩)) y
  · rintro ⟨c, rfl, h⟩; exact ⟨c, rfl, h⟩
  · rintro ⟨c, rfl, h⟩; exact ⟨c, rfl, h⟩
theorem pd_not (ha : PDe X W a A) : PDe X W (.UnaryOp .Not a pos) (dNot A) := by
  obtain ⟨t, h1, h2⟩ := ha
  refine ⟨_, pe_not h1, ?_⟩
  have z := rd_bnd (X := X) (W := W) (RelF := RpF X.K) (ValA := fun _ _ _ c b => c = b) (f := fun _ c => M.ret (PyData.bool (!c))) (k := fun c _ H Q => Q (.bl (!c)) H) sh_rp (fun _ _ _ _ _ _ h => h) (rd_tof h2) fun p sc Z σ H ρ q x dx Q s hv' hp => by
    subst hv'
    exact hp _ H (Keep.refl _ _) s.pool (.bl _)
  intro p sc Z σ H ρ q Q s hp
  have y := z p sc Z σ H ρ q Q s hp
  refine cast (congrArg (t σ H) (funext fun x => funext fun H1 => propext ⟨?_, ?_⟩)) y
  · rintro ⟨c, rfl, h⟩; exact ⟨c, rfl, h⟩
  · rintro ⟨c, rfl, h⟩; exact ⟨c, rfl, h⟩
theorem pd_if {t : Expr} (ht : PDt X W t T) (ha : PDe X W a A) (hb : PDe X W b B) : PDe X W (.IfExp t a b pos) (dIf T A B) := by
  obtain ⟨t, h1, h2⟩ := ht
  obtain ⟨u, g1, g2⟩ := ha
  obtain ⟨v, k1, k2⟩ := hb
  exact ⟨_, pe_ifExp h1 g1 k1, rd_if sh_rp h2 g2 k2⟩
variable {es : List Expr} {As : List DE}
theorem pdl_nil : PDl X W [] (dEach []) := ⟨_, pa_nil, fun p sc Z σ H ρ q Q s hp => hp [] H (Keep.refl _ _) s.pool ⟨.nil, rfl⟩⟩
theorem pdl_cons (ha : PDe X W e A) (hr : PDl X W es (dEach As)) (hs : starEach (e :: es) X.env = (false, eval e X.env) :: starEach es X.env := by rfl) : PDl X W (e :: es) (dEach (A :: As)) := by
  obtain ⟨t, h1, h2⟩ := ha
  obtain ⟨u, g1, g2⟩ := hr
  refine ⟨_, pa_cons h1 g1 hs, rd_bnd (ValA := fun _ Z H v d => Rp X.K Z H v d) (f := fun ρ x => M.bnd (dEach As ρ) fun xs => M.ret (x :: xs)) (k := fun x σ H Q => u σ H fun xs H2 => Q (x :: xs) H2) sh_rl (fun _ _ _ _ _ _ h => h) h2 fun p sc Z σ H ρ q x dx Q s hv hp => ?_⟩
  refine g2 p sc Z σ H ρ q _ s ((Post.bnd (Rel := RlF X.K es.length p Z H) (Rel' := RlF X.K (e :: es).length p Z H) hp).to fun xs H1 ⟨ds, q1, e1, k1, pl1, r1, hp1⟩ => ?_)
  exact hp1 (x :: xs) H1 k1 pl1 ⟨.cons ((hv.stand (k1.stand s.pool s.nz)).grow Zn.base) r1.1, by rw [List.length_cons, r1.2]; rfl⟩
theorem pd_tup {k : Nat} (h : PDl X W es (dEach As)) (hl : es.length ≤ sizeLine := by show _ ≤ 2 ^ 24; decide) : PDe X W (.Tuple es k pos) (dTup As) := by
  obtain ⟨t, h1, h2⟩ := h
  refine ⟨_, pe_tup h1, rd_bnd (ValA := fun _ Z H v d => RpL X.K Z H v d ∧ v.length = es.length) (f := fun ρ xs => M.ret (PyData.tuple xs)) (k := fun xs σ H Q => xs.length ≤ sizeLine ∧ ∀ p, H p = none → Q (.ref p) (upd H p (.tup xs))) sh_rp (fun _ _ _ _ _ _ h => h) h2 fun p sc Z σ H ρ q x dx Q s hv hp => ?_⟩
  refine ⟨by rw [hv.2]; exact hl, fun a ha => hp (.ref a) _ (new_keep ha) (new_pool ha s.pool) ?_⟩
  exact .tup (.inl upd_same) ((hv.1.stand (new_stand ha)).grow Zn.base)
theorem pdf_lst (h : PDl X W es (dEach As)) (hl : es.length ≤ sizeLine := by show _ ≤ 2 ^ 24; decide) : PDf X W (.List es pos) (dLst As) := by
  obtain ⟨t, h1, h2⟩ := h
  refine ⟨_, pe_lst h1, rd_bnd (ValA := fun _ Z H v d => RpL X.K Z H v d ∧ v.length = es.length) (f := fun ρ xs => M.ret (PyData.list xs)) (k := fun xs σ H Q => xs.length ≤ sizeLine ∧ ∀ p, H p = none → Q (.ref p) (upd H p (.lst xs))) sh_new (fun _ _ _ _ _ _ h => h) h2 fun p sc Z σ H ρ q x dx Q s hv hp => ?_⟩
  refine ⟨by rw [hv.2]; exact hl, fun a ha => hp (.ref a) _ (new_keep ha) (new_pool ha s.pool) ?_⟩
  exact ⟨a, x, dx, rfl, rfl, ha, upd_same, (hv.1.sub fun b z n => ⟨.inl z, fun e => n (e ▸ ha)⟩).stand (new_stand ha)⟩
variable {Ar : DA} {Ars : List DA}
theorem pda_nil : PDa X W [] (dArgs []) := ⟨_, pa_nil, fun p sc Z σ H ρ q Q s hp => hp [] H (Keep.refl _ _) s.pool trivial⟩
theorem pda_d (ha : PDe X W e A) (hr : PDa X W es (dArgs Ars)) (hs : starEach (e :: es) X.env = (false, eval e X.env) :: starEach es X.env := by rfl) : PDa X W (e :: es) (dArgs (aD A :: Ars)) := by
  obtain ⟨t, h1, h2⟩ := ha
  obtain ⟨u, g1, g2⟩ := hr
  refine ⟨_, pa_cons h1 g1 hs, fun p sc Z σ H ρ q Q s hp => ?_⟩
  have hp' : Post X.mg p sc H (ArF X.K p Z H) (fun c od H' => W c od σ H') Q (M.bnd (A ρ) (fun x => M.bnd (dArgs Ars ρ) fun xs => M.ret (Arg.d x :: xs)) q) := by
    have e : M.bnd (A ρ) (fun x => M.bnd (dArgs Ars ρ) fun xs => M.ret (Arg.d x :: xs)) q = dArgs (aD A :: Ars) ρ q := by
      show _ = M.bnd (M.bnd (A ρ) fun x => M.ret (.d x)) (fun x => M.bnd (dArgs Ars ρ) fun xs => M.ret (x :: xs)) q
      unfold M.bnd M.ret
      cases A ρ q <;> rfl
    rw [e]
    exact hp
  refine rd_bnd (X := X) (W := W) (RelF := ArF X.K) (ValA := fun _ Z H v d => Rp X.K Z H v d) (f := fun ρ x => M.bnd (dArgs Ars ρ) fun xs => M.ret (.d x :: xs)) (k := fun x σ H Q => u σ H fun xs H2 => Q (x :: xs) H2) sh_ar (fun _ _ _ _ _ _ h => h) h2 (fun p sc Z σ H ρ q x dx Q s hv hp => ?_) p sc Z σ H ρ q Q s hp'
  refine g2 p sc Z σ H ρ q _ s ((Post.bnd (Rel := ArF X.K p Z H) (Rel' := ArF X.K p Z H) hp).to fun xs H1 ⟨ds, q1, e1, k1, pl1, r1, hp1⟩ => ?_)
  exact hp1 (x :: xs) H1 k1 pl1 ⟨(hv.stand (k1.stand s.pool s.nz)).grow Zn.base, r1⟩
theorem pda_pool (i : Nat) {x : Str} {pos' : Pos} (hr : PDa X W es (dArgs Ars)) (hN : X.N[i]? = some x := by rfl) (hv : Vis X.env.scope x := by first | exact Or.inl rfl | exact Or.inr (Or.inl rfl) | exact Or.inr (Or.inr rfl)) (hd : (x == ("__debug__" : Str)) = false := by decide)
    (hcd : (x == ("__classdict__" : Str)) = false := by decide) (hs : starEach (.Name x pos' :: es) X.env = (false, eval (.Name x pos') X.env) :: starEach es X.env := by rfl) : PDa X W (.Name x pos' :: es) (dArgs (aPool i :: Ars)) := by
  obtain ⟨u, g1, g2⟩ := hr
  refine ⟨_, pa_cons (pe_var hN hv hd hcd) g1 hs, fun p sc Z σ H ρ q Q s hp => ?_⟩
  have hp' : Post X.mg p sc H (ArF X.K p Z H) (fun c od H' => W c od σ H') Q (M.bnd (aPool i ρ) (fun x => M.bnd (dArgs Ars ρ) fun xs => M.ret (x :: xs)) q) := hp
  unfold aPool at hp'
  cases e : ρ[i]? with
  | none => rw [e] at hp'; exact hp'.elim
  | some o =>
    cases o with
    | none => rw [e] at hp'; exact hp'.elim
    | some sl =>
      cases sl with
      | pool =>
        rw [e] at hp'
        have z : σ[i]? = some (some (.ref p)) := s.env i _ e
        refine ⟨.ref p, z, ?_⟩
        refine g2 p sc Z σ H ρ q _ s ((Post.bnd (Rel := ArF X.K p Z H) (Rel' := ArF X.K p Z H) (m := dArgs Ars ρ) (f := fun xs => M.ret (Arg.pool :: xs)) hp').to fun xs H1 ⟨ds, q1, e1, k1, pl1, r1, hp1⟩ => ?_)
        exact hp1 (.ref p :: xs) H1 k1 pl1 ⟨rfl, r1⟩
      | dat d => rw [e] at hp'; exact hp'.elim
      | own ds => rw [e] at hp'; exact hp'.elim
      | odic ds => rw [e] at hp'; exact hp'.elim
      | odicT ds => rw [e] at hp'; exact hp'.elim
def spD (K : PySem.W.Frag) (mg : Str → Option Value) (n : Nat) (F : List Arg → M D) : Sp := fun vs H Q E => vs.length = n ∧ ∃ (p sc : Addr) (Z : Rg) (q : Pool) (as : List Arg), PoolAt p sc H q ∧ ¬ Z p ∧ ArgR K p Z H vs as ∧
  Post mg p sc H (fun H' v d => Rp K (Zn Z H) H' v d) (fun c od H' => E c od H') Q (F as q)
structure FnD (X : Cx) (x : Str) (F : List Arg → M D) : Prop where
  ex : ∃ (k n : Nat) (f : Addr) (fd : FuncData) (ps : List Str), (∀ as q, as.length ≠ n → F as q = .stuck) ∧ FnOk X.prog X.w X.K X.mg X.base (L2.CX X.prog X.w) k f fd ps (spD X.K X.mg n F) ∧ Room k X.A ∧ X.mg x = some (.ref f) ∧ PySem.W.keepIn X.K (.ref f) = true ∧ Binds X.K fd ps []
theorem rd_call {n : Nat} {F : List Arg → M D} {G : Rho → M (List Arg)} {t : TA} (hn : ∀ as q, as.length ≠ n → F as q = .stuck) (ht : Rd1 X W (ArF X.K) t G) : Rd1 X W (RpF X.K) (tCallS (spD X.K X.mg n F) (fun σ => WE W σ) t) (fun ρ => M.bnd (G ρ) F) := by
  intro p sc Z σ H ρ q Q s hp
  refine ht p sc Z σ H ρ q _ s ((Post.bnd (Rel := ArF X.K p Z H) (Rel' := RpF X.K p Z H) hp).to fun vs H1 ⟨as, q1, e1, k1, pl1, r1, hp1⟩ => ?_)
  refine ⟨?_, p, sc, Zn Z H, q1, as, pl1, Zn.nop s.pool s.nz, r1, ?_⟩
  · rw [ArgR.length r1]
    refine Decidable.byContradiction fun z => ?_
    rw [hn as q1 z] at hp1
    exact hp1
  · exact (hp1.later k1).imp fun H' b a r => sh_rp p sc Z H H1 H' q q1 b a k1 s.pool pl1 r
theorem pd_call {x : Str} {F : List Arg → M D} {pos' : Pos} (tk : Takes X W) (fn : FnD X x F) (hg : Gl X x) (ha : PDa X W (e :: es) (dArgs Ars)) (hdb : (x == ("__debug__" : Str)) = false := by decide)
    (he : starEach (e :: es) X.env = (false, eval e X.env) :: starEach es X.env := by rfl) (hpl : (backTo pos (starEach es X.env)).any (·.1) = false := by rfl) : PDe X W (.Call (.Name x pos') (e :: es) [] pos) (dCall F Ars) := by
  obtain ⟨t, h1, h2⟩ := ha
  obtain ⟨k, n, f, fd, ps, hn, hf, hr, hm, hk, hb⟩ := fn.ex
  exact ⟨_, pe_callS hf hr hg hm hk hb (fun σ => passAt tk σ) h1 hdb he hpl, rd_call hn h2⟩
end
end Ew
namespace Ew
open PySem PySem.Spec PyProof.Rows L2
def TgR (K : PySem.W.Frag) (is : List Nat) (t : TG) (g : Tgt) : Prop := ∀ (Z : Rg) (σ : L2.St) (H : Hp) (ρ ρ' : Rho) (q q' : Pool) (v : V) (d : D) (Q : L2.St → Hp → Prop), Rp K Z H v d → g d ρ q = .ok ρ' q' →
  (∀ l : List (Nat × V × D), (∀ x ∈ l, x.1 ∈ is ∧ Rp K Z H x.2.1 x.2.2) → ρ' = setsR l ρ → q' = q → Q (setsV l σ) H) → t v σ H Q
def TgsR (K : PySem.W.Frag) (is : List Nat) (t : TGs) (gs : List Tgt) : Prop := ∀ (Z : Rg) (σ : L2.St) (H : Hp) (ρ ρ' : Rho) (q q' : Pool) (vs : List V) (ds : List D) (Q : L2.St → Hp → Prop), RpL K Z H vs ds → gEach gs ds ρ q = .ok ρ' q' →
  (∀ l : List (Nat × V × D), (∀ x ∈ l, x.1 ∈ is ∧ Rp K Z H x.2.1 x.2.2) → ρ' = setsR l ρ → q' = q → Q (setsV l σ) H) → t vs σ H Q
def TgOk (g : Tgt) : Prop := ∀ d ρ q, (∃ ρ' , g d ρ q = .ok ρ' q) ∨ g d ρ q = .stuck
def PGd (X : Cx) (is : List Nat) (tg : Expr) (g : Tgt) : Prop := ∃ t, PG X tg t ∧ TgR X.K is t g ∧ TgOk g
def PGsd (X : Cx) (is : List Nat) (ts : List Expr) (gs : List Tgt) : Prop := ∃ t, PGs X ts t ∧ TgsR X.K is t gs ∧ (∀ g ∈ gs, TgOk g) ∧ gs.length = ts.length
def gF (K : PySem.W.Frag) (is : List Nat) (g : Tgt) : TG := fun v σ H Q => ∃ (Z : Rg) (ρ ρ' : Rho) (q q' : Pool) (d : D), Rp K Z H v d ∧ g d ρ q = .ok ρ' q' ∧
  ∀ l : List (Nat × V × D), (∀ x ∈ l, x.1 ∈ is ∧ Rp K Z H x.2.1 x.2.2) → ρ' = setsR l ρ → q' = q → Q (setsV l σ) H
theorem PGd.run {X : Cx} {is : List Nat} {tg : Expr} {g : Tgt} (h : PGd X is tg g) : PG X tg (gF X.K is g) := by
  obtain ⟨t, h1, h2, _⟩ := h
  refine ⟨fun pins s σ H v u Q I r x => h1.run pins s σ H v u Q I r ?_⟩
  obtain ⟨Z, ρ, ρ', q, q', d, rd, e, k⟩ := x
  exact h2 Z σ H ρ ρ' q q' v d Q rd e k
section
variable {X : Cx} {pos : Pos}
theorem gd_name (i : Nat) {x : Str} (hN : X.N.Nodup) (hi : X.N[i]? = some x := by rfl) (hx : Loc X.env.scope x := by first | exact Or.inl rfl | exact Or.inr rfl) (hf : X.fn x = true ∨ X.env.scope.names.lookup x = some .local := by first | exact .inl rfl | exact .inr rfl | assumption) : PGd X [i] (.Name x pos) (gN i) :=
  ⟨gName i, pg_name hN hi hx hf, fun Z σ H ρ ρ' q q' v d Q r e k => by
    cases e
    exact k [(i, v, d)] (by simpa using r) rfl rfl, fun d ρ q => .inl ⟨_, rfl⟩⟩
theorem gds_nil : PGsd X [] [] [] := by
  refine ⟨gNil, pgs_nil, fun Z σ H ρ ρ' q q' vs ds Q r e k => ?_, by simp, rfl⟩
  cases r with
  | nil =>
    cases e
    exact ⟨rfl, k [] (by simp) rfl rfl⟩
  | cons _ _ => cases e
theorem gds_cons {is js : List Nat} {e : Expr} {es : List Expr} {g : Tgt} {gs : List Tgt} (h1 : PGd X is e g) (h2 : PGsd X js es gs) (hs : (assignEach (e :: es) X.env).map (·.2) = assign e X.env :: (assignEach es X.env).map (·.2) := by rfl) : PGsd X (is ++ js) (e :: es) (g :: gs) := by
  obtain ⟨t, a1, a2, a3⟩ := h1
  obtain ⟨u, b1, b2, b3, b4⟩ := h2
  refine ⟨gCons t u, pgs_cons a1 b1 hs, fun Z σ H ρ ρ' q q' vs ds Q r e k => ?_, ?_, by rw [List.length_cons, List.length_cons, b4]⟩
  · cases r with
    | nil => cases e
    | cons r1 r2 =>
      rename_i v vs d ds
      refine ⟨v, vs, rfl, ?_⟩
      have e' : M.bnd (g d ρ) (fun ρ' => gEach gs ds ρ') q = .ok ρ' q' := e
      unfold M.bnd at e'
      cases eg : g d ρ q with
      | ok ρ1 q1 =>
        rw [eg] at e'
        refine a2 Z σ H ρ ρ1 q q1 v d _ r1 eg fun l hl e1 e2 => ?_
        refine b2 Z (setsV l σ) H ρ1 ρ' q1 q' vs ds Q r2 e' fun m hm e3 e4 => ?_
        have z := k (l ++ m) (fun x hx => (List.mem_append.mp hx).elim (fun h => ⟨List.mem_append_left _ (hl x h).1, (hl x h).2⟩) fun h => ⟨List.mem_append_right _ (hm x h).1, (hm x h).2⟩) (by rw [setsR_app, ← e1]; exact e3) (e4.trans e2)
        rw [setsV_app] at z
        exact z
      | err x q1 => rw [eg] at e'; cases e'
      | stuck => rw [eg] at e'; cases e'
  · intro g' hg
    rcases List.mem_cons.mp hg with rfl | hg
    · exact a3
    · exact b3 g' hg
theorem gEach_ok : ∀ (gs : List Tgt), (∀ g ∈ gs, TgOk g) → ∀ ds ρ q, (∃ ρ', gEach gs ds ρ q = .ok ρ' q) ∨ gEach gs ds ρ q = .stuck
  | [], _, [], ρ, q => .inl ⟨ρ, rfl⟩
  | [], _, _ :: _, ρ, q => .inr rfl
  | _ :: _, _, [], ρ, q => .inr rfl
  | g :: gs, h, d :: ds, ρ, q => by
    show (∃ ρ', M.bnd (g d ρ) (fun ρ' => gEach gs ds ρ') q = .ok ρ' q) ∨ M.bnd (g d ρ) (fun ρ' => gEach gs ds ρ') q = .stuck
    unfold M.bnd
    rcases h g List.mem_cons_self d ρ q with ⟨ρ1, e⟩ | e
    · rw [e]
      exact gEach_ok gs (fun g' hg => h g' (List.mem_cons_of_mem _ hg)) ds ρ1 q
    · rw [e]
      exact .inr rfl
theorem gd_tup {is : List Nat} {es : List Expr} {k : Nat} {gs : List Tgt} (hc : X.calm = true) (h : PGsd X is es gs) (hn : (assignEach es X.env).length = es.length := by rfl) (hst : (assignEach es X.env).findIdx? (·.1) = none := by rfl) : PGd X is (.Tuple es k pos) (gT gs) := by
  obtain ⟨t, h1, h2, h3, h4⟩ := h
  refine ⟨_, pg_tup hc h1 hn hst, fun Z σ H ρ ρ' q q' v d Q r e kk => ?_, fun d ρ q => ?_⟩
  · unfold gT at e
    cases r with
    | tup hq rs =>
      rename_i a vs ds
      dsimp only at e
      by_cases hl : ds.length = gs.length
      · rw [if_pos hl] at e
        exact ⟨a, vs, rfl, hq, by rw [rs.length, hl, h4], h2 Z σ H ρ ρ' q q' vs ds Q rs e kk⟩
      · rw [if_neg hl] at e; cases e
    | _ => cases e
  · unfold gT
    cases d with
    | tuple ds =>
      dsimp only
      by_cases hl : ds.length = gs.length
      · rw [if_pos hl]
        exact gEach_ok gs h3 ds ρ q
      · rw [if_neg hl]
        exact .inr rfl
    | _ => exact .inr rfl
end
def Zr (Z : Rg) (H : Hp) : Rg := fun b => Z b ∧ H b ≠ none
theorem Zr.sub {Z : Rg} {H : Hp} : ∀ b, Zr Z H b → Z b := fun _ h => h.1
theorem RpL.zr {K : PySem.W.Frag} {Z : Rg} {H : Hp} {vs : List V} {ds : List D} (r : RpL K Z H vs ds) : RpL K (Zr Z H) H vs ds := r.sub fun _ z n => ⟨z, n⟩
def Walk (K : PySem.W.Frag) (Z : Rg) (H1 : Hp) (J : It) (ds : List D) : Prop := ∀ H', Stand Z H1 H' → (∀ (i : Nat) d, ds[i]? = some d → J.go i H' ∧ ∀ x H'', J.yld i H' x H'' → Same H' H'' ∧ Rp K (Zr Z H1) H'' x d) ∧ ∀ i : Nat, ds.length ≤ i → J.stop i H'
abbrev WaF (K : PySem.W.Frag) : RelT It (List D) := fun _ Z H H' J ds => Walk K (Zn Z H) H' J ds
theorem Walk.grow {K : PySem.W.Frag} {Z Z' : Rg} {H1 : Hp} {J : It} {ds : List D} (w : Walk K Z H1 J ds) (s : ∀ b, Z b → Z' b) : Walk K Z' H1 J ds := fun H' st =>
  let ⟨w1, w2⟩ := w H' (st.sub s)
  ⟨fun i d e => ⟨(w1 i d e).1, fun x H'' y => ⟨((w1 i d e).2 x H'' y).1, ((w1 i d e).2 x H'' y).2.grow fun b z => ⟨s b z.1, z.2⟩⟩⟩, w2⟩
theorem sh_wa {K : PySem.W.Frag} : Shf (WaF K) := fun p sc Z H H2 H' q q2 b a k pl pl2 r => r.grow (Zn.twice k pl pl2)
def PId (X : Cx) (W : WX) (tg iter : Expr) (F : DI) : Prop := ∃ wi, PI X tg iter wi ∧ Rd1 X W (WaF X.K) wi F
section
variable {X : Cx} {W : WX} {tg e a b : Expr} {A B : DE} {pos pos' : Pos}
def iSeqT (K : PySem.W.Frag) (tl : TE) : TI := fun σ H R => tl σ H fun x H1 => (∃ a, x = .ref a ∧ (∃ xs, SqL K H1 a xs) ∧ R (Itl K a) H1) ∨ (∃ a, x = .ref a ∧ (∃ xs, SqT K H1 a xs) ∧ R (Itt K a) H1)
theorem pi_seq {l : Expr} {tl : TE} (hl : PE X l tl) : PI X tg l (iSeqT X.K tl) := by
  refine ⟨fun pins s σ H R I h => ?_⟩
  refine thn (hl.run pins s σ H _ I h) fun v s1 ⟨x, H1, I1, r1, q1⟩ => ?_
  rcases q1 with ⟨a, e, ⟨xs, hq⟩, q⟩ | ⟨a, e, ⟨xs, hq⟩, q⟩
  · subst e
    cases r1
    obtain ⟨its, rv, p, hz⟩ := I1.list hq
    refine wpAny_pyIter_list p.isList ?_
    refine ⟨s1.heap.objs.size, [s1.heap.objs.size], _, _, H1, rfl, I1.kept (t' := s1.toks) fun b o e => Heap.get?_push_of_some _ e, turn_list a _, ⟨_, Heap.get?_push_size _ rfl, rfl, rfl⟩, fun b hb => ?_, q⟩
    have e : b = s1.heap.objs.size := by simpa using hb
    subst e
    exact I1.fpOk (Nat.le_refl _) (I1.hok.fresh (Nat.le_refl _))
  · subst e
    cases r1
    obtain ⟨its, rv, p, hz⟩ := I1.tuple hq
    refine wpAny_pyIter_tuple (show s1.heap.IsTuple a its.toArray from p) ?_
    refine ⟨s1.heap.objs.size, [s1.heap.objs.size], _, _, H1, rfl, I1.kept (t' := s1.toks) fun b o e => Heap.get?_push_of_some _ e, turn_tuple a _, ⟨_, Heap.get?_push_size _ rfl, rfl, rfl⟩, fun b hb => ?_, q⟩
    have e : b = s1.heap.objs.size := by simpa using hb
    subst e
    exact I1.fpOk (Nat.le_refl _) (I1.hok.fresh (Nat.le_refl _))
theorem pid_seq (ha : PDe X W e A) : PId X W tg e (iSeq A) := by
  obtain ⟨t, h1, h2⟩ := ha
  refine ⟨_, pi_seq h1, rd_bnd (X := X) (W := W) (RelF := WaF X.K) (ValA := fun _ Z H v d => Rp X.K Z H v d) (f := fun _ x => match x with
  | .list ds => M.ret ds
  | .tuple ds => M.ret ds
  | _ => M.stuck) (k := fun x σ H R => (∃ a, x = .ref a ∧ (∃ xs, SqL X.K H a xs) ∧ R (Itl X.K a) H) ∨ (∃ a, x = .ref a ∧ (∃ xs, SqT X.K H a xs) ∧ R (Itt X.K a) H)) sh_wa (fun _ _ _ _ _ _ h => h) h2 fun p sc Z σ H ρ q x dx Q s hv hp => ?_⟩
  cases hv with
  | lst hr z rs =>
    rename_i a vs ds
    refine .inl ⟨a, rfl, ⟨vs, .inl (.inl hr)⟩, hp _ H (Keep.refl _ _) s.pool ?_⟩
    intro H' st
    have hr' : H' a = some (.lst vs) := st.rg _ _ (.inl z) nt_l hr
    have rs' := (rs.grow (Zn.base (H := H))).zr.stand (st.sub Zr.sub)
    refine ⟨fun i d e => ?_, fun i hi => ⟨vs, .inl (.inl hr'), by rw [rs.length]; exact hi⟩⟩
    obtain ⟨v, e1, e2⟩ := rs'.at e
    refine ⟨⟨vs, v, .inl (.inl hr'), e1⟩, fun x H'' y => ?_⟩
    obtain ⟨eH, y⟩ := y
    subst eH
    have := y vs (.inl (.inl hr'))
    rw [e1] at this
    cases this
    exact ⟨Same.refl _, e2⟩
  | tup hr rs =>
    rename_i a vs ds
    refine .inr ⟨a, rfl, ⟨vs, hr⟩, hp _ H (Keep.refl _ _) s.pool ?_⟩
    intro H' st
    have hr' : SqT X.K H' a vs := st.sqT hr
    have rs' := (rs.grow (Zn.base (H := H))).zr.stand (st.sub Zr.sub)
    refine ⟨fun i d e => ?_, fun i hi => ⟨vs, hr', by rw [rs.length]; exact hi⟩⟩
    obtain ⟨v, e1, e2⟩ := rs'.at e
    refine ⟨⟨vs, v, hr', e1⟩, fun x H'' y => ?_⟩
    obtain ⟨eH, y⟩ := y
    subst eH
    have := y vs hr'
    rw [e1] at this
    cases this
    exact ⟨Same.refl _, e2⟩
  | _ => exact hp.elim
theorem walk_rng {K : PySem.W.Frag} {Z : Rg} {H1 : Hp} (lo : Int) (n : Nat) : Walk K Z H1 (Itr lo n) (intsFrom lo n) := by
  intro H' st
  refine ⟨fun i d e => ?_, fun i hi => by simpa [intsFrom, Itr] using hi⟩
  have hi : i < n := by
    have z := (List.getElem?_eq_some_iff.mp e).1
    simpa [intsFrom] using z
  have ed : d = .int (lo + (i : Int)) := by
    simp [intsFrom, List.getElem?_map, hi] at e
    exact e.symm
  subst ed
  refine ⟨hi, fun x H'' y => ?_⟩
  obtain ⟨eH, ex⟩ := y
  subst eH ex
  exact ⟨Same.refl _, .int _⟩
theorem small62_ok {i : Int} (h : small62 i = true) : -(2 ^ 62) ≤ i ∧ i < 2 ^ 62 := by
  unfold small62 at h
  rw [Bool.and_eq_true] at h
  exact ⟨of_decide_eq_true h.1, of_decide_eq_true h.2⟩
theorem pid_r1 (hg : Gl X "range") (hm : X.mg "range" = none) (ha : PDe X W a A) (hs : starEach [a] X.env = [(false, eval a X.env)] := by rfl) : PId X W tg (.Call (.Name "range" pos') [a] [] pos) (iR1 A) := by
  obtain ⟨t, h1, h2⟩ := ha
  refine ⟨_, pi_range1 hg hm (pa_cons h1 pa_nil hs) hs, rd_bnd (X := X) (W := W) (RelF := WaF X.K) (ValA := fun _ Z H v d => Rp X.K Z H v d) (f := fun _ => rng1) (k := fun x σ H R => ∃ j : Int, [x] = [V.int j] ∧ -(2 ^ 62) ≤ j ∧ j < 2 ^ 62 ∧ R (Itr 0 j.toNat) H) sh_wa (fun _ _ _ _ _ _ h => h) h2 fun p sc Z σ H ρ q x dx Q s hv hp => ?_⟩
  cases hv with
  | int j =>
    unfold rng1 at hp
    dsimp only at hp
    by_cases hj : small62 j = true
    · rw [if_pos hj] at hp
      exact ⟨j, rfl, (small62_ok hj).1, (small62_ok hj).2, hp _ H (Keep.refl _ _) s.pool (walk_rng _ _)⟩
    · rw [if_neg hj] at hp
      exact hp.elim
  | _ => exact hp.elim
theorem pid_r2 (hg : Gl X "range") (hm : X.mg "range" = none) (ha : PDe X W a A) (hb : PDe X W b B) (hs : starEach [a, b] X.env = [(false, eval a X.env), (false, eval b X.env)] := by rfl) (hs2 : starEach [b] X.env = [(false, eval b X.env)] := by rfl) : PId X W tg (.Call (.Name "range" pos') [a, b] [] pos) (iR2 A B) := by
  obtain ⟨t, h1, h2⟩ := ha
  obtain ⟨u, g1, g2⟩ := hb
  refine ⟨_, pi_range2 hg hm (pa_cons h1 (pa_cons g1 pa_nil hs2) (by rw [hs, hs2])) hs hs2, ?_⟩
  refine rd_2 (X := X) (W := W) (Rel := WaF X.K) (r := fun x y H R => ∃ i j : Int, [x, y] = [V.int i, V.int j] ∧ (-(2 ^ 62) ≤ i ∧ i < 2 ^ 62 ∧ -(2 ^ 62) ≤ j ∧ j < 2 ^ 62) ∧ R (Itr i (j - i).toNat) H) sh_wa (fun p sc Z σ H q x y dx dy Q pl nz hx hy hp => ?_) h2 g2
  cases hx with
  | int i =>
    cases hy with
    | int j =>
      unfold rng2 at hp
      dsimp only at hp
      by_cases hj : (small62 i && small62 j) = true
      · rw [if_pos hj] at hp
        rw [Bool.and_eq_true] at hj
        exact ⟨i, j, rfl, ⟨(small62_ok hj.1).1, (small62_ok hj.1).2, (small62_ok hj.2).1, (small62_ok hj.2).2⟩, hp _ H (Keep.refl _ _) pl (walk_rng _ _)⟩
      · rw [if_neg hj] at hp
        exact hp.elim
    | _ => exact hp.elim
  | _ => exact hp.elim
end

section
variable {X : Cx} {e elt tg iter : Expr} {pos : Pos}
abbrev W0 : WX := fun _ _ _ _ => False
def PTsd (X : Cx) (W : WX) (ifs : List Expr) (T : DT) : Prop := ∃ t, PTs X ifs t ∧ Rd1 X W BoF t T
theorem PTsd.run {X : Cx} {W : WX} {ifs : List Expr} {T : DT} (h : PTsd X W ifs T) : PTs X ifs (tF X.K X.mg W BoF T) := by
  obtain ⟨t, h1, h2⟩ := h
  exact ⟨fun pins s σ H Q I x => h1.run pins s σ H Q I (h2.tF x)⟩
theorem ptsd_nil {W : WX} : PTsd X W [] tTrue := ⟨tYes, pts_nil, fun p sc Z σ H ρ q Q s hp => hp true H (Keep.refl _ _) s.pool rfl⟩
theorem ptsd_one {W : WX} {c : Expr} {T : DT} (h : PDt X W c T) : PTsd X W [c] T := by
  obtain ⟨t, h1, h2⟩ := h
  exact ⟨_, pts_one h1, h2⟩
theorem compGo_cons {f : D → M (Option D)} {x : D} {xs : List D} {q : Pool} : M.noerr (compGo f (x :: xs)) q = (match M.noerr (f x) q with
    | .ok o q1 => (match M.noerr (compGo f xs) q1 with
      | .ok r q2 => .ok (o.toList ++ r) q2
      | .err _ _ => .stuck
      | .stuck => .stuck)
    | .err _ _ => .stuck
    | .stuck => .stuck) := by
  show M.noerr (M.bnd (f x) fun o => M.bnd (compGo f xs) fun r => M.ret (o.toList ++ r)) q = _
  unfold M.noerr M.bnd M.ret
  cases f x q with
  | ok o q1 =>
    dsimp only
    cases compGo f xs q1 <;> rfl
  | err _ _ => rfl
  | stuck => rfl
theorem rd_comp_at {W : WX} {wi : TI} {it : DI} {own is : List Nat} {g : Tgt} {T : DT} {F : DE} {p sc : Addr} {Z : Rg} {σ : L2.St} {H : Hp} {ρ : Rho} {q : Pool} {Q : VK} (s : Sit X.K p sc Z σ H ρ q)
    (hi : ∀ R : It → Hp → Prop, Post X.mg p sc H (WaF X.K p Z H) (fun c od H' => W c od σ H') R (it ρ q) → wi σ H R) (his : ∀ i ∈ is, i ∈ own) (hg : TgOk g)
    (hp : Post X.mg p sc H (NewF X.K p Z H) (fun c od H' => W c od σ H') Q (dComp own it g T F ρ q)) :
    tLc wi (gF X.K is g) (tF X.K X.mg W0 BoF T) (tF X.K X.mg W0 (RpF X.K) F) own σ H Q := by
  refine hi _ ((Post.bnd (Rel := WaF X.K p Z H) (Rel' := NewF X.K p Z H) hp).to fun J H1 ⟨ds, q1, e1, k1, pl1, wk, hp1⟩ => ?_)
  intro D hD
  by_cases hlen : ds.length ≤ sizeLine
  case neg => rw [if_neg hlen] at hp1; exact hp1.elim
  rw [if_pos hlen] at hp1
  have hHD : H D = none := by
    cases e : H D with
    | none => rfl
    | some o =>
      by_cases hc : D = p
      · subst hc; rw [pl1.1] at hD; cases hD
      · exact absurd hD (k1.any hc e)
  have hpD : D ≠ p := fun e => by subst e; rw [pl1.1] at hD; cases hD
  have s1 := s.next k1 pl1
  -- the region within
  let Zd : Rg := fun b => Zn Z H b ∧ b ≠ D
  have nzd : ¬ Zd p := fun z => Zn.nop s.pool s.nz z.1
  have envD : EnvR X.K p Zd σ H1 ρ := fun i sl h => by
    have z := s1.env i sl h
    cases ev : sl.val? with
    | none => rw [ev] at z; exact z
    | some d =>
      rw [ev] at z
      obtain ⟨v, h1, h2⟩ := z
      exact ⟨v, h1, h2.sub fun b zb nb => ⟨.inl zb, fun e => nb (e ▸ hD)⟩⟩
  refine ⟨fun i m Hc => m = ds.length - i ∧ i ≤ ds.length ∧ ∃ q' acc vs, Keep p H1 Hc ∧ PoolAt p sc Hc q' ∧ Hc D = some (.lst vs) ∧ vs.length ≤ i ∧ RpL X.K Zd Hc vs acc ∧
    Post X.mg p sc H (NewF X.K p Z H) (fun c od H' => W c od σ H') Q (match M.noerr (compGo (compTurn g T F (wipeR ρ own)) (ds.drop i)) q' with
      | .ok ys q'' => R.ok (.list (acc ++ ys)) q''
      | .err x q'' => .stuck
      | .stuck => .stuck), ⟨ds.length, by simp, Nat.zero_le _, q1, [], [], new_keep hD, new_pool hD pl1, upd_same, Nat.le_refl _, .nil, ?_⟩, ?_⟩
  · rw [List.drop_zero]
    unfold M.bnd at hp1
    cases ec : M.noerr (compGo (compTurn g T F (wipeR ρ own)) ds) q1 with
    | ok ys q2 => rw [ec] at hp1; exact hp1
    | err x q2 =>
      unfold M.noerr at ec
      cases e2 : compGo (compTurn g T F (wipeR ρ own)) ds q1 <;> rw [e2] at ec <;> cases ec
    | stuck => rw [ec] at hp1; exact hp1.elim
  · rintro i m Hc ⟨rfl, hi, q', acc, vs, kc, plc, hDc, hvl, hrs, hpc⟩
    have std : Stand (Zn Z H) H1 Hc := kc.stand pl1 (Zn.nop s.pool s.nz)
    by_cases hlt : i < ds.length
    · refine .inr ?_
      obtain ⟨w1, _⟩ := wk Hc std
      have ed : ds[i]? = some ds[i] := List.getElem?_eq_getElem hlt
      obtain ⟨go, yl⟩ := w1 i _ ed
      refine ⟨go, fun Hn => ∃ q' acc vs, Keep p H1 Hn ∧ PoolAt p sc Hn q' ∧ Hn D = some (.lst vs) ∧ vs.length ≤ i + 1 ∧ RpL X.K Zd Hn vs acc ∧
        Post X.mg p sc H (NewF X.K p Z H) (fun c od H' => W c od σ H') Q (match M.noerr (compGo (compTurn g T F (wipeR ρ own)) (ds.drop (i + 1))) q' with
          | .ok ys q'' => R.ok (.list (acc ++ ys)) q''
          | .err x q'' => .stuck
          | .stuck => .stuck), fun H' nx => ⟨ds.length - (i + 1), by omega, rfl, hlt, nx⟩, fun x H' yy => ?_⟩
      obtain ⟨sm, rx⟩ := yl x H' yy
      have kS : Keep p Hc H' := Keep.of fun b o _ h => sm b o h
      have plS : PoolAt p sc H' q' := ⟨sm _ _ plc.1, sm _ _ plc.2.1, plc.2.2.1, plc.2.2.2.ext sm⟩
      have hDS : H' D = some (.lst vs) := sm _ _ hDc
      have rx' : Rp X.K Zd H' x ds[i] := rx.grow fun b zb => ⟨zb.1, fun e => zb.2 (e ▸ hD)⟩
      rw [List.drop_eq_getElem_cons hlt] at hpc
      -- the target
      have hturn : ∃ ρ1, g ds[i] (wipeR ρ own) q' = .ok ρ1 q' := by
        rcases hg ds[i] (wipeR ρ own) q' with h | h
        · exact h
        · have z : M.noerr (compGo (compTurn g T F (wipeR ρ own)) (ds[i] :: ds.drop (i + 1))) q' = .stuck := by
            show M.noerr (M.bnd (M.bnd (g ds[i] (wipeR ρ own)) _) _) q' = .stuck
            unfold M.noerr M.bnd
            simp only [h]
          rw [z] at hpc
          exact hpc.elim
      obtain ⟨ρ1, eg⟩ := hturn
      refine ⟨Zd, wipeR ρ own, ρ1, q', q', ds[i], rx', eg, fun l hl e2 _ => ?_⟩
      subst e2
      refine ⟨wipe_sets l fun x hx => his _ (hl x hx).1, ?_⟩
      have sit1 : Sit X.K p sc Zd (setsV l (wipe σ own)) H' (setsR l (wipeR ρ own)) q' := by
        refine ⟨EnvR.sets l (((envD.stand ((kc.trans kS).stand pl1 nzd)).wipe own)) (by rw [wipeR_len, wipe_length]; exact s.len) fun x hx => (hl x hx).2, plS, nzd, ?_⟩
        rw [setsR_len, setsV_len, wipeR_len, wipe_length]
        exact s.len
      have ec := compGo_cons (f := compTurn g T F (wipeR ρ own)) (x := ds[i]) (xs := ds.drop (i + 1)) (q := q')
      rw [ec] at hpc
      have et : compTurn g T F (wipeR ρ own) ds[i] q' = M.bnd (T (setsR l (wipeR ρ own))) (fun c => if c = true then M.bnd (F (setsR l (wipeR ρ own))) fun y => M.ret (some y) else M.ret none) q' := by
        unfold compTurn M.bnd
        rw [eg]
      have plsub : ∀ b, Zn Zd H' b → Zd b ∨ H' b = none := fun b z => z
      refine ⟨p, sc, Zd, _, q', sit1, ?_⟩
      unfold M.bnd at et
      cases eT : T (setsR l (wipeR ρ own)) q' with
      | err x q2 =>
        simp only [eT] at et
        unfold M.noerr at hpc
        rw [et] at hpc
        exact hpc.elim
      | stuck =>
        simp only [eT] at et
        unfold M.noerr at hpc
        rw [et] at hpc
        exact hpc.elim
      | ok c q2 =>
        simp only [eT] at et
        intro b H3 k3 pl3 hb
        have hb' : b = c := hb
        subst hb'
        have hD3 : H3 D = some (.lst vs) := k3.at D _ hpD nt_l hDS
        have sit3 := sit1.next k3 pl3
        have rs3 : RpL X.K Zd H3 vs acc := hrs.stand (((kS.trans k3).stand plc nzd))
        cases b with
        | false =>
          simp only [Bool.false_eq_true, if_false] at et ⊢
          refine ⟨q2, acc, vs, (kc.trans kS).trans k3, pl3, hD3, Nat.le_succ_of_le hvl, rs3, ?_⟩
          unfold M.noerr at hpc ⊢
          rw [et] at hpc
          dsimp only [M.ret] at hpc
          cases er : compGo (compTurn g T F (wipeR ρ own)) (ds.drop (i + 1)) q2 with
          | ok r q4 =>
            rw [er] at hpc
            exact hpc
          | err x q4 => rw [er] at hpc; exact hpc.elim
          | stuck => rw [er] at hpc; exact hpc.elim
        | true =>
          simp only [if_true] at et ⊢
          refine ⟨p, sc, Zd, _, q2, sit3, ?_⟩
          cases eF : F (setsR l (wipeR ρ own)) q2 with
          | err x q3 =>
            simp only [eF] at et
            unfold M.noerr at hpc
            rw [et] at hpc
            exact hpc.elim
          | stuck =>
            simp only [eF] at et
            unfold M.noerr at hpc
            rw [et] at hpc
            exact hpc.elim
          | ok y q3 =>
            simp only [eF] at et
            intro v H4 k4 pl4 rv
            have hD4 : H4 D = some (.lst vs) := k4.at D _ hpD nt_l hD3
            have kAll : Keep p H1 H4 := ((kc.trans kS).trans k3).trans k4
            have nZd : ¬ Zd D := fun z => z.2 rfl
            have rv' : Rp X.K Zd H4 v y := rv.grow fun b z => by
              rcases z with z | n
              · exact z
              · exact ⟨.inr (none_back ((k1.trans kc).trans (kS.trans k3)) pl3 n), fun e => by rw [e, hD3] at n; cases n⟩
            have st4 : Stand Zd H4 (upd H4 D (.lst (vs ++ [v]))) := own_stand hD4 nZd
            refine ⟨vs, hD4, Nat.lt_of_lt_of_le (Nat.lt_of_le_of_lt hvl hlt) hlen, q3, acc ++ [y], vs ++ [v], fun b o hb e => ?_, ⟨?_, ?_, pl4.2.2.1, tabs_upd pl4.2.2.2 (fun u e => by rw [hD4] at e; cases e; exact ⟨nt_l, fun _ z => nomatch z⟩)⟩, upd_same, by simpa using hvl, ((rs3.stand (k4.stand pl3 nzd)).append (.one rv')).stand st4, ?_⟩
            · rw [upd_ne (ne_of_none e hD)]
              exact kAll b o hb e
            · rw [upd_ne (Ne.symm hpD)]
              exact pl4.1
            · rw [upd_ne (fun e => by have z := pl1.2.1; rw [e, hD] at z; cases z)]
              exact pl4.2.1
            · unfold M.noerr at hpc ⊢
              rw [et] at hpc
              dsimp only [M.ret] at hpc
              cases er : compGo (compTurn g T F (wipeR ρ own)) (ds.drop (i + 1)) q3 with
              | ok r q4 =>
                rw [er] at hpc
                simp only [Option.toList, List.cons_append, List.nil_append] at hpc
                simp only [List.append_assoc, List.cons_append, List.nil_append]
                exact hpc
              | err x q4 => rw [er] at hpc; exact hpc.elim
              | stuck => rw [er] at hpc; exact hpc.elim
    · have ei : i = ds.length := by omega
      subst ei
      refine .inl ⟨(wk Hc std).2 _ (Nat.le_refl _), ?_⟩
      rw [List.drop_length] at hpc
      have z := hpc (.ref D) Hc (k1.trans kc) plc ⟨D, vs, acc ++ [], rfl, rfl, hHD, hDc, by rw [List.append_nil]; exact hrs⟩
      exact z
theorem rd_comp {W : WX} {wi : TI} {it : DI} {own is : List Nat} {g : Tgt} {T : DT} {F : DE} (hi : Rd1 X W (WaF X.K) wi it) (his : ∀ i ∈ is, i ∈ own) (hg : TgOk g) :
    Rd1 X W (NewF X.K) (tLc wi (gF X.K is g) (tF X.K X.mg W0 BoF T) (tF X.K X.mg W0 (RpF X.K) F) own) (dComp own it g T F) :=
  fun p sc Z σ H ρ q Q s hp => rd_comp_at s (fun R h => hi p sc Z σ H ρ q R s h) his hg hp
theorem pdf_comp {W : WX} {own : List (Str × Nat)} {is : List Nat} {ifs : List Expr} {scope : Scope} {it : DI} {g : Tgt} {T : DT} {F : DE} (hc : X.calm = true) (hN : X.N.Nodup) (hi : PId X W tg iter it) (ok : BlkOk X.N X.env.scope scope own) (his : ∀ i ∈ is, i ∈ own.map (·.2))
    (hg : ∀ (s : Shared) (H : Hp) (C : Addr) (cl : List (Str × Addr)) (fp : List Addr), PGd (X.blk s H scope (compEnvC scope cl C X.env) fp) is tg g) (ht : ∀ (s : Shared) (H : Hp) (C : Addr) (cl : List (Str × Addr)) (fp : List Addr), PTsd (X.blk s H scope (compEnvC scope cl C X.env) fp) W0 ifs T)
    (he : ∀ (s : Shared) (H : Hp) (C : Addr) (cl : List (Str × Addr)) (fp : List Addr), PDe (X.blk s H scope (compEnvC scope cl C X.env) fp) W0 elt F) (hgo : TgOk g) (hs : ∀ x, foldedSetIterable iter X.env x = pure x := by intro _; rfl) :
    PDf X W (.ListComp elt [⟨tg, iter, ifs, 0⟩] scope pos) (dComp (own.map (·.2)) it g T F) := by
  obtain ⟨wi, h1, h2⟩ := hi
  exact ⟨_, pe_lc hc hN h1 ok (fun s H C cl fp => (hg s H C cl fp).run) (fun s H C cl fp => (ht s H C cl fp).run) (fun s H C cl fp => (he s H C cl fp).run) hs, rd_comp h2 his hgo⟩
theorem FnD.blk {x : Str} {F : List Arg → M D} (h : FnD X x F) {s : Shared} {H : Hp} {scope : Scope} {env : Env} {fp : List Addr} : FnD (X.blk s H scope env fp) x F := ⟨h.ex⟩
end
end Ew
namespace Ew
open PySem PySem.Spec PyProof.Rows L2
def SlotR (K : PySem.W.Frag) (p : Addr) (Z : Rg) (σ : L2.St) (H H0 : Hp) (i : Nat) : Slot → Prop
  | .dat d => ∃ v, σ[i]? = some (some v) ∧ Rp K Z H v d
  | .own ds => ∃ a vs, σ[i]? = some (some (.ref a)) ∧ H a = some (.lst vs) ∧ ¬ Z a ∧ H0 a = none ∧ RpL K Z H vs ds
  | .odicT kvs => ∃ a ks, σ[i]? = some (some (.ref a)) ∧ H a = some (.dT ks) ∧ ¬ Z a ∧ H0 a = none ∧ kvs.map (fun q => q.1) = ks.map (fun q => keyT q.1) ∧ RpL K Z H (ks.map fun q => q.2) (kvs.map fun q => q.2)
  | .odic kvs => ∃ a ks, σ[i]? = some (some (.ref a)) ∧ H a = some (.dK ks) ∧ ¬ Z a ∧ H0 a = none ∧ kvs.map (fun q => q.1) = ks.map (fun q => keyD q.1) ∧ RpL K Z H (ks.map fun q => q.2) (kvs.map fun q => q.2)
  | .pool => σ[i]? = some (some (.ref p))
structure BR (K : PySem.W.Frag) (p sc : Addr) (Z0 : Rg) (H0 : Hp) (Z : Rg) (σ : L2.St) (H : Hp) (ρ : Rho) (q : Pool) : Prop where
  keep : Keep p H0 H
  pool0 : ∃ q0, PoolAt p sc H0 q0
  pool : PoolAt p sc H q
  nz0 : ¬ Z0 p
  nz : ¬ Z p
  zs : ∀ b, Z b → H b ≠ none
  zz : ∀ b, Z b → Zn Z0 H0 b
  len : ρ.length = σ.length
  slot : ∀ (i : Nat) s, ρ[i]? = some (some s) → SlotR K p Z σ H H0 i s
  dist : ∀ (i j : Nat) a s t, i ≠ j → ρ[i]? = some (some s) → s.mine = true → ρ[j]? = some (some t) → t.mine = true → σ[i]? = some (some (V.ref a)) → σ[j]? ≠ some (some (V.ref a))
def Zo (Z : Rg) (σ : L2.St) (ρ : Rho) : Rg := fun b => Z b ∨ ∃ (i : Nat) (s : Slot), ρ[i]? = some (some s) ∧ s.mine = true ∧ σ[i]? = some (some (.ref b))
section
variable {K : PySem.W.Frag} {p sc : Addr} {Z0 Z Z' : Rg} {H0 H H1 : Hp} {σ : L2.St} {ρ : Rho} {q q1 : Pool}
theorem BR.mine (b : BR K p sc Z0 H0 Z σ H ρ q) {i : Nat} {s : Slot} (h : ρ[i]? = some (some s)) (m : s.mine = true) : ∃ a, σ[i]? = some (some (.ref a)) ∧ ¬ Z a ∧ H0 a = none ∧ H a ≠ none ∧ a ≠ p ∧ a ≠ sc := by
  obtain ⟨q0, h0⟩ := b.pool0
  have ne : ∀ a, H0 a = none → a ≠ p ∧ a ≠ sc := fun a e => ⟨fun z => (by rw [z, h0.1] at e; cases e), fun z => (by rw [z, h0.2.1] at e; cases e)⟩
  cases s with
  | own ds =>
    obtain ⟨a, vs, h1, h2, h3, h4, h5⟩ := b.slot i _ h
    exact ⟨a, h1, h3, h4, by rw [h2]; exact Option.some_ne_none _, ne a h4⟩
  | odic ds =>
    obtain ⟨a, vs, h1, h2, h3, h4, h5⟩ := b.slot i _ h
    exact ⟨a, h1, h3, h4, by rw [h2]; exact Option.some_ne_none _, ne a h4⟩
  | odicT ds =>
    obtain ⟨a, vs, h1, h2, h3, h4, h5⟩ := b.slot i _ h
    exact ⟨a, h1, h3, h4, by rw [h2]; exact Option.some_ne_none _, ne a h4⟩
  | dat d => cases m
  | pool => cases m
theorem hide_some {i : Nat} {s : Slot} (h : (hideR ρ)[i]? = some (some s)) : ρ[i]? = some (some s) ∧ s.mine = false := by
  unfold hideR at h
  rw [List.getElem?_map] at h
  cases e : ρ[i]? with
  | none => rw [e] at h; cases h
  | some o =>
    cases o with
    | none => rw [e] at h; cases h
    | some t =>
      rw [e] at h
      have h' : hide1 (some t) = some s := Option.some.inj h
      unfold hide1 at h'
      dsimp only at h'
      cases m : t.mine with
      | true => rw [m] at h'; cases h'
      | false =>
        rw [m, if_neg Bool.false_ne_true] at h'
        cases h'
        exact ⟨rfl, m⟩
theorem BR.sitH (b : BR K p sc Z0 H0 Z σ H ρ q) : Sit K p sc Z σ H (hideR ρ) q := by
  refine ⟨fun i s h => ?_, b.pool, b.nz, by unfold hideR; rw [List.length_map]; exact b.len⟩
  obtain ⟨h1, h2⟩ := hide_some h
  have z := b.slot i s h1
  cases s with
  | dat d => exact z
  | pool => exact z
  | own ds => cases h2
  | odic ds => cases h2
  | odicT ds => cases h2
theorem BR.nzo (b : BR K p sc Z0 H0 Z σ H ρ q) : ¬ Zo Z σ ρ p := by
  rintro (h | ⟨i, s, h, m, e⟩)
  · exact b.nz h
  · obtain ⟨a, h1, _, _, _, h2, _⟩ := b.mine h m
    rw [e] at h1; cases h1
    exact h2 rfl
theorem BR.sit (b : BR K p sc Z0 H0 Z σ H ρ q) : Sit K p sc (Zo Z σ ρ) σ H ρ q := by
  refine ⟨fun i s h => ?_, b.pool, b.nzo, b.len⟩
  have z := b.slot i s h
  cases s with
  | dat d =>
    obtain ⟨v, h1, h2⟩ := z
    exact ⟨v, h1, h2.grow fun _ x => .inl x⟩
  | pool => exact z
  | own ds =>
    obtain ⟨a, vs, h1, h2, h3, h4, h5⟩ := z
    exact ⟨.ref a, h1, .lst h2 (.inr ⟨i, _, h, rfl, h1⟩) (h5.grow fun _ x => .inl x)⟩
  | odic kvs =>
    obtain ⟨a, ks, h1, h2, h3, h4, h5, h6⟩ := z
    exact ⟨.ref a, h1, .dic (.inl h2) (.inr ⟨i, _, h, rfl, h1⟩) h5 (h6.grow fun _ x => .inl x)⟩
  | odicT kvs =>
    obtain ⟨a, ks, h1, h2, h3, h4, h5, h6⟩ := z
    exact ⟨.ref a, h1, .dit (.inl h2) (.inr ⟨i, _, h, rfl, h1⟩) h5 (h6.grow fun _ x => .inl x)⟩
theorem BR.zo (b : BR K p sc Z0 H0 Z σ H ρ q) : ∀ a, Zn (Zo Z σ ρ) H a → Zn Z0 H0 a := fun a h => by
  rcases h with (h | ⟨i, s, h, m, e⟩) | h
  · exact b.zz a h
  · obtain ⟨a', h1, _, h2, _⟩ := b.mine h m
    rw [e] at h1; cases h1
    exact .inr h2
  · exact .inr (none_back b.keep b.pool h)
theorem BR.next (b : BR K p sc Z0 H0 Z σ H ρ q) (k : Keep p H H1) (pl : PoolAt p sc H1 q1) : BR K p sc Z0 H0 Z σ H1 ρ q1 := by
  have st := k.stand b.pool b.nz
  refine ⟨b.keep.trans k, b.pool0, pl, b.nz0, b.nz, fun c z n => ?_, b.zz, b.len, fun i s h => ?_, b.dist⟩
  · cases e : H c with
    | none => exact b.zs c z e
    | some o => exact absurd n (k.any (fun x => b.nz (x ▸ z)) e)
  · have z := b.slot i s h
    cases s with
    | dat d =>
      obtain ⟨v, h1, h2⟩ := z
      exact ⟨v, h1, h2.stand st⟩
    | pool => exact z
    | own ds =>
      obtain ⟨a, _, _, _, _, ap, _⟩ := b.mine h rfl
      obtain ⟨a, vs, h1, h2, h3, h4, h5⟩ := z
      obtain ⟨a', g1, _, _, _, ap, _⟩ := b.mine h rfl
      rw [h1] at g1; cases g1
      exact ⟨a, vs, h1, k.at a _ ap nt_l h2, h3, h4, h5.stand st⟩
    | odic kvs =>
      obtain ⟨a, ks, h1, h2, h3, h4, h5, h6⟩ := z
      obtain ⟨a', g1, _, _, _, ap, _⟩ := b.mine h rfl
      rw [h1] at g1; cases g1
      exact ⟨a, ks, h1, k.at a _ ap nt_k h2, h3, h4, h5, h6.stand st⟩
    | odicT kvs =>
      obtain ⟨a, ks, h1, h2, h3, h4, h5, h6⟩ := z
      obtain ⟨a', g1, _, _, _, ap, _⟩ := b.mine h rfl
      rw [h1] at g1; cases g1
      exact ⟨a, ks, h1, k.at a _ ap nt_t h2, h3, h4, h5, h6.stand st⟩
theorem BR.grow (b : BR K p sc Z0 H0 Z σ H ρ q) (zz' : ∀ c, Z c → Z' c) (zs' : ∀ c, Z' c → H c ≠ none) (zo' : ∀ c, Z' c → Zn Z0 H0 c) (nz' : ¬ Z' p) (no : ∀ (i : Nat) s a, ρ[i]? = some (some s) → s.mine = true → σ[i]? = some (some (V.ref a)) → ¬ Z' a) : BR K p sc Z0 H0 Z' σ H ρ q := by
  refine ⟨b.keep, b.pool0, b.pool, b.nz0, nz', zs', zo', b.len, fun i s h => ?_, b.dist⟩
  have z := b.slot i s h
  cases s with
  | dat d =>
    obtain ⟨v, h1, h2⟩ := z
    exact ⟨v, h1, h2.grow zz'⟩
  | pool => exact z
  | own ds =>
    obtain ⟨a, vs, h1, h2, h3, h4, h5⟩ := z
    exact ⟨a, vs, h1, h2, no i _ a h rfl h1, h4, h5.grow zz'⟩
  | odic kvs =>
    obtain ⟨a, ks, h1, h2, h3, h4, h5, h6⟩ := z
    exact ⟨a, ks, h1, h2, no i _ a h rfl h1, h4, h5, h6.grow zz'⟩
  | odicT kvs =>
    obtain ⟨a, ks, h1, h2, h3, h4, h5, h6⟩ := z
    exact ⟨a, ks, h1, h2, no i _ a h rfl h1, h4, h5, h6.grow zz'⟩
def Zh (Z : Rg) (H H1 : Hp) : Rg := fun b => Zn Z H b ∧ H1 b ≠ none
theorem BR.after (b : BR K p sc Z0 H0 Z σ H ρ q) (k : Keep p H H1) (pl : PoolAt p sc H1 q1) : BR K p sc Z0 H0 (Zh Z H H1) σ H1 ρ q1 := by
  have b1 := b.next k pl
  refine b1.grow (fun c z => ⟨.inl z, b1.zs c z⟩) (fun c z => z.2) (fun c z => ?_) (fun z => Zn.nop b.pool b.nz z.1) fun i s a h m e z => ?_
  · rcases z.1 with z | z
    · exact b.zz c z
    · exact .inr (none_back b.keep b.pool z)
  · obtain ⟨a', h1, h2, h3, h4, _⟩ := b.mine h m
    rw [e] at h1; cases h1
    rcases z.1 with z | z
    · exact h2 z
    · exact h4 z
theorem BR.set (b : BR K p sc Z0 H0 Z σ H ρ q) {i : Nat} {v : V} {d : D} (r : Rp K Z H v d) : BR K p sc Z0 H0 Z (σ.set i (some v)) H (ρ.set i (some (.dat d))) q := by
  refine ⟨b.keep, b.pool0, b.pool, b.nz0, b.nz, b.zs, b.zz, by rw [List.length_set, List.length_set]; exact b.len, fun j s h => ?_, fun j k a s t jk h1 m1 h2 m2 e1 e2 => ?_⟩
  · by_cases hj : j = i
    · subst hj
      have hlt : j < ρ.length := by
        have z := (List.getElem?_eq_some_iff.mp h).1
        rwa [List.length_set] at z
      rw [List.getElem?_set_self hlt] at h
      cases h
      exact ⟨v, by rw [List.getElem?_set_self (b.len ▸ hlt)], r⟩
    · rw [List.getElem?_set_ne (Ne.symm hj)] at h
      have z := b.slot j s h
      have e : (σ.set i (some v))[j]? = σ[j]? := List.getElem?_set_ne (Ne.symm hj)
      cases s with
      | dat d => obtain ⟨v, h1, h2⟩ := z; exact ⟨v, e.trans h1, h2⟩
      | pool => exact e.trans z
      | own ds => obtain ⟨a, vs, h1, h2⟩ := z; exact ⟨a, vs, e.trans h1, h2⟩
      | odic ds => obtain ⟨a, vs, h1, h2⟩ := z; exact ⟨a, vs, e.trans h1, h2⟩
      | odicT ds => obtain ⟨a, vs, h1, h2⟩ := z; exact ⟨a, vs, e.trans h1, h2⟩
  · have key : ∀ (j : Nat) (s : Slot), (ρ.set i (some (.dat d)))[j]? = some (some s) → s.mine = true → j ≠ i := fun j s h m hj => by
      subst hj
      have hlt : j < ρ.length := by
        have z := (List.getElem?_eq_some_iff.mp h).1
        rwa [List.length_set] at z
      rw [List.getElem?_set_self hlt] at h
      cases h
      cases m
    have n1 := key j s h1 m1
    have n2 := key k t h2 m2
    rw [List.getElem?_set_ne (Ne.symm n1)] at h1 e1
    rw [List.getElem?_set_ne (Ne.symm n2)] at h2 e2
    exact b.dist j k a s t jk h1 m1 h2 m2 e1 e2
theorem BR.sets : ∀ (l : List (Nat × V × D)) {σ : L2.St} {ρ : Rho}, BR K p sc Z0 H0 Z σ H ρ q → (∀ x ∈ l, Rp K Z H x.2.1 x.2.2) → BR K p sc Z0 H0 Z (setsV l σ) H (setsR l ρ) q
  | [], _, _, b, _ => b
  | x :: l, σ, ρ, b, h => BR.sets l (b.set (h x List.mem_cons_self)) fun y hy => h y (List.mem_cons_of_mem _ hy)
end
def PostS (K : PySem.W.Frag) (mg : Str → Option Value) (p sc : Addr) (Z0 : Rg) (H0 : Hp) (Z : Rg) (H : Hp) (W : WX) (E : Ends) : R Out → Prop
  | .ok (.next ρ') q' => ∀ Z' σ' H', BR K p sc Z0 H0 Z' σ' H' ρ' q' → (∀ b, Z b → Z' b) → Stand Z H H' → E.nx σ' H'
  | .ok (.ret d) q' => ∀ v H', Keep p H0 H' → PoolAt p sc H' q' → Rp K (Zn Z0 H0) H' v d → E.rt v H'
  | .ok (.brk ρ') q' => ∀ Z' σ' H', BR K p sc Z0 H0 Z' σ' H' ρ' q' → (∀ b, Z b → Z' b) → Stand Z H H' → E.bk σ' H'
  | .ok (.cont ρ') q' => ∀ Z' σ' H', BR K p sc Z0 H0 Z' σ' H' ρ' q' → (∀ b, Z b → Z' b) → Stand Z H H' → E.ct σ' H'
  | .err x q' => ∀ c od σ' H', Keep p H0 H' → PoolAt p sc H' q' → ExR mg H' x c od → W c od σ' H'
  | .stuck => False
def RdS (K : PySem.W.Frag) (mg : Str → Option Value) (W : WX) (t : TS) (F : DS) : Prop := ∀ (p sc : Addr) (Z0 : Rg) (H0 : Hp) (Z : Rg) (σ : L2.St) (H : Hp) (ρ : Rho) (q : Pool) (E : Ends), BR K p sc Z0 H0 Z σ H ρ q → PostS K mg p sc Z0 H0 Z H W E (F ρ q) → t E σ H
def PSd (X : Cx) (W : WX) (s : Stmt) (F : DS) : Prop := ∃ t, PS X s t ∧ RdS X.K X.mg W t F
def PSsd (X : Cx) (W : WX) (s : List Stmt) (F : DS) : Prop := ∃ t, PSs X s t ∧ RdS X.K X.mg W t F
section
variable {K : PySem.W.Frag} {mg : Str → Option Value} {p sc : Addr} {Z0 Z Z' : Rg} {H0 H H1 : Hp} {W : WX} {E : Ends} {r : R Out}
theorem PostS.later (h : PostS K mg p sc Z0 H0 Z H W E r) (zz : ∀ b, Z b → Z' b) (st : Stand Z H H1) : PostS K mg p sc Z0 H0 Z' H1 W E r := by
  cases r with
  | ok o q =>
    cases o with
    | next ρ => exact fun Z2 σ2 H2 b z s => h Z2 σ2 H2 b (fun c x => z c (zz c x)) (st.trans (s.sub zz))
    | ret d => exact h
    | brk ρ => exact fun Z2 σ2 H2 b z s => h Z2 σ2 H2 b (fun c x => z c (zz c x)) (st.trans (s.sub zz))
    | cont ρ => exact fun Z2 σ2 H2 b z s => h Z2 σ2 H2 b (fun c x => z c (zz c x)) (st.trans (s.sub zz))
  | err x q => exact h
  | stuck => exact h
theorem PostS.ex {α β : Type} {Rel : Hp → β → α → Prop} {m : M α} {f : α → M Out} {q : Pool} {σ : L2.St} {ρ : Rho} {Q : β → Hp → Prop} (b : BR K p sc Z0 H0 Z σ H ρ q) (h : PostS K mg p sc Z0 H0 Z H W E (M.bnd m f q))
    (hq : ∀ a q1 c H1, m q = .ok a q1 → Keep p H H1 → PoolAt p sc H1 q1 → Rel H1 c a → PostS K mg p sc Z0 H0 Z H1 W E (f a q1) → Q c H1) : Post mg p sc H Rel (fun c od H' => W c od σ H') Q (m q) := by
  unfold M.bnd at h
  cases e : m q with
  | ok a q1 =>
    rw [e] at h
    exact fun c H1 k pl r => hq a q1 c H1 e k pl r (PostS.later h (fun _ x => x) (k.stand b.pool b.nz))
  | err x q1 =>
    rw [e] at h
    exact fun c od H' k pl r => h c od σ H' (b.keep.trans k) pl r
  | stuck => rw [e] at h; exact h.elim
end
section
variable {X : Cx} {W : WX} {s : Stmt} {ss : List Stmt} {A B : DS} {e tg : Expr} {F : DE} {g : Tgt} {is : List Nat} {pos : Pos}
theorem sd_nil : PSsd X W [] sNil := ⟨_, pss_nil, fun p sc Z0 H0 Z σ H ρ q E b h => h Z σ H b (fun _ x => x) (Stand.refl _ _)⟩
theorem rds_seq {t u : TS} (ha : RdS X.K X.mg W t A) (hb : RdS X.K X.mg W u B) : RdS X.K X.mg W (tSeq t u) (sSeq A B) := by
  intro p sc Z0 H0 Z σ H ρ q E b h
  refine ha p sc Z0 H0 Z σ H ρ q { E with nx := u E } b ?_
  unfold sSeq M.bnd at h
  cases e : A ρ q with
  | ok o q1 =>
    rw [e] at h
    cases o with
    | next ρ1 => exact fun Z1 σ1 H1 b1 z1 s1 => hb p sc Z0 H0 Z1 σ1 H1 ρ1 q1 E b1 (PostS.later h z1 s1)
    | ret d => exact h
    | brk ρ1 => exact h
    | cont ρ1 => exact h
  | err x q1 => rw [e] at h; exact h
  | stuck => rw [e] at h; exact h
theorem sd_cons (ha : PSd X W s A) (hb : PSsd X W ss B) : PSsd X W (s :: ss) (sSeq A B) := by
  obtain ⟨t, h1, h2⟩ := ha
  obtain ⟨u, g1, g2⟩ := hb
  exact ⟨_, pss_cons h1 g1, rds_seq h2 g2⟩
theorem sd_one (ha : PSd X W s A) : PSsd X W [s] A := by
  obtain ⟨t, h1, h2⟩ := ha
  exact ⟨_, pss_one h1, h2⟩
theorem sd_ret (ha : PDe X W e F) : PSd X W (.Return (some e) pos) (sRet F) := by
  obtain ⟨t, h1, h2⟩ := ha
  refine ⟨_, ps_ret h1, fun p sc Z0 H0 Z σ H ρ q E b h => ?_⟩
  refine h2 p sc _ σ H ρ q _ b.sit (PostS.ex (Rel := fun H' v d => Rp X.K (Zn (Zo Z σ ρ) H) H' v d) b h fun d q1 v H1 e k pl r hp => ?_)
  exact hp v H1 (b.keep.trans k) pl (r.grow b.zo)
theorem sd_if {c : Expr} {ss1 ss2 : List Stmt} {T : DT} (hc : PDt X W c T) (ha : PSsd X W ss1 A) (hb : PSsd X W ss2 B) : PSd X W (.If c ss1 ss2 pos) (sIf T A B) := by
  obtain ⟨t, h1, h2⟩ := hc
  obtain ⟨u, g1, g2⟩ := ha
  obtain ⟨v, k1, k2⟩ := hb
  refine ⟨_, ps_if h1 g1 k1, fun p sc Z0 H0 Z σ H ρ q E b h => ?_⟩
  refine h2 p sc _ σ H ρ q _ b.sit (PostS.ex (Rel := fun _ c b => c = b) b h fun d q1 c H1 e k pl r hp => ?_)
  subst r
  have b1 := b.next k pl
  cases c with
  | true => exact g2 p sc Z0 H0 Z σ H1 ρ q1 E b1 hp
  | false => exact k2 p sc Z0 H0 Z σ H1 ρ q1 E b1 hp
theorem tgt_go {p sc : Addr} {Z0 Z : Rg} {H0 H : Hp} {σ : L2.St} {ρ : Rho} {q : Pool} {E : Ends} {t : TG} {v : V} {d : D} (hg : TgR X.K is t g) (ok : TgOk g) (b : BR X.K p sc Z0 H0 Z σ H ρ q) (r : Rp X.K Z H v d)
    (h : PostS X.K X.mg p sc Z0 H0 Z H W E (M.bnd (g d ρ) (fun ρ' => M.ret (.next ρ')) q)) : t v σ H E.nx := by
  unfold M.bnd at h
  rcases ok d ρ q with ⟨ρ', e⟩ | e
  · rw [e] at h
    refine hg Z σ H ρ ρ' q q v d _ r e fun l hl e1 _ => ?_
    subst e1
    exact h Z (setsV l σ) H (BR.sets l b fun x hx => (hl x hx).2) (fun _ x => x) (Stand.refl _ _)
  · rw [e] at h; exact h.elim
theorem rds_asg {te : TE} {t : TG} (h2 : Rd1 X W (RpF X.K) te F) (hg : TgR X.K is t g) (ok : TgOk g) : RdS X.K X.mg W (tAsg te t) (sAsg g F) := by
  intro p sc Z0 H0 Z σ H ρ q E b h
  refine h2 p sc _ σ H (hideR ρ) q _ b.sitH (PostS.ex (Rel := fun H' v d => Rp X.K (Zn Z H) H' v d) b h fun d q1 v H1 e k pl r hp => ?_)
  have b1 := b.after k pl
  exact tgt_go hg ok b1 (r.sub fun c z n => ⟨z, n⟩) (PostS.later hp (fun c z => ⟨.inl z, (b.next k pl).zs c z⟩) (Stand.refl _ _))
theorem rds_asgF {te : TE} {t : TG} (h2 : Rd1 X W (RpF X.K) te F) (hg : TgR X.K is t g) (ok : TgOk g) : RdS X.K X.mg W (tAsg te t) (sAsgF g F) := by
  intro p sc Z0 H0 Z σ H ρ q E b h
  refine h2 p sc _ σ H ρ q _ b.sit (PostS.ex (Rel := fun H' v d => Rp X.K (Zn (Zo Z σ ρ) H) H' v d) b h fun d q1 v H1 e k pl r hp => ?_)
  by_cases hf : flatD d = true
  · rw [if_pos hf] at hp
    exact tgt_go hg ok (b.next k pl) (r.flat hf) hp
  · rw [if_neg hf] at hp
    exact hp.elim
theorem sd_asg {i : Nat} {x : Str} {pos' : Pos} (hN : X.N.Nodup) (he : PDe X W e F) (hi : X.N[i]? = some x := by rfl) (hx : Loc X.env.scope x := by first | exact Or.inl rfl | exact Or.inr rfl) (hs : swapsWith e (some (.Name x pos')) pos.line X.env = pure false := by rfl)
    (hf : X.fn x = true ∨ X.env.scope.names.lookup x = some .local := by first | exact .inl rfl | exact .inr rfl | assumption) : PSd X W (.Assign [.Name x pos'] e pos) (sAsg (gN i) F) := by
  obtain ⟨t, h1, h2⟩ := he
  exact ⟨_, ps_set hN hi hx h1 hs hf, rds_asg (is := [i]) h2 (fun Z σ H ρ ρ' q q' v d Q r e k => by
    cases e
    exact k [(i, v, d)] (by simpa using r) rfl rfl) fun d ρ q => .inl ⟨_, rfl⟩⟩
theorem sd_tgt (he : PDe X W e F) (hg : PGd X is tg g) (hs : swapsWithSole [tg] e pos.line X.env = pure false := by rfl) (hw : swappedStores [tg] e X.env = pure none := by rfl) (h3 : (assignEach [tg] X.env).map (·.2) = [assign tg X.env] := by rfl) : PSd X W (.Assign [tg] e pos) (sAsg g F) := by
  obtain ⟨t, h1, h2⟩ := he
  obtain ⟨u, g1, g2, g3⟩ := hg
  exact ⟨_, ps_asg h1 g1 hs hw h3, rds_asg h2 g2 g3⟩
end

section
variable {K : PySem.W.Frag} {p sc : Addr} {Z0 Z Z' : Rg} {H0 H H1 : Hp} {σ : L2.St} {ρ : Rho} {q q1 : Pool}
theorem BR.mkOwn (b : BR K p sc Z0 H0 Z σ H ρ q) {i : Nat} {a : Addr} {vs : List V} {ds : List D} (ha : H a = some (.lst vs)) (nz : ¬ Z a) (h0 : H0 a = none) (rs : RpL K Z H vs ds)
    (no : ∀ (j : Nat) s, ρ[j]? = some (some s) → s.mine = true → σ[j]? ≠ some (some (V.ref a))) : BR K p sc Z0 H0 Z (σ.set i (some (.ref a))) H (ρ.set i (some (.own ds))) q := by
  refine ⟨b.keep, b.pool0, b.pool, b.nz0, b.nz, b.zs, b.zz, by rw [List.length_set, List.length_set]; exact b.len, fun j s h => ?_, fun j k a' s t jk h1 m1 h2 m2 e1 e2 => ?_⟩
  · by_cases hj : j = i
    · subst hj
      have hlt : j < ρ.length := by
        have z := (List.getElem?_eq_some_iff.mp h).1
        rwa [List.length_set] at z
      rw [List.getElem?_set_self hlt] at h
      cases h
      exact ⟨a, vs, by rw [List.getElem?_set_self (b.len ▸ hlt)], ha, nz, h0, rs⟩
    · rw [List.getElem?_set_ne (Ne.symm hj)] at h
      have z := b.slot j s h
      have e : (σ.set i (some (.ref a)))[j]? = σ[j]? := List.getElem?_set_ne (Ne.symm hj)
      cases s with
      | dat d => obtain ⟨v, h1, h2⟩ := z; exact ⟨v, e.trans h1, h2⟩
      | pool => exact e.trans z
      | own ds => obtain ⟨a, vs, h1, h2⟩ := z; exact ⟨a, vs, e.trans h1, h2⟩
      | odic ds => obtain ⟨a, vs, h1, h2⟩ := z; exact ⟨a, vs, e.trans h1, h2⟩
      | odicT ds => obtain ⟨a, vs, h1, h2⟩ := z; exact ⟨a, vs, e.trans h1, h2⟩
  · have lt : ∀ (j : Nat) (s : Slot), (ρ.set i (some (.own ds)))[j]? = some (some s) → j < ρ.length := fun j s h => by
      have z := (List.getElem?_eq_some_iff.mp h).1
      rwa [List.length_set] at z
    by_cases n1 : j = i
    · by_cases n2 : k = i
      · exact jk (n1.trans n2.symm)
      · subst n1
        rw [List.getElem?_set_self (b.len ▸ lt j s h1)] at e1
        cases e1
        rw [List.getElem?_set_ne (Ne.symm n2)] at h2 e2
        exact no k t h2 m2 e2
    · by_cases n2 : k = i
      · subst n2
        rw [List.getElem?_set_self (b.len ▸ lt k t h2)] at e2
        cases e2
        rw [List.getElem?_set_ne (Ne.symm n1)] at h1 e1
        exact no j s h1 m1 e1
      · rw [List.getElem?_set_ne (Ne.symm n1)] at h1 e1
        rw [List.getElem?_set_ne (Ne.symm n2)] at h2 e2
        exact b.dist j k a' s t jk h1 m1 h2 m2 e1 e2
theorem BR.chOwn (b : BR K p sc Z0 H0 Z σ H ρ q) {i : Nat} {a : Addr} {vs ws : List V} {ds es : List D} (hi : ρ[i]? = some (some (.own ds))) (hs : σ[i]? = some (some (.ref a))) (ha : H a = some (.lst vs)) (rs : RpL K Z H ws es) :
    BR K p sc Z0 H0 Z σ (upd H a (.lst ws)) (ρ.set i (some (.own es))) q ∧ Stand Z H (upd H a (.lst ws)) := by
  obtain ⟨a', g1, g2, g3, g4, g5, g6⟩ := b.mine hi rfl
  rw [hs] at g1; cases g1
  have st : Stand Z H (upd H a (.lst ws)) := own_stand ha g2
  refine ⟨⟨fun c o hc e => ?_, b.pool0, ⟨by rw [upd_ne (Ne.symm g5)]; exact b.pool.1, by rw [upd_ne (Ne.symm g6)]; exact b.pool.2.1, b.pool.2.2.1, tabs_upd b.pool.2.2.2 (fun u e => by rw [ha] at e; cases e; exact ⟨nt_l, fun _ z => nomatch z⟩)⟩, b.nz0, b.nz, fun c z n => ?_, b.zz, by rw [List.length_set]; exact b.len, fun j s h => ?_, fun j k a' s t jk h1 m1 h2 m2 e1 e2 => ?_⟩, st⟩
  · rw [upd_ne (ne_of_none e g3)]
    exact b.keep c o hc e
  · rw [upd_ne (fun e => g2 (by rw [← e]; exact z))] at n
    exact b.zs c z n
  · by_cases hj : j = i
    · subst hj
      have hlt : j < ρ.length := (List.getElem?_eq_some_iff.mp hi).1
      rw [List.getElem?_set_self hlt] at h
      cases h
      exact ⟨a, ws, hs, upd_same, g2, g3, rs.stand st⟩
    · rw [List.getElem?_set_ne (Ne.symm hj)] at h
      have z := b.slot j s h
      cases s with
      | dat d => obtain ⟨v, h1, h2⟩ := z; exact ⟨v, h1, h2.stand st⟩
      | pool => exact z
      | own ds' =>
        obtain ⟨c, vs', h1, h2, h3, h4, h5⟩ := z
        have ne : c ≠ a := fun e => by subst e; exact b.dist j i c _ _ hj h rfl hi rfl h1 hs
        exact ⟨c, vs', h1, by rw [upd_ne ne]; exact h2, h3, h4, h5.stand st⟩
      | odic ds' =>
        obtain ⟨c, vs', h1, h2, h3, h4, h5, h6⟩ := z
        have ne : c ≠ a := fun e => by subst e; exact b.dist j i c _ _ hj h rfl hi rfl h1 hs
        exact ⟨c, vs', h1, by rw [upd_ne ne]; exact h2, h3, h4, h5, h6.stand st⟩
      | odicT ds' =>
        obtain ⟨c, vs', h1, h2, h3, h4, h5, h6⟩ := z
        have ne : c ≠ a := fun e => by subst e; exact b.dist j i c _ _ hj h rfl hi rfl h1 hs
        exact ⟨c, vs', h1, by rw [upd_ne ne]; exact h2, h3, h4, h5, h6.stand st⟩
  · have back : ∀ (j : Nat) (s : Slot), (ρ.set i (some (.own es)))[j]? = some (some s) → s.mine = true → ∃ s', ρ[j]? = some (some s') ∧ s'.mine = true := fun j s h m => by
      by_cases hj : j = i
      · subst hj; exact ⟨_, hi, rfl⟩
      · rw [List.getElem?_set_ne (Ne.symm hj)] at h
        exact ⟨s, h, m⟩
    obtain ⟨s', k1, k2⟩ := back j s h1 m1
    obtain ⟨t', k3, k4⟩ := back k t h2 m2
    exact b.dist j k a' s' t' jk k1 k2 k3 k4 e1 e2
end
section
variable {X : Cx} {W : WX} {s : Stmt} {ss : List Stmt} {A B : DS} {e tg : Expr} {F : DE} {g : Tgt} {is : List Nat} {pos : Pos}
theorem rds_own {te : TE} {i : Nat} (h2 : Rd1 X W (NewF X.K) te F) : RdS X.K X.mg W (tAsg te (gName i)) (sOwn i F) := by
  intro p sc Z0 H0 Z σ H ρ q E b h
  refine h2 p sc _ σ H (hideR ρ) q _ b.sitH (PostS.ex (Rel := fun H' v d => NewF X.K p Z H H' v d) b h fun d q1 v H1 e k pl r hp => ?_)
  obtain ⟨a, vs, ds, rfl, rfl, g1, g2, g3⟩ := r
  have b1 := b.next k pl
  -- the region without a
  have b2 : BR X.K p sc Z0 H0 (fun c => (Zn Z H c ∧ H1 c ≠ none) ∧ c ≠ a) σ H1 ρ q1 := by
    refine b1.grow (fun c z => ⟨⟨.inl z, b1.zs c z⟩, fun e => by rw [e] at z; exact b.zs a z g1⟩) (fun c z => z.1.2) (fun c z => ?_) (fun z => Zn.nop b.pool b.nz z.1.1) fun j s c hj m e z => ?_
    · rcases z.1.1 with z | z
      · exact b.zz c z
      · exact .inr (none_back b.keep b.pool z)
    · obtain ⟨a', k1, k2, k3, k4, _⟩ := b.mine hj m
      rw [e] at k1; cases k1
      rcases z.1.1 with z | z
      · exact k2 z
      · exact k4 z
  refine hp (fun c => (Zn Z H c ∧ H1 c ≠ none) ∧ c ≠ a) (σ.set i (some (.ref a))) H1 (b2.mkOwn g2 (fun z => z.2 rfl) (none_back b.keep b.pool g1) (g3.sub fun c z n => ⟨⟨z.1, n⟩, z.2⟩) fun j s hj m e => ?_) (fun c z => ⟨⟨.inl z, b1.zs c z⟩, fun e => by rw [e] at z; exact b.zs a z g1⟩) (Stand.refl _ _)
  obtain ⟨a', k1, k2, k3, k4, _⟩ := b.mine hj m
  rw [e] at k1; cases k1
  exact k4 g1
theorem sd_own {i : Nat} {x : Str} {pos' : Pos} (hN : X.N.Nodup) (he : PDf X W e F) (hi : X.N[i]? = some x := by rfl) (hx : Loc X.env.scope x := by first | exact Or.inl rfl | exact Or.inr rfl) (hs : swapsWith e (some (.Name x pos')) pos.line X.env = pure false := by rfl)
    (hf : X.fn x = true ∨ X.env.scope.names.lookup x = some .local := by first | exact .inl rfl | exact .inr rfl | assumption) : PSd X W (.Assign [.Name x pos'] e pos) (sOwn i F) := by
  obtain ⟨t, h1, h2⟩ := he
  exact ⟨_, ps_set hN hi hx h1 hs hf, rds_own h2⟩
end

section
variable {X : Cx} {W : WX} {s : Stmt} {ss : List Stmt} {A B : DS} {e tg elt iter : Expr} {F : DE} {g : Tgt} {is : List Nat} {pos : Pos}
theorem ps_lc {i : Nat} {y : Str} {py spos : Pos} {own : List (Str × Nat)} {ifs : List Expr} {scope : Scope} {it : DI} {T : DT} (hc : X.calm = true) (hN : X.N.Nodup) (hsw : swapsWith (.ListComp elt [⟨tg, iter, ifs, 0⟩] scope pos) (some (.Name y py)) spos.line X.env = pure true) (hi : PId X W tg iter it) (ok : BlkOk X.N X.env.scope scope own) (his : ∀ i ∈ is, i ∈ own.map (·.2))
    (hg : ∀ (s : Shared) (H : Hp) (C : Addr) (cl : List (Str × Addr)) (fp : List Addr), PGd (X.blk s H scope (compEnvC scope cl C X.env) fp) is tg g) (ht : ∀ (s : Shared) (H : Hp) (C : Addr) (cl : List (Str × Addr)) (fp : List Addr), PTsd (X.blk s H scope (compEnvC scope cl C X.env) fp) W0 ifs T)
    (he : ∀ (s : Shared) (H : Hp) (C : Addr) (cl : List (Str × Addr)) (fp : List Addr), PDe (X.blk s H scope (compEnvC scope cl C X.env) fp) W0 elt F) (hgo : TgOk g) (hy : X.N[i]? = some y := by rfl) (hyl : X.env.scope.names.lookup y = some .local := by rfl) (hs : ∀ x, foldedSetIterable iter X.env x = pure x := by intro _; rfl) :
    ∃ t, PS X (.Assign [.Name y py] (.ListComp elt [⟨tg, iter, ifs, 0⟩] scope pos) spos) (tAsg t (gName i)) ∧ Rd1 X W (NewF X.K) t (dComp (own.map (·.2)) it g T F) := by
  obtain ⟨wi, h1, h2⟩ := hi
  exact ⟨_, ps_setLc hc hN hy hyl hsw h1 ok (fun s H C cl fp => (hg s H C cl fp).run) (fun s H C cl fp => (ht s H C cl fp).run) (fun s H C cl fp => (he s H C cl fp).run) hs, rd_comp h2 his hgo⟩
theorem sd_app {i : Nat} {x : Str} {a0 : Expr} {p1 p2 p3 p4 : Pos} (ha : PDe X W a0 F) (hN : X.N[i]? = some x := by rfl) (hv : Vis X.env.scope x := by first | exact Or.inl rfl | exact Or.inr (Or.inl rfl) | exact Or.inr (Or.inr rfl))
    (hd : (x == ("__debug__" : Str)) = false := by decide) (hcd : (x == ("__classdict__" : Str)) = false := by decide)
    (hbase : attributeBase (.Name x p1) "append" X.env (eval (.Name x p1) X.env) = eval (.Name x p1) X.env := by rfl)
    (hfew : ((backTo p3 (starEach (a0 :: []) X.env)).all (fun x => !x.1) && (backToKw p3 (keywordEach [] X.env)).all (fun x => x.1.isSome)
      && decide ((a0 :: []).length + ([] : List Keyword).length + (if ([] : List Keyword).isEmpty then 0 else 1) < 30)) = true := by rfl)
    (hline : (p2.endLine == p3.line) = true := by rfl) (hs : starEach (a0 :: []) X.env = (false, eval a0 X.env) :: starEach [] X.env := by rfl) (hplain : (backTo p3 (starEach [] X.env)).any (·.1) = false := by rfl)
    (hsw : swapsWith (.Call (.Attribute (.Name x p1) "append" p2) [a0] [] p3) none p4.line X.env = pure false := by rfl) :
    PSd X W (.Expr (.Call (.Attribute (.Name x p1) "append" p2) [a0] [] p3) p4) (sApp i F) ∧ PSd X W (.Expr (.Call (.Attribute (.Name x p1) "append" p2) [a0] [] p3) p4) (sAppF i F) := by
  obtain ⟨t, h1, h2⟩ := ha
  have hps := ps_expr (X := X) (pos := p4) (pe_bm PySem.F.plainAttrs_list PySem.F.slot_list_append PySem.F.type_list_append mt_append (pe_var (pos := p1) hN hv hd hcd) (pa_cons h1 pa_nil hs) hbase hfew hline hs hplain) hsw
  refine ⟨⟨_, hps, fun p sc Z0 H0 Z σ H ρ q E b h => ?_⟩, ⟨_, hps, fun p sc Z0 H0 Z σ H ρ q E b h => ?_⟩⟩
  · unfold sApp at h
    cases e : ρ[i]? with
    | none => rw [e] at h; exact h.elim
    | some o =>
      cases o with
      | none => rw [e] at h; exact h.elim
      | some sl =>
        cases sl with
        | own ds =>
          rw [e] at h
          dsimp only at h
          obtain ⟨a', vs', h1', h2', h3', h4', h5'⟩ := b.slot i _ e
          refine ⟨.ref a', h1', .inl ⟨rfl, _, .inl (.inl h2')⟩, ?_⟩
          refine h2 p sc _ σ H (hideR ρ) q _ b.sitH (PostS.ex (Rel := fun H' v d => Rp X.K (Zn Z H) H' v d) b h fun d q1 v H1 e1 k pl r hp => ?_)
          have b1 := b.after k pl
          by_cases hl : ds.length < lineMax
          · rw [if_pos hl] at hp
            obtain ⟨a'', vs, g1, g2, g3, g4, g5⟩ := b1.slot i _ e
            rw [h1'] at g1; cases g1
            have z := b1.chOwn e h1' g2 (g5.append (.one (r.sub fun c z n => ⟨z, n⟩)))
            exact ⟨a', vs, v, rfl, rfl, g2, by rw [g5.length]; exact hl, hp _ σ _ z.1 (fun c z => ⟨.inl z, (b.next k pl).zs c z⟩) (z.2.sub fun c z => ⟨.inl z, (b.next k pl).zs c z⟩)⟩
          · rw [if_neg hl] at hp; exact hp.elim
        | dat d => rw [e] at h; exact h.elim
        | pool => rw [e] at h; exact h.elim
        | odic d => rw [e] at h; exact h.elim
        | odicT d => rw [e] at h; exact h.elim
  · unfold sAppF at h
    cases e : ρ[i]? with
    | none => rw [e] at h; exact h.elim
    | some o =>
      cases o with
      | none => rw [e] at h; exact h.elim
      | some sl =>
        cases sl with
        | own ds =>
          rw [e] at h
          dsimp only at h
          obtain ⟨a', vs', h1', h2', h3', h4', h5'⟩ := b.slot i _ e
          refine ⟨.ref a', h1', .inl ⟨rfl, _, .inl (.inl h2')⟩, ?_⟩
          refine h2 p sc _ σ H ρ q _ b.sit (PostS.ex (Rel := fun H' v d => Rp X.K (Zn (Zo Z σ ρ) H) H' v d) b h fun d q1 v H1 e1 k pl r hp => ?_)
          have b1 := b.next k pl
          by_cases hl : ds.length < lineMax ∧ flatD d = true
          · rw [if_pos hl] at hp
            obtain ⟨a'', vs, g1, g2, g3, g4, g5⟩ := b1.slot i _ e
            rw [h1'] at g1; cases g1
            have z := b1.chOwn e h1' g2 (g5.append (.one (r.flat hl.2)))
            exact ⟨a', vs, v, rfl, rfl, g2, by rw [g5.length]; exact hl.1, hp _ σ _ z.1 (fun c z => z) z.2⟩
          · rw [if_neg hl] at hp; exact hp.elim
        | dat d => rw [e] at h; exact h.elim
        | pool => rw [e] at h; exact h.elim
        | odic d => rw [e] at h; exact h.elim
        | odicT d => rw [e] at h; exact h.elim
theorem sd_for {it : DI} (hp : PassesOwn (model X.prog X.w) X.A X.env X.xe) (hc : X.calm = true) (hi : PId X W tg iter it) (hg : PGd X is tg g) (hb : PSsd X W ss B) (hs : ∀ x, foldedSetIterable iter X.env x = pure x := by intro _; rfl) :
    PSd X W (.For tg iter ss [] pos) (sFor it g B) := by
  obtain ⟨wi, h1, h2⟩ := hi
  obtain ⟨u, g1, g2, g3⟩ := hg
  obtain ⟨v, k1, k2⟩ := hb
  refine ⟨_, ps_for hp hc h1 g1 k1 hs, fun p sc Z0 H0 Z σ H ρ q E b h => ?_⟩
  refine h2 p sc _ σ H (hideR ρ) q _ b.sitH (PostS.ex (Rel := fun H' J ds => WaF X.K p Z H H' J ds) b h fun ds q1 J H1 e k pl wk hp1 => ?_)
  have b1 := b.after k pl
  have st1 : ∀ H', Stand (Zh Z H H1) H1 H' → Stand (Zn Z H) H1 H' := fun H' s => ⟨fun c o z n hc => s.rg c o ⟨z, by rw [hc]; exact Option.some_ne_none _⟩ n hc, s.tup, s.frz⟩
  refine ⟨fun i m σ' H' => m = ds.length - i ∧ i ≤ ds.length ∧ ∃ Z' ρ' q', BR X.K p sc Z0 H0 Z' σ' H' ρ' q' ∧ (∀ c, Zh Z H H1 c → Z' c) ∧ Stand (Zh Z H H1) H1 H' ∧ PostS X.K X.mg p sc Z0 H0 Z' H' W E (forGo g B (ds.drop i) ρ' q'),
    ⟨ds.length, by simp, Nat.zero_le _, _, ρ, q1, b1, fun _ z => z, Stand.refl _ _, by rw [List.drop_zero]; exact PostS.later hp1 (fun c z => ⟨.inl z, (b.next k pl).zs c z⟩) (Stand.refl _ _)⟩, ?_⟩
  rintro i m σ' H' ⟨rfl, hi, Z', ρ', q', b', zs', st', hp'⟩
  obtain ⟨w1, w2⟩ := wk H' (st1 H' st')
  by_cases hlt : i < ds.length
  · refine .inr ?_
    obtain ⟨go, yl⟩ := w1 i _ (List.getElem?_eq_getElem hlt)
    refine ⟨go, fun σ2 H2 => ∃ Z' ρ' q', BR X.K p sc Z0 H0 Z' σ2 H2 ρ' q' ∧ (∀ c, Zh Z H H1 c → Z' c) ∧ Stand (Zh Z H H1) H1 H2 ∧ PostS X.K X.mg p sc Z0 H0 Z' H2 W E (forGo g B (ds.drop (i + 1)) ρ' q'), fun σ2 H2 n => ⟨ds.length - (i + 1), by omega, rfl, hlt, n⟩, fun x H'' y => ?_⟩
    obtain ⟨sm, rx⟩ := yl x H'' y
    have kk : Keep p H' H'' := Keep.of fun c o _ hc => sm c o hc
    have b2 := b'.next (q1 := q') kk ⟨sm _ _ b'.pool.1, sm _ _ b'.pool.2.1, b'.pool.2.2.1, b'.pool.2.2.2.ext sm⟩
    rw [List.drop_eq_getElem_cons hlt] at hp'
    have hp2 : PostS X.K X.mg p sc Z0 H0 Z' H'' W E (forGo g B (ds[i] :: ds.drop (i + 1)) ρ' q') := PostS.later hp' (fun _ z => z) (kk.stand b'.pool b'.nz)
    unfold forGo M.bnd at hp2
    rcases g3 ds[i] ρ' q' with ⟨ρ1, eg⟩ | eg
    · rw [eg] at hp2
      refine g2 Z' σ' H'' ρ' ρ1 q' q' x ds[i] _ (rx.grow fun c z => zs' c z) eg fun l hl e1 _ => ?_
      subst e1
      have b3 := BR.sets l b2 fun x hx => (hl x hx).2
      refine k2 p sc Z0 H0 Z' _ H'' _ q' _ b3 ?_
      dsimp only at hp2
      have stN : ∀ {H2 : Hp}, Stand Z' H'' H2 → Stand (Zh Z H H1) H1 H2 := fun s => st'.trans (((kk.stand b'.pool b'.nz).sub zs').trans (s.sub zs'))
      cases eb : B (setsR l ρ') q' with
      | ok o q2 =>
        rw [eb] at hp2
        cases o with
        | next ρ2 => exact fun Z2 σ2 H2 b4 z2 s2 => ⟨Z2, ρ2, q2, b4, fun c z => z2 c (zs' c z), stN s2, PostS.later hp2 z2 s2⟩
        | cont ρ2 => exact fun Z2 σ2 H2 b4 z2 s2 => ⟨Z2, ρ2, q2, b4, fun c z => z2 c (zs' c z), stN s2, PostS.later hp2 z2 s2⟩
        | brk ρ2 => exact fun Z2 σ2 H2 b4 z2 s2 => hp2 Z2 σ2 H2 b4 z2 s2
        | ret d => exact hp2
      | err x q2 => rw [eb] at hp2; exact hp2
      | stuck => rw [eb] at hp2; exact hp2
    · rw [eg] at hp2
      exact hp2.elim
  · have ei : i = ds.length := by omega
    subst ei
    rw [List.drop_length] at hp'
    exact .inl ⟨w2 _ (Nat.le_refl _), hp' Z' σ' H' b' (fun _ z => z) (Stand.refl _ _)⟩
theorem sd_while {n : Nat} {c : Expr} {T : DT} (hp : PassesOwn (model X.prog X.w) X.A X.env X.xe) (ht : PDt X W c T) (hb : PSsd X W ss B) : PSd X W (.While c ss [] pos) (sWhile n T B) := by
  obtain ⟨t, h1, h2⟩ := ht
  obtain ⟨v, k1, k2⟩ := hb
  refine ⟨_, ps_while hp h1 k1, fun p sc Z0 H0 Z σ H ρ q E b h => ?_⟩
  refine ⟨fun m σ' H' => ∃ Z' ρ' q', BR X.K p sc Z0 H0 Z' σ' H' ρ' q' ∧ PostS X.K X.mg p sc Z0 H0 Z' H' W E (whileGo T B m ρ' q'), ⟨n, Z, ρ, q, b, h⟩, ?_⟩
  rintro m σ' H' ⟨Z', ρ', q', b', hp'⟩
  cases m with
  | zero => exact hp'.elim
  | succ m =>
    unfold whileGo at hp'
    refine h2 p sc _ σ' H' ρ' q' _ b'.sit (PostS.ex (Rel := fun _ c b => c = b) b' hp' fun d q1 c H1 e k pl r hp1 => ?_)
    subst r
    have b1 := b'.next k pl
    cases c with
    | false => exact hp1 Z' σ' H1 b1 (fun _ z => z) (Stand.refl _ _)
    | true =>
      refine ⟨fun σ2 H2 => ∃ Z' ρ' q', BR X.K p sc Z0 H0 Z' σ2 H2 ρ' q' ∧ PostS X.K X.mg p sc Z0 H0 Z' H2 W E (whileGo T B m ρ' q'), fun σ2 H2 n => ⟨m, Nat.lt_succ_self _, n⟩, ?_⟩
      refine k2 p sc Z0 H0 Z' σ' H1 ρ' q1 _ b1 ?_
      simp only [if_true] at hp1
      unfold M.bnd at hp1
      cases eb : B ρ' q1 with
      | ok o q2 =>
        rw [eb] at hp1
        cases o with
        | next ρ2 => exact fun Z2 σ2 H2 b4 z2 s2 => ⟨Z2, ρ2, q2, b4, PostS.later hp1 z2 s2⟩
        | cont ρ2 => exact fun Z2 σ2 H2 b4 z2 s2 => ⟨Z2, ρ2, q2, b4, PostS.later hp1 z2 s2⟩
        | brk ρ2 => exact fun Z2 σ2 H2 b4 z2 s2 => hp1 Z2 σ2 H2 b4 z2 s2
        | ret d => exact hp1
      | err x q2 => rw [eb] at hp1; exact hp1
      | stuck => rw [eb] at hp1; exact hp1
end

section
variable {P : Program} {w : World} {K : PySem.W.Frag} {mg : Str → Option Value} {base : Heap} {x qual : Str} {st : Stmt} {f : Addr} {fd : FuncData} {N ps : List Str} {k : Nat} {B : DS}
theorem argR_at {p : Addr} {Z : Rg} {H : Hp} : ∀ {vs : List V} {as : List Arg} {i : Nat} {s : Slot}, ArgR K p Z H vs as → (as.map argSlot)[i]? = some (some s) → (∃ d v, s = .dat d ∧ vs[i]? = some v ∧ Rp K Z H v d) ∨ (s = .pool ∧ vs[i]? = some (.ref p))
  | [], [], i, s, _, e => by simp at e
  | v :: vs, .d x :: as, 0, s, h, e => by
    simp [argSlot] at e
    exact .inl ⟨x, v, e.symm, rfl, h.1⟩
  | v :: vs, .pool :: as, 0, s, h, e => by
    simp [argSlot] at e
    exact .inr ⟨e.symm, by simp [h.1]⟩
  | v :: vs, .d x :: as, i + 1, s, h, e => argR_at (i := i) h.2 (by simpa using e)
  | v :: vs, .pool :: as, i + 1, s, h, e => argR_at (i := i) h.2 (by simpa using e)
theorem fnD_len {n m : Nat} {B : DS} : ∀ as q, as.length ≠ n → fnD n m B as q = .stuck := fun as q h => by
  unfold fnD
  rw [if_neg h]
  rfl
theorem spD_body {cdv : Value} {A : Around} {outer : List Env} {s : Shared} {H : Hp} {E : XK} {vs : List V} {Q : VK} (hb : PSsd (cxOf (L2.CX P w) P w K mg base N qual (defScope st) f cdv A outer s H E) (fun cls d _ H => E cls d H) (defBody st) B) (h : spD K mg ps.length (fnD ps.length N.length B) vs H Q E) :
    ∃ t, PSs (cxOf (L2.CX P w) P w K mg base N qual (defScope st) f cdv A outer s H E) (defBody st) t ∧ t { nx := fun _ H' => Q .non H', rt := Q } (L2.start N vs) H := by
  obtain ⟨t, h1, h2⟩ := hb
  refine ⟨t, h1, ?_⟩
  obtain ⟨hl, p, sc, Z, q, as, pl, nz, ar, hp⟩ := h
  have hla : as.length = ps.length := by rw [← ArgR.length ar]; exact hl
  unfold fnD at hp
  rw [if_pos hla] at hp
  have hst : L2.start N vs = vs.map some ++ List.replicate (N.length - ps.length) none := by unfold L2.start; rw [hl]
  refine h2 p sc Z H (fun b => Z b ∧ H b ≠ none) (L2.start N vs) H (as.map argSlot ++ List.replicate (N.length - ps.length) none) q _ ?_ ?_
  · refine ⟨Keep.refl _ _, ⟨q, pl⟩, pl, nz, fun z => nz z.1, fun b z => z.2, fun b z => .inl z.1, ?_, fun i s e => ?_, fun i j a s t ij h1 m1 h2 m2 e1 e2 => ?_⟩
    · rw [hst]
      simp [hl, hla]
    · rw [hst]
      by_cases hi : i < ps.length
      · rw [List.getElem?_append_left (by simpa [hla] using hi)] at e
        have el : (vs.map some ++ List.replicate (N.length - ps.length) none)[i]? = (vs.map some)[i]? := List.getElem?_append_left (by simpa [hl] using hi)
        rcases argR_at ar e with ⟨d, v, rfl, e1, r⟩ | ⟨rfl, e1⟩
        · exact ⟨v, el.trans (by simp [e1]), r.sub fun b z n => ⟨z, n⟩⟩
        · exact el.trans (by simp [e1])
      · rw [List.getElem?_append_right (by simpa [hla] using hi)] at e
        have z := List.mem_of_getElem? e
        have z2 := List.eq_of_mem_replicate z
        cases z2
    · have z := List.mem_of_getElem? h1
      rcases List.mem_append.mp z with z | z
      · obtain ⟨c, _, e⟩ := List.mem_map.mp z
        cases c <;> cases e <;> cases m1
      · have z2 := List.eq_of_mem_replicate z
        cases z2
  · unfold M.bnd at hp
    cases e : B (as.map argSlot ++ List.replicate (N.length - ps.length) none) q with
    | ok o q1 =>
      rw [e] at hp
      cases o with
      | next ρ1 => exact fun Z' σ' H' b _ _ => hp .non H' b.keep b.pool .non
      | ret d => exact fun v H' k' pl' r => hp v H' k' pl' r
      | brk ρ1 => exact hp.elim
      | cont ρ1 => exact hp.elim
    | err x q1 =>
      rw [e] at hp
      exact fun c od σ' H' k' pl' r => hp c od H' k' pl' r
    | stuck => rw [e] at hp; exact hp.elim
theorem fn_okB (F : FunD K x qual (defArgs st) (defBody st) (defScope st) [] [] f fd) (S : FnScope N ps (defScope st))
    (hbody : ∀ (cdv : Value) (A : Around) (outer : List Env) (s : Shared) (H : Hp) (E : XK), Room k (A.deeper (envOfC qual (defScope st) s.heap.objs.size f cdv)) →
      PSsd (cxOf (L2.CX P w) P w K mg base N qual (defScope st) f cdv A outer s H E) (fun cls d _ H => E cls d H) (defBody st) B) : FnOk P w K mg base (L2.CX P w) (k + 1) f fd ps (spD K mg ps.length (fnD ps.length N.length B)) :=
  F.ok S (fun vs H Q E h => h.1) fun cdv A outer s H vs Q E hr h => spD_body (hbody cdv A outer s H E hr) h
end
end Ew
namespace Ew
open PySem PySem.Spec PyProof.Rows L2
section
variable {X : Cx} {W : WX}
theorem OpR.or {f : Value → Value → Sem Value} {r r' : R2} (h : OpR X f r) (h' : OpR X f r') : OpR X f (fun x y H Q => r x y H Q ∨ r' x y H Q) := fun pins s σ H x y v u Q I rx ry q => q.elim (h pins s σ H x y v u Q I rx ry) (h' pins s σ H x y v u Q I rx ry)
theorem CallR.or {f : Value} {r r' : List V → Hp → VK → Prop} (h : CallR X f r) (h' : CallR X f r') : CallR X f (fun x H Q => r x H Q ∨ r' x H Q) := fun pins s σ H x v Q I rx q => q.elim (h pins s σ H x v Q I rx) (h' pins s σ H x v Q I rx)
theorem op2_ints {r : R2} {f : D → D → M D} (h : ∀ i j H Q, r (.int i) (.int j) H Q ∨ ∀ q, f (.int i) (.int j) q = .stuck ∨ ∃ d v, f (.int i) (.int j) q = .ok d q ∧ (∀ Z H, Rp X.K Z H v d) ∧ (Q v H → r (.int i) (.int j) H Q))
    (hn : ∀ dx dy q, (∀ i j, dx = .int i → dy ≠ .int j) → f dx dy q = .stuck) : Op2 X W (RpF X.K) r f := by
  intro p sc Z σ H q x y dx dy Q pl nz hx hy hp
  have no : (∀ i j, dx = .int i → dy ≠ .int j) → r x y H Q := fun z => by rw [hn dx dy q z] at hp; exact hp.elim
  cases hx with
  | int i =>
    cases hy with
    | int j =>
      rcases h i j H Q with h1 | h1
      · exact h1
      · rcases h1 q with e | ⟨d, v, e, hv, k⟩
        · rw [e] at hp; exact hp.elim
        · rw [e] at hp
          exact k (hp v H (Keep.refl _ _) pl (hv _ _))
    | _ => exact no fun i j _ e => by cases e
  | _ => exact no fun i j e => by cases e
theorem nosub (dx dy : D) (q : Pool) (h : ∀ i j, dx = .int i → dy ≠ .int j) : oSub dx dy q = .stuck := by
  cases dx <;> cases dy <;> first | rfl | exact absurd rfl (h _ _ rfl)
theorem opd_sub : OpD X W (binaryOp .Sub) oSub := ⟨_, op_sub, op2_ints (fun i j H Q => .inr fun q => .inr ⟨_, .int (i - j), rfl, fun _ _ => .int _, fun h => ⟨i, j, rfl, rfl, h⟩⟩) nosub⟩
theorem div_small {i j : Int} (h : 0 < j) (h2 : j < 2 ^ 2000) : CDivW i j := wide_div (b := 2000) h (by omega) (by decide) (by decide)
theorem opd_lt : OpD X W (compareOp .Lt) oLt := ⟨_, op_lt, op2_ints (fun i j H Q => .inr fun q => .inr ⟨_, .bl (decide (i < j)), rfl, fun _ _ => .bl _, fun h => ⟨i, j, rfl, rfl, h⟩⟩) fun dx dy q h => by cases dx <;> cases dy <;> first | rfl | exact absurd rfl (h _ _ rfl)⟩
theorem opd_le : OpD X W (compareOp .LtE) oLe := ⟨_, op_le, op2_ints (fun i j H Q => .inr fun q => .inr ⟨_, .bl (decide (i ≤ j)), rfl, fun _ _ => .bl _, fun h => ⟨i, j, rfl, rfl, h⟩⟩) fun dx dy q h => by cases dx <;> cases dy <;> first | rfl | exact absurd rfl (h _ _ rfl)⟩
theorem opd_gt : OpD X W (compareOp .Gt) oGt := ⟨_, op_gt, op2_ints (fun i j H Q => .inr fun q => .inr ⟨_, .bl (decide (j < i)), rfl, fun _ _ => .bl _, fun h => ⟨i, j, rfl, rfl, h⟩⟩) fun dx dy q h => by cases dx <;> cases dy <;> first | rfl | exact absurd rfl (h _ _ rfl)⟩
theorem opd_ge : OpD X W (compareOp .GtE) oGe := ⟨_, op_ge, op2_ints (fun i j H Q => .inr fun q => .inr ⟨_, .bl (decide (j ≤ i)), rfl, fun _ _ => .bl _, fun h => ⟨i, j, rfl, rfl, h⟩⟩) fun dx dy q h => by cases dx <;> cases dy <;> first | rfl | exact absurd rfl (h _ _ rfl)⟩
theorem opd_add : OpD X W (binaryOp .Add) oAdd := by
  refine ⟨_, OpR.or (OpR.or op_add op_add_str) (OpR.or op_catA op_cat), fun p sc Z σ H q x y dx dy Q pl nz hx hy hp => ?_⟩
  cases hx with
  | int i =>
    cases hy with
    | int j => exact .inl (.inl ⟨i, j, rfl, rfl, hp _ H (Keep.refl _ _) pl (.int _)⟩)
    | _ => exact hp.elim
  | str a =>
    cases hy with
    | str b =>
      unfold oAdd at hp
      dsimp only at hp
      by_cases hl : a.cps.size + b.cps.size ≤ lineMax
      · rw [if_pos hl] at hp
        exact .inl (.inr ⟨a, b, rfl, rfl, hl, hp _ H (Keep.refl _ _) pl (.str _)⟩)
      · rw [if_neg hl] at hp; exact hp.elim
    | _ => exact hp.elim
  | tup ha ra =>
    rename_i a xs ds
    cases hy with
    | tup hb rb =>
      rename_i b ys es
      unfold oAdd at hp
      dsimp only at hp
      by_cases hl : ds.length + es.length ≤ lineMax
      · rw [if_pos hl] at hp
        refine .inr (.inl ⟨a, b, xs, ys, rfl, rfl, ha, hb, by rw [ra.length, rb.length]; exact hl, fun e => ?_, fun _ e => ?_, fun _ _ c hc => ?_⟩)
        · subst e
          cases ra
          exact hp _ H (Keep.refl _ _) pl (.tup hb (rb.grow Zn.base))
        · subst e
          cases rb
          exact hp _ H (Keep.refl _ _) pl (.tup ha (by rw [List.append_nil]; exact ra.grow Zn.base))
        · exact hp _ _ (new_keep hc) (new_pool hc pl) (.tup (.inl upd_same) (((ra.append rb).stand (new_stand hc)).grow Zn.base))
      · rw [if_neg hl] at hp; exact hp.elim
    | _ => exact hp.elim
  | lst ha za ra =>
    rename_i a xs ds
    cases hy with
    | lst hb zb rb =>
      rename_i b ys es
      unfold oAdd at hp
      dsimp only at hp
      by_cases hl : ds.length + es.length ≤ lineMax
      · rw [if_pos hl] at hp
        refine .inr (.inr ⟨a, b, xs, ys, rfl, rfl, ha, hb, by rw [ra.length, rb.length]; exact hl, fun c hc => ?_⟩)
        exact hp _ _ (new_keep hc) (new_pool hc pl) (.lst upd_same (.inr hc) (((ra.append rb).stand (new_stand hc)).grow Zn.base))
      · rw [if_neg hl] at hp; exact hp.elim
    | _ => exact hp.elim
  | _ => exact hp.elim
theorem eqD_eqv {x y : D} {b : Bool} (h : eqD x y = some b) : x.plain = true ∧ y.plain = true ∧ min x.depth y.depth ≤ deep ∧ b = PyData.eqv x y := by
  have gen : (if (x.plain && y.plain) = true ∧ x.depth ≤ deep then some (PyData.eqv x y) else none) = some b → x.plain = true ∧ y.plain = true ∧ min x.depth y.depth ≤ deep ∧ b = PyData.eqv x y := by
    intro h
    by_cases hc : (x.plain && y.plain) = true ∧ x.depth ≤ deep
    · rw [if_pos hc] at h
      obtain ⟨h1, h2⟩ := hc
      rw [Bool.and_eq_true] at h1
      exact ⟨h1.1, h1.2, Nat.le_trans (Nat.min_le_left _ _) h2, (Option.some.inj h).symm⟩
    · rw [if_neg hc] at h; cases h
  unfold eqD at h
  split at h
  · rename_i i j
    refine ⟨rfl, rfl, Nat.zero_le _, ?_⟩
    rw [← Option.some.inj h]
    simp only [PyData.eqv]
    exact (Bool.beq_eq_decide_eq _ _).symm
  · rename_i i j
    refine ⟨rfl, rfl, Nat.zero_le _, ?_⟩
    rw [← Option.some.inj h]
    simp only [PyData.eqv]
    exact (Bool.beq_eq_decide_eq _ _).symm
  · exact gen h
def rEqP (K : PySem.W.Frag) (g : Bool → Bool) : R2 := fun x y H Q => ∃ Z dx dy b, Rp K Z H x dx ∧ Rp K Z H y dy ∧ eqD dx dy = some b ∧ Q (.bl (g b)) H
theorem opd_eq (hu : X.A.units + deep < cLine) : OpD X W (compareOp .Eq) oEq := by
  refine ⟨rEqP X.K id, fun pins s σ H x y v u Q I rx ry h => ?_, fun p sc Z σ H q x y dx dy Q pl nz hx hy hp => ?_⟩
  · obtain ⟨Z, dx, dy, b, h1, h2, h3, q⟩ := h
    obtain ⟨as, r1⟩ := h1.reads I v rx
    obtain ⟨bs, r2⟩ := h2.reads I u ry
    obtain ⟨e1, e2, e3, e4⟩ := eqD_eqv h3
    subst e4
    exact SeqAt.eq_plain r1 r2 e1 e2 (by omega) ⟨.bl _, H, I, rfl, q⟩
  · unfold oEq at hp
    cases e : eqD dx dy with
    | none => rw [e] at hp; exact hp.elim
    | some b =>
      rw [e] at hp
      exact ⟨Z, dx, dy, b, hx, hy, e, hp _ H (Keep.refl _ _) pl (.bl _)⟩
theorem opd_ne (hu : X.A.units + deep < cLine) : OpD X W (compareOp .NotEq) oNe := by
  refine ⟨rEqP X.K not, fun pins s σ H x y v u Q I rx ry h => ?_, fun p sc Z σ H q x y dx dy Q pl nz hx hy hp => ?_⟩
  · obtain ⟨Z, dx, dy, b, h1, h2, h3, q⟩ := h
    obtain ⟨as, r1⟩ := h1.reads I v rx
    obtain ⟨bs, r2⟩ := h2.reads I u ry
    obtain ⟨e1, e2, e3, e4⟩ := eqD_eqv h3
    subst e4
    exact SeqAt.ne_plain r1 r2 e1 e2 (by omega) ⟨.bl _, H, I, rfl, q⟩
  · unfold oNe at hp
    cases e : eqD dx dy with
    | none => rw [e] at hp; exact hp.elim
    | some b =>
      rw [e] at hp
      exact ⟨Z, dx, dy, b, hx, hy, e, hp _ H (Keep.refl _ _) pl (.bl _)⟩
theorem isN_rel {Z : Rg} {H : Hp} {x : V} {d : D} (r : Rp X.K Z H x d) : decide (x = .non) = isN d := by
  cases r <;> rfl
end
section
variable {X : Cx} {W : WX} {a b : Expr} {A B : DE} {pos pos' p1 : Pos}
theorem pd_isN {j} (ha : PDe X W a A) : PDe X W (.Compare a [.Is] [.Constant .none j p1] pos) (dUn oIsN A) := by
  obtain ⟨t, h1, h2⟩ := ha
  refine ⟨_, pe_cmp (pc_isN h1) rfl, rd_1 (X := X) (W := W) (r := fun x H Q => Q (.bl (decide (x = .non))) H) sh_rp (fun p sc Z σ H q x dx Q pl nz hx hp => ?_) h2⟩
  have z := hp (.bl (isN dx)) H (Keep.refl _ _) pl (.bl _)
  rw [← isN_rel hx] at z
  exact z
theorem pd_neg (ha : PDe X W a A) : PDe X W (.UnaryOp .USub a pos) (dUn uNeg A) := pd_un un_neg (fun p sc Z σ H q x dx Q pl nz hx hp => by
  cases hx with
  | int i => exact ⟨i, rfl, hp _ H (Keep.refl _ _) pl (.int _)⟩
  | _ => exact hp.elim) ha
theorem IxR.or {r r' : R2} (h : IxR X r) (h' : IxR X r') : IxR X (fun x y H Q => r x y H Q ∨ r' x y H Q) := L2.IxR.or h h'
theorem ixd : IxD X W oIx := by
  refine ⟨_, IxR.or ix_list ix_tup, fun p sc Z σ H q x y dx dy Q pl nz hx hy hp => ?_⟩
  cases hx with
  | lst ha za ra =>
    rename_i a xs ds
    cases hy with
    | int i =>
      unfold oIx at hp
      dsimp only at hp
      cases e : atD ds i with
      | none => rw [e] at hp; exact hp.elim
      | some d =>
        rw [e] at hp
        obtain ⟨v, e1, e2⟩ := Rp.atI ra e
        exact .inl ⟨a, xs, i, v, rfl, rfl, .inl (.inl ha), e1, hp v H (Keep.refl _ _) pl (e2.grow Zn.base)⟩
    | _ => exact hp.elim
  | tup ha ra =>
    rename_i a xs ds
    cases hy with
    | int i =>
      unfold oIx at hp
      dsimp only at hp
      cases e : atD ds i with
      | none => rw [e] at hp; exact hp.elim
      | some d =>
        rw [e] at hp
        obtain ⟨v, e1, e2⟩ := Rp.atI ra e
        exact .inr ⟨a, xs, i, v, rfl, rfl, ha, e1, hp v H (Keep.refl _ _) pl (e2.grow Zn.base)⟩
    | _ => exact hp.elim
  | _ => exact hp.elim
theorem rd_b1 {α : Type} {r : List V → Hp → VK → Prop} {Rel : RelT V D} {f : D → M D} {t : TE} (sh : Shf Rel) (ho : Op1 X W Rel (fun x => r [x]) f) (h2 : Rd1 X W (RpF X.K) t A) : Rd1 X W Rel (tCB r (tCons t tNil)) (dUn f A) := rd_1 (X := X) (W := W) (r := fun x => r [x]) sh ho h2
theorem pd_b1 {x : Str} {id : String} {r : List V → Hp → VK → Prop} {f : D → M D} (hc : CallR X (.builtin id) r) (ho : Op1 X W (RpF X.K) (fun x => r [x]) f) (hg : Gl X x) (hm : X.mg x = none) (hv : bootBuiltins x = some (.builtin id)) (ha : PDe X W a A) (hn : x ≠ "__name__" := by decide) (hdb : (x == ("__debug__" : Str)) = false := by decide)
    (he : starEach [a] X.env = (false, eval a X.env) :: starEach [] X.env := by rfl) (hpl : (backTo pos (starEach [] X.env)).any (·.1) = false := by rfl) : PDe X W (.Call (.Name x pos') [a] [] pos) (dUn f A) := by
  obtain ⟨t, h1, h2⟩ := ha
  exact ⟨_, pe_callB hc hg hm hv (pa_cons h1 pa_nil he) hn hdb he hpl, rd_b1 (α := Unit) sh_rp ho h2⟩
theorem pd_t1 {x : Str} {T : String} {r : List V → Hp → VK → Prop} {f : D → M D} (hc : CallR X (.type T) r) (ho : Op1 X W (RpF X.K) (fun x => r [x]) f) (hg : Gl X x) (hm : X.mg x = none) (hv : bootBuiltins x = some (.type T)) (ha : PDe X W a A) (hn : x ≠ "__name__" := by decide) (hdb : (x == ("__debug__" : Str)) = false := by decide)
    (he : starEach [a] X.env = (false, eval a X.env) :: starEach [] X.env := by rfl) (hpl : (backTo pos (starEach [] X.env)).any (·.1) = false := by rfl) : PDe X W (.Call (.Name x pos') [a] [] pos) (dUn f A) := by
  obtain ⟨t, h1, h2⟩ := ha
  exact ⟨_, pe_callTy hc hg hm hv (pa_cons h1 pa_nil he) hn hdb he hpl, rd_b1 (α := Unit) sh_rp ho h2⟩
theorem pdf_t1 {x : Str} {T : String} {r : List V → Hp → VK → Prop} {f : D → M D} (hc : CallR X (.type T) r) (ho : Op1 X W (NewF X.K) (fun x => r [x]) f) (hg : Gl X x) (hm : X.mg x = none) (hv : bootBuiltins x = some (.type T)) (ha : PDe X W a A) (hn : x ≠ "__name__" := by decide) (hdb : (x == ("__debug__" : Str)) = false := by decide)
    (he : starEach [a] X.env = (false, eval a X.env) :: starEach [] X.env := by rfl) (hpl : (backTo pos (starEach [] X.env)).any (·.1) = false := by rfl) : PDf X W (.Call (.Name x pos') [a] [] pos) (dUn f A) := by
  obtain ⟨t, h1, h2⟩ := ha
  exact ⟨_, pe_callTy hc hg hm hv (pa_cons h1 pa_nil he) hn hdb he hpl, rd_b1 (α := Unit) sh_new ho h2⟩
theorem pdf_b1 {x : Str} {id : String} {r : List V → Hp → VK → Prop} {f : D → M D} (hc : CallR X (.builtin id) r) (ho : Op1 X W (NewF X.K) (fun x => r [x]) f) (hg : Gl X x) (hm : X.mg x = none) (hv : bootBuiltins x = some (.builtin id)) (ha : PDe X W a A) (hn : x ≠ "__name__" := by decide) (hdb : (x == ("__debug__" : Str)) = false := by decide)
    (he : starEach [a] X.env = (false, eval a X.env) :: starEach [] X.env := by rfl) (hpl : (backTo pos (starEach [] X.env)).any (·.1) = false := by rfl) : PDf X W (.Call (.Name x pos') [a] [] pos) (dUn f A) := by
  obtain ⟨t, h1, h2⟩ := ha
  exact ⟨_, pe_callB hc hg hm hv (pa_cons h1 pa_nil he) hn hdb he hpl, rd_b1 (α := Unit) sh_new ho h2⟩
theorem call_lenR : CallR X (.builtin "len") (fun xs H Q => ∃ a kvs, xs = [V.ref a] ∧ Rd H a (.dK kvs) ∧ Q (.int kvs.length) H) := by
  intro pins s σ H xs us Q I r h
  obtain ⟨a, kvs, rfl, ha, q⟩ := h
  obtain ⟨u, rfl, ru⟩ := vals1 r
  cases ru
  exact d_len I ha fun t s' I' => ⟨.int kvs.length, H, I', ⟨t, rfl⟩, q⟩
theorem call_lenRT : CallR X (.builtin "len") (fun xs H Q => ∃ (a : Addr) (kvs : List (List Key × V)), xs = [V.ref a] ∧ Rd H a (.dT kvs) ∧ Q (.int kvs.length) H) := by
  intro pins s σ H xs us Q I r h
  obtain ⟨a, kvs, rfl, ha, q⟩ := h
  obtain ⟨u, rfl, ru⟩ := vals1 r
  cases ru
  obtain ⟨z, hd, ys, rel, dd⟩ := dt_rd I.hok ha
  have hl : kvs.length = ys.length := Paired.length rel
  refine call_len_dictH hd dd (by rw [← hl]; rw [sizeLine_eq] at z; omega) ?_
  rw [← hl]
  exact ⟨.int ((kvs.length : Nat) : Int), H, I.tok _, ⟨_, rfl⟩, q⟩
theorem pd_len (hg : Gl X "len") (hm : X.mg "len" = none) (ha : PDe X W a A) (he : starEach [a] X.env = (false, eval a X.env) :: starEach [] X.env := by rfl) (hpl : (backTo pos (starEach [] X.env)).any (·.1) = false := by rfl) : PDe X W (.Call (.Name "len" pos') [a] [] pos) (dUn bLen A) := by
  refine pd_b1 (CallR.or (CallR.or (CallR.or call_len_seq call_len_str) call_lenR) call_lenRT) (fun p sc Z σ H q x dx Q pl nz hx hp => ?_) hg hm boot_len ha (by decide) (by decide) he hpl
  cases hx with
  | lst h1 z rs => exact .inl (.inl (.inl ⟨_, _, rfl, .inl (.inl (.inl h1)), hp _ H (Keep.refl _ _) pl (by rw [rs.length]; exact .int _)⟩))
  | tup h1 rs => exact .inl (.inl (.inl ⟨_, _, rfl, .inr h1, hp _ H (Keep.refl _ _) pl (by rw [rs.length]; exact .int _)⟩))
  | str x =>
    unfold bLen at hp
    dsimp only at hp
    by_cases hl : x.cps.size ≤ lineMax
    · rw [if_pos hl] at hp
      exact .inl (.inl (.inr ⟨x, rfl, hl, hp _ H (Keep.refl _ _) pl (.int _)⟩))
    · rw [if_neg hl] at hp; exact hp.elim
  | dit h1 z e rs =>
    have hl := congrArg List.length e
    rw [List.length_map, List.length_map] at hl
    exact .inr ⟨_, _, rfl, h1, hp _ H (Keep.refl _ _) pl (by rw [← hl]; exact .int _)⟩
  | dic h1 z e rs =>
    have hl := congrArg List.length e
    rw [List.length_map, List.length_map] at hl
    exact .inl (.inr ⟨_, _, rfl, h1, hp _ H (Keep.refl _ _) pl (by rw [← hl]; exact .int _)⟩)
  | _ => exact hp.elim
theorem pd_tuple (hg : Gl X "tuple") (hm : X.mg "tuple" = none) (ha : PDe X W a A) (he : starEach [a] X.env = (false, eval a X.env) :: starEach [] X.env := by rfl) (hpl : (backTo pos (starEach [] X.env)).any (·.1) = false := by rfl) : PDe X W (.Call (.Name "tuple" pos') [a] [] pos) (dUn bTuple A) := by
  refine pd_t1 call_tuple_of (fun p sc Z σ H q x dx Q pl nz hx hp => ?_) hg hm boot_tuple ha (by decide) (by decide) he hpl
  cases hx with
  | lst h1 z rs => exact ⟨_, _, rfl, .inl ⟨.inl (.inl h1), fun l hl => hp _ _ (new_keep hl) (new_pool hl pl) (.tup (.inl upd_same) ((rs.stand (new_stand hl)).grow Zn.base))⟩⟩
  | tup h1 rs => exact ⟨_, _, rfl, .inr ⟨h1.t, hp _ H (Keep.refl _ _) pl (.tup h1 (rs.grow Zn.base))⟩⟩
  | _ => exact hp.elim
theorem pdf_list (hg : Gl X "list") (hm : X.mg "list" = none) (ha : PDe X W a A) (he : starEach [a] X.env = (false, eval a X.env) :: starEach [] X.env := by rfl) (hpl : (backTo pos (starEach [] X.env)).any (·.1) = false := by rfl) : PDf X W (.Call (.Name "list" pos') [a] [] pos) (dUn bList A) := by
  refine pdf_t1 call_list_of (fun p sc Z σ H q x dx Q pl nz hx hp => ?_) hg hm boot_list ha (by decide) (by decide) he hpl
  have key : ∀ {vs : List V} {ds : List D} {l : Addr}, RpL X.K Z H vs ds → H l = none → NewF X.K p Z H (upd H l (.lst vs)) (.ref l) (.list ds) := fun {vs ds l} rs hl => ⟨l, vs, ds, rfl, rfl, hl, upd_same, (rs.sub fun b z n => ⟨.inl z, fun e => n (e ▸ hl)⟩).stand (new_stand hl)⟩
  cases hx with
  | lst h1 z rs => exact ⟨_, _, rfl, .inl (.inl (.inl h1)), fun l hl => hp _ _ (new_keep hl) (new_pool hl pl) (key rs hl)⟩
  | tup h1 rs => exact ⟨_, _, rfl, .inr h1, fun l hl => hp _ _ (new_keep hl) (new_pool hl pl) (key rs hl)⟩
  | _ => exact hp.elim
end
end Ew
namespace Ew
open PySem PySem.Spec PyProof.Rows L2
section
variable {P : Program} {w : World} {A : Around} {E : Value → Shared → Prop} {s : Shared}
end
end Ew
namespace Ew
open PySem PySem.Spec PyProof.Rows L2
theorem tgok_n (i : Nat) : TgOk (gN i) := fun d ρ q => .inl ⟨_, rfl⟩
section
variable {X : Cx} {W : WX} {a b c : Expr} {A B C : DE} {pos pos' pos2 p1 : Pos}
def rIsa (K : PySem.W.Frag) (T : String) (f : D → Bool) : List V → Hp → VK → Prop := fun xs H Q => ∃ (Z : Rg) (d : D) (x : V), xs = [x, .ty T] ∧ Rp K Z H x d ∧ Q (.bl (f d)) H
theorem cr_isa {T : String} {f : D → Bool} (rule : ∀ {s : Shared} {v : Value} {d : D} {as : List Addr} {Q : Value → Shared → Prop}, Reads s.heap v d as → (∀ tk, s.toks ≤ tk → Q (.bool (f d)) { s with toks := tk }) →
    wpAny (model X.prog X.w) X.A (call (.builtin "isinstance") [v, .type T]) Q X.xe s) : CallR X (.builtin "isinstance") (rIsa X.K T f) := by
  intro pins s σ H xs us Q I r h
  obtain ⟨Z, d, x, rfl, hr, q⟩ := h
  cases r with
  | cons r1 rr =>
    cases rr with
    | cons r2 r3 =>
      cases r3
      cases r2
      obtain ⟨as, rd⟩ := hr.reads I _ r1
      exact rule rd fun tk ht => ⟨.bl (f d), H, I.tok _, rfl, q⟩
theorem boot_isi : bootBuiltins ("isinstance" : Str) = some (.builtin "isinstance") := by decide +kernel
theorem pd_isa {x : Str} {T : String} {f : D → Bool} (hc : CallR X (.builtin "isinstance") (rIsa X.K T f)) (hT : bootBuiltins x = some (.type T)) (hgi : Gl X "isinstance") (hmi : X.mg "isinstance" = none) (hg : Gl X x) (hm : X.mg x = none) (ha : PDe X W a A)
    (hn : x ≠ "__name__" := by decide) (hdb : (x == ("__debug__" : Str)) = false := by decide)
    (he : starEach [a, .Name x pos'] X.env = (false, eval a X.env) :: starEach [.Name x pos'] X.env := by rfl) (he2 : starEach [.Name x pos'] X.env = (false, eval (.Name x pos') X.env) :: starEach [] X.env := by rfl)
    (hpl : (backTo pos (starEach [.Name x pos'] X.env)).any (·.1) = false := by rfl) :
    PDe X W (.Call (.Name "isinstance" pos2) [a, .Name x pos'] [] pos) (dUn (fun d => M.ret (.bool (f d))) A) := by
  obtain ⟨t, h1, h2⟩ := ha
  refine ⟨_, pe_callB hc hgi hmi boot_isi (pa_cons h1 (pa_cons (pe_bltn (v := .ty T) hg hm hT rfl hn hdb) pa_nil he2) he) (by decide) (by decide) he hpl, ?_⟩
  exact rd_1 (X := X) (W := W) (r := fun y H Q => rIsa X.K T f [y, .ty T] H Q) sh_rp (fun p sc Z σ H q y dx Q pl nz hx hp => ⟨Z, dx, y, rfl, hx, hp _ H (Keep.refl _ _) pl (.bl _)⟩) h2
theorem boot_tupT : bootBuiltins ("tuple" : Str) = some (.type "tuple") := by decide +kernel
theorem boot_lstT : bootBuiltins ("list" : Str) = some (.type "list") := by decide +kernel
theorem boot_intT : bootBuiltins ("int" : Str) = some (.type "int") := by decide +kernel
theorem boot_booT : bootBuiltins ("bool" : Str) = some (.type "bool") := by decide +kernel
theorem boot_strT : bootBuiltins ("str" : Str) = some (.type "str") := by decide +kernel
theorem pd_isi_tup (hgi : Gl X "isinstance") (hmi : X.mg "isinstance" = none) (hg : Gl X "tuple") (hm : X.mg "tuple" = none) (ha : PDe X W a A) (he : starEach [a, .Name "tuple" pos'] X.env = (false, eval a X.env) :: starEach [.Name "tuple" pos'] X.env := by rfl)
    (he2 : starEach [.Name "tuple" pos'] X.env = (false, eval (.Name "tuple" pos') X.env) :: starEach [] X.env := by rfl) (hpl : (backTo pos (starEach [.Name "tuple" pos'] X.env)).any (·.1) = false := by rfl) :
    PDe X W (.Call (.Name "isinstance" pos2) [a, .Name "tuple" pos'] [] pos) (dUn bIsTup A) := pd_isa (cr_isa fun r h => PySem.W.isinstance_tuple_data r h) boot_tupT hgi hmi hg hm ha (by decide) (by decide) he he2 hpl
theorem pd_isi_lst (hgi : Gl X "isinstance") (hmi : X.mg "isinstance" = none) (hg : Gl X "list") (hm : X.mg "list" = none) (ha : PDe X W a A) (he : starEach [a, .Name "list" pos'] X.env = (false, eval a X.env) :: starEach [.Name "list" pos'] X.env := by rfl)
    (he2 : starEach [.Name "list" pos'] X.env = (false, eval (.Name "list" pos') X.env) :: starEach [] X.env := by rfl) (hpl : (backTo pos (starEach [.Name "list" pos'] X.env)).any (·.1) = false := by rfl) :
    PDe X W (.Call (.Name "isinstance" pos2) [a, .Name "list" pos'] [] pos) (dUn bIsLst A) := pd_isa (cr_isa fun r h => PySem.W.isinstance_list_data r h) boot_lstT hgi hmi hg hm ha (by decide) (by decide) he he2 hpl
theorem pd_isi_int (hgi : Gl X "isinstance") (hmi : X.mg "isinstance" = none) (hg : Gl X "int") (hm : X.mg "int" = none) (ha : PDe X W a A) (he : starEach [a, .Name "int" pos'] X.env = (false, eval a X.env) :: starEach [.Name "int" pos'] X.env := by rfl)
    (he2 : starEach [.Name "int" pos'] X.env = (false, eval (.Name "int" pos') X.env) :: starEach [] X.env := by rfl) (hpl : (backTo pos (starEach [.Name "int" pos'] X.env)).any (·.1) = false := by rfl) :
    PDe X W (.Call (.Name "isinstance" pos2) [a, .Name "int" pos'] [] pos) (dUn bIsInt A) := pd_isa (cr_isa fun r h => PySem.W.isinstance_int_data r h) boot_intT hgi hmi hg hm ha (by decide) (by decide) he he2 hpl
theorem pd_isi_bool (hgi : Gl X "isinstance") (hmi : X.mg "isinstance" = none) (hg : Gl X "bool") (hm : X.mg "bool" = none) (ha : PDe X W a A) (he : starEach [a, .Name "bool" pos'] X.env = (false, eval a X.env) :: starEach [.Name "bool" pos'] X.env := by rfl)
    (he2 : starEach [.Name "bool" pos'] X.env = (false, eval (.Name "bool" pos') X.env) :: starEach [] X.env := by rfl) (hpl : (backTo pos (starEach [.Name "bool" pos'] X.env)).any (·.1) = false := by rfl) :
    PDe X W (.Call (.Name "isinstance" pos2) [a, .Name "bool" pos'] [] pos) (dUn bIsBool A) := pd_isa (cr_isa fun r h => PySem.W.isinstance_bool_data r h) boot_booT hgi hmi hg hm ha (by decide) (by decide) he he2 hpl
theorem pd_isi_str (hgi : Gl X "isinstance") (hmi : X.mg "isinstance" = none) (hg : Gl X "str") (hm : X.mg "str" = none) (ha : PDe X W a A) (he : starEach [a, .Name "str" pos'] X.env = (false, eval a X.env) :: starEach [.Name "str" pos'] X.env := by rfl)
    (he2 : starEach [.Name "str" pos'] X.env = (false, eval (.Name "str" pos') X.env) :: starEach [] X.env := by rfl) (hpl : (backTo pos (starEach [.Name "str" pos'] X.env)).any (·.1) = false := by rfl) :
    PDe X W (.Call (.Name "isinstance" pos2) [a, .Name "str" pos'] [] pos) (dUn bIsStr A) := pd_isa (cr_isa fun r h => PySem.W.isinstance_str_data r h) boot_strT hgi hmi hg hm ha (by decide) (by decide) he he2 hpl
theorem pdt_isN {j} (ha : PDe X W a A) : PDt X W (.Compare a [.Is] [.Constant .none j p1] pos) (tOf (dUn oIsN A)) := by
  obtain ⟨t, h1, h2⟩ := ha
  refine ⟨_, pt_cmp (pc_isN h1) rfl, rd_tof (rd_1 (X := X) (W := W) (r := fun x H Q => Q (.bl (decide (x = .non))) H) sh_rp (fun p sc Z σ H q x dx Q pl nz hx hp => ?_) h2)⟩
  have z := hp (.bl (isN dx)) H (Keep.refl _ _) pl (.bl _)
  rw [← isN_rel hx] at z
  exact z
theorem pdt_notN {j} (ha : PDe X W a A) : PDt X W (.Compare a [.IsNot] [.Constant .none j p1] pos) (tOf (dUn oNotN A)) := by
  obtain ⟨t, h1, h2⟩ := ha
  refine ⟨_, pt_cmp (pc_notN h1) rfl, rd_tof (rd_1 (X := X) (W := W) (r := fun x H Q => Q (.bl (!decide (x = .non))) H) sh_rp (fun p sc Z σ H q x dx Q pl nz hx hp => ?_) h2)⟩
  have z := hp (.bl (!isN dx)) H (Keep.refl _ _) pl (.bl _)
  rw [← isN_rel hx] at z
  exact z
theorem rd_chain {ta tb tc : TE} {r r' : R2} {f g : D → D → M D} (h2 : Op2 X W (RpF X.K) r f) (h2' : Op2 X W (RpF X.K) r' g) (ha : Rd1 X W (RpF X.K) ta A) (hb : Rd1 X W (RpF X.K) tb B) (hc : Rd1 X W (RpF X.K) tc C) : Rd1 X W (RpF X.K) (tChain r r' ta tb tc) (dChain f g A B C) := by
  refine rd_bnd (ValA := fun _ Z H v d => Rp X.K Z H v d) (f := fun ρ x => M.bnd (B ρ) fun y => M.bnd (f x y) fun k => match k with
    | .bool true => M.bnd (C ρ) fun z => g y z
    | .bool false => M.ret (.bool false)
    | _ => M.stuck) (k := fun x σ H Q => tb σ H fun y H2 => r x y H2 fun z H3 => ∃ k, z = .bl k ∧ (if k = true then tc σ H3 fun w' H4 => r' y w' H4 Q else Q (.bl false) H3)) sh_rp (fun _ _ _ _ _ _ h => h) ha fun p sc Z σ H ρ q x dx Q s hv hp => ?_
  refine hb p sc Z σ H ρ q _ s ((Post.bnd (Rel := RpF X.K p Z H) (Rel' := RpF X.K p Z H) hp).to fun y H1 ⟨dy, q1, e1, k1, pl1, r1, hp1⟩ => ?_)
  have s1 := s.next k1 pl1
  have hv1 := (hv.stand (k1.stand s.pool s.nz)).grow (Z' := Zn Z H) Zn.base
  have nz1 := Zn.nop s.pool s.nz
  refine h2 p sc (Zn Z H) σ H1 q1 x y dx dy _ pl1 nz1 hv1 r1 ((Post.bnd (Rel := RpF X.K p (Zn Z H) H1) (Rel' := RpF X.K p Z H) (hp1.later k1)).to fun z H2 ⟨dz, q2, e2, k2, pl2, r2, hp2⟩ => ?_)
  have kk := k1.trans k2
  have s2 := s.next kk pl2
  cases r2 with
  | bl k =>
    refine ⟨k, rfl, ?_⟩
    cases k with
    | false => exact hp2 _ H2 k2 pl2 (.bl _)
    | true =>
      simp only [if_true]
      refine hc p sc Z σ H2 ρ q2 _ s2 ((Post.bnd (Rel := RpF X.K p Z H2) (Rel' := RpF X.K p Z H) (hp2.later k2)).to fun w H3 ⟨dw, q3, e3, k3, pl3, r3, hp3⟩ => ?_)
      have r1' := (r1.stand ((k2.trans k3).stand pl1 nz1)).grow (Z' := Zn (Zn Z H) H3) Zn.base
      refine h2' p sc (Zn Z H) σ H3 q3 y w dy dw Q pl3 nz1 (r1.stand ((k2.trans k3).stand pl1 nz1)) (r3.grow (Zn.step kk s.pool pl2)) ((hp3.later k3).imp fun H' b a rr => ?_)
      exact rr.grow (Zn.twice (kk.trans k3) s.pool pl3)
  | _ => exact hp2.elim
theorem pd_chain {op op' : CmpOp} {f g : D → D → M D} (ho : OpD X W (compareOp op) f) (ho' : OpD X W (compareOp op') g) (ha : PDe X W a A) (hb : PDe X W b B) (hc : PDe X W c C)
    (hm : lastMarks [op, op'] [b, c] = false := by with_unfolding_all rfl) : PDe X W (.Compare a [op, op'] [b, c] pos) (dChain f g A B C) := by
  obtain ⟨r, h1, h2⟩ := ho
  obtain ⟨r', g1, g2⟩ := ho'
  obtain ⟨ta, a1, a2⟩ := ha
  obtain ⟨tb, b1, b2⟩ := hb
  obtain ⟨tc, c1, c2⟩ := hc
  exact ⟨_, pe_chain h1 g1 a1 b1 c1 hm, rd_chain h2 g2 a2 b2 c2⟩
theorem pdt_chain {op op' : CmpOp} {f g : D → D → M D} (ho : OpD X W (compareOp op) f) (ho' : OpD X W (compareOp op') g) (ha : PDe X W a A) (hb : PDe X W b B) (hc : PDe X W c C)
    (hm : lastMarks [op, op'] [b, c] = false := by with_unfolding_all rfl) : PDt X W (.Compare a [op, op'] [b, c] pos) (tOf (dChain f g A B C)) := by
  obtain ⟨r, h1, h2⟩ := ho
  obtain ⟨r', g1, g2⟩ := ho'
  obtain ⟨ta, a1, a2⟩ := ha
  obtain ⟨tb, b1, b2⟩ := hb
  obtain ⟨tc, c1, c2⟩ := hc
  exact ⟨_, pt_chain h1 g1 a1 b1 c1 hm, rd_tof (rd_chain h2 g2 a2 b2 c2)⟩
theorem pdf_lc {elt tg iter : Expr} {own : List (Str × Nat)} {vs is : List Nat} {ifs : List Expr} {scope : Scope} {it : DI} {g : Tgt} {T : DT} {F : DE} (hc : X.calm = true) (hN : X.N.Nodup) (hi : PId X W tg iter it) (ok : BlkOk X.N X.env.scope scope own) (his : ∀ i ∈ is, i ∈ vs)
    (hg : ∀ (s : Shared) (H : Hp) (C : Addr) (cl : List (Str × Addr)) (fp : List Addr), PGd (X.blk s H scope (compEnvC scope cl C X.env) fp) is tg g) (ht : ∀ (s : Shared) (H : Hp) (C : Addr) (cl : List (Str × Addr)) (fp : List Addr), PTsd (X.blk s H scope (compEnvC scope cl C X.env) fp) W0 ifs T)
    (he : ∀ (s : Shared) (H : Hp) (C : Addr) (cl : List (Str × Addr)) (fp : List Addr), PDe (X.blk s H scope (compEnvC scope cl C X.env) fp) W0 elt F) (hgo : TgOk g) (hm : own.map (·.2) = vs := by rfl) (hs : ∀ x, foldedSetIterable iter X.env x = pure x := by intro _; rfl) :
    PDf X W (.ListComp elt [⟨tg, iter, ifs, 0⟩] scope pos) (dComp vs it g T F) := by
  subst hm
  exact pdf_comp hc hN hi ok his hg ht he hgo hs
theorem ps_lcn {elt tg iter : Expr} {i : Nat} {y : Str} {py spos : Pos} {own : List (Str × Nat)} {vs is : List Nat} {ifs : List Expr} {scope : Scope} {it : DI} {g : Tgt} {T : DT} {F : DE} (hc : X.calm = true) (hN : X.N.Nodup) (hsw : swapsWith (.ListComp elt [⟨tg, iter, ifs, 0⟩] scope pos) (some (.Name y py)) spos.line X.env = pure true) (hi : PId X W tg iter it) (ok : BlkOk X.N X.env.scope scope own) (his : ∀ i ∈ is, i ∈ vs)
    (hg : ∀ (s : Shared) (H : Hp) (C : Addr) (cl : List (Str × Addr)) (fp : List Addr), PGd (X.blk s H scope (compEnvC scope cl C X.env) fp) is tg g) (ht : ∀ (s : Shared) (H : Hp) (C : Addr) (cl : List (Str × Addr)) (fp : List Addr), PTsd (X.blk s H scope (compEnvC scope cl C X.env) fp) W0 ifs T)
    (he : ∀ (s : Shared) (H : Hp) (C : Addr) (cl : List (Str × Addr)) (fp : List Addr), PDe (X.blk s H scope (compEnvC scope cl C X.env) fp) W0 elt F) (hgo : TgOk g) (hm : own.map (·.2) = vs := by rfl) (hy : X.N[i]? = some y := by rfl) (hyl : X.env.scope.names.lookup y = some .local := by rfl) (hs : ∀ x, foldedSetIterable iter X.env x = pure x := by intro _; rfl) :
    ∃ t, PS X (.Assign [.Name y py] (.ListComp elt [⟨tg, iter, ifs, 0⟩] scope pos) spos) (tAsg t (gName i)) ∧ Rd1 X W (NewF X.K) t (dComp vs it g T F) := by
  subst hm
  exact ps_lc hc hN hsw hi ok his hg ht he hgo hy hyl hs
theorem rds_lc {i : Nat} {te : TE} {F : DE} (h2 : Rd1 X W (NewF X.K) te F) : RdS X.K X.mg W (tAsg te (gName i)) (sAsg (gN i) F) ∧ RdS X.K X.mg W (tAsg te (gName i)) (sAsgF (gN i) F) := by
  have h3 : Rd1 X W (RpF X.K) te F := fun p sc Z σ H ρ q Q s hp => h2 p sc Z σ H ρ q Q s (hp.imp fun _ _ _ r => r.rp)
  have hg : TgR X.K [i] (gName i) (gN i) := fun Z σ H ρ ρ' q q' v d Q r e k => by
    cases e
    exact k [(i, v, d)] (by simpa using r) rfl rfl
  exact ⟨rds_asg h3 hg (tgok_n i), rds_asgF h3 hg (tgok_n i)⟩
theorem sd_lcd {i : Nat} {st : Stmt} {F : DE} (h : ∃ t, PS X st (tAsg t (gName i)) ∧ Rd1 X W (NewF X.K) t F) : PSd X W st (sAsg (gN i) F) := by
  obtain ⟨t, h1, h2⟩ := h
  exact ⟨_, h1, (rds_lc h2).1⟩
end
section
variable {X : Cx} {W : WX} {a b c : Expr} {A B C : DE} {pos pos' pos2 p1 : Pos}
def rSetL (X : Cx) : List V → Hp → VK → Prop := fun vs H Q => ∃ (p : Addr) (ns : List Int), vs = [.ref p] ∧ SqL X.K H p (ns.map V.int) ∧ ns.length ≤ 1000 ∧ ∀ a c, H a = none → c ≤ ns.length → Q (.ref a) (upd H a (SetO X.w a (fun j => decide (j ∈ ns)) c))
theorem insU_mem {x k : Int} : ∀ l : List Int, k ∈ insU x l ↔ k = x ∨ k ∈ l
  | [] => by simp [insU]
  | y :: r => by
    unfold insU
    by_cases h : x < y
    · simp [h]
    · by_cases h2 : x = y
      · subst h2; simp
      · simp only [h, h2, if_false, List.mem_cons, insU_mem r]
        constructor
        · rintro (h | h | h) <;> simp [h]
        · rintro (h | h | h) <;> simp [h]
theorem insU_asc {x : Int} : ∀ l : List Int, l.Pairwise (· < ·) → (insU x l).Pairwise (· < ·)
  | [], _ => by simp [insU]
  | y :: r, h => by
    obtain ⟨h1, h2⟩ := List.pairwise_cons.mp h
    unfold insU
    by_cases hx : x < y
    · rw [if_pos hx]
      refine List.pairwise_cons.mpr ⟨fun k hk => ?_, h⟩
      rcases List.mem_cons.mp hk with rfl | hk
      · exact hx
      · have := h1 k hk; omega
    · rw [if_neg hx]
      by_cases hxy : x = y
      · rw [if_pos hxy]; exact h
      · rw [if_neg hxy]
        refine List.pairwise_cons.mpr ⟨fun k hk => ?_, insU_asc r h2⟩
        rcases (insU_mem r).mp hk with rfl | hk
        · omega
        · exact h1 k hk
theorem sortU_go : ∀ (xs acc : List Int), acc.Pairwise (· < ·) → (xs.foldl (fun acc x => insU x acc) acc).Pairwise (· < ·) ∧ ∀ k, k ∈ xs.foldl (fun acc x => insU x acc) acc ↔ k ∈ acc ∨ k ∈ xs
  | [], acc, h => ⟨h, fun k => by simp⟩
  | x :: xs, acc, h => by
    obtain ⟨h1, h2⟩ := sortU_go xs (insU x acc) (insU_asc acc h)
    refine ⟨h1, fun k => (h2 k).trans ?_⟩
    rw [insU_mem, List.mem_cons]
    constructor
    · rintro ((h | h) | h) <;> simp [h]
    · rintro (h | h | h) <;> simp [h]
theorem sortU_asc (xs : List Int) : (sortU xs).Pairwise (· < ·) := (sortU_go xs [] List.Pairwise.nil).1
theorem sortU_mem (xs : List Int) (k : Int) : k ∈ sortU xs ↔ k ∈ xs := ((sortU_go xs [] List.Pairwise.nil).2 k).trans (by simp)
theorem asc_uniq : ∀ (l m : List Int), l.Pairwise (· < ·) → m.Pairwise (· < ·) → (∀ k, k ∈ l ↔ k ∈ m) → l = m
  | [], [], _, _, _ => rfl
  | [], y :: m, _, _, h => absurd ((h y).2 List.mem_cons_self) (by simp)
  | x :: l, [], _, _, h => absurd ((h x).1 List.mem_cons_self) (by simp)
  | x :: l, y :: m, hl, hm, h => by
    obtain ⟨l1, l2⟩ := List.pairwise_cons.mp hl
    obtain ⟨m1, m2⟩ := List.pairwise_cons.mp hm
    have e : x = y := by
      have a := (h x).1 List.mem_cons_self
      have b := (h y).2 List.mem_cons_self
      rcases List.mem_cons.mp a with a | a
      · exact a
      · rcases List.mem_cons.mp b with b | b
        · exact b.symm
        · have := l1 y b; have := m1 x a; omega
    subst e
    congr 1
    refine asc_uniq l m l2 m2 fun k => ⟨fun hk => ?_, fun hk => ?_⟩
    · rcases List.mem_cons.mp ((h k).1 (List.mem_cons_of_mem _ hk)) with rfl | z
      · have := l1 k hk; omega
      · exact z
    · rcases List.mem_cons.mp ((h k).2 (List.mem_cons_of_mem _ hk)) with rfl | z
      · have := m1 k hk; omega
      · exact z
theorem ints_rp {K : PySem.W.Frag} {Z : Rg} {H : Hp} : ∀ {vs : List V} {ds : List D} {ns : List Int}, RpL K Z H vs ds → ints? ds = some ns → vs = ns.map V.int ∧ ds = ns.map PyData.int
  | _, _, ns, .nil, h => by
    cases h
    exact ⟨rfl, rfl⟩
  | _, _, ns, .cons r rs, h => by
    cases r with
    | int i =>
      unfold ints? at h
      rename_i vs ds
      cases e : ints? ds with
      | none => rw [e] at h; cases h
      | some ms =>
        rw [e] at h
        cases h
        obtain ⟨e1, e2⟩ := ints_rp rs e
        rw [e1, e2]
        exact ⟨rfl, rfl⟩
    | _ => cases h
theorem rp_ints {K : PySem.W.Frag} {Z : Rg} {H : Hp} : ∀ ns : List Int, RpL K Z H (ns.map V.int) (ns.map PyData.int)
  | [] => .nil
  | n :: ns => .cons (.int n) (rp_ints ns)
theorem boot_sortedE : bootBuiltins ("sorted" : Str) = some (.builtin "sorted") := by decide +kernel
theorem boot_setE : bootBuiltins ("set" : Str) = some (.type "set") := by decide +kernel
end
end Ew
namespace Ew
open PySem PySem.Spec PyProof.Rows L2
structure Ok (P : Program) (w : World) (K : PySem.W.Frag) (mg : Str → Option Value) (base : Heap) (k : Nat) (x : Str) (F : List Arg → M D) : Prop where
  ex : ∃ (n : Nat) (f : Addr) (fd : FuncData) (ps : List Str), (∀ as q, as.length ≠ n → F as q = .stuck) ∧ FnOk P w K mg base (L2.CX P w) k f fd ps (spD K mg n F) ∧ mg x = some (.ref f) ∧ PySem.W.keepIn K (.ref f) = true ∧ Binds K fd ps []
section
variable {P : Program} {w : World} {K : PySem.W.Frag} {mg : Str → Option Value} {base : Heap} {k : Nat} {x : Str} {F : List Arg → M D} {f : Addr} {fd : FuncData} {ps : List Str} {n : Nat}
theorem okMk (kp : PySem.W.keepIn K (.ref f) = true) (mx : mg x = some (.ref f)) (b : Binds K fd ps []) (hl : ∀ as q, as.length ≠ n → F as q = .stuck) (h : FnOk P w K mg base (L2.CX P w) k f fd ps (spD K mg n F)) : Ok P w K mg base k x F :=
  ⟨n, f, fd, ps, hl, h, mx, kp, b⟩
theorem Ok.fnd {X : Cx} {j : Nat} (h : Ok X.prog X.w X.K X.mg X.base k x F) (hr : Room j X.A) (hk : k ≤ j := by first | decide | omega) : FnD X x F := by
  obtain ⟨n, f, fd, ps, h1, h2, h3, h4, h5⟩ := h.ex
  exact ⟨k, n, f, fd, ps, h1, h2, hr.mono hk, h3, h4, h5⟩
theorem roomHu {A : Around} (r : Room k A) : A.units + deep < cLine := by
  have := r.un
  unfold deep
  omega
theorem F_draw_len : ∀ as q, as.length ≠ 2 → F_draw as q = .stuck := fun as q h => by
  match as, h with
  | [], _ => rfl
  | [.d _], _ => rfl
  | [.pool], _ => rfl
  | [.pool, .pool], h => exact absurd rfl h
  | [.pool, .d _], h => exact absurd rfl h
  | [.d _, _], h => exact absurd rfl h
  | .d _ :: _ :: _ :: _, _ => rfl
  | .pool :: .d x :: _ :: _, _ => cases x <;> rfl
  | .pool :: .pool :: _ :: _, _ => rfl
def spLaw (K : PySem.W.Frag) : Sp := fun vs H Q _ => ∃ (a : Addr) (ns : List Int), vs = [.ref a] ∧ SqL K H a (ns.map V.int) ∧ LamX.Tabs TABS H ∧ ∀ H', Q (.bl true) H'
theorem br_law {p sc : Addr} {H : Hp} {q : Pool} (pl : PoolAt p sc H q) {a : Addr} (n : Nat) : BR K p sc (fun _ => False) H (fun _ => False) ([some (.ref a), some (.ref p)] ++ List.replicate n none) H ([none, some .pool] ++ List.replicate n none) q := by
  have only : ∀ (i : Nat) s, ([none, some Slot.pool] ++ List.replicate n none)[i]? = some (some s) → i = 1 ∧ s = .pool := fun i s e => by
    match i, e with
    | 0, e => cases e
    | 1, e => cases e; exact ⟨rfl, rfl⟩
    | i + 2, e =>
      have z : (List.replicate n (none : Option Slot))[i]? = some (some s) := e
      have z2 := List.eq_of_mem_replicate (List.mem_of_getElem? z)
      cases z2
  refine ⟨Keep.refl _ _, ⟨q, pl⟩, pl, fun z => z, fun z => z, fun b z => z.elim, fun b z => z.elim, by simp, fun i s e => ?_, fun i j b s t ij h1 m1 h2 m2 _ _ => ?_⟩
  · obtain ⟨rfl, rfl⟩ := only i s e
    rfl
  · obtain ⟨rfl, rfl⟩ := only i s h1
    cases m1
theorem law_end {W : WX} {t : TS} {B : DS} {a p sc : Addr} {H : Hp} {q : Pool} {Q : VK} {m : Nat} (good : ∃ q', B ([none, some .pool] ++ List.replicate m none) q = .ok (.ret (.bool true)) q') (pl : PoolAt p sc H q) (hq : ∀ H', Q (.bl true) H') (h : RdS K mg W t B) (nx : L2.St → Hp → Prop) :
    t { nx := nx, rt := Q } ([some (.ref a), some (.ref p)] ++ List.replicate m none) H := by
  obtain ⟨q', e⟩ := good
  refine h p sc _ H _ _ H _ q _ (br_law pl m) ?_
  rw [e]
  intro v H' _ _ r
  cases r
  exact hq H'
end
end Ew
namespace Ew
open PySem (PyData Str)
def DoesK {α : Type} (κ : Bool) (m : M α) (P : α → Prop) : Prop := ∀ q, ∃ a q', m q = .ok a q' ∧ P a ∧ (κ = true → q' = q)
abbrev Does {α : Type} (m : M α) (P : α → Prop) : Prop := DoesK false m P
section
variable {κ : Bool}
theorem does_ret {α : Type} {a : α} {P : α → Prop} (h : P a) : DoesK κ (M.ret a) P := fun q => ⟨a, q, rfl, h, fun _ => rfl⟩
theorem does_bnd {α β : Type} {m : M α} {f : α → M β} {P : α → Prop} {R : β → Prop} (h : DoesK κ m P) (k : ∀ a, P a → DoesK κ (f a) R) : DoesK κ (M.bnd m f) R := fun q => by
  obtain ⟨a, q1, e, p, u⟩ := h q
  obtain ⟨b, q2, e2, r, v⟩ := k a p q1
  exact ⟨b, q2, by unfold M.bnd; rw [e]; exact e2, r, fun z => (v z).trans (u z)⟩
theorem DoesK.imp {α : Type} {m : M α} {P R : α → Prop} (h : DoesK κ m P) (k : ∀ a, P a → R a) : DoesK κ m R := fun q => by
  obtain ⟨a, q1, e, p, u⟩ := h q
  exact ⟨a, q1, e, k a p, u⟩
theorem DoesK.up {α : Type} {m : M α} {P : α → Prop} (h : DoesK true m P) : DoesK κ m P := fun q => by
  obtain ⟨a, q1, e, p, u⟩ := h q
  exact ⟨a, q1, e, p, fun _ => u rfl⟩
theorem does_eq {α β : Type} {m : M α} {f : α → M β} {a : α} {R : β → Prop} (h : DoesK κ m (· = a)) (k : DoesK κ (f a) R) : DoesK κ (M.bnd m f) R := does_bnd h fun b e => by rw [e]; exact k
theorem does_noerr {α : Type} {m : M α} {P : α → Prop} (h : DoesK κ m P) : DoesK κ (M.noerr m) P := fun q => by
  obtain ⟨a, q1, e, p, u⟩ := h q
  exact ⟨a, q1, by unfold M.noerr; rw [e], p, u⟩
theorem eq_of {α : Type} {m : M α} {a : α} (h : DoesK true m (· = a)) : m = M.ret a := by
  funext q
  obtain ⟨b, q1, e, p, u⟩ := h q
  rw [e, p, u rfl]
  rfl
theorem of_eq {α : Type} {m : M α} {a : α} (h : m = M.ret a) : DoesK κ m (· = a) := by rw [h]; exact does_ret rfl
end
section
variable {κ : Bool}
theorem nr {α : Type} {a b : α} (h : a = b) : a = b := h
section
variable {α β : Type}
@[simp] theorem bnd_ret (a : α) (f : α → M β) : M.bnd (M.ret a) f = f a := nr rfl
@[simp] theorem bnd_stuck (f : α → M β) : M.bnd (M.stuck : M α) f = M.stuck := nr rfl
@[simp] theorem bnd_ite {c : Prop} [Decidable c] (m n : M α) (f : α → M β) : M.bnd (if c then m else n) f = if c then M.bnd m f else M.bnd n f := by split <;> rfl
theorem bnd_bnd {γ : Type} (m : M α) (f : α → M β) (g : β → M γ) : M.bnd (M.bnd m f) g = M.bnd m fun x => M.bnd (f x) g := by
  funext q
  unfold M.bnd
  cases m q <;> rfl
variable (ρ : Rho) (i : Nat) (a b c : DE) (t u : DT) (f g : D → D → M D) (h : D → M D) (d : D) (G : List Arg → M D)
@[simp] theorem at_c : dC d ρ = M.ret d := nr rfl
@[simp] theorem at_bin : dBin f a b ρ = M.bnd (a ρ) fun x => M.bnd (b ρ) fun y => f x y := nr rfl
@[simp] theorem at_un : dUn h a ρ = M.bnd (a ρ) h := nr rfl
@[simp] theorem at_v0 (d : D) (ρ : Rho) : dVar 0 (some (.dat d) :: ρ) = M.ret d := nr rfl
@[simp] theorem at_o0 (ds : List D) (ρ : Rho) : dVar 0 (some (.own ds) :: ρ) = M.ret (.list ds) := nr rfl
@[simp] theorem at_vs (i : Nat) (s : Option Slot) (ρ : Rho) : dVar (i + 1) (s :: ρ) = dVar i ρ := nr rfl
@[simp] theorem at_tup (es : List DE) : dTup es ρ = M.bnd (dEach es ρ) fun xs => M.ret (.tuple xs) := nr rfl
@[simp] theorem at_lst (es : List DE) : dLst es ρ = M.bnd (dEach es ρ) fun xs => M.ret (.list xs) := nr rfl
@[simp] theorem at_each0 : dEach [] ρ = M.ret [] := nr rfl
@[simp] theorem at_eachs (es : List DE) : dEach (a :: es) ρ = M.bnd (a ρ) fun x => M.bnd (dEach es ρ) fun xs => M.ret (x :: xs) := nr rfl
@[simp] theorem at_ad : aD a ρ = M.bnd (a ρ) fun x => M.ret (.d x) := nr rfl
@[simp] theorem at_p0 (ρ : Rho) : aPool 0 (some .pool :: ρ) = M.ret .pool := nr rfl
@[simp] theorem at_ps (i : Nat) (s : Option Slot) (ρ : Rho) : aPool (i + 1) (s :: ρ) = aPool i ρ := nr rfl
@[simp] theorem at_args0 : dArgs [] ρ = M.ret [] := nr rfl
@[simp] theorem at_argss (x : DA) (es : List DA) : dArgs (x :: es) ρ = M.bnd (x ρ) fun x => M.bnd (dArgs es ρ) fun xs => M.ret (x :: xs) := nr rfl
@[simp] theorem at_call (es : List DA) : dCall G es ρ = M.bnd (dArgs es ρ) G := nr rfl
@[simp] theorem at_tofk (a : DE) : tOf a ρ = M.bnd (a ρ) fun x => (match x with
  | .bool b => M.ret b
  | _ => M.stuck) := nr rfl
@[simp] theorem at_and : tAnd t u ρ = M.bnd (t ρ) fun c => if c = true then u ρ else M.ret false := nr rfl
@[simp] theorem at_or : tOr t u ρ = M.bnd (t ρ) fun c => if c = true then M.ret true else u ρ := nr rfl
@[simp] theorem at_not : tNot t ρ = M.bnd (t ρ) fun c => M.ret (!c) := nr rfl
@[simp] theorem at_dand : dAnd a b ρ = M.bnd (tOf a ρ) fun c => if c = true then b ρ else M.ret (.bool false) := nr rfl
@[simp] theorem at_dor : dOr a b ρ = M.bnd (tOf a ρ) fun c => if c = true then M.ret (.bool true) else b ρ := nr rfl
@[simp] theorem at_dnot : dNot a ρ = M.bnd (tOf a ρ) fun c => M.ret (.bool (!c)) := nr rfl
@[simp] theorem at_if : dIf t a b ρ = M.bnd (t ρ) fun c => if c = true then a ρ else b ρ := nr rfl
@[simp] theorem at_chain : dChain f g a b c ρ = M.bnd (a ρ) fun x => M.bnd (b ρ) fun y => M.bnd (f x y) fun k => (match k with
  | .bool true => M.bnd (c ρ) fun z => g y z
  | .bool false => M.ret (.bool false)
  | _ => M.stuck) := nr rfl
@[simp] theorem at_gn (x : D) : gN i x ρ = M.ret (ρ.set i (some (.dat x))) := nr rfl
@[simp] theorem at_g2 (g1 g2 : Tgt) (x y : D) : gT [g1, g2] (.tuple [x, y]) ρ = M.bnd (g1 x ρ) (g2 y) := by
  show M.bnd (g1 x ρ) (fun ρ' => M.bnd (g2 y ρ') fun ρ2 => M.ret ρ2) = _
  congr 1
  funext r q
  unfold M.bnd M.ret
  cases g2 y r q <;> rfl
@[simp] theorem at_g3 (g1 g2 g3 : Tgt) (x y z : D) : gT [g1, g2, g3] (.tuple [x, y, z]) ρ = M.bnd (g1 x ρ) fun r => M.bnd (g2 y r) (g3 z) := by
  show M.bnd (g1 x ρ) (fun r => M.bnd (g2 y r) fun r2 => M.bnd (g3 z r2) fun r3 => M.ret r3) = _
  congr 1
  funext r
  congr 1
  funext r2 q
  unfold M.bnd M.ret
  cases g3 z r2 q <;> rfl
@[simp] theorem at_iseq : iSeq a ρ = M.bnd (a ρ) fun x => (match x with
  | .list ds => M.ret ds
  | .tuple ds => M.ret ds
  | _ => M.stuck) := nr rfl
@[simp] theorem at_r1 : iR1 a ρ = M.bnd (a ρ) rng1 := nr rfl
@[simp] theorem at_r2 : iR2 a b ρ = M.bnd (a ρ) fun x => M.bnd (b ρ) fun y => rng2 x y := nr rfl
theorem rng1_of {j : Int} (h : j < 2 ^ 62) (h0 : -(2 ^ 62) ≤ j) : rng1 (.int j) = M.ret (intsFrom 0 j.toNat) := by
  unfold rng1
  dsimp only
  rw [if_pos (by unfold small62; rw [decide_eq_true h0, decide_eq_true h]; rfl)]
theorem rng2_of {i j : Int} (h : j < 2 ^ 62) (h0 : -(2 ^ 62) ≤ j) (k : i < 2 ^ 62) (k0 : -(2 ^ 62) ≤ i) : rng2 (.int i) (.int j) = M.ret (intsFrom i (j - i).toNat) := by
  unfold rng2
  dsimp only
  rw [if_pos (by unfold small62; rw [decide_eq_true h0, decide_eq_true h, decide_eq_true k0, decide_eq_true k]; rfl)]
theorem intsFrom_len (lo : Int) (n : Nat) : (intsFrom lo n).length = n := by unfold intsFrom; rw [List.length_map, List.length_range]
theorem intsFrom_at {lo : Int} {n i : Nat} {x : D} (h : (intsFrom lo n)[i]? = some x) : x = .int (lo + (i : Int)) ∧ i < n := by
  unfold intsFrom at h
  rw [List.getElem?_map] at h
  have hi : i < n := by
    rcases Nat.lt_or_ge i n with h1 | h1
    · exact h1
    · rw [List.getElem?_eq_none (by simpa using h1)] at h; cases h
  rw [List.getElem?_range hi] at h
  cases h
  exact ⟨rfl, hi⟩
variable (S T : DS)
@[simp] theorem at_nil : sNil ρ = M.ret (.next ρ) := nr rfl
@[simp] theorem at_seq : sSeq S T ρ = M.bnd (S ρ) fun o => (match o with
  | .next ρ' => T ρ'
  | o => M.ret o) := nr rfl
@[simp] theorem at_asg (k : Tgt) : sAsg k a ρ = M.bnd (a (hideR ρ)) fun d => M.bnd (k d ρ) fun ρ' => M.ret (.next ρ') := nr rfl
@[simp] theorem at_asgf (k : Tgt) : sAsgF k a ρ = M.bnd (a ρ) fun d => if flatD d = true then M.bnd (k d ρ) fun ρ' => M.ret (.next ρ') else M.stuck := nr rfl
@[simp] theorem at_sown : sOwn i a ρ = M.bnd (a (hideR ρ)) fun d => (match d with
  | .list ds => M.ret (.next (ρ.set i (some (.own ds))))
  | _ => M.stuck) := nr rfl
@[simp] theorem at_sownf : sOwnF i a ρ = M.bnd (a ρ) fun d => (match d with
  | .list ds => if flatAll ds = true then M.ret (.next (ρ.set i (some (.own ds)))) else M.stuck
  | _ => M.stuck) := nr rfl
@[simp] theorem at_sret : sRet a ρ = M.bnd (a ρ) fun d => M.ret (.ret d) := nr rfl
@[simp] theorem at_sretn : sRetN ρ = M.ret (.ret .none) := nr rfl
@[simp] theorem at_sif : sIf t S T ρ = M.bnd (t ρ) fun c => if c = true then S ρ else T ρ := nr rfl
@[simp] theorem at_sdrop : sDrop a ρ = M.bnd (a ρ) fun _ => M.ret (.next ρ) := nr rfl
@[simp] theorem at_sbrk : sBrk ρ = M.ret (.brk ρ) := nr rfl
@[simp] theorem at_scont : sCont ρ = M.ret (.cont ρ) := nr rfl
@[simp] theorem at_sfor (it : DI) (k : Tgt) : sFor it k S ρ = M.bnd (it (hideR ρ)) fun xs => forGo k S xs ρ := nr rfl
@[simp] theorem hide_nil : hideR [] = [] := nr rfl
@[simp] theorem hide_d (d : D) (ρ : Rho) : hideR (some (.dat d) :: ρ) = some (.dat d) :: hideR ρ := nr rfl
@[simp] theorem hide_p (ρ : Rho) : hideR (some .pool :: ρ) = some .pool :: hideR ρ := nr rfl
@[simp] theorem hide_o (ds : List D) (ρ : Rho) : hideR (some (.own ds) :: ρ) = none :: hideR ρ := nr rfl
@[simp] theorem hide_q (ds : List (D × D)) (ρ : Rho) : hideR (some (.odic ds) :: ρ) = none :: hideR ρ := nr rfl
@[simp] theorem hide_n (ρ : Rho) : hideR (none :: ρ) = none :: hideR ρ := nr rfl
@[simp] theorem set_0 (s x : Option Slot) (ρ : Rho) : List.set (s :: ρ) 0 x = x :: ρ := nr rfl
@[simp] theorem set_s (s x : Option Slot) (i : Nat) (ρ : Rho) : List.set (s :: ρ) (i + 1) x = s :: List.set ρ i x := nr rfl
theorem fnD_at {n N : Nat} {B : DS} {as : List Arg} (h : as.length = n) : fnD n N B as = M.bnd (B (as.map argSlot ++ List.replicate (N - n) none)) fun o => (match o with
    | .ret d => M.ret d
    | .next _ => M.ret .none
    | _ => M.stuck) := if_pos h
theorem does_fn {n N : Nat} {B : DS} {as : List Arg} {P : D → Prop} (h : as.length = n) (b : DoesK κ (B (as.map argSlot ++ List.replicate (N - n) none)) fun o => match o with
    | .ret d => P d
    | .next _ => P .none
    | _ => False) : DoesK κ (fnD n N B as) P := by
  rw [fnD_at h]
  refine does_bnd b fun o ho => ?_
  cases o with
  | ret d => exact does_ret ho
  | next r => exact does_ret ho
  | brk r => exact ho.elim
  | cont r => exact ho.elim
@[simp] theorem slot_d (d : D) : argSlot (.d d) = some (.dat d) := nr rfl
@[simp] theorem slot_p : argSlot .pool = some .pool := nr rfl
end
theorem for_does {g : Tgt} {B : DS} {R : Out → Prop} (I : Nat → Rho → Prop) : ∀ (xs : List D) (i : Nat) (ρ : Rho), I i ρ →
    (∀ (j : Nat) (x : D) (ρ : Rho), xs[j]? = some x → I (i + j) ρ → DoesK κ (M.bnd (g x ρ) B) fun o => match o with
      | .next r => I (i + j + 1) r
      | .cont r => I (i + j + 1) r
      | .brk r => R (.next r)
      | .ret d => R (.ret d)) → (∀ ρ, I (i + xs.length) ρ → R (.next ρ)) → DoesK κ (forGo g B xs ρ) R
  | [], i, ρ, h, _, k => does_ret (k ρ h)
  | x :: xs, i, ρ, h, s, k => by
    have s0 := s 0 x ρ rfl h
    have e : forGo g B (x :: xs) ρ = M.bnd (M.bnd (g x ρ) B) fun o => (match o with
      | .next ρ2 => forGo g B xs ρ2
      | .cont ρ2 => forGo g B xs ρ2
      | .brk ρ2 => M.ret (.next ρ2)
      | .ret d => M.ret (.ret d)) := (bnd_bnd _ _ _).symm
    rw [e]
    have rest : ∀ r, I (i + 1) r → DoesK κ (forGo g B xs r) R := fun r hr => for_does I xs (i + 1) r hr (fun j x ρ hx hi => by
      have z := s (j + 1) x ρ hx (by rw [show i + (j + 1) = i + 1 + j by omega]; exact hi)
      rw [show i + (j + 1) = i + 1 + j by omega] at z
      exact z) fun ρ hρ => k ρ (by rw [List.length_cons, show i + (xs.length + 1) = i + 1 + xs.length by omega]; exact hρ)
    refine does_bnd s0 fun o ho => ?_
    cases o with
    | next r => exact rest r ho
    | cont r => exact rest r ho
    | brk r => exact does_ret ho
    | ret d => exact does_ret ho
theorem for_rng {g : Tgt} {B : DS} {R : Out → Prop} {lo : Int} {n : Nat} {ρ : Rho} (I : Nat → Rho → Prop) (h0 : I 0 ρ)
    (s : ∀ (j : Nat) (ρ : Rho), j < n → I j ρ → DoesK κ (M.bnd (g (.int (lo + (j : Int))) ρ) B) fun o => match o with
      | .next r => I (j + 1) r
      | .cont r => I (j + 1) r
      | .brk r => R (.next r)
      | .ret d => R (.ret d)) (k : ∀ ρ, I n ρ → R (.next ρ)) : DoesK κ (forGo g B (intsFrom lo n) ρ) R :=
  for_does I _ 0 ρ h0 (fun j x ρ hx hi => by
    obtain ⟨rfl, hj⟩ := intsFrom_at hx
    rw [Nat.zero_add] at hi ⊢
    exact s j ρ hj hi) fun ρ h => k ρ (by rw [Nat.zero_add, intsFrom_len] at h; exact h)
theorem comp_all {f : D → M (Option D)} {Q : Nat → D → Prop} : ∀ (xs : List D) (i : Nat), (∀ (j : Nat) (x : D), xs[j]? = some x → DoesK κ (f x) fun o => ∃ y, o = some y ∧ Q (i + j) y) →
    DoesK κ (compGo f xs) fun ys => ys.length = xs.length ∧ ∀ (j : Nat) (y : D), ys[j]? = some y → Q (i + j) y
  | [], i, _ => does_ret ⟨rfl, fun j y h => by simp at h⟩
  | x :: xs, i, h => by
    refine does_bnd (h 0 x rfl) fun o ⟨y, ho, hy⟩ => ?_
    subst ho
    refine does_bnd (comp_all (Q := Q) xs (i + 1) fun j x hx => by
      have z := h (j + 1) x hx
      rw [show i + (j + 1) = i + 1 + j by omega] at z
      exact z) fun ys hys => does_ret ?_
    refine ⟨by simp [hys.1], fun j z hz => ?_⟩
    cases j with
    | zero => simp at hz; rw [← hz]; exact hy
    | succ j =>
      have hz' : ys[j]? = some z := by simpa using hz
      have w := hys.2 j z hz'
      rw [show i + 1 + j = i + (j + 1) by omega] at w
      exact w
theorem lc_all {own : List Nat} {it : DI} {g : Tgt} {e : DE} {ρ : Rho} {xs : List D} {Q : Nat → D → Prop} {P : D → Prop} (hi : DoesK κ (it ρ) (· = xs)) (hl : xs.length ≤ PySem.sizeLine)
    (h : ∀ (j : Nat) (x : D), xs[j]? = some x → DoesK κ (M.bnd (g x (wipeR ρ own)) e) (Q j)) (k : ∀ ys : List D, ys.length = xs.length → (∀ j y, ys[j]? = some y → Q j y) → P (.list ys)) : DoesK κ (dComp own it g tTrue e ρ) P := by
  refine does_eq hi ?_
  rw [if_pos hl]
  refine does_bnd (does_noerr (comp_all (Q := Q) xs 0 fun j x hx => ?_)) fun ys hys => does_ret (k ys hys.1 fun j y hy => by have z := hys.2 j y hy; rw [Nat.zero_add] at z; exact z)
  have e1 : compTurn g tTrue e (wipeR ρ own) x = M.bnd (M.bnd (g x (wipeR ρ own)) e) fun y => M.ret (some y) := by rw [bnd_bnd]; rfl
  rw [e1, Nat.zero_add]
  exact does_bnd (h j x hx) fun y hy => does_ret ⟨y, rfl, hy⟩
theorem lc_filt {own : List Nat} {it : DI} {g : Tgt} {t : DT} {e : DE} {ρ : Rho} {xs : List D} (G : D → Rho) (p : D → Bool) (F : D → D) (hi : DoesK κ (it ρ) (· = xs)) (hl : xs.length ≤ PySem.sizeLine)
    (hg : ∀ x ∈ xs, g x (wipeR ρ own) = M.ret (G x)) (ht : ∀ x ∈ xs, DoesK κ (t (G x)) (· = p x)) (he : ∀ x ∈ xs, p x = true → DoesK κ (e (G x)) (· = F x)) : DoesK κ (dComp own it g t e ρ) (· = .list ((xs.filter p).map F)) := by
  refine does_eq hi ?_
  rw [if_pos hl]
  refine does_bnd (P := (· = (xs.filter p).map F)) (does_noerr ?_) fun ys hys => does_ret (by rw [hys])
  clear hi hl
  induction xs with
  | nil => exact does_ret rfl
  | cons x xs ih =>
    have ih' := ih (fun y hy => hg y (List.mem_cons_of_mem _ hy)) (fun y hy => ht y (List.mem_cons_of_mem _ hy)) (fun y hy => he y (List.mem_cons_of_mem _ hy))
    have e1 : compTurn g t e (wipeR ρ own) x = M.bnd (t (G x)) fun c => if c = true then M.bnd (e (G x)) fun y => M.ret (some y) else M.ret none := by
      unfold compTurn
      rw [hg x List.mem_cons_self]
      rfl
    show DoesK κ (M.bnd (compTurn g t e (wipeR ρ own) x) fun o => M.bnd (compGo _ xs) fun r => M.ret (o.toList ++ r)) _
    rw [e1, bnd_bnd]
    refine does_eq (ht x List.mem_cons_self) ?_
    by_cases hp : p x = true
    · rw [if_pos hp, bnd_bnd]
      refine does_eq (he x List.mem_cons_self hp) ?_
      rw [bnd_ret]
      exact does_eq ih' (does_ret (by simp [List.filter_cons, hp]))
    · rw [if_neg hp, bnd_ret]
      exact does_eq ih' (does_ret (by simp [List.filter_cons, hp]))
end
theorem does_draw {many : Int} (h : 0 < many) (h2 : many < 2 ^ 2000) : Does (F_draw [.pool, .d (.int many)]) fun d => ∃ v : Int, d = .int v ∧ 0 ≤ v ∧ v < many := fun q => by
  obtain ⟨v, q', e, a, b⟩ := draw_ok many h h2 q
  exact ⟨_, q', e, ⟨v, rfl, a, b⟩, fun z => nomatch z⟩
end Ew
namespace Ew
open PySem PySem.Spec PyProof.Rows L2
def fuelW : Nat := 4096
def has? (xs : List D) (d : D) : Option Bool := match d with
  | .int n => (match ints? xs with
    | some ns => some (decide (n ∈ ns))
    | none => if (d.canLay0 && PyData.canLayAll0 xs) = true ∧ d.depth < deep then some (xs.any fun y => PyData.eqv y d) else none)
  | _ => if (d.canLay0 && PyData.canLayAll0 xs) = true ∧ d.depth < deep then some (xs.any fun y => PyData.eqv y d) else none
def oHas (x y : D) : Option Bool := match y with
  | .list xs => has? xs x
  | .tuple xs => has? xs x
  | _ => none
def oIn (x y : D) : M D := match oHas x y with
  | some b => M.ret (.bool b)
  | none => M.stuck
def oNotIn (x y : D) : M D := match oHas x y with
  | some b => M.ret (.bool (!b))
  | none => M.stuck
def rgOk (i j : Int) : Bool := small62 i && small62 j && decide ((j - i).toNat ≤ 2 ^ 24)
def rgt2 (x y : D) : M D := match x, y with
  | .int i, .int j => if rgOk i j = true then M.ret (.tuple (intsFrom i (j - i).toNat)) else M.stuck
  | _, _ => M.stuck
def rgt1 (y : D) : M D := rgt2 (.int 0) y
def bMax2 (x y : D) : M D := match x, y with
  | .int i, .int j => M.ret (.int (if j > i then j else i))
  | _, _ => M.stuck
def bMin2 (x y : D) : M D := match x, y with
  | .int i, .int j => M.ret (.int (if j < i then j else i))
  | _, _ => M.stuck
def oCat (x y : D) : M D := match x, y with
  | .list xs, .list ys => if xs.length + ys.length ≤ lineMax then M.ret (.list (xs ++ ys)) else M.stuck
  | _, _ => M.stuck
def dPart (o : Option DE) : Rho → M (Option Int) := fun ρ => match o with
  | none => M.ret none
  | some e => M.bnd (e ρ) fun x => match x with
    | .int i => M.ret (some i)
    | _ => M.stuck
def cutD (xs : List D) (lo hi : Option Int) : List D := (xs.drop (HT.sIx xs.length 0 lo)).take (HT.sIx xs.length xs.length hi - HT.sIx xs.length 0 lo)
def oSl (x : D) (lo hi : Option Int) : M D := match x with
  | .list xs => M.ret (.list (cutD xs lo hi))
  | .tuple xs => M.ret (.tuple (cutD xs lo hi))
  | .str z => if z.length ≤ lineMax then M.ret (.str (L2.cutS z lo hi)) else M.stuck
  | _ => M.stuck
def dSl (a : DE) (lo hi : Option DE) : DE := fun ρ => M.bnd (a ρ) fun x => M.bnd (dPart lo ρ) fun l => M.bnd (dPart hi ρ) fun h => oSl x l h
section
variable {X : Cx} {W : WX} {a b c e : Expr} {A B C : DE} {pos pos' pos2 p1 p2 : Pos}
theorem any_ints {n : Int} : ∀ {xs : List D} {ns : List Int}, ints? xs = some ns → (xs.any fun y => PyData.eqv y (.int n)) = decide (n ∈ ns)
  | [], ns, h => by cases h; rfl
  | .int i :: xs, ns, h => by
    unfold ints? at h
    cases e : ints? xs with
    | none => rw [e] at h; cases h
    | some ms =>
      rw [e] at h
      cases h
      rw [List.any_cons, any_ints e]
      have e2 : PyData.eqv (.int i) (.int n) = decide (n = i) := by
        simp only [PyData.eqv]
        by_cases hh : i = n
        · subst hh; simp
        · have h3 : ¬ n = i := fun z => hh z.symm
          simp [hh, h3]
      rw [e2]
      by_cases hh : n = i <;> simp [hh]
  | .none :: _, _, h => by cases h
  | .bool _ :: _, _, h => by cases h
  | .str _ :: _, _, h => by cases h
  | .tuple _ :: _, _, h => by cases h
  | .list _ :: _, _, h => by cases h
  | .dict _ :: _, _, h => by cases h
theorem ints_lay : ∀ {xs : List D} {ns : List Int}, ints? xs = some ns → PyData.canLayAll0 xs = true
  | [], ns, h => rfl
  | .int i :: xs, ns, h => by
    unfold ints? at h
    cases e : ints? xs with
    | none => rw [e] at h; cases h
    | some ms =>
      have z := ints_lay e
      simp [PyData.canLayAll0, PyData.canLay0, z]
  | .none :: _, _, h => by cases h
  | .bool _ :: _, _, h => by cases h
  | .str _ :: _, _, h => by cases h
  | .tuple _ :: _, _, h => by cases h
  | .list _ :: _, _, h => by cases h
  | .dict _ :: _, _, h => by cases h
theorem has_eqv {xs : List D} {d : D} {b : Bool} (h : has? xs d = some b) : d.canLay0 = true ∧ PyData.canLayAll0 xs = true ∧ d.depth < deep ∧ b = xs.any fun y => PyData.eqv y d := by
  have gen : (if (d.canLay0 && PyData.canLayAll0 xs) = true ∧ d.depth < deep then some (xs.any fun y => PyData.eqv y d) else none) = some b → d.canLay0 = true ∧ PyData.canLayAll0 xs = true ∧ d.depth < deep ∧ b = xs.any fun y => PyData.eqv y d := fun h => by
    by_cases hc : (d.canLay0 && PyData.canLayAll0 xs) = true ∧ d.depth < deep
    · rw [if_pos hc] at h
      obtain ⟨h1, h2⟩ := hc
      rw [Bool.and_eq_true] at h1
      exact ⟨h1.1, h1.2, h2, (Option.some.inj h).symm⟩
    · rw [if_neg hc] at h; cases h
  unfold has? at h
  split at h
  · split at h
    · rename_i n _ ns e
      exact ⟨by simp [PyData.canLay0], ints_lay e, by simp [PyData.depth, deep], by rw [← Option.some.inj h, any_ints e]⟩
    · exact gen h
  · exact gen h
def rHasP (K : PySem.W.Frag) (g : Bool → Bool) : R2 := fun x y H Q => ∃ Z dx dy b, Rp K Z H x dx ∧ Rp K Z H y dy ∧ oHas dx dy = some b ∧ Q (.bl (g b)) H
theorem opd_in (hu : X.A.units + deep < cLine) : OpD X W (compareOp .In) oIn := by
  refine ⟨rHasP X.K id, fun pins s σ H x y v u Q I rx ry h => ?_, fun p sc Z σ H q x y dx dy Q pl nz hx hy hp => ?_⟩
  · obtain ⟨Z, dx, dy, b, h1, h2, h3, q⟩ := h
    obtain ⟨as, r1⟩ := h1.reads I v rx
    obtain ⟨bs, r2⟩ := h2.reads I u ry
    cases dy with
    | list xs =>
      obtain ⟨e1, e2, e3, e4⟩ := has_eqv (show has? xs dx = some b from h3)
      subst e4
      exact SeqAt.in_list_reads r2 r1 e2 e1 (by omega) ⟨.bl _, H, I, rfl, q⟩
    | tuple xs =>
      obtain ⟨e1, e2, e3, e4⟩ := has_eqv (show has? xs dx = some b from h3)
      subst e4
      exact SeqAt.in_tuple_reads r2 r1 e2 e1 (by omega) ⟨.bl _, H, I, rfl, q⟩
    | _ => cases h3
  · unfold oIn at hp
    cases e : oHas dx dy with
    | none => rw [e] at hp; exact hp.elim
    | some b =>
      rw [e] at hp
      exact ⟨Z, dx, dy, b, hx, hy, e, hp _ H (Keep.refl _ _) pl (.bl _)⟩
theorem opd_notin (hu : X.A.units + deep < cLine) : OpD X W (compareOp .NotIn) oNotIn := by
  refine ⟨rHasP X.K not, fun pins s σ H x y v u Q I rx ry h => ?_, fun p sc Z σ H q x y dx dy Q pl nz hx hy hp => ?_⟩
  · obtain ⟨Z, dx, dy, b, h1, h2, h3, q⟩ := h
    obtain ⟨as, r1⟩ := h1.reads I v rx
    obtain ⟨bs, r2⟩ := h2.reads I u ry
    cases dy with
    | list xs =>
      obtain ⟨e1, e2, e3, e4⟩ := has_eqv (show has? xs dx = some b from h3)
      subst e4
      exact SeqAt.notIn_list_reads r2 r1 e2 e1 (by omega) ⟨.bl _, H, I, rfl, q⟩
    | tuple xs =>
      obtain ⟨e1, e2, e3, e4⟩ := has_eqv (show has? xs dx = some b from h3)
      subst e4
      exact SeqAt.notIn_tuple_reads r2 r1 e2 e1 (by omega) ⟨.bl _, H, I, rfl, q⟩
    | _ => cases h3
  · unfold oNotIn at hp
    cases e : oHas dx dy with
    | none => rw [e] at hp; exact hp.elim
    | some b =>
      rw [e] at hp
      exact ⟨Z, dx, dy, b, hx, hy, e, hp _ H (Keep.refl _ _) pl (.bl _)⟩
theorem rgV_ints (i j : Int) : rgV i j = ((List.range (j - i).toNat).map fun (k : Nat) => i + (k : Int)).map V.int := by
  unfold rgV
  rw [List.map_map]
  rfl
theorem from_ints (i : Int) (n : Nat) : intsFrom i n = ((List.range n).map fun (k : Nat) => i + (k : Int)).map PyData.int := by
  unfold intsFrom
  rw [List.map_map]
  rfl
theorem rp_rg {K : PySem.W.Frag} {Z : Rg} {H : Hp} (i j : Int) : RpL K Z H (rgV i j) (intsFrom i (j - i).toNat) := by
  rw [rgV_ints, from_ints]
  exact rp_ints _
theorem rgOk_of {i j : Int} (h : rgOk i j = true) : RgOk i j := by
  unfold rgOk at h
  rw [Bool.and_eq_true, Bool.and_eq_true] at h
  obtain ⟨⟨h1, h2⟩, h3⟩ := h
  have a := small62_ok h1
  have b := small62_ok h2
  exact ⟨a.1, a.2, b.1, b.2, of_decide_eq_true h3⟩
theorem op_rgt (i : Int) : Op1 X W (RpF X.K) (fun y H Q => ∃ n, y = .int n ∧ RgOk i n ∧ ∀ q, H q = none → Q (.ref q) (upd H q (.tup (rgV i n)))) (rgt2 (.int i)) := fun p sc Z σ H q y dy Q pl nz hy hp => by
  cases hy with
  | int n =>
    unfold rgt2 at hp
    dsimp only at hp
    by_cases h : rgOk i n = true
    · rw [if_pos h] at hp
      exact ⟨n, rfl, rgOk_of h, fun l hl => hp _ _ (new_keep hl) (new_pool hl pl) (.tup (.inl upd_same) (rp_rg i n))⟩
    · rw [if_neg h] at hp; exact hp.elim
  | _ => exact hp.elim
theorem pd_rgt1 (hc : X.calm = true) (hg : Gl X "tuple") (hm : X.mg "tuple" = none) (hg2 : Gl X "range") (hm2 : X.mg "range" = none) (ha : PDe X W a A) (na : starEach [a] X.env = (false, eval a X.env) :: starEach [] X.env := by rfl)
    (nb : starEach [.Call (.Name "range" p2) [a] [] p1] X.env = (false, eval (.Call (.Name "range" p2) [a] [] p1) X.env) :: starEach [] X.env := by rfl) : PDe X W (.Call (.Name "tuple" pos') [.Call (.Name "range" p2) [a] [] p1] [] pos) (dUn rgt1 A) := by
  obtain ⟨t, h1, h2⟩ := ha
  exact ⟨_, pe_tupRg hc hg hm (prg_1 hg2 hm2 h1 na) nb, rd_1 (X := X) (W := W) (r := fun y H Q => ∃ n, y = .int n ∧ RgOk 0 n ∧ ∀ q, H q = none → Q (.ref q) (upd H q (.tup (rgV 0 n)))) sh_rp (op_rgt 0) h2⟩
theorem pdf_cat (ha : PDe X W a A) (hb : PDe X W b B) : PDf X W (.BinOp a .Add b pos) (dBin oCat A B) := by
  obtain ⟨ta, a1, a2⟩ := ha
  obtain ⟨tb, b1, b2⟩ := hb
  refine ⟨_, pe_op op_cat a1 b1, rd_2 sh_new (fun p sc Z σ H q x y dx dy Q pl nz hx hy hp => ?_) a2 b2⟩
  cases hx with
  | lst ha za ra =>
    rename_i a xs ds
    cases hy with
    | lst hb zb rb =>
      rename_i b ys es
      unfold oCat at hp
      dsimp only at hp
      by_cases hl : ds.length + es.length ≤ lineMax
      · rw [if_pos hl] at hp
        refine ⟨a, b, xs, ys, rfl, rfl, ha, hb, by rw [ra.length, rb.length]; exact hl, fun c hc => ?_⟩
        exact hp _ _ (new_keep hc) (new_pool hc pl) ⟨c, _, _, rfl, rfl, hc, upd_same, ((ra.append rb).sub fun b z n => ⟨.inl z, fun e => n (e ▸ hc)⟩).stand (new_stand hc)⟩
      · rw [if_neg hl] at hp; exact hp.elim
    | _ => exact hp.elim
  | _ => exact hp.elim
def PDo (X : Cx) (W : WX) (o : Option Expr) (F : Rho → M (Option Int)) : Prop := ∃ t, PO X o t ∧ Rd1 X W (fun _ _ _ _ v d => v = d) t F
theorem sh_eq {β : Type} : Shf (fun (_ : Addr) (_ : Rg) (_ _ : Hp) (v d : β) => v = d) := fun p sc Z H H2 H' q q2 b a k pl pl2 r => r
theorem pdo_none : PDo X W none (dPart none) := ⟨_, po_none, fun p sc Z σ H ρ q Q s hp => hp none H (Keep.refl _ _) s.pool rfl⟩
theorem pdo_some (ha : PDe X W a A) : PDo X W (some a) (dPart (some A)) := by
  obtain ⟨t, h1, h2⟩ := ha
  refine ⟨_, po_some h1, rd_1 (X := X) (W := W) (r := fun x H Q => ∃ i, x = .int i ∧ Q (some i) H) sh_eq (fun p sc Z σ H q x dx Q pl nz hx hp => ?_) h2⟩
  cases hx with
  | int i => exact ⟨i, rfl, hp _ H (Keep.refl _ _) pl rfl⟩
  | _ => exact hp.elim
theorem RpL.cut {K : PySem.W.Frag} {Z : Rg} {H : Hp} : ∀ {vs : List V} {ds : List D} (n : Nat), RpL K Z H vs ds → RpL K Z H (vs.drop n) (ds.drop n) ∧ RpL K Z H (vs.take n) (ds.take n)
  | vs, ds, 0, r => ⟨r, .nil⟩
  | _, _, n + 1, .nil => ⟨.nil, .nil⟩
  | _, _, n + 1, .cons r rs => ⟨(RpL.cut n rs).1, .cons r (RpL.cut n rs).2⟩
theorem cut_rp {K : PySem.W.Frag} {Z : Rg} {H : Hp} {vs : List V} {ds : List D} (r : RpL K Z H vs ds) (lo hi : Option Int) : RpL K Z H (cutV vs lo hi) (cutD ds lo hi) := by
  unfold cutV cutD
  rw [r.length]
  exact (RpL.cut _ (RpL.cut _ r).1).2
theorem cut_whole {vs : List V} {ds : List D} {lo hi : Option Int} (e : vs.length = ds.length) (h1 : HT.sIx vs.length 0 lo = 0) (h2 : HT.sIx vs.length vs.length hi = vs.length) : cutD ds lo hi = ds := by
  unfold cutD
  rw [← e, h1, h2]
  simp [e]
theorem pd_sl {lo hi : Option Expr} {L U : Option DE} (ha : PDe X W a A) (hl : PDo X W lo (dPart L)) (hu : PDo X W hi (dPart U)) : PDe X W (.Subscript a (.Slice lo hi none p2) pos) (dSl A L U) := by
  obtain ⟨ta, a1, a2⟩ := ha
  obtain ⟨tl, l1, l2⟩ := hl
  obtain ⟨tu, u1, u2⟩ := hu
  refine ⟨_, pe_slice (SlR.or (SlR.or sl_list sl_tupA) L2.sl_str) a1 l1 u1, ?_⟩
  refine rd_bnd (ValA := fun _ Z H v d => Rp X.K Z H v d) (f := fun ρ x => M.bnd (dPart L ρ) fun l => M.bnd (dPart U ρ) fun h => oSl x l h) (k := fun x σ H Q => tl σ H fun l H2 => tu σ H2 fun u H3 => (fun x lo hi H Q => (rSlL X.K x lo hi H Q ∨ rSlA X.K x lo hi H Q) ∨ L2.rSlS x lo hi H Q) x l u H3 Q) sh_rp (fun _ _ _ _ _ _ h => h) a2 fun p sc Z σ H ρ q x dx Q s hv hp => ?_
  refine l2 p sc Z σ H ρ q _ s ((Post.bnd (Rel := fun _ v d => v = d) (Rel' := RpF X.K p Z H) hp).to fun l H1 ⟨dl, q1, e1, k1, pl1, r1, hp1⟩ => ?_)
  have s1 := s.next k1 pl1
  subst r1
  refine u2 p sc Z σ H1 ρ q1 _ s1 ((Post.bnd (Rel := fun _ v d => v = d) (Rel' := RpF X.K p Z H) (hp1.later k1)).to fun u H2 ⟨du, q2, e2, k2, pl2, r2, hp2⟩ => ?_)
  subst r2
  have hv2 := hv.stand ((k1.trans k2).stand s.pool s.nz)
  have hp3 := hp2.later k2
  unfold oSl at hp3
  have up : ∀ {H' : Hp} {v : V} {d : D}, Rp X.K Z H' v d → Rp X.K (Zn Z H) H' v d := fun r => r.grow Zn.base
  cases hv2 with
  | lst h1 z rs =>
    refine .inl (.inl ⟨_, _, rfl, .inl (.inl h1), fun c hc => hp3 _ _ (new_keep hc) (new_pool hc pl2) ?_⟩)
    have hcH : H c = none := by
      cases e : H c with
      | none => rfl
      | some o =>
        by_cases hcp : c = p
        · subst hcp; rw [pl2.1] at hc; cases hc
        · exact absurd hc ((k1.trans k2).any hcp e)
    exact .lst upd_same (.inr hcH) (((cut_rp rs _ _).stand (new_stand hc)).grow Zn.base)
  | tup h1 rs =>
    refine .inl (.inr ⟨_, _, rfl, h1, fun hw => ?_, fun hw c hc => hp3 _ _ (new_keep hc) (new_pool hc pl2) (.tup (.inl upd_same) (((cut_rp rs _ _).stand (new_stand hc)).grow Zn.base))⟩)
    exact hp3 _ H2 (Keep.refl _ _) pl2 (by rw [cut_whole rs.length hw.1 hw.2]; exact .tup h1 (rs.grow Zn.base))
  | str z =>
    dsimp only at hp3
    by_cases hl : z.length ≤ lineMax
    · rw [if_pos hl] at hp3
      exact .inr ⟨z, rfl, hl, hp3 _ H2 (Keep.refl _ _) pl2 (.str _)⟩
    · rw [if_neg hl] at hp3; exact hp3.elim
  | _ => exact hp3.elim
def dCall0 (F : List Arg → M D) : DE := fun _ => M.noerr (F [])
theorem pd_call0 {x : Str} {F : List Arg → M D} (fn : FnD X x F) (hg : Gl X x) (hdb : (x == ("__debug__" : Str)) = false := by decide) : PDe X W (.Call (.Name x pos') [] [] pos) (dCall0 F) := by
  obtain ⟨k, n, f, fd, ps, hn, hf, hr, hm, hk, hb⟩ := fn.ex
  refine ⟨_, pe_call0 hf hr hg hm hk hb .nil passL hdb, fun p sc Z σ H ρ q Q s hp => ?_⟩
  have hp' : Post X.mg p sc H (RpF X.K p Z H) (fun c od H' => W c od σ H') Q (M.noerr (F []) q) := hp
  unfold M.noerr at hp'
  have hlen : ¬ (0 ≠ n) := fun z => by
    rw [hn [] q z] at hp'
    exact hp'
  cases e : F [] q with
  | ok a q1 =>
    rw [e] at hp'
    refine ⟨by show 0 = n; omega, p, sc, Z, q, [], s.pool, s.nz, trivial, ?_⟩
    rw [e]
    exact hp'
  | err z q1 => rw [e] at hp'; exact hp'.elim
  | stuck => rw [e] at hp'; exact hp'.elim
end
end Ew
namespace EwSort
open PySem PySem.W PySem.Calls PySem.SeqAt PyProof.Rows
section
variable {prog : Program} {w : World} {A : Around} {E : Value → Shared → Prop} {s : Shared}
theorem call_tup_lt {Q : Value → Shared → Prop} {l b : Addr} {items items2 : Array Value} {e r : Nat → Bool} (hl : s.heap.IsTuple l items) (hb : s.heap.IsTuple b items2)
    (he : ∀ j (h1 : j < items.size) (h2 : j < items2.size), SeqAt.EqAt A.in1 s items[j] items2[j] (e j)) (hr : ∀ j (h1 : j < items.size) (h2 : j < items2.size), e j = false → SeqAt.RcLt A.in1 s items[j] items2[j] (r j))
    (h : Q (.bool (SeqAt.firstLt e r (decide (items.size < items2.size)) (List.range (min items.size items2.size)))) s) : wpAny (model prog w) A (call (.builtin "tuple.__lt__") [.ref l, .ref b]) Q E s := by
  obtain ⟨⟨k1, d1, t1, z1⟩, g1, c1, n1, e1⟩ := id hl
  obtain ⟨⟨k2, d2, t2, z2⟩, g2, c2, n2, e2⟩ := id hb
  simp only at c1 e1 c2 e2
  subst c1 e1 c2 e2
  exact call_meets F.slot_tuple_lt ⟨_, g1, rfl⟩ F.entry_tuple_lt (F.args_tuple_lt_2 _ _) (SeqAt.tuple_ltAt l b items items2 n1 n2 d1 d2 z1 z2 e r) ⟨g1, g2, he, hr, h⟩
theorem oneLt_tup {xs ys : List PyData} {a b : Value} {as bs : List Addr} {Q : Bool → Shared → Prop} (ra : Reads s.heap a (.tuple xs) as) (rb : Reads s.heap b (.tuple ys) bs) (hal : alikeAll xs ys = true)
    (hu : A.units + min (PyData.depth (.tuple xs)) (PyData.depth (.tuple ys)) < cLine) (hq : Q (dataLt (.tuple xs) (.tuple ys)) s) : wpAny (model prog w) A (oneLt' true a b) Q E s := by
  cases ra with
  | @tuple l o vs n _ as₁ h1 h2 h3 h4 =>
    cases rb with
    | @tuple l' o' vs' n' _ bs₁ k1 k2 k3 k4 =>
      have n1 : vs.size = xs.length := by simpa using SeqAt.ReadsAll.length _ _ _ h4
      have n2 : vs'.size = ys.length := by simpa using SeqAt.ReadsAll.length _ _ _ k4
      rw [dataLt_tuple, ← firstLt_toks xs ys hal, ← n1, ← n2] at hq
      rw [oneLt'_eq]
      simp only [if_true]
      refine wpAny_bind (wpAny_cRoomFor (room_here hu) ?_)
      refine wpAny_bind (wpAny_callSpecialIfBound?_slot (T := "tuple") ⟨_, h1, h2⟩ F.slot_tuple_lt (call_tup_lt (e := pairEq xs ys) (r := fun j => dataLt (xs.getD j .none) (ys.getD j .none)) ⟨_, h1, h2, _, h3⟩ ⟨_, k1, k2, _, k3⟩ (fun j j1 j2 => ?_) (fun j j1 j2 hj => ?_) ?_))
      · have z := eqAt_alikeAll xs ys A.in1 s vs.toList vs'.toList _ _ h4 k4 hal (room_in hu) j (by simpa using j1) (by simpa using j2)
        simpa using z
      · have z := rcLt_alikeAll xs ys A.in1 s vs.toList vs'.toList _ _ h4 k4 hal (room_in hu) j (by simpa using j1) (by simpa using j2) hj
        simpa using z
      · exact wpAny_truthy_bool hq
theorem firsts_any {M : Model} : ∀ {vs : List Value} {ds : List PyData}, EachIs (fun v d => ∃ as, Reads s.heap v d as) vs ds → (∀ d ∈ ds, ∃ xs, d = .tuple xs) → ∃ fs : List (Option Value), fs.length = vs.length ∧ (∀ r, ds = .tuple [] :: r → fs[0]? = some none) ∧
    ∀ (E : Value → Shared → Prop) (Q : List (Option Value) → Shared → Prop), Q fs s → wpAny M A (vs.mapM firstOfTuple') Q E s
  | _, _, .nil, _ => by
    refine ⟨[], rfl, (fun r e => nomatch e), fun E Q h => ?_⟩
    rw [List.mapM_nil]
    exact wpAny_pure h
  | v :: vs, d :: ds, .cons ⟨as, r⟩ t, ht => by
    obtain ⟨fs, h1, h2, h3⟩ := firsts_any (M := M) t fun d hd => ht d (List.mem_cons_of_mem _ hd)
    obtain ⟨xs, rfl⟩ := ht _ List.mem_cons_self
    cases r with
    | @tuple a o its n _ _ ho hc hd hr =>
      refine ⟨its[0]? :: fs, by simp [h1], fun r e => ?_, fun E Q h => ?_⟩
      · cases e
        have hz : its.toList = [] := by
          cases q : its.toList with
          | nil => rfl
          | cons f fr => rw [q] at hr; cases hr
        have : its[0]? = none := by rw [← Array.getElem?_toList, hz]; rfl
        simp [this]
      · rw [List.mapM_cons]
        refine wpAny_bind ?_
        rw [kas_first_eq]
        refine wpAny_bind (Looks.here (show Looks M s.heap (typeOf (.ref a)) o.cls from (Looks.ld ho).andThen .now) ?_)
        rw [hc, if_neg (by first | decide | simp)]
        refine wpAny_bind (listItems_at ho hd (wpAny_pure ?_))
        exact wpAny_bind (h3 _ (fun bs s' => wpAny M A (pure (its[0]? :: bs)) Q E s') (wpAny_pure h))
theorem sortsAt_tups {vs : List Value} {ds : List PyData} (e : EachIs (fun v d => ∃ as, Reads s.heap v d as) vs ds) (hal : AllAlike ds) (ht : ∀ d ∈ ds, ∃ xs, d = .tuple xs) {r0 : List PyData} (h0 : ds = .tuple [] :: r0) (hu : ∀ d, d ∈ ds → A.units + d.depth < cLine) : SortsAt prog w A s (dataKind s.heap ds) vs := by
  refine ⟨fun v hv => ?_, oneType', ?_, fun h2 E Q hq => ?_⟩
  · obtain ⟨d, hd, as, r⟩ := e.left v hv
    exact ⟨_, dataKind_some hal hd r⟩
  · intro E x y a b Q ha hb hq
    obtain ⟨d, as, hd, ra, rfl⟩ := dataKind_inv ha
    obtain ⟨d', as', hd', rb, rfl⟩ := dataKind_inv hb
    obtain ⟨x1, rfl⟩ := ht d hd
    obtain ⟨x2, rfl⟩ := ht d' hd'
    rw [keyLt'_oneType]
    exact oneLt_tup ra rb (by simpa [alike] using hal _ hd _ hd') (Nat.lt_of_le_of_lt (Nat.add_le_add_left (Nat.min_le_left _ _) _) (hu _ hd)) hq
  · obtain ⟨fs, f1, f2, f3⟩ := firsts_any (A := A) (M := model prog w) e ht
    have f0 := f2 r0 h0
    obtain ⟨fr, rfl⟩ : ∃ fr, fs = none :: fr := by
      match fs, f0 with
      | none :: fr, _ => exact ⟨fr, rfl⟩
    have looks : ∀ v ∈ vs, Looks (model prog w) s.heap (typeOf v) (.type "tuple") := fun v hv => by
      obtain ⟨d, hd, as, r⟩ := e.left v hv
      obtain ⟨xs, rfl⟩ := ht d hd
      exact looks_reads r
    obtain ⟨v₁, rest, rfl⟩ : ∃ v₁ rest, vs = v₁ :: rest := by
      match vs, h2 with
      | [], h2 => simp at h2
      | v :: r, _ => exact ⟨v, r, rfl⟩
    rw [keyKind'_eq, List.mapM_toArray, map_eq_pure_bind]
    refine wpAny_bind (wpAny_bind (f3 _ _ (wpAny_pure ?_)))
    rw [if_neg (by simp), if_neg (by simp)]
    rw [oneTypeOnly'_eq, List.mapM_toArray, map_eq_pure_bind]
    refine wpAny_bind (wpAny_bind (wpAny_bind (kas_mapM (r := Value.type "tuple") _ (fun v hv Q' hq => (looks v hv).here hq) (wpAny_pure ?_))))
    have hall : ((List.map (fun _ => Value.type "tuple") (v₁ :: rest)).toArray.all fun x => x == Value.type "tuple") = true := by
      simp only [List.all_toArray, List.all_map, List.all_eq_true]
      intro _ _
      exact beq_self_eq_true _
    have h00 : (List.map (fun _ => Value.type "tuple") (v₁ :: rest)).toArray[0]? = some (Value.type "tuple") := by simp
    rw [h00]
    simp only [hall, if_true]
    exact wpAny_pure (wpAny_pure hq)
theorem sorted_rows {β : Type} {l : Addr} {vs : List Value} {bs : List β} {enc : β → PyData} {R : Value → β → Prop} {Q : Value → Shared → Prop} (hl : s.heap.IsList l vs.toArray) (e : EachIs R vs bs) (er : EachIs (fun v b => ∃ as, Reads s.heap v (enc b) as) vs bs) (hal : AllAlike (bs.map enc))
    (hk : Sortable (bs.map enc) ∨ ((∀ d ∈ bs.map enc, ∃ xs, d = .tuple xs) ∧ ∃ r, bs.map enc = .tuple [] :: r)) (hL : bs.length ≤ sizeLine) (hu : ∀ b, b ∈ bs → A.units + 2 + (enc b).depth < cLine)
    (h : ∀ out, out.length = bs.length → EachIs R out (bs.mergeSort (dataLe false enc)) → Q (.ref (s.heap.objs.size + 1)) { s with heap := sortedAll s.heap vs (List.toArray out) }) : wpAny (model prog w) A (call (.builtin "sorted") [.ref l]) Q E s := by
  rcases hk with hk | ⟨ht, r0, h0⟩
  · exact sorted_data hl e er hal hk hL hu h
  · have er' : EachIs (fun v b => ∃ as, Reads (sortingHeap (copyHeap s.heap vs) (s.heap.objs.size + 1) vs) v (enc b) as) vs bs := er.mono fun _ _ ⟨as, r⟩ => ⟨as, PyProof.Rows.Reads.keeps (fun _ _ => sorting_copy_old) r⟩
    refine sorted_vals hl (sortsAt_tups (s := { s with heap := sortingHeap (copyHeap s.heap vs) (s.heap.objs.size + 1) vs }) (each_map (R := fun v d => ∃ as, Reads (sortingHeap (copyHeap s.heap vs) (s.heap.objs.size + 1) vs) v d as) enc er') hal ht h0 (bound_map hu)) (by rw [e.length]; exact hL) ?_
    exact h _ (by rw [sortVals_length false rfl]; exact e.length) (sortVals_data false e er' hal)
end
end EwSort
namespace Ew
open PySem PySem.Spec PyProof.Rows L2
def CanSort (xs : List D) : Prop := PySem.W.AllAlike xs ∧ (PySem.W.Sortable xs ∨ ((∀ d ∈ xs, ∃ ys, d = .tuple ys) ∧ ∃ r, xs = .tuple [] :: r)) ∧ xs.length ≤ sizeLine ∧ ∀ d ∈ xs, d.depth ≤ 90
def leD (x y : D) : Bool := PySem.W.dataLe false id x y
open Classical in
noncomputable def bSorted (x : D) : M D := match x with
  | .list xs => if CanSort xs then M.ret (.list (xs.mergeSort leD)) else M.stuck
  | _ => M.stuck
section
variable {X : Cx} {W : WX} {a : Expr} {A : DE} {pos pos' : Pos}
theorem each_zip {pins : List (Addr × Obj)} {σ : L2.St} {H : Hp} {s : Shared} {Z : Rg} (I : Inv X pins σ H s) : ∀ {vs : List V} {ds : List D} {its : List Value}, RpL X.K Z H vs ds → Vals vs its →
    PySem.W.EachIs (fun (v : Value) (b : V × D) => RelV b.1 v) its (vs.zip ds) ∧ PySem.W.EachIs (fun (v : Value) (b : V × D) => ∃ as, Reads s.heap v b.2 as) its (vs.zip ds)
  | _, _, _, .nil, .nil => ⟨.nil, .nil⟩
  | _, _, _, .cons r rs, .cons q qs => by
    obtain ⟨h1, h2⟩ := each_zip I rs qs
    obtain ⟨as, h3⟩ := r.reads I _ q
    exact ⟨.cons q h1, .cons ⟨as, h3⟩ h2⟩
theorem zip_rp {K : PySem.W.Frag} {Z : Rg} {H : Hp} : ∀ {vs : List V} {ds : List D}, RpL K Z H vs ds → ∀ b ∈ vs.zip ds, Rp K Z H b.1 b.2
  | _, _, .nil, b, hb => by cases hb
  | _, _, .cons r rs, b, hb => by
    rcases List.mem_cons.mp hb with rfl | hb
    · exact r
    · exact zip_rp rs b hb
theorem rp_pairs {K : PySem.W.Frag} {Z : Rg} {H : Hp} : ∀ ps : List (V × D), (∀ b ∈ ps, Rp K Z H b.1 b.2) → RpL K Z H (ps.map (·.1)) (ps.map (·.2))
  | [], _ => .nil
  | p :: ps, h => .cons (h p List.mem_cons_self) (rp_pairs ps fun b hb => h b (List.mem_cons_of_mem _ hb))
theorem each_vals : ∀ {out : List Value} {ps : List (V × D)}, PySem.W.EachIs (fun (v : Value) (b : V × D) => RelV b.1 v) out ps → Vals (ps.map (·.1)) out
  | _, _, .nil => .nil
  | _, _, .cons r rs => .cons r (each_vals rs)
def rSortD (K : PySem.W.Frag) : List V → Hp → VK → Prop := fun xs H Q => ∃ (Z : Rg) (l : Addr) (vs : List V) (ds : List D), xs = [.ref l] ∧ H l = some (.lst vs) ∧ RpL K Z H vs ds ∧ CanSort ds ∧
  ∀ (p : Addr) (ws : List V), H p = none → RpL K Z H ws (ds.mergeSort leD) → Q (.ref p) (upd H p (.lst ws))
theorem cr_sortD (hu : X.A.units + deep < cLine) : CallR X (.builtin "sorted") (rSortD X.K) := by
  intro pins s σ H xs us Q I r h
  obtain ⟨Z, l, vs, ds, rfl, hl, rs, ⟨c1, c2, c3, c4⟩, q⟩ := h
  rw [Vals.ref1 r]
  obtain ⟨its, rv, pl, hz⟩ := I.list (.inl (.inl hl))
  obtain ⟨e1, e2⟩ := each_zip I rs rv
  have hlen : vs.length = ds.length := rs.length
  have hm : (vs.zip ds).map (·.2) = ds := List.map_snd_zip (by omega)
  refine EwSort.sorted_rows (enc := fun b : V × D => b.2) (bs := vs.zip ds) pl.isList e1 e2 (by rw [hm]; exact c1) (by rw [hm]; exact c2) (by rw [List.length_zip]; omega) (fun b hb => ?_) fun out ho eo => ?_
  · have hd := c4 b.2 (by rw [← hm]; exact List.mem_map_of_mem hb)
    unfold deep at hu
    omega
  · have ms : ((vs.zip ds).mergeSort (PySem.W.dataLe false fun b : V × D => b.2)).map (·.2) = ds.mergeSort leD := by
      have z := List.map_mergeSort (r := PySem.W.dataLe false fun b : V × D => b.2) (s := leD) (f := fun b : V × D => b.2) (l := vs.zip ds) (fun a _ b _ => rfl)
      rw [hm] at z
      exact z
    have rp : RpL X.K Z H (((vs.zip ds).mergeSort (PySem.W.dataLe false fun b : V × D => b.2)).map (·.1)) (ds.mergeSort leD) := by
      rw [← ms]
      exact rp_pairs _ fun b hb => zip_rp rs b ((List.mergeSort_perm _ _).mem_iff.mp hb)
    generalize ((vs.zip ds).mergeSort (PySem.W.dataLe false fun b : V × D => b.2)) = ps at eo rp ms
    have hn : H (s.heap.objs.size + 1) = none := I.hok.fresh (Nat.le_succ _)
    obtain ⟨c, hc⟩ := PyProof.Rows.sortedAll_at s.heap its out.toArray
    have k : ∀ b o, s.heap.get? b = some o → (PyProof.Rows.sortedAll s.heap its out.toArray).get? b = some o := fun b o e => PyProof.Rows.sortedAll_old e
    have hps : ps.length = ds.length := by
      have z := congrArg List.length ms
      rw [List.length_map, List.length_mergeSort] at z
      exact z
    have J : Inv X pins σ (upd H (s.heap.objs.size + 1) (.lst (ps.map (·.1)))) { s with heap := PyProof.Rows.sortedAll s.heap its out.toArray, gens := s.gens, drawn := s.drawn, toks := s.toks } :=
      I.call (ch := []) (Un.laid k (Nat.le_succ _) hn) (I.hok.laid k (Nat.le_succ _) ⟨by rw [List.length_map]; omega, out, c, each_vals eo, by rw [hc]⟩) I.bare (fun _ z => nomatch z)
    exact ⟨.ref _, _, J, rfl, q _ _ hn rp⟩
theorem pdf_sorted (hu : X.A.units + deep < cLine) (hg : Gl X "sorted") (hm : X.mg "sorted" = none) (ha : PDe X W a A) (he : starEach [a] X.env = (false, eval a X.env) :: starEach [] X.env := by rfl) (hpl : (backTo pos (starEach [] X.env)).any (·.1) = false := by rfl) :
    PDf X W (.Call (.Name "sorted" pos') [a] [] pos) (dUn bSorted A) := by
  refine pdf_b1 (cr_sortD hu) (fun p sc Z σ H q x dx Q pl nz hx hp => ?_) hg hm boot_sortedE ha (by decide) (by decide) he hpl
  unfold bSorted at hp
  cases hx with
  | lst h1 z rs =>
    rename_i l0 vs0 ds0
    dsimp only at hp
    by_cases hc : CanSort ds0
    · rw [if_pos hc] at hp
      refine ⟨Z, _, _, _, rfl, h1, rs, hc, fun c ws hcn rw' => hp _ _ (new_keep hcn) (new_pool hcn pl) ⟨c, ws, _, rfl, rfl, hcn, upd_same, ?_⟩⟩
      exact (rw'.sub fun b z n => ⟨.inl z, fun e => n (e ▸ hcn)⟩).stand (new_stand hcn)
    · rw [if_neg hc] at hp; exact hp.elim
  | _ => exact hp.elim
end
end Ew
namespace Ew
open PySem PySem.Spec PyProof.Rows L2
section
variable {X : Cx} {W : WX} {F : DE} {pos : Pos}
end
section
variable {K : PySem.W.Frag} {mg : Str → Option Value} {p sc : Addr} {Z0 Z : Rg} {H0 H : Hp} {σ : L2.St} {ρ : Rho} {q : Pool} {W : WX}
theorem BR.frz (b : BR K p sc Z0 H0 Z σ H ρ q) {i : Nat} {ds : List D} (h : ρ[i]? = some (some (.own ds))) : ∃ a, σ[i]? = some (some (.ref a)) ∧ BR K p sc Z0 H0 (fun c => Z c ∨ c = a) σ H (ρ.set i (some (.dat (.list ds)))) q := by
  obtain ⟨a, vs, h1, h2, h3, h4, h5⟩ := b.slot i _ h
  obtain ⟨a', m1, m2, m3, m4, m5, m6⟩ := b.mine h rfl
  rw [h1] at m1
  cases m1
  have hlt : i < ρ.length := (List.getElem?_eq_some_iff.mp h).1
  refine ⟨a, h1, b.keep, b.pool0, b.pool, b.nz0, ?_, ?_, ?_, ?_, fun j s e => ?_, fun j k c s t jk e1 n1 e2 n2 g1 g2 => ?_⟩
  · rintro (z | z)
    · exact b.nz z
    · exact m5 z.symm
  · rintro c (z | z)
    · exact b.zs c z
    · rw [z]; exact m4
  · rintro c (z | z)
    · exact b.zz c z
    · rw [z]; exact .inr h4
  · rw [List.length_set]; exact b.len
  · by_cases hj : j = i
    · subst hj
      rw [List.getElem?_set_self hlt] at e
      cases e
      exact ⟨.ref a, h1, .lst h2 (.inr rfl) (h5.grow fun c z => .inl z)⟩
    · rw [List.getElem?_set_ne (Ne.symm hj)] at e
      have z := b.slot j s e
      cases s with
      | dat d =>
        obtain ⟨v, u1, u2⟩ := z
        exact ⟨v, u1, u2.grow fun c z => .inl z⟩
      | pool => exact z
      | own es =>
        obtain ⟨c, ws, u1, u2, u3, u4, u5⟩ := z
        refine ⟨c, ws, u1, u2, ?_, u4, u5.grow fun c z => .inl z⟩
        rintro (y | y)
        · exact u3 y
        · exact b.dist j i c _ _ hj e rfl h rfl u1 (by rw [y]; exact h1)
      | odic kvs =>
        obtain ⟨c, ks, u1, u2, u3, u4, u5, u6⟩ := z
        refine ⟨c, ks, u1, u2, ?_, u4, u5, u6.grow fun c z => .inl z⟩
        rintro (y | y)
        · exact u3 y
        · exact b.dist j i c _ _ hj e rfl h rfl u1 (by rw [y]; exact h1)
      | odicT kvs =>
        obtain ⟨c, ks, u1, u2, u3, u4, u5, u6⟩ := z
        refine ⟨c, ks, u1, u2, ?_, u4, u5, u6.grow fun c z => .inl z⟩
        rintro (y | y)
        · exact u3 y
        · exact b.dist j i c _ _ hj e rfl h rfl u1 (by rw [y]; exact h1)
  · have ne : ∀ (j : Nat) (s : Slot), (ρ.set i (some (.dat (.list ds))))[j]? = some (some s) → s.mine = true → ρ[j]? = some (some s) := fun j s e n => by
      by_cases hj : j = i
      · subst hj
        rw [List.getElem?_set_self hlt] at e
        cases e
        cases n
      · rw [List.getElem?_set_ne (Ne.symm hj)] at e
        exact e
    exact b.dist j k c s t jk (ne j s e1 n1) n1 (ne k t e2 n2) n2 g1 g2
end
section
variable {X : Cx} {W : WX} {st : Stmt} {A : DS}
end
end Ew
namespace Ew
open PySem PySem.Spec PyProof.Rows L2
def bools? : List D → Option (List Bool)
  | [] => some []
  | .bool b :: r => (bools? r).map (b :: ·)
  | _ :: _ => none
def bAll (x : D) : M D := match x with
  | .list xs => (match bools? xs with
    | some bs => M.ret (.bool (bs.all id))
    | none => M.stuck)
  | _ => M.stuck
def bAny (x : D) : M D := match x with
  | .list xs => (match bools? xs with
    | some bs => M.ret (.bool (bs.any id))
    | none => M.stuck)
  | _ => M.stuck
def rgN (i j c : Int) : Nat := (Builtin.Range.rangeSize i j c).toNat
def setGo (i : Nat) (ds : List D) (d : D) (ρ : Rho) (j : D) : M Out := match j with
  | .int n => (match ixN ds.length n with
    | some m => M.ret (.next (ρ.set i (some (.own (ds.set m d)))))
    | none => M.stuck)
  | _ => M.stuck
def sSet (i : Nat) (k e : DE) : DS := fun ρ => match ρ[i]? with
  | some (some (.own ds)) => M.bnd (e (hideR ρ)) fun d => M.bnd (k ρ) (setGo i ds d ρ)
  | _ => M.stuck
def sSetF (i : Nat) (k e : DE) : DS := fun ρ => match ρ[i]? with
  | some (some (.own ds)) => M.bnd (e ρ) fun d => if flatD d = true then M.bnd (k ρ) (setGo i ds d ρ) else M.stuck
  | _ => M.stuck
def sAugA (i : Nat) (e : DE) : DS := fun ρ => match ρ[i]? with
  | some (some (.dat (.int a))) => M.bnd (e ρ) fun y => match y with
    | .int b => M.ret (.next (ρ.set i (some (.dat (.int (a + b))))))
    | _ => M.stuck
  | _ => M.stuck
def oRevL (x : D) : M D := match x with
  | .list xs => M.ret (.list xs.reverse)
  | _ => M.stuck
section
variable {X : Cx} {W : WX} {a b c e : Expr} {A B C : DE} {pos pos' pos2 p1 p2 p3 : Pos}
theorem bools_rp {K : PySem.W.Frag} {Z : Rg} {H : Hp} : ∀ {vs : List V} {ds : List D} {bs : List Bool}, RpL K Z H vs ds → bools? ds = some bs → vs = bs.map V.bl
  | _, _, bs, .nil, h => by
    cases h
    rfl
  | _, _, bs, .cons r rs, h => by
    cases r with
    | bl b =>
      unfold bools? at h
      rename_i vs ds
      cases e : bools? ds with
      | none => rw [e] at h; cases h
      | some ms =>
        rw [e] at h
        cases h
        rw [bools_rp rs e]
        rfl
    | _ => cases h
theorem boot_allE : bootBuiltins ("all" : Str) = some (.builtin "all") := by decide +kernel
theorem boot_anyE : bootBuiltins ("any" : Str) = some (.builtin "any") := by decide +kernel
theorem pd_all (hc : X.calm = true) (hg : Gl X "all") (hm : X.mg "all" = none) (ha : PDe X W a A) (he : starEach [a] X.env = (false, eval a X.env) :: starEach [] X.env := by rfl) (hpl : (backTo pos (starEach [] X.env)).any (·.1) = false := by rfl) :
    PDe X W (.Call (.Name "all" pos') [a] [] pos) (dUn bAll A) := by
  refine pd_b1 (cr_all hc) (fun p sc Z σ H q x dx Q pl nz hx hp => ?_) hg hm boot_allE ha (by decide) (by decide) he hpl
  unfold bAll at hp
  cases hx with
  | lst h1 z rs =>
    rename_i a xs ds
    dsimp only at hp
    cases e : bools? ds with
    | none => rw [e] at hp; exact hp.elim
    | some ns =>
      rw [e] at hp
      have := bools_rp rs e
      subst this
      exact ⟨a, ns, rfl, .inl (.inl h1), hp _ H (Keep.refl _ _) pl (.bl _)⟩
  | _ => exact hp.elim
theorem pd_any (hc : X.calm = true) (hg : Gl X "any") (hm : X.mg "any" = none) (ha : PDe X W a A) (he : starEach [a] X.env = (false, eval a X.env) :: starEach [] X.env := by rfl) (hpl : (backTo pos (starEach [] X.env)).any (·.1) = false := by rfl) :
    PDe X W (.Call (.Name "any" pos') [a] [] pos) (dUn bAny A) := by
  refine pd_b1 (cr_any hc) (fun p sc Z σ H q x dx Q pl nz hx hp => ?_) hg hm boot_anyE ha (by decide) (by decide) he hpl
  unfold bAny at hp
  cases hx with
  | lst h1 z rs =>
    rename_i a xs ds
    dsimp only at hp
    cases e : bools? ds with
    | none => rw [e] at hp; exact hp.elim
    | some ns =>
      rw [e] at hp
      have := bools_rp rs e
      subst this
      exact ⟨a, ns, rfl, .inl (.inl h1), hp _ H (Keep.refl _ _) pl (.bl _)⟩
  | _ => exact hp.elim
end
section
variable {X : Cx} {W : WX} {st : Stmt} {e k : Expr} {F E : DE} {pos p1 p2 p3 : Pos}
theorem set_fin {p sc : Addr} {Z0 Z Zk : Rg} {H0 H1 : Hp} {σ : L2.St} {ρ : Rho} {q : Pool} {E : Ends} {i : Nat} {ds : List D} {v : V} {d : D} {a : Addr} {o : V} {dj : D} (b1 : BR X.K p sc Z0 H0 Z σ H1 ρ q) (hi : ρ[i]? = some (some (.own ds))) (hs : σ[i]? = some (some (.ref a))) (rv : Rp X.K Z H1 v d) (rj : Rp X.K Zk H1 o dj)
    (hp : PostS X.K X.mg p sc Z0 H0 Z H1 W E (setGo i ds d ρ dj q)) : L2.rSetL (.ref a) o v H1 fun H3 => E.nx σ H3 := by
  obtain ⟨a', vs, g1, g2, g3, g4, g5⟩ := b1.slot i _ hi
  rw [hs] at g1
  cases g1
  unfold setGo at hp
  cases rj with
  | int n =>
    dsimp only at hp
    cases em : ixN ds.length n with
    | none => rw [em] at hp; exact hp.elim
    | some m =>
      rw [em] at hp
      dsimp only at hp
      have z := b1.chOwn hi hs g2 (g5.set m rv)
      exact ⟨a, vs, n, m, rfl, rfl, g2, by rw [g5.length]; exact em, hp Z σ _ z.1 (fun c z => z) z.2⟩
  | _ => exact hp.elim
theorem sd_set {i : Nat} {x : Str} (he : PDe X W e F) (hk : PDe X W k E) (hN : X.N[i]? = some x := by rfl) (hv : Vis X.env.scope x := by first | exact Or.inl rfl | exact Or.inr (Or.inl rfl) | exact Or.inr (Or.inr rfl))
    (hd : (x == ("__debug__" : Str)) = false := by decide) (hcd : (x == ("__classdict__" : Str)) = false := by decide)
    (hpg : ∀ (to ti : TE), PE X (.Name x p1) to → PE X k ti → PG X (.Subscript (.Name x p1) k p2) (gSub to ti L2.rSetL) := by intro _ _ h1 h2; exact pg_sub h1 h2 set_list)
    (hs : swapsWithSole [.Subscript (.Name x p1) k p2] e pos.line X.env = pure false := by rfl) (hw : swappedStores [.Subscript (.Name x p1) k p2] e X.env = pure none := by rfl)
    (h3 : (assignEach [.Subscript (.Name x p1) k p2] X.env).map (·.2) = [assign (.Subscript (.Name x p1) k p2) X.env] := by rfl) : PSd X W (.Assign [.Subscript (.Name x p1) k p2] e pos) (sSet i E F) ∧ PSd X W (.Assign [.Subscript (.Name x p1) k p2] e pos) (sSetF i E F) := by
  obtain ⟨t, h1, h2⟩ := he
  obtain ⟨u, g1, g2⟩ := hk
  have hps := ps_asg (X := X) (pos := pos) h1 (hpg _ _ (pe_var (pos := p1) hN hv hd hcd) g1) hs hw h3
  refine ⟨⟨_, hps, fun p sc Z0 H0 Z σ H ρ q Ed b h => ?_⟩, ⟨_, hps, fun p sc Z0 H0 Z σ H ρ q Ed b h => ?_⟩⟩
  · unfold sSet at h
    cases e : ρ[i]? with
    | none => rw [e] at h; exact h.elim
    | some o =>
      cases o with
      | none => rw [e] at h; exact h.elim
      | some sl =>
        cases sl with
        | own ds =>
          rw [e] at h
          dsimp only at h
          obtain ⟨a', vs', h1', h2', h3', h4', h5'⟩ := b.slot i _ e
          refine h2 p sc _ σ H (hideR ρ) q _ b.sitH (PostS.ex (Rel := fun H' v d => Rp X.K (Zn Z H) H' v d) b h fun d q1 v H1 e1 k1 pl r hp => ?_)
          have b1 := b.after k1 pl
          have zz : ∀ c, Z c → Zh Z H H1 c := fun c z => ⟨.inl z, (b.next k1 pl).zs c z⟩
          refine ⟨.ref a', h1', ?_⟩
          refine g2 p sc _ σ H1 ρ q1 _ b1.sit (PostS.ex (Rel := fun H' v d => Rp X.K (Zn (Zo (Zh Z H H1) σ ρ) H1) H' v d) b1 (PostS.later hp zz (Stand.refl _ _)) fun dj q2 o H2 e2 k2 pl2 rj hp2 => ?_)
          exact set_fin (b1.next k2 pl2) e h1' ((r.sub fun c z n => ⟨z, n⟩).stand (k2.stand pl b1.nz)) rj hp2
        | dat d => rw [e] at h; exact h.elim
        | pool => rw [e] at h; exact h.elim
        | odic d => rw [e] at h; exact h.elim
        | odicT d => rw [e] at h; exact h.elim
  · unfold sSetF at h
    cases e : ρ[i]? with
    | none => rw [e] at h; exact h.elim
    | some o =>
      cases o with
      | none => rw [e] at h; exact h.elim
      | some sl =>
        cases sl with
        | own ds =>
          rw [e] at h
          dsimp only at h
          obtain ⟨a', vs', h1', h2', h3', h4', h5'⟩ := b.slot i _ e
          refine h2 p sc _ σ H ρ q _ b.sit (PostS.ex (Rel := fun H' v d => Rp X.K (Zn (Zo Z σ ρ) H) H' v d) b h fun d q1 v H1 e1 k1 pl r hp => ?_)
          have b1 := b.next k1 pl
          by_cases hl : flatD d = true
          · rw [if_pos hl] at hp
            refine ⟨.ref a', h1', ?_⟩
            refine g2 p sc _ σ H1 ρ q1 _ b1.sit (PostS.ex (Rel := fun H' v d => Rp X.K (Zn (Zo Z σ ρ) H1) H' v d) b1 hp fun dj q2 o H2 e2 k2 pl2 rj hp2 => ?_)
            exact set_fin (b1.next k2 pl2) e h1' ((r.flat (Z' := Z) hl).stand (k2.stand pl b1.nz)) rj hp2
          · rw [if_neg hl] at hp; exact hp.elim
        | dat d => rw [e] at h; exact h.elim
        | pool => rw [e] at h; exact h.elim
        | odic d => rw [e] at h; exact h.elim
        | odicT d => rw [e] at h; exact h.elim
theorem sd_aug {i : Nat} {x : Str} {pos' : Pos} (hN : X.N.Nodup) (he : PDe X W e F) (hi : X.N[i]? = some x := by rfl) (hx : Loc X.env.scope x := by first | exact Or.inl rfl | exact Or.inr rfl)
    (hf : X.fn x = true ∨ X.env.scope.names.lookup x = some .local := by first | exact .inl rfl | exact .inr rfl | assumption) : PSd X W (.AugAssign (.Name x pos') .Add e pos) (sAugA i F) := by
  obtain ⟨t, h1, h2⟩ := he
  refine ⟨_, ps_aug hN hi hx h1 ip_add hf, fun p sc Z0 H0 Z σ H ρ q Ed b h => ?_⟩
  unfold sAugA at h
  cases e : ρ[i]? with
  | none => rw [e] at h; exact h.elim
  | some o =>
    cases o with
    | none => rw [e] at h; exact h.elim
    | some sl =>
      cases sl with
      | dat d =>
        cases d with
        | int n =>
          rw [e] at h
          dsimp only at h
          obtain ⟨v, u1, u2⟩ := b.slot i _ e
          refine ⟨v, u1, ?_⟩
          refine h2 p sc _ σ H ρ q _ b.sit (PostS.ex (Rel := fun H' v d => Rp X.K (Zn (Zo Z σ ρ) H) H' v d) b h fun dy q1 y H1 e1 k1 pl r hp => ?_)
          have b1 := b.next k1 pl
          cases u2 with
          | int n =>
            cases r with
            | int m => exact ⟨n, m, rfl, rfl, hp _ _ H1 (b1.set (i := i) (.int _)) (fun c z => z) (Stand.refl _ _)⟩
            | _ => exact hp.elim
        | _ => rw [e] at h; exact h.elim
      | own ds => rw [e] at h; exact h.elim
      | pool => rw [e] at h; exact h.elim
      | odic kvs => rw [e] at h; exact h.elim

      | odicT kvs => rw [e] at h; exact h.elim

def sAsgN (i : Nat) (e : DE) : DS := fun ρ => M.bnd (e ρ) fun d => match d with
  | .list ds => if flatAll ds = true then M.ret (.next (ρ.set i (some (.dat (.list ds))))) else M.stuck
  | _ => M.stuck
def sForR (it : DI) (g : Tgt) (body : DS) : DS := fun ρ => M.bnd (it ρ) fun xs => forGo g body xs ρ
theorem BR.fresh {K : PySem.W.Frag} {p sc : Addr} {Z0 Z : Rg} {H0 H H1 : Hp} {σ : L2.St} {ρ : Rho} {q q1 : Pool} {a : Addr} (b : BR K p sc Z0 H0 Z σ H ρ q) (k : Keep p H H1) (pl : PoolAt p sc H1 q1) (ha : H a = none) (h1 : H1 a ≠ none) : BR K p sc Z0 H0 (fun c => Z c ∨ c = a) σ H1 ρ q1 := by
  have b1 := b.next k pl
  refine b1.grow (fun c z => .inl z) (fun c z => ?_) (fun c z => ?_) (fun z => ?_) fun j s c hj m e z => ?_
  · rcases z with z | rfl
    · exact b1.zs c z
    · exact h1
  · rcases z with z | rfl
    · exact b1.zz c z
    · exact .inr (none_back b.keep b.pool ha)
  · rcases z with z | z
    · exact b.nz z
    · rw [← z, b.pool.1] at ha; cases ha
  · obtain ⟨a', k1, k2, k3, k4, _⟩ := b.mine hj m
    rw [e] at k1; cases k1
    rcases z with z | rfl
    · exact k2 z
    · exact k4 ha
end
section
variable {X : Cx} {W : WX} {a b tg iter : Expr} {A B : DE} {ss : List Stmt} {S : DS} {g : Tgt} {is : List Nat} {pos pos' : Pos}
end
end Ew
namespace Ew
open PySem PySem.Spec PyProof.Rows L2
theorem Does.imp {α : Type} {m : M α} {P R : α → Prop} (h : Does m P) (k : ∀ a, P a → R a) : Does m R := DoesK.imp h k
section
variable {κ : Bool}
def Fl : Nat → D → Prop
  | 0, _ => False
  | n + 1, .tuple xs => xs.length ≤ 2 ^ 20 ∧ ∀ x ∈ xs, Fl n x
  | n + 1, .list xs => xs.length ≤ 2 ^ 20 ∧ ∀ x ∈ xs, Fl n x
  | _ + 1, .dict _ => False
  | _ + 1, _ => True
theorem oEq_refl_str (i : Str) : oEq (.str i) (.str i) = M.ret (.bool true) := by
  unfold oEq eqD
  simp
theorem oEq_ints (i j : Int) : oEq (.int i) (.int j) = M.ret (.bool (decide (i = j))) := rfl
theorem oNe_ints (i j : Int) : oNe (.int i) (.int j) = M.ret (.bool (!decide (i = j))) := rfl
theorem oEq_bools (a b : Bool) : oEq (.bool a) (.bool b) = M.ret (.bool (decide (a = b))) := by
  unfold oEq eqD
  cases a <;> cases b <;> rfl
theorem oNe_bools (a b : Bool) : oNe (.bool a) (.bool b) = M.ret (.bool (!decide (a = b))) := by
  unfold oNe eqD
  cases a <;> cases b <;> rfl
theorem atD_nat {xs : List D} {i : Nat} {x : D} (h : xs[i]? = some x) : atD xs (i : Int) = some x := L2.atI_nat h
theorem oIx_l {xs : List D} {i : Nat} {x : D} (h : xs[i]? = some x) : oIx (.list xs) (.int (i : Int)) = M.ret x := by
  unfold oIx
  dsimp only
  rw [atD_nat h]
theorem oIx_t {xs : List D} {i : Nat} {x : D} (h : xs[i]? = some x) : oIx (.tuple xs) (.int (i : Int)) = M.ret x := by
  unfold oIx
  dsimp only
  rw [atD_nat h]
theorem list_len (xs : List D) (h : xs.length ≤ 2 ^ 20) : rng1 (.int (xs.length : Int)) = M.ret (intsFrom 0 xs.length) := by
  rw [rng1_of (by omega) (by omega)]
  rfl
theorem small20 {n : Nat} (h : n ≤ 2 ^ 20) : n ≤ PySem.sizeLine := Nat.le_trans h (by decide +kernel)
theorem add_ints (i j : Int) : oAdd (.int i) (.int j) = M.ret (.int (i + j)) := nr rfl
theorem sub_ints (i j : Int) : oSub (.int i) (.int j) = M.ret (.int (i - j)) := nr rfl
theorem le_ints (i j : Int) : oLe (.int i) (.int j) = M.ret (.bool (decide (i ≤ j))) := nr rfl
theorem lt_ints (i j : Int) : oLt (.int i) (.int j) = M.ret (.bool (decide (i < j))) := nr rfl
theorem ge_ints (i j : Int) : oGe (.int i) (.int j) = M.ret (.bool (decide (j ≤ i))) := nr rfl
theorem gt_ints (i j : Int) : oGt (.int i) (.int j) = M.ret (.bool (decide (j < i))) := nr rfl
theorem len_tup (xs : List D) : bLen (.tuple xs) = M.ret (.int xs.length) := nr rfl
theorem len_lst (xs : List D) : bLen (.list xs) = M.ret (.int xs.length) := nr rfl
theorem tuple_l (xs : List D) : bTuple (.list xs) = M.ret (.tuple xs) := nr rfl
theorem tuple_t (xs : List D) : bTuple (.tuple xs) = M.ret (.tuple xs) := nr rfl
theorem ints_of_all : ∀ (ys : List D), (∀ y ∈ ys, ∃ v : Int, y = .int v) → ∃ ns : List Int, ys = ns.map PyData.int ∧ ints? ys = some ns
  | [], _ => ⟨[], rfl, rfl⟩
  | y :: ys, h => by
    obtain ⟨v, rfl⟩ := h y List.mem_cons_self
    obtain ⟨ns, e, e2⟩ := ints_of_all ys fun z hz => h z (List.mem_cons_of_mem _ hz)
    exact ⟨v :: ns, by rw [e]; rfl, by unfold ints?; rw [e2]; rfl⟩
theorem insU_len (x : Int) : ∀ l : List Int, (insU x l).length ≤ l.length + 1
  | [] => by simp [insU]
  | y :: r => by
    unfold insU
    split
    · simp
    · split
      · simp
      · have := insU_len x r
        simp only [List.length_cons]
        omega
theorem sortU_len (xs : List Int) : (sortU xs).length ≤ xs.length := by
  have go : ∀ (xs acc : List Int), (xs.foldl (fun acc x => insU x acc) acc).length ≤ acc.length + xs.length := by
    intro xs
    induction xs with
    | nil => intro acc; simp
    | cons x xs ih =>
      intro acc
      have a := ih (insU x acc)
      have b := insU_len x acc
      simp only [List.foldl_cons, List.length_cons]
      omega
  simpa [sortU] using go xs []
theorem lc_sub {own : List Nat} {it : DI} {g : Tgt} {t : DT} {e : DE} {ρ : Rho} {xs : List D} (G : D → Rho) (F : D → D) (hi : DoesK κ (it ρ) (· = xs)) (hl : xs.length ≤ PySem.sizeLine)
    (hg : ∀ x ∈ xs, g x (wipeR ρ own) = M.ret (G x)) (ht : ∀ x ∈ xs, DoesK κ (t (G x)) (fun _ => True)) (he : ∀ x ∈ xs, DoesK κ (e (G x)) (· = F x)) : DoesK κ (dComp own it g t e ρ) fun d => ∃ zs : List D, zs.Sublist xs ∧ d = .list (zs.map F) := by
  refine does_eq hi ?_
  rw [if_pos hl]
  refine does_bnd (P := fun ys => ∃ zs : List D, zs.Sublist xs ∧ ys = zs.map F) (does_noerr ?_) fun ys ⟨zs, h1, h2⟩ => does_ret ⟨zs, h1, by rw [h2]⟩
  clear hi hl
  induction xs with
  | nil => exact does_ret ⟨[], List.Sublist.refl _, rfl⟩
  | cons x xs ih =>
    have ih' := ih (fun y hy => hg y (List.mem_cons_of_mem _ hy)) (fun y hy => ht y (List.mem_cons_of_mem _ hy)) (fun y hy => he y (List.mem_cons_of_mem _ hy))
    have e1 : compTurn g t e (wipeR ρ own) x = M.bnd (t (G x)) fun c => if c = true then M.bnd (e (G x)) fun y => M.ret (some y) else M.ret none := by
      unfold compTurn
      rw [hg x List.mem_cons_self]
      rfl
    show DoesK κ (M.bnd (compTurn g t e (wipeR ρ own) x) fun o => M.bnd (compGo _ xs) fun r => M.ret (o.toList ++ r)) _
    rw [e1, bnd_bnd]
    refine does_bnd (ht x List.mem_cons_self) fun c _ => ?_
    by_cases hp : c = true
    · rw [if_pos hp, bnd_bnd]
      refine does_eq (he x List.mem_cons_self) ?_
      rw [bnd_ret]
      exact does_bnd ih' fun ys ⟨zs, h1, h2⟩ => does_ret ⟨x :: zs, h1.cons₂ _, by rw [h2]; rfl⟩
    · rw [if_neg hp, bnd_ret]
      exact does_bnd ih' fun ys ⟨zs, h1, h2⟩ => does_ret ⟨zs, h1.cons _, by rw [h2]; rfl⟩
theorem ints?_map (ns : List Int) : ints? (ns.map PyData.int) = some ns := by
  induction ns with
  | nil => rfl
  | cons n ns ih =>
    show (ints? (ns.map PyData.int)).map (n :: ·) = some (n :: ns)
    rw [ih]
    rfl
theorem in_ints_t (n : Int) (ns : List Int) : oIn (.int n) (.tuple (ns.map .int)) = M.ret (.bool (decide (n ∈ ns))) := by
  unfold oIn oHas has?
  dsimp only
  rw [ints?_map]
theorem notin_ints_t (n : Int) (ns : List Int) : oNotIn (.int n) (.tuple (ns.map .int)) = M.ret (.bool (!decide (n ∈ ns))) := by
  unfold oNotIn oHas has?
  dsimp only
  rw [ints?_map]
theorem in_ints_l (n : Int) (ns : List Int) : oIn (.int n) (.list (ns.map .int)) = M.ret (.bool (decide (n ∈ ns))) := by
  unfold oIn oHas has?
  dsimp only
  rw [ints?_map]
theorem at_g4 (g1 g2 g3 g4 : Tgt) (x y z u : D) (ρ : Rho) : gT [g1, g2, g3, g4] (.tuple [x, y, z, u]) ρ = M.bnd (g1 x ρ) fun r => M.bnd (g2 y r) fun r => M.bnd (g3 z r) (g4 u) := by
  show M.bnd (g1 x ρ) (fun r => M.bnd (g2 y r) fun r2 => M.bnd (g3 z r2) fun r3 => M.bnd (g4 u r3) fun r4 => M.ret r4) = _
  congr 1
  funext r
  congr 1
  funext r2
  congr 1
  funext r3 q
  unfold M.bnd M.ret
  cases g4 u r3 q <;> rfl
theorem at_sapp (i : Nat) (e : DE) (ρ : Rho) {ds : List D} (h : ρ[i]? = some (some (.own ds))) (hl : ds.length < lineMax) : sApp i e ρ = M.bnd (e (hideR ρ)) fun d => M.ret (.next (ρ.set i (some (.own (ds ++ [d]))))) := by
  unfold sApp
  rw [h]
  dsimp only
  congr 1
  funext d
  rw [if_pos hl]
theorem two2000 : (2 : Int) ^ 40 < 2 ^ 2000 := by decide +kernel
theorem does_draw' {many : Int} (h : 0 < many) (h2 : many ≤ 2 ^ 40) : Does (F_draw [.pool, .d (.int many)]) fun d => ∃ v : Int, d = .int v ∧ 0 ≤ v ∧ v < many := does_draw h (Int.lt_of_le_of_lt h2 two2000)
theorem sub_range {xs : List D} {n : Nat} (h : xs.Sublist (intsFrom 0 n)) : ∃ ns : List Int, xs = ns.map .int ∧ ns.length ≤ n ∧ ∀ x ∈ ns, 0 ≤ x ∧ x < n := by
  obtain ⟨ns, e, _⟩ := ints_of_all xs fun y hy => by
    obtain ⟨j, hj⟩ := List.getElem?_of_mem (h.subset hy)
    exact ⟨_, (intsFrom_at hj).1⟩
  refine ⟨ns, e, ?_, fun x hx => ?_⟩
  · have z := h.length_le
    rw [intsFrom_len, e, List.length_map] at z
    exact z
  · have hm : PyData.int x ∈ intsFrom 0 n := h.subset (by rw [e]; exact List.mem_map_of_mem hx)
    obtain ⟨j, hj⟩ := List.getElem?_of_mem hm
    obtain ⟨e2, hj2⟩ := intsFrom_at hj
    cases e2
    omega
theorem hide_cons (x : Option Slot) (ρ : Rho) : hideR (x :: ρ) = hide1 x :: hideR ρ := nr rfl
theorem hide1_d (d : D) : hide1 (some (.dat d)) = some (.dat d) := nr rfl
theorem hide1_n : hide1 none = none := nr rfl
theorem hide1_p : hide1 (some .pool) = some .pool := nr rfl
theorem hide1_o (ds : List D) : hide1 (some (.own ds)) = none := nr rfl
theorem seq_asg {i : Nat} {e : DE} {T : DS} {ρ : Rho} {R : Out → Prop} {P : D → Prop} (h : DoesK κ (e (hideR ρ)) P) (k : ∀ d, P d → DoesK κ (T (ρ.set i (some (.dat d)))) R) : DoesK κ (sSeq (sAsg (gN i) e) T ρ) R := by
  refine does_bnd (P := fun o => ∃ d, P d ∧ o = .next (ρ.set i (some (.dat d)))) (does_bnd h fun d hd => does_ret ⟨d, hd, rfl⟩) fun o ⟨d, hd, e⟩ => ?_
  subst e
  exact k d hd
theorem seq_next {S T : DS} {ρ : Rho} {R : Out → Prop} {P : Rho → Prop} (h : DoesK κ (S ρ) fun o => ∃ ρ', o = .next ρ' ∧ P ρ') (k : ∀ ρ', P ρ' → DoesK κ (T ρ') R) : DoesK κ (sSeq S T ρ) R := by
  refine does_bnd h fun o ⟨ρ', e, hp⟩ => ?_
  subst e
  exact k ρ' hp
theorem sif_does {t : DT} {A B : DS} {ρ : Rho} {R : Out → Prop} {c : Bool} (h : DoesK κ (t ρ) (· = c)) (ha : c = true → DoesK κ (A ρ) R) (hb : c = false → DoesK κ (B ρ) R) : DoesK κ (sIf t A B ρ) R := by
  refine does_eq h ?_
  cases c with
  | true => rw [if_pos rfl]; exact ha rfl
  | false => rw [if_neg Bool.false_ne_true]; exact hb rfl
theorem seq_not {t : DT} {A T : DS} {ρ : Rho} {R : Out → Prop} (h : DoesK κ (t ρ) (· = false)) (k : DoesK κ (T ρ) R) : DoesK κ (sSeq (sIf t A sNil) T ρ) R :=
  seq_next (P := fun r => r = ρ) (sif_does h (fun z => nomatch z) fun _ => does_ret ⟨ρ, rfl, rfl⟩) fun r e => by rw [e]; exact k
theorem at_sl (a : DE) (lo hi : Option DE) (ρ : Rho) : dSl a lo hi ρ = M.bnd (a ρ) fun x => M.bnd (dPart lo ρ) fun l => M.bnd (dPart hi ρ) fun h => oSl x l h := nr rfl
theorem at_pn (ρ : Rho) : dPart none ρ = M.ret none := nr rfl
theorem at_ps' (e : DE) (ρ : Rho) : dPart (some e) ρ = M.bnd (e ρ) fun x => (match x with
    | .int i => M.ret (some i)
    | _ => M.stuck) := nr rfl
theorem sl_tup' (xs : List D) (lo hi : Option Int) : oSl (.tuple xs) lo hi = M.ret (.tuple (cutD xs lo hi)) := nr rfl
theorem sl_lst' (xs : List D) (lo hi : Option Int) : oSl (.list xs) lo hi = M.ret (.list (cutD xs lo hi)) := nr rfl
theorem add_tups {xs ys : List D} (h : xs.length + ys.length ≤ 2 ^ 20) : oAdd (.tuple xs) (.tuple ys) = M.ret (.tuple (xs ++ ys)) := by
  unfold oAdd
  dsimp only
  rw [if_pos (small20 h)]
theorem add_lists {xs ys : List D} (h : xs.length + ys.length ≤ 2 ^ 20) : oAdd (.list xs) (.list ys) = M.ret (.list (xs ++ ys)) := by
  unfold oAdd
  dsimp only
  rw [if_pos (small20 h)]
theorem neg_ints (i : Int) : uNeg (.int i) = M.ret (.int (-i)) := nr rfl
theorem min2_ints (i j : Int) : bMin2 (.int i) (.int j) = M.ret (.int (if j < i then j else i)) := nr rfl
theorem max2_ints (i j : Int) : bMax2 (.int i) (.int j) = M.ret (.int (if j > i then j else i)) := nr rfl
end

theorem revL_l (xs : List D) : oRevL (.list xs) = M.ret (.list xs.reverse) := nr rfl
theorem oEq_strs (a b : Str) : oEq (.str a) (.str b) = M.ret (.bool (decide (a = b))) := nr rfl
theorem oNe_strs (a b : Str) : oNe (.str a) (.str b) = M.ret (.bool (!decide (a = b))) := nr rfl
theorem list_l (xs : List D) : bList (.list xs) = M.ret (.list xs) := nr rfl
theorem list_t (xs : List D) : bList (.tuple xs) = M.ret (.list xs) := nr rfl
theorem is_T (d : D) : bIsTup d = M.ret (.bool d.isTuple) := nr rfl
theorem is_L (d : D) : bIsLst d = M.ret (.bool d.isList) := nr rfl
theorem is_I (d : D) : bIsInt d = M.ret (.bool d.isInt) := nr rfl
theorem is_B (d : D) : bIsBool d = M.ret (.bool d.isBool) := nr rfl
theorem is_S (d : D) : bIsStr d = M.ret (.bool d.isStr) := nr rfl
theorem is_N (d : D) : oIsN d = M.ret (.bool (isN d)) := nr rfl
theorem not_N (d : D) : oNotN d = M.ret (.bool (!isN d)) := nr rfl
theorem isT_n  : PyData.isTuple (PyData.none) = false := nr rfl
theorem isT_b (b : Bool) : PyData.isTuple (PyData.bool b) = false := nr rfl
theorem isT_i (i : Int) : PyData.isTuple (PyData.int i) = false := nr rfl
theorem isT_s (s : Str) : PyData.isTuple (PyData.str s) = false := nr rfl
theorem isT_t (xs : List D) : PyData.isTuple (PyData.tuple xs) = true := nr rfl
theorem isT_l (xs : List D) : PyData.isTuple (PyData.list xs) = false := nr rfl
theorem isT_d (kvs : List (D × D)) : PyData.isTuple (PyData.dict kvs) = false := nr rfl
theorem isL_n  : PyData.isList (PyData.none) = false := nr rfl
theorem isL_b (b : Bool) : PyData.isList (PyData.bool b) = false := nr rfl
theorem isL_i (i : Int) : PyData.isList (PyData.int i) = false := nr rfl
theorem isL_s (s : Str) : PyData.isList (PyData.str s) = false := nr rfl
theorem isL_t (xs : List D) : PyData.isList (PyData.tuple xs) = false := nr rfl
theorem isL_l (xs : List D) : PyData.isList (PyData.list xs) = true := nr rfl
theorem isL_d (kvs : List (D × D)) : PyData.isList (PyData.dict kvs) = false := nr rfl
theorem isI_n  : PyData.isInt (PyData.none) = false := nr rfl
theorem isI_b (b : Bool) : PyData.isInt (PyData.bool b) = true := nr rfl
theorem isI_i (i : Int) : PyData.isInt (PyData.int i) = true := nr rfl
theorem isI_s (s : Str) : PyData.isInt (PyData.str s) = false := nr rfl
theorem isI_t (xs : List D) : PyData.isInt (PyData.tuple xs) = false := nr rfl
theorem isI_l (xs : List D) : PyData.isInt (PyData.list xs) = false := nr rfl
theorem isI_d (kvs : List (D × D)) : PyData.isInt (PyData.dict kvs) = false := nr rfl
theorem isB_n  : PyData.isBool (PyData.none) = false := nr rfl
theorem isB_b (b : Bool) : PyData.isBool (PyData.bool b) = true := nr rfl
theorem isB_i (i : Int) : PyData.isBool (PyData.int i) = false := nr rfl
theorem isB_s (s : Str) : PyData.isBool (PyData.str s) = false := nr rfl
theorem isB_t (xs : List D) : PyData.isBool (PyData.tuple xs) = false := nr rfl
theorem isB_l (xs : List D) : PyData.isBool (PyData.list xs) = false := nr rfl
theorem isB_d (kvs : List (D × D)) : PyData.isBool (PyData.dict kvs) = false := nr rfl
theorem isS_n  : PyData.isStr (PyData.none) = false := nr rfl
theorem isS_b (b : Bool) : PyData.isStr (PyData.bool b) = false := nr rfl
theorem isS_i (i : Int) : PyData.isStr (PyData.int i) = false := nr rfl
theorem isS_s (s : Str) : PyData.isStr (PyData.str s) = true := nr rfl
theorem isS_t (xs : List D) : PyData.isStr (PyData.tuple xs) = false := nr rfl
theorem isS_l (xs : List D) : PyData.isStr (PyData.list xs) = false := nr rfl
theorem isS_d (kvs : List (D × D)) : PyData.isStr (PyData.dict kvs) = false := nr rfl
theorem isN_n  : isN (PyData.none) = true := nr rfl
theorem isN_b (b : Bool) : isN (PyData.bool b) = false := nr rfl
theorem isN_i (i : Int) : isN (PyData.int i) = false := nr rfl
theorem isN_s (s : Str) : isN (PyData.str s) = false := nr rfl
theorem isN_t (xs : List D) : isN (PyData.tuple xs) = false := nr rfl
theorem isN_l (xs : List D) : isN (PyData.list xs) = false := nr rfl
theorem isN_d (kvs : List (D × D)) : isN (PyData.dict kvs) = false := nr rfl
theorem fn_eq {n N : Nat} {B : DS} {as : List Arg} (h : as.length = n := by rfl) : fnD n N B as = M.bnd (B (as.map argSlot ++ List.replicate (N - n) none)) fun o => (match o with
    | .ret d => M.ret d
    | .next _ => M.ret .none
    | _ => M.stuck) := if_pos h
theorem ret_ite_o {α : Type} {c : Prop} [Decidable c] (a : α) : (if c then M.ret (some a) else M.ret none) = M.ret (if c then some a else none) := by split <;> rfl
theorem noerr_ret {α : Type} (a : α) : M.noerr (M.ret a) = M.ret a := rfl
theorem does_of {α : Type} {κ : Bool} {m : M α} {a : α} {P : α → Prop} (h : m = M.ret a) (p : P a) : DoesK κ m P := by rw [h]; exact does_ret p
theorem comp_typed {α : Type} {own : List Nat} {it : DI} {g : Tgt} {t : DT} {e : DE} {ρ : Rho} (as : List α) (enc : α → D) (p : α → Bool) (F : α → D) (hi : it ρ = M.ret (as.map enc)) (hl : as.length ≤ PySem.sizeLine)
    (h : ∀ a ∈ as, compTurn g t e (wipeR ρ own) (enc a) = M.ret (if p a = true then some (F a) else none)) : dComp own it g t e ρ = M.ret (.list ((as.filter p).map F)) := by
  have go : ∀ as : List α, (∀ a ∈ as, compTurn g t e (wipeR ρ own) (enc a) = M.ret (if p a = true then some (F a) else none)) → compGo (compTurn g t e (wipeR ρ own)) (as.map enc) = M.ret ((as.filter p).map F) := by
    intro as
    induction as with
    | nil => intro _; rfl
    | cons a as ih =>
      intro h
      show M.bnd (compTurn g t e (wipeR ρ own) (enc a)) (fun o => M.bnd (compGo _ (as.map enc)) fun r => M.ret (o.toList ++ r)) = _
      rw [h a List.mem_cons_self, bnd_ret, ih fun b hb => h b (List.mem_cons_of_mem _ hb), bnd_ret]
      cases hp : p a with
      | true => simp [List.filter_cons, hp]
      | false => simp [List.filter_cons, hp]
  show M.bnd (it ρ) _ = _
  rw [hi, bnd_ret, List.length_map, if_pos hl, go as h]
  rfl
theorem comp_map {α : Type} {own : List Nat} {it : DI} {g : Tgt} {e : DE} {ρ : Rho} (as : List α) (enc : α → D) (F : α → D) (hi : it ρ = M.ret (as.map enc)) (hl : as.length ≤ PySem.sizeLine)
    (h : ∀ a ∈ as, M.bnd (g (enc a) (wipeR ρ own)) e = M.ret (F a)) : dComp own it g tTrue e ρ = M.ret (.list (as.map F)) := by
  have z := comp_typed (own := own) (g := g) (t := tTrue) (e := e) as enc (fun _ => true) F hi hl fun a ha => by
    have e1 : compTurn g tTrue e (wipeR ρ own) (enc a) = M.bnd (M.bnd (g (enc a) (wipeR ρ own)) e) fun y => M.ret (some y) := by rw [bnd_bnd]; rfl
    rw [e1, h a ha, bnd_ret]
    rfl
  rw [z, List.filter_eq_self.mpr (fun _ _ => rfl)]
theorem comp_rng {own : List Nat} {it : DI} {g : Tgt} {e : DE} {ρ : Rho} (lo : Int) (n : Nat) (F : Nat → D) (hi : it ρ = M.ret (intsFrom lo n)) (hl : n ≤ PySem.sizeLine)
    (h : ∀ k, k < n → M.bnd (g (.int (lo + (k : Int))) (wipeR ρ own)) e = M.ret (F k)) : dComp own it g tTrue e ρ = M.ret (.list ((List.range n).map F)) :=
  comp_map (List.range n) (fun (k : Nat) => .int (lo + (k : Int))) F (by rw [hi]; rfl) (by rw [List.length_range]; exact hl) fun k hk => h k (List.mem_range.mp hk)
theorem comp_rngf {own : List Nat} {it : DI} {g : Tgt} {t : DT} {e : DE} {ρ : Rho} (lo : Int) (n : Nat) (p : Nat → Bool) (F : Nat → D) (hi : it ρ = M.ret (intsFrom lo n)) (hl : n ≤ PySem.sizeLine)
    (h : ∀ k, k < n → compTurn g t e (wipeR ρ own) (.int (lo + (k : Int))) = M.ret (if p k = true then some (F k) else none)) : dComp own it g t e ρ = M.ret (.list (((List.range n).filter p).map F)) :=
  comp_typed (List.range n) (fun (k : Nat) => .int (lo + (k : Int))) p F (by rw [hi]; rfl) (by rw [List.length_range]; exact hl) fun k hk => h k (List.mem_range.mp hk)
theorem turn_def (g : Tgt) (t : DT) (e : DE) (r : Rho) (x : D) : compTurn g t e r x = M.bnd (g x r) fun r' => M.bnd (t r') fun c => if c = true then M.bnd (e r') fun y => M.ret (some y) else M.ret none := nr rfl
theorem turn_at {g : Tgt} {t : DT} {e : DE} {r r' : Rho} {x : D} (hg : g x r = M.ret r') : compTurn g t e r x = M.bnd (t r') fun c => if c = true then M.bnd (e r') fun y => M.ret (some y) else M.ret none := by
  unfold compTurn
  rw [hg, bnd_ret]
theorem for_typed {α : Type} {g : Tgt} {B : DS} (enc : α → D) (I : Nat → Rho → Prop) (E : D → Prop) : ∀ (as : List α) (i : Nat) (ρ : Rho), I i ρ →
    (∀ (j : Nat) (a : α) (ρ : Rho), as[j]? = some a → I (i + j) ρ → ∃ o, M.bnd (g (enc a) ρ) B = M.ret o ∧ match o with
      | .next r => I (i + j + 1) r
      | .cont r => I (i + j + 1) r
      | .brk _ => False
      | .ret d => E d) → ∃ o, forGo g B (as.map enc) ρ = M.ret o ∧ match o with
      | .next r => I (i + as.length) r
      | .cont _ => False
      | .brk _ => False
      | .ret d => E d
  | [], i, ρ, h, _ => ⟨_, rfl, h⟩
  | a :: as, i, ρ, h, s => by
    obtain ⟨o, e1, h1⟩ := s 0 a ρ rfl h
    have e : forGo g B ((a :: as).map enc) ρ = M.bnd (M.bnd (g (enc a) ρ) B) fun o => (match o with
      | .next ρ2 => forGo g B (as.map enc) ρ2
      | .cont ρ2 => forGo g B (as.map enc) ρ2
      | .brk ρ2 => M.ret (.next ρ2)
      | .ret d => M.ret (.ret d)) := (bnd_bnd _ _ _).symm
    rw [e, e1, bnd_ret]
    have rest : ∀ r, I (i + 1) r → ∃ o, forGo g B (as.map enc) r = M.ret o ∧ match o with
      | .next r => I (i + (a :: as).length) r
      | .cont _ => False
      | .brk _ => False
      | .ret d => E d := fun r hr => by
      have z := for_typed enc I E as (i + 1) r hr fun j a ρ hx hi => by
        have z := s (j + 1) a ρ hx (by rw [show i + (j + 1) = i + 1 + j by omega]; exact hi)
        rw [show i + (j + 1) = i + 1 + j by omega] at z
        exact z
      rw [show i + (a :: as).length = i + 1 + as.length by simp only [List.length_cons]; omega]
      exact z
    cases o with
    | next r => exact rest r h1
    | cont r => exact rest r h1
    | brk r => exact h1.elim
    | ret d => exact ⟨_, rfl, h1⟩
theorem for_all {α : Type} {g : Tgt} {B : DS} {as : List α} {ρ : Rho} (enc : α → D) (I : Nat → Rho → Prop) (h0 : I 0 ρ)
    (s : ∀ (j : Nat) (a : α) (ρ : Rho), as[j]? = some a → I j ρ → ∃ r, (M.bnd (g (enc a) ρ) B = M.ret (.next r) ∨ M.bnd (g (enc a) ρ) B = M.ret (.cont r)) ∧ I (j + 1) r) : ∃ r, forGo g B (as.map enc) ρ = M.ret (.next r) ∧ I as.length r := by
  obtain ⟨o, e, h⟩ := for_typed (g := g) (B := B) enc I (fun _ => False) as 0 ρ h0 fun j a ρ ha hi => by
    rw [Nat.zero_add] at hi ⊢
    obtain ⟨r, e | e, h⟩ := s j a ρ ha hi
    · exact ⟨_, e, h⟩
    · exact ⟨_, e, h⟩
  cases o with
  | next r => exact ⟨r, e, by rw [Nat.zero_add] at h; exact h⟩
  | cont r => exact h.elim
  | brk r => exact h.elim
  | ret d => exact h.elim
theorem at_sset {i : Nat} {k e : DE} {ρ : Rho} {ds : List D} (h : ρ[i]? = some (some (.own ds))) : sSet i k e ρ = M.bnd (e (hideR ρ)) fun d => M.bnd (k ρ) (setGo i ds d ρ) := by
  unfold sSet
  rw [h]
  try rfl
theorem setGo_at {i : Nat} {ds : List D} {d : D} {ρ : Rho} {n : Int} {m : Nat} (h : ixN ds.length n = some m) : setGo i ds d ρ (.int n) = M.ret (.next (ρ.set i (some (.own (ds.set m d))))) := by
  unfold setGo
  dsimp only
  rw [h]
theorem at_sasgn (i : Nat) (e : DE) (ρ : Rho) : sAsgN i e ρ = M.bnd (e ρ) fun d => (match d with
    | .list ds => if flatAll ds = true then M.ret (.next (ρ.set i (some (.dat (.list ds))))) else M.stuck
    | _ => M.stuck) := nr rfl
theorem at_sforr (it : DI) (g : Tgt) (S : DS) (ρ : Rho) : sForR it g S ρ = M.bnd (it ρ) fun xs => forGo g S xs ρ := nr rfl
theorem at_sappf {i : Nat} {e : DE} {ρ : Rho} {ds : List D} (h : ρ[i]? = some (some (.own ds))) (hl : ds.length < lineMax) : sAppF i e ρ = M.bnd (e ρ) fun d => if flatD d = true then M.ret (.next (ρ.set i (some (.own (ds ++ [d]))))) else M.stuck := by
  unfold sAppF
  rw [h]
  dsimp only
  congr 1
  funext d
  by_cases hf : flatD d = true
  · rw [if_pos hf, if_pos ⟨hl, hf⟩]
  · rw [if_neg hf, if_neg fun z => hf z.2]
theorem line_lt {n : Nat} (h : n < 2 ^ 20) : n < lineMax := Nat.lt_of_lt_of_le h (by decide +kernel)
theorem ixN_nat {n m : Nat} (h : m < n) : ixN n (m : Int) = some m := by
  unfold ixN
  rw [if_pos (by omega), if_pos (by omega)]
  rfl
theorem sorted_ints (ns : List Int) (hl : ns.length ≤ 2 ^ 20) : bSorted (.list (ns.map .int)) = M.ret (.list ((ns.mergeSort fun a b => decide (a ≤ b)).map .int)) := by
  have hc : CanSort (ns.map PyData.int) := by
    refine ⟨fun d hd d' hd' => ?_, .inl (.inr fun d hd => ?_), small20 (by rw [List.length_map]; exact hl), fun d hd => ?_⟩
    · obtain ⟨a, _, rfl⟩ := List.mem_map.mp hd
      obtain ⟨b, _, rfl⟩ := List.mem_map.mp hd'
      rfl
    · obtain ⟨a, _, rfl⟩ := List.mem_map.mp hd
      exact ⟨(fun z => nomatch z), (fun xs z => nomatch z)⟩
    · obtain ⟨a, _, rfl⟩ := List.mem_map.mp hd
      exact Nat.zero_le _
  unfold bSorted
  dsimp only
  rw [if_pos hc]
  congr 2
  have z := List.map_mergeSort (r := fun a b : Int => decide (a ≤ b)) (s := leD) (f := PyData.int) (l := ns) (fun a _ b _ => by
    show decide (a ≤ b) = leD (.int a) (.int b)
    unfold leD
    rw [PySem.W.dataLe_eq]
    show _ = (!PySem.W.dataLt (.int b) (.int a))
    rw [PySem.W.dataLt_int]
    by_cases h : a ≤ b
    · rw [decide_eq_true h, decide_eq_false (by omega)]; rfl
    · rw [decide_eq_false h, decide_eq_true (by omega)]; rfl)
  exact z.symm
theorem seq_own {κ : Bool} {i : Nat} {e : DE} {T : DS} {ρ : Rho} {R : Out → Prop} {ds : List D} (h : e (hideR ρ) = M.ret (.list ds)) (k : DoesK κ (T (ρ.set i (some (.own ds)))) R) : DoesK κ (sSeq (sOwn i e) T ρ) R := by
  rw [at_seq, at_sown, h, bnd_ret, bnd_ret]
  exact k
theorem bools?_map : ∀ bs : List Bool, bools? (bs.map PyData.bool) = some bs
  | [] => rfl
  | b :: bs => by
    show (bools? (bs.map PyData.bool)).map (b :: ·) = some (b :: bs)
    rw [bools?_map bs]
    rfl
theorem all_bools {α : Type} (as : List α) (p : α → Bool) : bAll (.list (as.map fun a => .bool (p a))) = M.ret (.bool (as.all p)) := by
  have e : (as.map fun a => PyData.bool (p a)) = (as.map p).map PyData.bool := by rw [List.map_map]; rfl
  unfold bAll
  dsimp only
  rw [e, bools?_map]
  dsimp only
  rw [List.all_map]
  rfl
theorem any_bools {α : Type} (as : List α) (p : α → Bool) : bAny (.list (as.map fun a => .bool (p a))) = M.ret (.bool (as.any p)) := by
  have e : (as.map fun a => PyData.bool (p a)) = (as.map p).map PyData.bool := by rw [List.map_map]; rfl
  unfold bAny
  dsimp only
  rw [e, bools?_map]
  dsimp only
  rw [List.any_map]
  rfl
end Ew
namespace Ew
open PySem PySem.Spec PyProof.Rows L2
section
variable {X : Cx} {W : WX} {a b : Expr} {A B : DE} {p1 p2 pos : Pos}
end
theorem at_swhile (n : Nat) (t : DT) (B : DS) (ρ : Rho) : sWhile n t B ρ = whileGo t B n ρ := nr rfl
theorem notin_ints_l (n : Int) (ns : List Int) : oNotIn (.int n) (.list (ns.map .int)) = M.ret (.bool (!decide (n ∈ ns))) := by
  unfold oNotIn oHas has?
  dsimp only
  rw [ints?_map]
theorem ix_att {xs : List D} {x : D} {i : Int} (h0 : 0 ≤ i) (h : xs[i.toNat]? = some x) : oIx (.tuple xs) (.int i) = M.ret x := by
  have z := oIx_t h
  rwa [Int.toNat_of_nonneg h0] at z
theorem pick_of {xs : List D} {n : Int} {P : D → Prop} (h0 : 0 ≤ n) (hn : n.toNat < xs.length) (h : ∀ x ∈ xs, P x) : ∃ x, oIx (.tuple xs) (.int n) = M.ret x ∧ P x :=
  ⟨xs[n.toNat], ix_att h0 (List.getElem?_eq_getElem hn), h _ (List.getElem_mem hn)⟩
def obsEG (n : Nat) (fa : List He.Fa) (fn : List He.DefD) (ex : PySem.W.Frag → Bool) (g : Addr → Option Obj) : He.AlD × Bool := (He.obsD fa fn (He.frG g (He.asD g n)), ex (He.frG g (He.asD g n)))
def hookE (n : Nat) (fa : List He.Fa) (fn : List He.DefD) (ex : PySem.W.Frag → Bool) : PySem.W.Hook where
  α := He.AlD × Bool
  obs := fun s => obsEG n fa fn ex s.heap.get?
  val := fun _ => (He.valD fn, true)
  says := fun _ h => ∃ K : PySem.W.Frag, K.In h ∧ He.SaysD fa fn K ∧ ex K = true
  of := fun _ _ e => ⟨_, He.frG_in, congrArg Prod.fst e, congrArg Prod.snd e⟩
  keeps := fun _ _ _ ⟨K, hK, c⟩ k => ⟨K, PySem.W.Frag.In.keeps hK k, c⟩
theorem obsEG_eq {n : Nat} {fa : List He.Fa} {fn : List He.DefD} {ex : PySem.W.Frag → Bool} {g : Addr → Option Obj} {s : Shared} (h : ∀ a, g a = s.heap.get? a) : obsEG n fa fn ex g = (hookE n fa fn ex).obs s := by
  have e : g = s.heap.get? := funext h
  rw [e] <;> rfl
end Ew
namespace Ew
open PySem PySem.Spec PyProof.Rows L2
def dDis (ks : List Str) (es : List DE) : DE := fun ρ => M.bnd (dEach es ρ) fun vs => M.ret (.dict ((ks.map PyData.str).zip vs))
def findS (k : Str) : List (D × D) → Option D
  | [] => none
  | (.str j, v) :: r => if j = k then some v else findS k r
  | _ :: r => findS k r
def findI (k : Int) : List (D × D) → Option D
  | [] => none
  | (.int j, v) :: r => if j = k then some v else findI k r
  | _ :: r => findI k r
def keyO (d : D) : Option Key := match d with
  | .int i => some (.inl i)
  | .str s => some (.inr s)
  | _ => none
def keysO : List D → Option (List Key)
  | [] => some []
  | d :: ds => match keyO d, keysO ds with
    | some k, some ks => some (k :: ks)
    | _, _ => none
theorem keyO_keyD (k : Key) : keyO (keyD k) = some k := by cases k <;> rfl
theorem keysO_keyD : ∀ ks : List Key, keysO (ks.map keyD) = some ks
  | [] => rfl
  | k :: ks => by
    rw [List.map_cons, keysO, keyO_keyD, keysO_keyD ks]
def isT (k : List Key) (d : D) : Bool := match d with
  | .tuple ds => decide (keysO ds = some k)
  | _ => false
theorem isT_keyT (k m : List Key) : isT k (keyT m) = decide (m = k) := by
  show decide (keysO (m.map keyD) = some k) = _
  rw [keysO_keyD]
  exact decide_eq_decide.mpr ⟨fun h => Option.some.inj h, fun h => by rw [h]⟩
def findT (k : List Key) : List (D × D) → Option D
  | [] => none
  | q :: r => if isT k q.1 = true then some q.2 else findT k r
theorem key_rpO {K : PySem.W.Frag} {Z : Rg} {H : Hp} {y : V} {d : D} {k : Key} (r : Rp K Z H y d) (h : keyO d = some k) : y = kV k := by
  cases r with
  | int i => cases h; rfl
  | str s => cases h; rfl
  | _ => cases h
theorem keysO_rp {K : PySem.W.Frag} {Z : Rg} {H : Hp} : ∀ {vs : List V} {ds : List D} {ks : List Key}, RpL K Z H vs ds → keysO ds = some ks → vs = ks.map kV
  | _, _, _, .nil, h => by
    cases h
    rfl
  | _, _, ks, .cons (d := d) (ds := ds) r rs, h => by
    rw [keysO] at h
    cases e1 : keyO d with
    | none => rw [e1] at h; cases h
    | some k =>
      cases e2 : keysO ds with
      | none => rw [e1, e2] at h; cases h
      | some ks' =>
        rw [e1, e2] at h
        cases h
        rw [key_rpO r e1, keysO_rp rs e2]
        rfl
theorem find_atT {K : PySem.W.Frag} {Z : Rg} {H : Hp} (k : List Key) : ∀ (kvs : List (List Key × V)) (ds : List (D × D)), ds.map (fun q => q.1) = kvs.map (fun q => keyT q.1) → RpL K Z H (kvs.map fun q => q.2) (ds.map fun q => q.2) →
    match findT k ds with
    | some d => ∃ v, valV kvs k = some v ∧ Rp K Z H v d
    | none => valV kvs k = none
  | [], [], _, _ => rfl
  | [], _ :: _, h, _ => nomatch h
  | _ :: _, [], h, _ => nomatch h
  | m :: kvs, n :: ds, h, r => by
    rw [List.map_cons, List.map_cons, List.cons.injEq] at h
    rw [List.map_cons, List.map_cons] at r
    cases r with
    | cons r0 rs =>
      have ih := find_atT k kvs ds h.2 rs
      rw [findT, h.1, isT_keyT]
      by_cases hm : m.1 = k
      · rw [if_pos (decide_eq_true hm)]
        exact ⟨m.2, valV_pos hm, r0⟩
      · rw [if_neg (by rw [decide_eq_false hm]; decide), valV_neg hm]
        exact ih
theorem find_noT {kvs : List (List Key × V)} : ∀ {ds : List (D × D)}, ds.map (fun q => q.1) = kvs.map (fun q => keyT q.1) → (∀ n, findI n ds = none) ∧ ∀ n, findS n ds = none := by
  intro ds h
  have key : ∀ ds : List (D × D), (∀ q ∈ ds, ∃ xs, q.1 = .tuple xs) → (∀ n, findI n ds = none) ∧ ∀ n, findS n ds = none := by
    intro ds
    induction ds with
    | nil => exact fun _ => ⟨fun _ => rfl, fun _ => rfl⟩
    | cons q ds ih =>
      intro hq
      obtain ⟨xs, e⟩ := hq q List.mem_cons_self
      obtain ⟨h1, h2⟩ := ih fun q hq' => hq q (List.mem_cons_of_mem _ hq')
      obtain ⟨q1, q2⟩ := q
      cases e
      exact ⟨fun n => h1 n, fun n => h2 n⟩
  refine key ds fun q hq => ?_
  have hm : q.1 ∈ ds.map (fun q => q.1) := List.mem_map_of_mem hq
  rw [h] at hm
  obtain ⟨kv, _, e⟩ := List.mem_map.mp hm
  exact ⟨_, e.symm⟩
theorem find_noK {k : List Key} {kvs : List (Key × V)} : ∀ {ds : List (D × D)}, ds.map (fun q => q.1) = kvs.map (fun q => keyD q.1) → findT k ds = none := by
  intro ds h
  have key : ∀ ds : List (D × D), (∀ q ∈ ds, ∃ m : Key, q.1 = keyD m) → findT k ds = none := by
    intro ds
    induction ds with
    | nil => exact fun _ => rfl
    | cons q ds ih =>
      intro hq
      obtain ⟨m, e⟩ := hq q List.mem_cons_self
      rw [findT, e, ih fun q hq' => hq q (List.mem_cons_of_mem _ hq')]
      cases m <;> exact if_neg (fun z => nomatch z)
  refine key ds fun q hq => ?_
  have hm : q.1 ∈ ds.map (fun q => q.1) := List.mem_map_of_mem hq
  rw [h] at hm
  obtain ⟨kv, _, e⟩ := List.mem_map.mp hm
  exact ⟨_, e.symm⟩
def DGetU (K : PySem.W.Frag) (H : Hp) (a : Addr) (y : V) (o : Option V) : Prop :=
  (∃ kvs k, Rd H a (.dK kvs) ∧ y = kV k ∧ o = valV kvs k) ∨ (∃ (kvs : List (List Key × V)) (k : List Key) (b : Addr), Rd H a (.dT kvs) ∧ y = .ref b ∧ SqT K H b (k.map kV) ∧ o = valV kvs k) ∨
  (∃ k, Rd H a (.dT []) ∧ y = kV k ∧ o = none) ∨ ∃ (k : List Key) (b : Addr), Rd H a (.dK []) ∧ y = .ref b ∧ SqT K H b (k.map kV) ∧ o = none
section
variable {X : Cx} {pins : List (Addr × Obj)} {σ : L2.St} {H : Hp} {s : Shared} {a : Addr} {y v d : V} {u r : Value} {o : Option V} {A : Around} {E : Value → Shared → Prop}
theorem key_ofS {ks : List Key} {b : Addr} (I : Inv X pins σ H s) (e : SqT X.K H b (ks.map kV)) : (tupleKind (mixKind X.prog X.w)).is s.heap ks b := by
  obtain ⟨its, r, ⟨o, h1, h2, n, h3⟩, hz⟩ := I.tuple e
  exact ⟨o, its.toArray, n, h1, h2, h3, by simpa using items_are r⟩
theorem dget_two (I : Inv X pins σ H s) (g : DGetU X.K H a y o) (ry : RelV y u) : (a == sysModules) = false ∧
    ((∃ vs k, y = kV k ∧ s.heap.DictOf (mixKind X.prog X.w) a vs ∧ RelO o (valueAt vs k)) ∨ ∃ (xs : List (List Key × Addr × Value)) (k : List Key) (b : Addr), u = .ref b ∧ s.heap.DictOfH (tupleKind (mixKind X.prog X.w)) a xs ∧ (tupleKind (mixKind X.prog X.w)).is s.heap k b ∧ RelO o ((atKey xs k).map (·.2))) := by
  rcases g with ⟨kvs, k, e, ey, l⟩ | ⟨kvs, k, b, e, ey, eb, l⟩ | ⟨k, e, ey, l⟩ | ⟨k, b, e, ey, eb, l⟩
  · obtain ⟨z, hd, vs, rel, dd⟩ := dk_rd I.hok e
    exact ⟨hd, .inl ⟨vs, k, ey, dd, by rw [l]; exact rel.val k⟩⟩
  · obtain ⟨z, hd, xs, rel, dd⟩ := dt_rd I.hok e
    subst ey
    cases (show u = Value.ref b from ry)
    exact ⟨hd, .inr ⟨xs, k, b, rfl, dd, key_ofS I eb, by rw [l]; exact rel.val k⟩⟩
  · obtain ⟨z, hd, xs, rel, o, es, ep, h1, h2, h3, h4, h5⟩ := dt_rd I.hok e
    cases rel
    rw [List.map_nil] at h4
    refine ⟨hd, .inl ⟨[], k, ey, ⟨o, es, ep, h1, h2, h3, ?_, ?_, .nil⟩, by rw [l]; exact True.intro⟩⟩
    · intro e he
      have z : e ∈ es.toList := Array.mem_toList_iff.mpr he
      rw [h4] at z
      cases z
    · rw [h4]
      exact .nil
  · obtain ⟨z, hd, vs, rel, o, es, ep, h1, h2, h3, h4, h5, h6⟩ := dk_rd I.hok e
    cases rel
    subst ey
    cases (show u = Value.ref b from ry)
    have he : es.toList = [] := by
      generalize es.toList = l at h5
      cases h5
      rfl
    exact ⟨hd, .inr ⟨[], k, b, rfl, ⟨o, es, ep, h1, h2, h3, by rw [he]; rfl, (fun _ z => by cases z), List.Pairwise.nil⟩, key_ofS I eb, by rw [l]; exact True.intro⟩⟩
theorem dU_getItem {Q : Value → Shared → Prop} (hu : A.units + 1 < cLine) (I : Inv X pins σ H s) (g : DGetU X.K H a y (some v)) (ry : RelV y u) (h : ∀ w' s', Inv X pins σ H s' → RelV v w' → Q w' s') :
    wpAny (model X.prog X.w) A (getItem (.ref a) u) Q E s := by
  rcases (dget_two I g ry).2 with ⟨vs, k, ey, dd, l⟩ | ⟨xs, k, b, ey, dd, eb, l⟩
  · subst ey
    obtain ⟨w', hw, rw'⟩ := RelO.some_of l
    exact wpAny_getItem_of (kV_is ry) dd.mapOf hw (h w' _ (I.tok _) rw')
  · subst ey
    obtain ⟨w', hw, rw'⟩ := RelO.some_of l
    obtain ⟨p, hp, hp2⟩ := Option.map_eq_some_iff.mp hw
    refine wpAny_getItem_heap (tupleKind_room_in1 hu) eb dd hp ?_
    rw [hp2]
    exact h w' _ (I.tok _) rw'
theorem dU_notIn {Q : Value → Shared → Prop} (hu : A.units + 1 < cLine) (I : Inv X pins σ H s) (g : DGetU X.K H a y o) (ry : RelV y u) (h : ∀ s', Inv X pins σ H s' → Q (.bool (!o.isSome)) s') :
    wpAny (model X.prog X.w) A (compareOp .NotIn u (.ref a)) Q E s := by
  obtain ⟨hd, ⟨vs, k, ey, dd, l⟩ | ⟨xs, k, b, ey, dd, eb, l⟩⟩ := dget_two I g ry
  · subst ey
    refine wpAny_notIn_of (kV_is ry) hd dd.mapOf ?_
    rw [← l.isSome_eq]
    exact h _ (I.tok _)
  · subst ey
    refine wpAny_notIn_heap (tupleKind_room_in1 hu) eb hd dd ?_
    have q := l.isSome_eq
    rw [Option.isSome_map] at q
    rw [← q]
    exact h _ (I.tok _)
theorem dU_typeIs (I : Inv X pins σ H s) (g : IsD H a) : Shared.TypeIs s (.ref a) "dict" := (isD_at I g).1
end
theorem DGetU.isD {K : PySem.W.Frag} {H : Hp} {a : Addr} {y : V} {o : Option V} (g : DGetU K H a y o) : IsD H a := by
  rcases g with ⟨kvs, k, e, _⟩ | ⟨kvs, k, b, e, _⟩ | ⟨k, e, _⟩ | ⟨k, b, e, _⟩
  · exact .inl ⟨_, e⟩
  · exact .inr ⟨_, e⟩
  · exact .inr ⟨_, e⟩
  · exact .inl ⟨_, e⟩
def tDGetU (K : PySem.W.Frag) (td ty : TE) : TE := fun σ H Q => td σ H fun x H1 => ty σ H1 fun y H2 => ∃ a v, x = .ref a ∧ DGetU K H2 a y (some v) ∧ Q v H2
theorem pe_dgetU {X : Cx} {o i : Expr} {td ty : TE} {pos : Pos} (hu : X.A.units + 1 < cLine) (ho : PE X o td) (hi : PE X i ty) (hs : NoSl i) : PE X (.Subscript o i pos) (tDGetU X.K td ty) := by
  refine ⟨fun pins s σ H Q I h => ?_⟩
  refine subD_of PySem.F.slot_dict_getitem.lookup hs (thn (ho.run pins s σ H _ I h) fun u s1 ⟨x, H1, I1, rx, q1⟩ => thn (hi.run pins s1 σ H1 _ I1 q1) fun iv s2 ⟨y, H2, I2, ry, a, v, ex, g, q2⟩ => ?_)
  subst ex
  obtain rfl : u = Value.ref a := rx
  exact ⟨dU_typeIs I2 g.isD, dU_getItem hu I2 g ry fun w' s3 I3 rw' => ⟨v, H2, I3, rw', q2⟩⟩
def oDGet (x y : D) : M D := match x, y with
  | .dict ds, .str k => (match findS k ds with
    | some d => M.ret d
    | none => M.stuck)
  | .dict ds, .int k => (match findI k ds with
    | some d => M.ret d
    | none => M.stuck)
  | .dict ds, .tuple ks => (match keysO ks with
    | some k => (match findT k ds with
      | some d => M.ret d
      | none => M.stuck)
    | none => M.stuck)
  | _, _ => M.stuck
section
variable {X : Cx} {W : WX} {e a b : Expr} {A B : DE} {pos : Pos}
abbrev PrF (K : PySem.W.Frag) (ks : List Str) : RelT (List (V × V)) (List D) := fun _ Z H H' ps ds => ps.map (·.1) = ks.map V.str ∧ RpL K (Zn Z H) H' (ps.map (·.2)) ds
theorem sh_pr {K : PySem.W.Frag} {ks : List Str} : Shf (PrF K ks) := fun p sc Z H H2 H' q q2 b a k pl pl2 r => ⟨r.1, r.2.grow (Zn.twice k pl pl2)⟩
def PDp (X : Cx) (W : WX) (pos : Pos) (keys : List (Option Expr)) (vals : List Expr) (ks : List Str) (As : List DE) : Prop := ∃ trs, PPs X pos keys vals trs ∧ Rd1 X W (PrF X.K ks) (tPairs trs) (dEach As)
theorem pdp_nil : PDp X W pos [] [] [] [] := ⟨_, pps_nil, fun p sc Z σ H ρ q Q s hp => hp [] H (Keep.refl _ _) s.pool ⟨rfl, .nil⟩⟩
theorem pdp_cons {k : Str} {j : Nat} {kp : Pos} {keys : List (Option Expr)} {vals : List Expr} {ks : List Str} {As : List DE} (ha : PDe X W e A) (hr : PDp X W pos keys vals ks As) : PDp X W pos (some (.Constant (.str k) j kp) :: keys) (e :: vals) (k :: ks) (A :: As) := by
  obtain ⟨t, h1, h2⟩ := ha
  obtain ⟨u, g1, g2⟩ := hr
  refine ⟨_, pps_cons pe_str h1 g1, ?_⟩
  refine rd_bnd (RelF := PrF X.K (k :: ks)) (ValA := fun _ Z H v d => Rp X.K Z H v d) (f := fun ρ x => M.bnd (dEach As ρ) fun xs => M.ret (x :: xs)) (k := fun x σ H Q => tPairs u σ H fun xs H2 => Q ((.str k, x) :: xs) H2) sh_pr (fun _ _ _ _ _ _ h => h) h2 fun p sc Z σ H ρ q x dx Q s hv hp => ?_
  refine g2 p sc Z σ H ρ q _ s ((Post.bnd (Rel := PrF X.K ks p Z H) (Rel' := PrF X.K (k :: ks) p Z H) hp).to fun xs H1 ⟨ds, q1, e1, k1, pl1, r1, hp1⟩ => ?_)
  exact hp1 ((.str k, x) :: xs) H1 k1 pl1 ⟨by rw [List.map_cons, List.map_cons, r1.1], .cons ((hv.stand (k1.stand s.pool s.nz)).grow Zn.base) r1.2⟩
theorem pairs_made : ∀ (ks : List Str) (ps : List (V × V)), ps.map (·.1) = ks.map V.str → ∃ kvs : List (Key × V), ps = kvs.map (fun kv => (kV kv.1, kv.2)) ∧ kvs.map (·.1) = ks.map .inr ∧ kvs.map (·.2) = ps.map (·.2)
  | [], [], _ => ⟨[], rfl, rfl, rfl⟩
  | [], _ :: _, h => nomatch h
  | _ :: _, [], h => nomatch h
  | k :: ks, p :: ps, h => by
    rw [List.map_cons, List.map_cons, List.cons.injEq] at h
    obtain ⟨kvs, h1, h2, h3⟩ := pairs_made ks ps h.2
    refine ⟨(.inr k, p.2) :: kvs, ?_, by rw [List.map_cons, List.map_cons, h2], by rw [List.map_cons, List.map_cons, h3]⟩
    rw [List.map_cons, ← h1]
    congr 1
    exact Prod.ext h.1 rfl
theorem merge_new : ∀ (more kvs : List (Key × V)), (more.map (·.1)).Nodup → (∀ k ∈ more.map (·.1), k ∉ kvs.map (·.1)) → mergeK kvs more = kvs ++ more
  | [], kvs, _, _ => (List.append_nil _).symm
  | m :: more, kvs, hn, hd => by
    rw [List.map_cons, List.nodup_cons] at hn
    have h1 : m.1 ∉ kvs.map (·.1) := hd m.1 (by simp)
    have e : putK kvs m.1 m.2 = kvs ++ [m] := by
      unfold putK
      rw [if_neg]
      intro z
      rw [List.any_eq_true] at z
      obtain ⟨x, hx, hk⟩ := z
      exact h1 (List.mem_map.mpr ⟨x, hx, of_decide_eq_true hk⟩)
    show mergeK (putK kvs m.1 m.2) more = _
    rw [e, merge_new more _ hn.2 fun k hk => ?_, List.append_assoc]
    · rfl
    · rw [List.map_append, List.mem_append]
      rintro (z | z)
      · exact hd k (List.mem_cons_of_mem _ hk) z
      · rw [List.map_singleton, List.mem_singleton] at z
        exact hn.1 (z ▸ hk)
theorem EnvR.sub {K : PySem.W.Frag} {p : Addr} {Z Z' : Rg} {σ : L2.St} {H : Hp} {ρ : Rho} (e : EnvR K p Z σ H ρ) (s : ∀ b, Z b → H b ≠ none → Z' b) : EnvR K p Z' σ H ρ := fun i sl h => by
  have q := e i sl h
  cases z : sl.val? with
  | some d =>
    rw [z] at q
    obtain ⟨v, h1, h2⟩ := q
    exact ⟨v, h1, h2.sub s⟩
  | none =>
    rw [z] at q
    exact q
theorem zip_dict {ks : List Str} {kvs : List (Key × V)} {ds : List D} (h : kvs.map (·.1) = ks.map .inr) (hl : kvs.length = ds.length) : ((ks.map PyData.str).zip ds).map (fun q => q.1) = kvs.map (fun q => keyD q.1) ∧ ((ks.map PyData.str).zip ds).map (fun q => q.2) = ds := by
  have hk : ks.length = ds.length := by
    have := congrArg List.length h
    rw [List.length_map, List.length_map] at this
    omega
  refine ⟨?_, ?_⟩
  · have e : ((ks.map PyData.str).zip ds).map (fun q => q.1) = ks.map PyData.str := List.map_fst_zip (by rw [List.length_map]; omega)
    rw [e]
    have e2 : kvs.map (fun q => keyD q.1) = (kvs.map (·.1)).map keyD := by rw [List.map_map]; rfl
    rw [e2, h, List.map_map]
    rfl
  · exact List.map_snd_zip (by rw [List.length_map]; omega)
theorem pd_dis {keys : List (Option Expr)} {vals : List Expr} {ks : List Str} {As : List DE} (h : PDp X W pos keys vals ks As) (hn : ks.Nodup := by decide) (hall : keys.all (·.isSome) = true := by rfl) (hl : keys.length = vals.length := by rfl) (h0 : keys ≠ [] := by exact fun z => nomatch z)
    (h15 : keys.length ≤ 15 := by decide) (hk : ks.length ≤ 15 := by decide) : PDe X W (.Dict keys vals pos) (dDis ks As) := by
  obtain ⟨trs, h1, h2⟩ := h
  refine ⟨_, pe_disp h1 hall hl h0 h15, fun p sc Z σ H ρ q Q s hp a ha => ?_⟩
  have hap : p ≠ a := ne_of_none s.pool.1 ha
  have hsc : sc ≠ a := ne_of_none s.pool.2.1 ha
  have k0 : Keep p H (upd H a (.dK [])) := new_keep ha
  have s0 : Sit X.K p sc (fun b => Z b ∧ b ≠ a) σ (upd H a (.dK [])) ρ q := by
    have e1 : EnvR X.K p (fun b => Z b ∧ b ≠ a) σ H ρ := s.env.sub fun b z n => ⟨z, fun e => n (e ▸ ha)⟩
    exact ⟨e1.stand (new_stand ha), new_pool ha s.pool, fun z => s.nz z.1, s.len⟩
  refine h2 p sc _ σ _ ρ q _ s0 ?_
  have hp' : Post X.mg p sc H (RpF X.K p Z H) (fun c od H' => W c od σ H') Q (M.bnd (dEach As ρ) (fun vs => M.ret (PyData.dict ((ks.map PyData.str).zip vs))) q) := hp
  unfold M.bnd at hp'
  cases e : dEach As ρ q with
  | ok ds q1 =>
    rw [e] at hp'
    intro ps H2 k2 pl2 r2
    have k2' : Keep p (upd H a (.dK [])) H2 := k2
    have hH2 : H2 a = some (.dK []) := k2'.at a _ hap.symm nt_k upd_same
    obtain ⟨kvs, e1, e2, e3⟩ := pairs_made ks ps r2.1
    have hlen : kvs.length = ks.length := by
      have := congrArg List.length e2
      rwa [List.length_map, List.length_map] at this
    have hnd : (kvs.map (·.1)).Nodup := by
      rw [e2]
      exact List.Pairwise.map _ (fun x y h z => h (Sum.inr.inj z)) hn
    refine ⟨hH2, kvs, e1, by omega, ?_⟩
    rw [merge_new kvs [] hnd (fun k _ z => nomatch z), List.nil_append]
    have rl : RpL X.K (Zn (fun b => Z b ∧ b ≠ a) (upd H a (.dK []))) H2 (kvs.map (·.2)) ds := by rw [e3]; exact r2.2
    have hlz : kvs.length = ds.length := by
      have := rl.length
      rwa [List.length_map] at this
    obtain ⟨z1, z2⟩ := zip_dict (ds := ds) e2 hlz
    have na : ∀ b, Zn (fun b => Z b ∧ b ≠ a) (upd H a (.dK [])) b → b ≠ a := fun b z => by
      rcases z with z | z
      · exact z.2
      · intro e
        rw [e, upd_same] at z
        cases z
    have st : Stand (Zn (fun b => Z b ∧ b ≠ a) (upd H a (.dK []))) H2 (upd H2 a (.dK kvs)) := ⟨fun b o z _ h => by rw [upd_ne (na b z)]; exact h, fun b xs h => by rw [upd_ne (fun x => by rw [x, hH2] at h; cases h)]; exact h, fun b o u h => by rw [upd_ne (fun x => by rw [x, hH2] at h; cases h)]; exact h⟩
    refine hp' (.ref a) _ (fun b o nb hb => ?_) ⟨by rw [upd_ne hap]; exact pl2.1, by rw [upd_ne hsc]; exact pl2.2.1, pl2.2.2.1, tabs_upd pl2.2.2.2 (fun u e => by rw [hH2] at e; cases e; exact ⟨nt_k, fun _ z => nomatch z⟩)⟩ (.dic (.inl upd_same) (.inr ha) z1 ?_)
    · have hba : b ≠ a := ne_of_none hb ha
      rw [upd_ne hba]
      exact k2' b o nb (by rw [upd_ne hba]; exact hb)
    · rw [z2]
      refine (rl.stand st).grow fun b z => ?_
      rcases z with z | z
      · exact .inl z.1
      · refine .inr ?_
        by_cases hb : b = a
        · rw [hb]; exact ha
        · rwa [upd_ne hb] at z
  | err x q1 =>
    rw [e] at hp'
    exact fun c od H' k pl rl => hp' c od H' (k0.trans k) pl rl
  | stuck =>
    rw [e] at hp'
    exact hp'.elim
theorem find_at {K : PySem.W.Frag} {Z : Rg} {H : Hp} {d : D} (k : Key) : ∀ (kvs : List (Key × V)) (ds : List (D × D)), ds.map (fun q => q.1) = kvs.map (fun q => keyD q.1) → RpL K Z H (kvs.map fun q => q.2) (ds.map fun q => q.2) →
    (match k with | .inl i => findI i ds | .inr x => findS x ds) = some d → ∃ v, valV kvs k = some v ∧ Rp K Z H v d
  | [], [], _, _, h => by cases k <;> cases h
  | [], _ :: _, h, _, _ => nomatch h
  | _ :: _, [], h, _, _ => nomatch h
  | m :: kvs, n :: ds, h, r, f => by
    rw [List.map_cons, List.map_cons, List.cons.injEq] at h
    rw [List.map_cons, List.map_cons] at r
    cases r with
    | cons r0 rs =>
      obtain ⟨n1, n2⟩ := n
      obtain ⟨m1, m2⟩ := m
      have hn : n1 = keyD m1 := h.1
      subst hn
      cases k with
      | inl i =>
        cases m1 with
        | inl j =>
          have f' : (if j = i then some n2 else findI i ds) = some d := f
          by_cases hj : j = i
          · subst hj
            rw [if_pos rfl] at f'
            cases f'
            exact ⟨m2, valV_pos rfl, r0⟩
          · rw [if_neg hj] at f'
            obtain ⟨v, e1, e2⟩ := find_at (.inl i) kvs ds h.2 rs f'
            exact ⟨v, by rw [valV_neg (fun z => hj (Sum.inl.inj z))]; exact e1, e2⟩
        | inr j =>
          obtain ⟨v, e1, e2⟩ := find_at (.inl i) kvs ds h.2 rs f
          exact ⟨v, by rw [valV_neg (by intro z; cases z)]; exact e1, e2⟩
      | inr i =>
        cases m1 with
        | inr j =>
          have f' : (if j = i then some n2 else findS i ds) = some d := f
          by_cases hj : j = i
          · subst hj
            rw [if_pos rfl] at f'
            cases f'
            exact ⟨m2, valV_pos rfl, r0⟩
          · rw [if_neg hj] at f'
            obtain ⟨v, e1, e2⟩ := find_at (.inr i) kvs ds h.2 rs f'
            exact ⟨v, by rw [valV_neg (fun z => hj (Sum.inr.inj z))]; exact e1, e2⟩
        | inl j =>
          obtain ⟨v, e1, e2⟩ := find_at (.inr i) kvs ds h.2 rs f
          exact ⟨v, by rw [valV_neg (by intro z; cases z)]; exact e1, e2⟩
theorem pd_dget (hu : X.A.units + deep < cLine) (ha : PDe X W a A) (hb : PDe X W b B) (hs : NoSl b := by exact fun _ _ => rfl) : PDe X W (.Subscript a b pos) (dBin oDGet A B) := by
  obtain ⟨ta, a1, a2⟩ := ha
  obtain ⟨tb, b1, b2⟩ := hb
  refine ⟨_, pe_dgetU (by unfold deep at hu; omega) a1 b1 hs, rd_2 (r := fun x y H Q => ∃ a v, x = .ref a ∧ DGetU X.K H a y (some v) ∧ Q v H) sh_rp (fun p sc Z σ H q x y dx dy Q pl nz hx hy hp => ?_) a2 b2⟩
  cases hx with
  | dic h1 z hk rs =>
    rename_i l kvs ds
    cases hy with
    | str k =>
      unfold oDGet at hp
      dsimp only at hp
      cases e : findS k ds with
      | none => rw [e] at hp; exact hp.elim
      | some d =>
        rw [e] at hp
        obtain ⟨v, e1, e2⟩ := find_at (.inr k) kvs ds hk rs e
        exact ⟨l, v, rfl, .inl ⟨kvs, .inr k, h1, rfl, e1.symm⟩, hp v H (Keep.refl _ _) pl (e2.grow Zn.base)⟩
    | int k =>
      unfold oDGet at hp
      dsimp only at hp
      cases e : findI k ds with
      | none => rw [e] at hp; exact hp.elim
      | some d =>
        rw [e] at hp
        obtain ⟨v, e1, e2⟩ := find_at (.inl k) kvs ds hk rs e
        exact ⟨l, v, rfl, .inl ⟨kvs, .inl k, h1, rfl, e1.symm⟩, hp v H (Keep.refl _ _) pl (e2.grow Zn.base)⟩
    | tup hq rq =>
      rename_i b ys ks
      unfold oDGet at hp
      dsimp only at hp
      cases e : keysO ks with
      | none => rw [e] at hp; exact hp.elim
      | some k =>
        rw [e] at hp
        dsimp only at hp
        rw [find_noK hk] at hp
        exact hp.elim
    | _ => exact hp.elim
  | dit h1 z hk rs =>
    rename_i l kvs ds
    cases hy with
    | str k =>
      unfold oDGet at hp
      dsimp only at hp
      rw [(find_noT hk).2] at hp
      exact hp.elim
    | int k =>
      unfold oDGet at hp
      dsimp only at hp
      rw [(find_noT hk).1] at hp
      exact hp.elim
    | tup hq rq =>
      rename_i b ys ks
      unfold oDGet at hp
      dsimp only at hp
      cases e : keysO ks with
      | none => rw [e] at hp; exact hp.elim
      | some k =>
        rw [e] at hp
        dsimp only at hp
        have z := find_atT k kvs ds hk rs
        cases e2 : findT k ds with
        | none => rw [e2] at hp; exact hp.elim
        | some d =>
          rw [e2] at hp z
          obtain ⟨v, e3, e4⟩ := z
          have ek := keysO_rp rq e
          subst ek
          exact ⟨l, v, rfl, .inr (.inl ⟨kvs, k, b, h1, rfl, hq.t, e3.symm⟩), hp v H (Keep.refl _ _) pl (e4.grow Zn.base)⟩
    | _ => exact hp.elim
  | _ => exact hp.elim
end
section
variable {X : Cx} {W : WX} {c a b : Expr} {T A B : DT} {pos : Pos}
end
end Ew
namespace Ew
open PySem PySem.Spec PyProof.Rows L2
section
variable {X : Cx} {W : WX} {a b : Expr} {A B : DE} {pos : Pos}
end
end Ew
namespace Ew
open PySem PySem.Spec PyProof.Rows L2
def dOwn (i : Nat) : DE := fun ρ => match ρ[i]? with
  | some (some (.own ds)) => M.ret (.list ds)
  | _ => M.stuck
theorem at_ow0 (ds : List D) (ρ : Rho) : dOwn 0 (some (.own ds) :: ρ) = M.ret (.list ds) := nr rfl
theorem at_ows (i : Nat) (x : Option Slot) (ρ : Rho) : dOwn (i + 1) (x :: ρ) = dOwn i ρ := nr rfl
def isLst (m : M D) : M D := fun q => match m q with
  | .ok (.list ds) q' => .ok (.list ds) q'
  | .ok _ _ => .stuck
  | .err x q' => .err x q'
  | .stuck => .stuck
theorem isLst_ret (ds : List D) : isLst (M.ret (.list ds)) = M.ret (.list ds) := nr rfl
def dCallN (F : List Arg → M D) (as : List DA) : DE := fun ρ => M.bnd (dArgs as ρ) fun vs => isLst (F vs)
theorem at_calln (F : List Arg → M D) (as : List DA) (ρ : Rho) : dCallN F as ρ = M.bnd (dArgs as ρ) fun vs => isLst (F vs) := nr rfl
section
variable {X : Cx} {W : WX} {e : Expr} {es : List Expr} {Ars : List DA} {pos : Pos}
end
section
variable {X : Cx} {W : WX} {s : Stmt} {ss : List Stmt} {A B : DS} {e : Expr} {F : DE} {pos : Pos}
end
section
variable {P : Program} {w : World} {K : PySem.W.Frag} {mg : Str → Option Value} {base : Heap} {k : Nat} {x qual : Str} {f : Addr} {fd : FuncData} {N ps : List Str} {st : Stmt} {B : DS}
end
end Ew
namespace Ew
open PySem PySem.Spec PyProof.Rows L2
section
variable {K : PySem.W.Frag} {p sc a : Addr} {H H' : Hp} {q : Pool} {Z : Rg} {ks ls : List (Key × V)}
theorem dic_stand (h : H a = some (.dK ks)) (nz : ¬ Z a) : Stand Z H (upd H a (.dK ls)) := ⟨fun b o z _ e => by rw [upd_ne (fun x => nz (by rw [← x]; exact z))]; exact e, fun b xs e => by rw [upd_ne (fun x => by rw [x, h] at e; cases e)]; exact e, fun b o u e => by rw [upd_ne (fun x => by rw [x, h] at e; cases e)]; exact e⟩
end
def NewG (K : PySem.W.Frag) : RelT V D := fun _ Z H H' v d => ∃ a ks ds, v = .ref a ∧ d = .dict ds ∧ H a = none ∧ H' a = some (.dK ks) ∧ ds.map (fun q => q.1) = ks.map (fun q => keyD q.1) ∧ RpL K (fun b => Zn Z H b ∧ b ≠ a) H' (ks.map fun q => q.2) (ds.map fun q => q.2)
theorem NewG.rp {K : PySem.W.Frag} {p : Addr} {Z : Rg} {H H' : Hp} {v : V} {d : D} (h : NewG K p Z H H' v d) : Rp K (Zn Z H) H' v d := by
  obtain ⟨a, ks, ds, rfl, rfl, h1, h2, h3, h4⟩ := h
  exact .dic (.inl h2) (.inr h1) h3 (h4.grow fun b z => z.1)
def PDg (X : Cx) (W : WX) (e : Expr) (F : DE) : Prop := ∃ t, PE X e t ∧ Rd1 X W (NewG X.K) t F
theorem pde_g {X : Cx} {W : WX} {e : Expr} {F : DE} (h : PDg X W e F) : PDe X W e F := by
  obtain ⟨t, h1, h2⟩ := h
  exact ⟨t, h1, fun p sc Z σ H ρ q Q s hp => h2 p sc Z σ H ρ q Q s (hp.imp fun H' b a r => r.rp (p := p))⟩
def dEmp : DE := fun _ => M.ret (.dict [])
theorem at_emp (ρ : Rho) : dEmp ρ = M.ret (.dict []) := nr rfl
theorem pdg_emp {X : Cx} {W : WX} {pos : Pos} : PDg X W (.Dict [] [] pos) dEmp := ⟨_, pe_dnewK, fun p sc Z σ H ρ q Q s hp a ha => hp (.ref a) _ (new_keep ha) (new_pool ha s.pool) ⟨a, [], [], rfl, rfl, ha, upd_same, rfl, .nil⟩⟩
section
variable {K : PySem.W.Frag} {p sc : Addr} {Z0 Z Z' : Rg} {H0 H H1 : Hp} {σ : L2.St} {ρ : Rho} {q q1 : Pool}
theorem BR.mkDic (b : BR K p sc Z0 H0 Z σ H ρ q) {i : Nat} {a : Addr} {ks : List (Key × V)} {ds : List (D × D)} (ha : H a = some (.dK ks)) (nz : ¬ Z a) (h0 : H0 a = none) (kk : ds.map (fun q => q.1) = ks.map (fun q => keyD q.1)) (rs : RpL K Z H (ks.map fun q => q.2) (ds.map fun q => q.2))
    (no : ∀ (j : Nat) s, ρ[j]? = some (some s) → s.mine = true → σ[j]? ≠ some (some (V.ref a))) : BR K p sc Z0 H0 Z (σ.set i (some (.ref a))) H (ρ.set i (some (.odic ds))) q := by
  refine ⟨b.keep, b.pool0, b.pool, b.nz0, b.nz, b.zs, b.zz, by rw [List.length_set, List.length_set]; exact b.len, fun j s h => ?_, fun j k a' s t jk h1 m1 h2 m2 e1 e2 => ?_⟩
  · by_cases hj : j = i
    · subst hj
      have hlt : j < ρ.length := by
        have z := (List.getElem?_eq_some_iff.mp h).1
        rwa [List.length_set] at z
      rw [List.getElem?_set_self hlt] at h
      cases h
      exact ⟨a, ks, by rw [List.getElem?_set_self (b.len ▸ hlt)], ha, nz, h0, kk, rs⟩
    · rw [List.getElem?_set_ne (Ne.symm hj)] at h
      have z := b.slot j s h
      have e : (σ.set i (some (.ref a)))[j]? = σ[j]? := List.getElem?_set_ne (Ne.symm hj)
      cases s with
      | dat d => obtain ⟨v, h1, h2⟩ := z; exact ⟨v, e.trans h1, h2⟩
      | pool => exact e.trans z
      | own ds => obtain ⟨a, vs, h1, h2⟩ := z; exact ⟨a, vs, e.trans h1, h2⟩
      | odic ds => obtain ⟨a, vs, h1, h2⟩ := z; exact ⟨a, vs, e.trans h1, h2⟩
      | odicT ds => obtain ⟨a, vs, h1, h2⟩ := z; exact ⟨a, vs, e.trans h1, h2⟩
  · have lt : ∀ (j : Nat) (s : Slot), (ρ.set i (some (.odic ds)))[j]? = some (some s) → j < ρ.length := fun j s h => by
      have z := (List.getElem?_eq_some_iff.mp h).1
      rwa [List.length_set] at z
    by_cases n1 : j = i
    · by_cases n2 : k = i
      · exact jk (n1.trans n2.symm)
      · subst n1
        rw [List.getElem?_set_self (b.len ▸ lt j s h1)] at e1
        cases e1
        rw [List.getElem?_set_ne (Ne.symm n2)] at h2 e2
        exact no k t h2 m2 e2
    · by_cases n2 : k = i
      · subst n2
        rw [List.getElem?_set_self (b.len ▸ lt k t h2)] at e2
        cases e2
        rw [List.getElem?_set_ne (Ne.symm n1)] at h1 e1
        exact no j s h1 m1 e1
      · rw [List.getElem?_set_ne (Ne.symm n1)] at h1 e1
        rw [List.getElem?_set_ne (Ne.symm n2)] at h2 e2
        exact b.dist j k a' s t jk h1 m1 h2 m2 e1 e2
theorem BR.chDic (b : BR K p sc Z0 H0 Z σ H ρ q) {i : Nat} {a : Addr} {ks ls : List (Key × V)} {ds es : List (D × D)} (hi : ρ[i]? = some (some (.odic ds))) (hs : σ[i]? = some (some (.ref a))) (ha : H a = some (.dK ks)) (kk : es.map (fun q => q.1) = ls.map (fun q => keyD q.1)) (rs : RpL K Z H (ls.map fun q => q.2) (es.map fun q => q.2)) :
    BR K p sc Z0 H0 Z σ (upd H a (.dK ls)) (ρ.set i (some (.odic es))) q ∧ Stand Z H (upd H a (.dK ls)) := by
  obtain ⟨a', g1, g2, g3, g4, g5, g6⟩ := b.mine hi rfl
  rw [hs] at g1; cases g1
  have st : Stand Z H (upd H a (.dK ls)) := dic_stand ha g2
  refine ⟨⟨fun c o hc e => ?_, b.pool0, ⟨by rw [upd_ne (Ne.symm g5)]; exact b.pool.1, by rw [upd_ne (Ne.symm g6)]; exact b.pool.2.1, b.pool.2.2.1, tabs_upd b.pool.2.2.2 (fun u e => by rw [ha] at e; cases e; exact ⟨nt_k, fun _ z => nomatch z⟩)⟩, b.nz0, b.nz, fun c z n => ?_, b.zz, by rw [List.length_set]; exact b.len, fun j s h => ?_, fun j k a' s t jk h1 m1 h2 m2 e1 e2 => ?_⟩, st⟩
  · rw [upd_ne (ne_of_none e g3)]
    exact b.keep c o hc e
  · rw [upd_ne (fun e => g2 (by rw [← e]; exact z))] at n
    exact b.zs c z n
  · by_cases hj : j = i
    · subst hj
      have hlt : j < ρ.length := (List.getElem?_eq_some_iff.mp hi).1
      rw [List.getElem?_set_self hlt] at h
      cases h
      exact ⟨a, ls, hs, upd_same, g2, g3, kk, rs.stand st⟩
    · rw [List.getElem?_set_ne (Ne.symm hj)] at h
      have z := b.slot j s h
      cases s with
      | dat d => obtain ⟨v, h1, h2⟩ := z; exact ⟨v, h1, h2.stand st⟩
      | pool => exact z
      | own ds' =>
        obtain ⟨c, vs', h1, h2, h3, h4, h5⟩ := z
        have ne : c ≠ a := fun e => by subst e; exact b.dist j i c _ _ hj h rfl hi rfl h1 hs
        exact ⟨c, vs', h1, by rw [upd_ne ne]; exact h2, h3, h4, h5.stand st⟩
      | odic ds' =>
        obtain ⟨c, vs', h1, h2, h3, h4, h5, h6⟩ := z
        have ne : c ≠ a := fun e => by subst e; exact b.dist j i c _ _ hj h rfl hi rfl h1 hs
        exact ⟨c, vs', h1, by rw [upd_ne ne]; exact h2, h3, h4, h5, h6.stand st⟩
      | odicT ds' =>
        obtain ⟨c, vs', h1, h2, h3, h4, h5, h6⟩ := z
        have ne : c ≠ a := fun e => by subst e; exact b.dist j i c _ _ hj h rfl hi rfl h1 hs
        exact ⟨c, vs', h1, by rw [upd_ne ne]; exact h2, h3, h4, h5, h6.stand st⟩
  · have back : ∀ (j : Nat) (s : Slot), (ρ.set i (some (.odic es)))[j]? = some (some s) → s.mine = true → ∃ s', ρ[j]? = some (some s') ∧ s'.mine = true := fun j s h m => by
      by_cases hj : j = i
      · subst hj; exact ⟨_, hi, rfl⟩
      · rw [List.getElem?_set_ne (Ne.symm hj)] at h
        exact ⟨s, h, m⟩
    obtain ⟨s', k1, k2⟩ := back j s h1 m1
    obtain ⟨t', k3, k4⟩ := back k t h2 m2
    exact b.dist j k a' s' t' jk k1 k2 k3 k4 e1 e2
end
def sOwnD (i : Nat) (e : DE) : DS := fun ρ => M.bnd (e (hideR ρ)) fun d => match d with
  | .dict ds => M.ret (.next (ρ.set i (some (.odic ds))))
  | _ => M.stuck
section
variable {X : Cx} {W : WX} {s : Stmt} {e k : Expr} {F E : DE} {pos p1 p2 : Pos}
theorem rds_odic {te : TE} {i : Nat} (h2 : Rd1 X W (NewG X.K) te F) : RdS X.K X.mg W (tAsg te (gName i)) (sOwnD i F) := by
  intro p sc Z0 H0 Z σ H ρ q E b h
  refine h2 p sc _ σ H (hideR ρ) q _ b.sitH (PostS.ex (Rel := fun H' v d => NewG X.K p Z H H' v d) b h fun d q1 v H1 e k pl r hp => ?_)
  obtain ⟨a, ks, ds, rfl, rfl, g1, g2, gk, g3⟩ := r
  have b1 := b.next k pl
  have b2 : BR X.K p sc Z0 H0 (fun c => (Zn Z H c ∧ H1 c ≠ none) ∧ c ≠ a) σ H1 ρ q1 := by
    refine b1.grow (fun c z => ⟨⟨.inl z, b1.zs c z⟩, fun e => by rw [e] at z; exact b.zs a z g1⟩) (fun c z => z.1.2) (fun c z => ?_) (fun z => Zn.nop b.pool b.nz z.1.1) fun j s c hj m e z => ?_
    · rcases z.1.1 with z | z
      · exact b.zz c z
      · exact .inr (none_back b.keep b.pool z)
    · obtain ⟨a', k1, k2, k3, k4, _⟩ := b.mine hj m
      rw [e] at k1; cases k1
      rcases z.1.1 with z | z
      · exact k2 z
      · exact k4 z
  refine hp (fun c => (Zn Z H c ∧ H1 c ≠ none) ∧ c ≠ a) (σ.set i (some (.ref a))) H1 (b2.mkDic g2 (fun z => z.2 rfl) (none_back b.keep b.pool g1) gk (g3.sub fun c z n => ⟨⟨z.1, n⟩, z.2⟩) fun j s hj m e => ?_) (fun c z => ⟨⟨.inl z, b1.zs c z⟩, fun e => by rw [e] at z; exact b.zs a z g1⟩) (Stand.refl _ _)
  obtain ⟨a', k1, k2, k3, k4, _⟩ := b.mine hj m
  rw [e] at k1; cases k1
  exact k4 g1
theorem sd_ownD {i : Nat} {x : Str} {pos' : Pos} (hN : X.N.Nodup) (he : PDg X W e F) (hi : X.N[i]? = some x := by rfl) (hx : Loc X.env.scope x := by first | exact Or.inl rfl | exact Or.inr rfl) (hs : swapsWith e (some (.Name x pos')) pos.line X.env = pure false := by rfl)
    (hf : X.fn x = true ∨ X.env.scope.names.lookup x = some .local := by first | exact .inl rfl | exact .inr rfl | assumption) : PSd X W (.Assign [.Name x pos'] e pos) (sOwnD i F) := by
  obtain ⟨t, h1, h2⟩ := he
  exact ⟨_, ps_set hN hi hx h1 hs hf, rds_odic h2⟩
end
section
variable {X : Cx} {W : WX} {s : Stmt} {e k : Expr} {F E : DE} {pos p1 p2 : Pos}
end
section
variable {K : PySem.W.Frag} {mg : Str → Option Value} {p sc : Addr} {Z0 Z : Rg} {H0 H : Hp} {σ : L2.St} {ρ : Rho} {q : Pool} {W : WX}
end
section
variable {X : Cx} {W : WX} {st : Stmt} {A : DS}
end
def tupKd : List (D × D) → Bool
  | (.tuple _, _) :: _ => true
  | _ => false
def intKd : List (D × D) → Bool
  | [] => false
  | (.tuple _, _) :: _ => false
  | _ :: _ => true
theorem tupKd_K {kvs : List (Key × V)} : ∀ {ds : List (D × D)}, ds.map (fun q => q.1) = kvs.map (fun q => keyD q.1) → tupKd ds = false ∧ (ds ≠ [] → intKd ds = true)
  | [], _ => ⟨rfl, fun h => absurd rfl h⟩
  | (d, v) :: ds, h => by
    cases kvs with
    | nil => cases h
    | cons kv kvs =>
      rw [List.map_cons, List.map_cons, List.cons.injEq] at h
      have e : d = keyD kv.1 := h.1
      subst e
      cases kv.1 <;> exact ⟨rfl, fun _ => rfl⟩
theorem tupKd_T {kvs : List (List Key × V)} : ∀ {ds : List (D × D)}, ds.map (fun q => q.1) = kvs.map (fun q => keyT q.1) → intKd ds = false ∧ (ds ≠ [] → tupKd ds = true)
  | [], _ => ⟨rfl, fun h => absurd rfl h⟩
  | (d, v) :: ds, h => by
    cases kvs with
    | nil => cases h
    | cons kv kvs =>
      rw [List.map_cons, List.map_cons, List.cons.injEq] at h
      have e : d = keyT kv.1 := h.1
      subst e
      exact ⟨rfl, fun _ => rfl⟩
theorem find_atN {K : PySem.W.Frag} {Z : Rg} {H : Hp} (k : Key) : ∀ (kvs : List (Key × V)) (ds : List (D × D)), ds.map (fun q => q.1) = kvs.map (fun q => keyD q.1) →
    (match k with | .inl i => findI i ds | .inr x => findS x ds) = none → valV kvs k = none
  | [], [], _, _ => rfl
  | [], _ :: _, h, _ => nomatch h
  | _ :: _, [], h, _ => nomatch h
  | m :: kvs, n :: ds, h, f => by
    rw [List.map_cons, List.map_cons, List.cons.injEq] at h
    obtain ⟨n1, n2⟩ := n
    obtain ⟨m1, m2⟩ := m
    have hn : n1 = keyD m1 := h.1
    subst hn
    cases k with
    | inl i =>
      cases m1 with
      | inl j =>
        have f' : (if j = i then some n2 else findI i ds) = none := f
        by_cases hj : j = i
        · rw [if_pos hj] at f'; cases f'
        · rw [if_neg hj] at f'
          rw [valV_neg (fun z => hj (Sum.inl.inj z))]
          exact find_atN (K := K) (Z := Z) (H := H) (.inl i) kvs ds h.2 f'
      | inr j =>
        rw [valV_neg (by intro z; cases z)]
        exact find_atN (K := K) (Z := Z) (H := H) (.inl i) kvs ds h.2 f
    | inr i =>
      cases m1 with
      | inr j =>
        have f' : (if j = i then some n2 else findS i ds) = none := f
        by_cases hj : j = i
        · rw [if_pos hj] at f'; cases f'
        · rw [if_neg hj] at f'
          rw [valV_neg (fun z => hj (Sum.inr.inj z))]
          exact find_atN (K := K) (Z := Z) (H := H) (.inr i) kvs ds h.2 f'
      | inl j =>
        rw [valV_neg (by intro z; cases z)]
        exact find_atN (K := K) (Z := Z) (H := H) (.inr i) kvs ds h.2 f
section
variable {X : Cx} {W : WX} {o e f : Expr} {A B C : DE} {apos cpos : Pos}
end
def dDis1 (k e : DE) : DE := fun ρ => M.bnd (k ρ) fun y => M.bnd (e ρ) fun v => match y with
  | .int n => M.ret (.dict [(.int n, v)])
  | _ => M.stuck
theorem at_dis1 (k e : DE) (ρ : Rho) : dDis1 k e ρ = M.bnd (k ρ) fun y => M.bnd (e ρ) fun v => (match y with
  | .int n => M.ret (.dict [(.int n, v)])
  | _ => M.stuck) := nr rfl
section
variable {X : Cx} {W : WX} {k e : Expr} {A B : DE} {pos : Pos}
theorem pdg_one (hk : PDe X W k A) (he : PDe X W e B) : PDg X W (.Dict [some k] [e] pos) (dDis1 A B) := by
  obtain ⟨tk, h1, h2⟩ := hk
  obtain ⟨tv, g1, g2⟩ := he
  refine ⟨_, pe_disp (pps_cons h1 g1 pps_nil) rfl rfl (fun z => nomatch z) (by show 1 ≤ 15; decide), fun p sc Z σ H ρ q Q s hp a ha => ?_⟩
  have hap : p ≠ a := ne_of_none s.pool.1 ha
  have hsc : sc ≠ a := ne_of_none s.pool.2.1 ha
  have k0 : Keep p H (upd H a (.dK [])) := new_keep ha
  have s0 : Sit X.K p sc (fun b => Z b ∧ b ≠ a) σ (upd H a (.dK [])) ρ q := by
    have e1 : EnvR X.K p (fun b => Z b ∧ b ≠ a) σ H ρ := s.env.sub fun b z n => ⟨z, fun e => n (e ▸ ha)⟩
    exact ⟨e1.stand (new_stand ha), new_pool ha s.pool, fun z => s.nz z.1, s.len⟩
  refine h2 p sc _ σ _ ρ q _ s0 ?_
  have hp' : Post X.mg p sc H (NewG X.K p Z H) (fun c od H' => W c od σ H') Q (M.bnd (A ρ) (fun y => M.bnd (B ρ) fun v => (match y with
    | .int n => M.ret (PyData.dict [(.int n, v)])
    | _ => M.stuck)) q) := hp
  unfold M.bnd at hp'
  cases eA : A ρ q with
  | ok dy q1 =>
    rw [eA] at hp'
    intro y H1 k1 pl1 r1
    have s1 := s0.next k1 pl1
    refine g2 p sc _ σ H1 ρ q1 _ s1 ?_
    cases eB : B ρ q1 with
    | ok dv q2 =>
      simp only [eB] at hp'
      intro v H2 k2 pl2 r2
      have kk : Keep p (upd H a (.dK [])) H2 := k1.trans k2
      have hH1 : H1 a = some (.dK []) := k1.at a _ hap.symm (by intro _ e; cases e) upd_same
      have hH2 : H2 a = some (.dK []) := kk.at a _ hap.symm (by intro _ e; cases e) upd_same
      cases r1 with
      | int n =>
        refine ⟨hH2, [(.inl n, v)], rfl, by show 1 ≤ 15; decide, ?_⟩
        have em : mergeK [] [((.inl n : Key), v)] = [(.inl n, v)] := rfl
        rw [em]
        have na : ∀ b, Zn (fun b => Z b ∧ b ≠ a) H1 b → b ≠ a := fun b z => by
          rcases z with z | z
          · exact z.2
          · intro e
            rw [e, hH1] at z
            cases z
        have st : Stand (Zn (fun b => Z b ∧ b ≠ a) H1) H2 (upd H2 a (.dK [(.inl n, v)])) := ⟨fun b o z _ h => by rw [upd_ne (na b z)]; exact h, fun b xs h => by rw [upd_ne (fun x => by rw [x, hH2] at h; cases h)]; exact h, fun b o u h => by rw [upd_ne (fun x => by rw [x, hH2] at h; cases h)]; exact h⟩
        refine hp' (.ref a) _ (fun b o nb hb => ?_) ⟨by rw [upd_ne hap]; exact pl2.1, by rw [upd_ne hsc]; exact pl2.2.1, pl2.2.2.1, tabs_upd pl2.2.2.2 (fun u e => by rw [hH2] at e; cases e; exact ⟨nt_k, fun _ z => nomatch z⟩)⟩ ⟨a, [(.inl n, v)], [(.int n, dv)], rfl, rfl, ha, upd_same, rfl, .cons ((r2.stand st).sub fun b z _ => ?_) .nil⟩
        · have hba : b ≠ a := ne_of_none hb ha
          rw [upd_ne hba]
          exact kk b o nb (by rw [upd_ne hba]; exact hb)
        · have hb := na b z
          refine ⟨?_, hb⟩
          rcases z with z | z
          · exact .inl z.1
          · refine .inr ?_
            have z0 := none_back k1 pl1 z
            rwa [upd_ne hb] at z0
      | _ => exact hp'.elim
    | err x q2 =>
      simp only [eB] at hp'
      exact fun c od H' k pl rl => hp' c od H' ((k0.trans k1).trans k) pl rl
    | stuck =>
      simp only [eB] at hp'
      exact hp'.elim
  | err x q1 =>
    rw [eA] at hp'
    exact fun c od H' k pl rl => hp' c od H' (k0.trans k) pl rl
  | stuck =>
    rw [eA] at hp'
    exact hp'.elim
end
end Ew
namespace Ew
open PySem PySem.Spec PyProof.Rows L2
structure FnG (P : Program) (w : World) (K : PySem.W.Frag) (mg : Str → Option Value) (base : Heap) (X0 : CXT) (k : Nat) (f : Addr) (fd : FuncData) (ps : List Str) (sp : Sp) : Prop where
  run : ∀ (A : Around) (fs : List Env) (s : Shared) (H : Hp) (args : Args) (us : List Value) (vs : List V) (Q : VK) (E : XK), A.guards = some [] → Room k A → Env0 P w K mg base A fs s H →
    BindsTo s fd args (ps.zip us) → Vals vs us → sp vs H Q E → codeAny (model P w) A (.call (.ref f) args) (CR X0 fs P w H s Q E) s
section
variable {P : Program} {w : World} {K : PySem.W.Frag} {mg : Str → Option Value} {base : Heap} {X0 : CXT} {k : Nat} {x qual : Str} {f : Addr} {fd : FuncData} {N ps : List Str} {st : Stmt} {sp : Sp}
theorem fnG_of (F : FunD K x qual (defArgs st) (defBody st) (defScope st) [] [] f fd) (S : FnScope N ps (defScope st)) (len : ∀ vs H Q E, sp vs H Q E → vs.length = ps.length)
    (body : ∀ (c : Value) (A : Around) (fs : List Env) (s : Shared) (H : Hp) (vs : List V) (Q : VK) (E : XK), A.guards = some [] → Room k (A.deeper (envOfC qual (defScope st) s.heap.objs.size f c)) → sp vs H Q E →
      ∃ t, PSs (cxOf X0 P w K mg base N qual (defScope st) f c A fs s H E) (defBody st) t ∧ t { nx := fun _ H' => Q .non H', rt := Q } (L2.start N vs) H) : FnG P w K mg base X0 (k + 1) f fd ps sp := by
  obtain ⟨oc, od, dV, kV, doc, pm, an, c, ct, osl, rfl, lk, hcd, _, _⟩ := F.ex
  constructor
  intro A fs s H args us vs Q E hg rm env bnd rel want
  have old : ∀ b o, base.get? b = some o → s.heap.get? b = some o := fun b o e => (env.bs b o e).1
  have kin : K.In s.heap := env.mod.kin.keeps old
  have nolim : s.heap.NoLimit := env.mod.nolimit.keeps old
  have kinds : ∀ y ∈ ps.zip us, (defScope st).names.lookup y.1 = some .local ∨ ((defScope st).names.lookup y.1 = some .cell ∧ ((cellsFrom (s.heap.objs.size + 1) (defScope st).names []).lookup y.1).isSome = true) := by
    rintro ⟨n, v⟩ hy
    cases S.par n (List.of_mem_zip hy).1 with
    | inl q => exact .inl q
    | inr q => exact .inr ⟨q, PySem.W.cellsFrom_some _ _ _ (.inl q)⟩
  refine codeAny_call_function rm.depth (kin _ _ lk) rfl S.co S.gen rfl (PySem.W.codeRec_of kin hcd) (bnd _ _ _ _ ?_)
  refine wpAny_newFunctionEnv_cells S.kind kinds fun en he s1 y => ?_
  cases he
  refine ⟨nolim.keeps y.toInCall.keep, codeAny_func ?_⟩
  obtain ⟨t, ht, hq⟩ := body c A fs s H vs Q E hg (rm.deeper _) want
  have inv : Inv (cxOf X0 P w K mg base N qual (defScope st) f c A fs s H E) [] (L2.start N vs) H s1 := inv_start S rm.hd env (len _ _ _ _ want) rel y
  refine wpAny_mono (ht.run [] s1 (L2.start N vs) H _ inv hq) (fun fl s' z => ?_) fun _ _ z => z
  cases fl with
  | ret u =>
    obtain ⟨v, σ', H', J, rv, q⟩ := z
    exact ⟨v, H', J.os, J.bare, J.base, J.hok, rv, q⟩
  | next =>
    obtain ⟨σ', H', J, q⟩ := z
    exact ⟨V.non, H', J.os, J.bare, J.base, J.hok, rfl, q⟩
  | brk => exact z.choose_spec.choose_spec.2.elim
  | cont => exact z.choose_spec.choose_spec.2.elim
end
theorem law_callG {P : Program} {w : World} {K : PySem.W.Frag} {mg mb : Str → Option Value} {X0 : CXT} {k : Nat} {f a : Addr} {fd : FuncData} {x : Str} {sp : Sp} {s : Shared} {us : List Value} {ns : List Int}
    (kin : K.In s.heap) (gns : s.heap.Ns mainGlobals mg) (bns : s.heap.Ns builtinsNs mb) (bb : ∀ x : Str, x ≠ "__name__" → mb x = bootBuiltins x) (nolim : s.heap.NoLimit) (gens : s.gens = #[])
    (scr : s.heap.get? a = some { cls := .type "list", data := .seq us.toArray }) (hints : IntsAre us ns) (few : ns.length ≤ sizeLine) (rm : Room k callerA)
    (F : ∀ base : Heap, K.In base → base.Ns mainGlobals mg → FnG P w K mg base X0 k f fd [x] sp) (bnd : ∀ (s : Shared) (u : Value), BindsTo s fd ⟨[u], []⟩ [(x, u)])
    (want : ∀ H : Hp, Only H → SqL K H a (ns.map V.int) → sp [.ref a] H (fun v _ => v = .bl true) fun _ _ _ => False)
    (noE : ∀ H e s', X0 [] H s (fun _ _ _ => False) e s' → False) :
    codeAny (model P w) callerA (.call (.ref f) ⟨[.ref a], []⟩) (fun r s' => r = .ok (.ret (.bool true)) ∧ OldK s.heap s'.heap ∧ s'.os = s.os ∧ AllBare s'.gens) s := by
  have rel := vals_ints hints
  have main : ∀ H : Hp, Only H → SqL K H a (ns.map V.int) → HOk P w H s.heap → (∀ b, H b ≠ none → b = a) → (H a ≠ none → K.lookup a = none) →
      codeAny (model P w) callerA (.call (.ref f) ⟨[.ref a], []⟩) (fun r s' => r = .ok (.ret (.bool true)) ∧ OldK s.heap s'.heap ∧ s'.os = s.os ∧ AllBare s'.gens) s := by
    intro H only sq hok one known
    have hid : ∀ {b : Addr} {o : Obj}, s.heap.get? b = some o → H b = none → (hidT s.heap H).get? b = some o := fun e n => hidT_get e n
    have free : ∀ {b : Addr} {o : Obj}, s.heap.get? b = some o → (b = a → False) → H b = none := fun {b o} _ n => by
      cases q : H b with
      | none => rfl
      | some u => exact (n (one b (by rw [q]; simp))).elim
    have dicts : ∀ {b : Addr} {o : Obj} {es : Array DictEntry} {ep : Nat}, s.heap.get? b = some o → o.data = .dict es ep → H b = none := fun {b o es ep} e d => free e fun z => by
      rw [z, scr] at e
      cases e
      cases d
    have nss : ∀ {b : Addr} {m : Str → Option Value}, s.heap.Ns b m → (hidT s.heap H).Ns b m := by
      rintro b m ⟨o, es, ep, e, d, r⟩
      exact ⟨o, es, ep, hid e (dicts e d), d, r⟩
    have kinb : K.In (hidT s.heap H) := fun b o e => by
      refine hid (kin b o e) ?_
      cases q : H b with
      | none => rfl
      | some u =>
        have z : b = a := one b (by rw [q]; simp)
        rw [z] at e q
        rw [known (by rw [q]; simp)] at e
        cases e
    obtain ⟨ml, l1, l2⟩ := nolim
    have modl : Mod K mg (hidT s.heap H) := ⟨kinb, nss gns, ⟨mb, nss bns, bb⟩, ml, nss l1, l2⟩
    have env : Env0 P w K mg (hidT s.heap H) callerA [] s H := ⟨rfl, modl, fun b o e => of_hidT e, Nat.le_of_eq (hidT_size _ _), trivial, fun b hb => (nomatch hb), hok, .of_eq gens⟩
    have go := (F _ kinb (nss gns)).run callerA [] s H ⟨[.ref a], []⟩ [.ref a] [.ref a] _ _ rfl rm env (bnd s (.ref a)) (.cons rfl .nil) (want H only sq)
    refine codeAny_mono go fun r s' z => ?_
    cases r with
    | error e => exact (noE H e s' z).elim
    | ok fl =>
      cases fl with
      | ret u =>
        obtain ⟨v, H', os, bare, un, hok', r', q⟩ := z
        have q' : v = .bl true := q
        subst q'
        obtain rfl : u = Value.bool true := r'
        refine ⟨rfl, OldK.of_keep fun b o e => ?_, os, bare⟩
        cases q : H b with
        | none => exact un.keep b o e q (fun z => (nomatch z)) (fun z => (nomatch z))
        | some u =>
          cases only b with
          | inl z => rw [q] at z; cases z
          | inr z =>
            obtain ⟨ob, xs, z⟩ := z
            obtain ⟨e1, _⟩ := hok b _ z
            obtain ⟨e2, _⟩ := hok' b _ (un.frzs b ob _ z)
            rw [e] at e1
            cases e1
            exact e2
      | next => exact False.elim z
      | brk => exact False.elim z
      | cont => exact False.elim z
  cases hk : K.lookup a with
  | some o =>
    have e := kin a o hk
    rw [scr] at e
    cases e
    exact main (fun _ => none) (fun _ => .inl rfl) (.inr ⟨_, us.toArray, _, hk, rfl, rfl, rfl, by rw [List.size_toArray, hints.length]; exact few, by simpa using rel⟩) (fun b u z => (nomatch z)) (fun b z => absurd rfl z) fun z => absurd rfl z
  | none =>
    let o : Obj := { cls := .type "list", data := .seq us.toArray }
    have at_ : ∀ b, (if b = a then some (HO.frz o (.lst (ns.map V.int))) else none) ≠ none → b = a := fun b z => by
      by_cases hb : b = a
      · exact hb
      · exact absurd (if_neg hb) z
    refine main (fun b => if b = a then some (.frz o (.lst (ns.map V.int))) else none) (fun b => ?_) (.inl (.inr ⟨o, if_pos rfl⟩)) (fun b u z => ?_) at_ fun _ => hk
    · by_cases hb : b = a
      · exact .inr ⟨_, _, if_pos hb⟩
      · exact .inl (if_neg hb)
    · have hb : b = a := at_ b fun n => (by have z2 := n.symm.trans z; cases z2)
      subst hb
      have z' := (if_pos rfl).symm.trans z
      cases z'
      exact ⟨scr, by rw [List.length_map]; exact few, us, _, rel, scr⟩
theorem law_endsG {l : PySem.W.OpenLaw} {n k : Nat} {q : Program} {loose : List Str} {XP : (Str → Option Value) → Heap → Prop} {YP : World → Heap → Prop} {d : DefRec} {x : Str} (most : l.most = some n) (small : n ≤ sizeLine) (plain : d.params.defaults = []) (room : Room k callerA)
    (facts : ∀ (w : World) (mg : Str → Option Value) (fa : Addr) (h : Heap), YP w h → h.Ns mainGlobals mg → mg d.name = some (.ref fa) → ∃ (K : PySem.W.Frag) (fd : FuncData), K.In h ∧ (∀ (s : Shared) (u : Value), BindsTo s fd ⟨[u], []⟩ [(x, u)]) ∧
      ∀ base : Heap, K.In base → base.Ns mainGlobals mg → FnG l.prog w K mg base (L2.CX l.prog w) k fa fd [x] (spLaw K)) (noT : TABS = [] := by rfl) : PySem.W.WalkO q loose XP YP l.row.toRowW d [] (fun f vs => PySem.call f vs) := by
  refine Att.attach_call most plain fun w s₀ s₁ mg mb fa o pm cd doc a vs ns G Y ho hd hcd hmg isf hint len got => ?_
  obtain ⟨K, fd, KX, hb, hF⟩ := facts w mg fa _ Y G.T.g hmg
  refine law_callG KX G.T.g G.T.b G.T.builtins G.T.nolimit got isf hint (Nat.le_trans len small) room hF hb (fun H _ hS => ⟨a, ns, rfl, hS, (fun _ h => absurd (noT ▸ h : _ ∈ ([] : List (Addr × Str))) List.not_mem_nil), fun _ => rfl⟩) fun H e s' z => ?_
  obtain ⟨_, _, _, _, _, _, _, _, _, _, _, _, z⟩ := z
  exact z
mutual
/-- no list within -/
def noLst : D → Bool
  | .none | .bool _ | .int _ | .str _ => true
  | .tuple xs => noLstAll xs
  | .list _ => false
  | .dict kvs => noLstKv kvs
def noLstAll : List D → Bool
  | [] => true
  | x :: xs => noLst x && noLstAll xs
def noLstKv : List (D × D) → Bool
  | [] => true
  | (_, v) :: r => noLst v && noLstKv r
end
theorem noLstKv_vals : ∀ {kvs : List (D × D)}, noLstKv kvs = true → noLstAll (kvs.map fun q => q.2) = true
  | [], _ => by rw [List.map_nil, noLstAll]
  | (k, v) :: r, h => by
    rw [noLstKv, Bool.and_eq_true] at h
    rw [List.map_cons, noLstAll, Bool.and_eq_true]
    exact ⟨h.1, noLstKv_vals h.2⟩
theorem keys_nil {h : Heap} : ∀ {us : List Value} {kvs : List (Key × V)} {as : List Addr}, ReadsAll h us (kvs.map fun q => keyD q.1) as → as = []
  | _, [], _, r => by cases r; rfl
  | _, (k, v) :: kvs, _, r => by
    cases r with
    | cons r1 r2 =>
      rw [keys_nil r2]
      cases k with
      | inl i => cases r1; rfl
      | inr x => cases r1; rfl
theorem keysD_nil {h : Heap} : ∀ {us : List Value} {ks : List Key} {as : List Addr}, ReadsAll h us (ks.map keyD) as → as = []
  | _, [], _, r => by cases r; rfl
  | _, k :: ks, _, r => by
    cases r with
    | cons r1 r2 =>
      rw [keysD_nil r2]
      cases k with
      | inl i => cases r1; rfl
      | inr x => cases r1; rfl
theorem keysT_nil {h : Heap} : ∀ {us : List Value} {kvs : List (List Key × V)} {as : List Addr}, ReadsAll h us (kvs.map fun q => keyT q.1) as → as = []
  | _, [], _, r => by cases r; rfl
  | _, (k, v) :: kvs, _, r => by
    cases r with
    | cons r1 r2 =>
      rw [keysT_nil r2]
      have r1' : Reads h _ (.tuple (k.map keyD)) _ := r1
      cases r1' with
      | tuple h1 h2 h3 h4 => rw [keysD_nil h4]; rfl
section
variable {X : Cx} {W : WX} {pins : List (Addr × Obj)} {σ : L2.St} {H : Hp} {s : Shared} {Z : Rg}
mutual
theorem Rp.readsN (I : Inv X pins σ H s) : ∀ {v : V} {d : D} (u : Value), Rp X.K Z H v d → noLst d = true → RelV v u → ∃ as, Reads s.heap u d as ∧ sysModules ∉ as
  | _, _, u, .non, _, ru => by cases ru; exact ⟨_, .none, List.not_mem_nil⟩
  | _, _, u, .bl b, _, ru => by cases ru; exact ⟨_, .bool b, List.not_mem_nil⟩
  | _, _, u, .int i, _, ru => by obtain ⟨t, rfl⟩ := ru; exact ⟨_, .int i t, List.not_mem_nil⟩
  | _, _, u, .str x, _, ru => by obtain ⟨t, rfl⟩ := ru; exact ⟨_, .str x t, List.not_mem_nil⟩
  | _, _, u, .tup h r, e, ru => by
    cases ru
    obtain ⟨its, rv, ⟨o, ho, hc, n, hd⟩, hz⟩ := I.tuple h.t
    obtain ⟨as, q, hn⟩ := RpL.readsN I its r (by rw [noLst] at e; exact e) rv
    exact ⟨_, .tuple ho hc hd (by simpa using q), hn⟩
  | _, _, u, .lst h z r, e, ru => by rw [noLst] at e; cases e
  | _, _, u, .dic (a := a) (kvs := kvs) (ds := ds) h z e r, e0, ru => by
    cases ru
    obtain ⟨hz, hm, vs, kv, o, es, ep, ho, hx, hd, hk, he, hn⟩ := h.ok I.hok
    obtain ⟨⟨as, q1⟩, q2⟩ := keys_reads (X := X) (h := s.heap) kv he
    obtain ⟨bs, q3, hn3⟩ := RpL.readsN I _ r (by rw [noLst] at e0; exact noLstKv_vals e0) q2
    have ha := keys_nil q1
    subst ha
    refine ⟨_, .dict ho hx.1 hd (by rw [show ds.map (·.1) = ds.map (fun q => q.1) from rfl, e]; exact q1) q3, fun c => ?_⟩
    have c : sysModules ∈ a :: bs := by simpa using c
    rcases List.mem_cons.mp c with c | c
    · rw [← c, beq_self_eq_true] at hm; cases hm
    · exact hn3 c
  | _, _, u, .dit (a := a) (kvs := kvs) (ds := ds) h z e r, e0, ru => by
    cases ru
    obtain ⟨hz, hm, xs, kt, o, es, ep, ho, hx, hd, he, hn⟩ := h.ok I.hok
    obtain ⟨⟨as, q1⟩, q2⟩ := keysT_reads I kt
    obtain ⟨bs, q3, hn3⟩ := RpL.readsN I _ r (by rw [noLst] at e0; exact noLstKv_vals e0) q2
    have ha := keysT_nil q1
    subst ha
    refine ⟨_, .dict ho hx.1 hd (by rw [he, show ds.map (·.1) = ds.map (fun q => q.1) from rfl, e]; exact q1) (by rw [he]; exact q3), fun c => ?_⟩
    have c : sysModules ∈ a :: bs := by simpa using c
    rcases List.mem_cons.mp c with c | c
    · rw [← c, beq_self_eq_true] at hm; cases hm
    · exact hn3 c
theorem RpL.readsN (I : Inv X pins σ H s) : ∀ {vs : List V} {ds : List D} (us : List Value), RpL X.K Z H vs ds → noLstAll ds = true → Vals vs us → ∃ as, ReadsAll s.heap us ds as ∧ sysModules ∉ as
  | _, _, us, .nil, _, ru => by cases ru; exact ⟨_, .nil, List.not_mem_nil⟩
  | _, _, us, .cons h r, e, ru => by
    rw [noLstAll, Bool.and_eq_true] at e
    cases ru with
    | cons r1 r2 =>
      obtain ⟨as, q1, n1⟩ := Rp.readsN I _ h e.1 r1
      obtain ⟨bs, q2, n2⟩ := RpL.readsN I _ r e.2 r2
      exact ⟨_, .cons q1 q2, fun c => (List.mem_append.mp c).elim n1 n2⟩
end
def reprOk (d : D) : Bool := d.showable && decide (d.depth ≤ 98) && decide (d.shown.length ≤ sizeLine) && (!d.hasDict || noLst d)
def bRepr (x : D) : M D := if reprOk x = true then M.ret (.str x.shown) else M.stuck
def rRepr (K : PySem.W.Frag) : List V → Hp → VK → Prop := fun xs H Q => ∃ (Z : Rg) (v : V) (d : D), xs = [v] ∧ Rp K Z H v d ∧ reprOk d = true ∧ Q (.str d.shown) H
theorem cr_repr (hu : X.A.units + deep < cLine) (hgd : X.A.guards = some []) : CallR X (.builtin "repr") (rRepr X.K) := by
  intro pins s σ H xs us Q I r h
  obtain ⟨Z, v, d, rfl, rp, ok, q⟩ := h
  obtain ⟨u, rfl, ru⟩ := vals1 r
  unfold reprOk at ok
  rw [Bool.and_eq_true, Bool.and_eq_true, Bool.and_eq_true, decide_eq_true_eq, decide_eq_true_eq] at ok
  obtain ⟨⟨⟨o1, o2⟩, o3⟩, o4⟩ := ok
  have hu' : X.A.units + (d.depth + 1) < cLine := by unfold deep at hu; omega
  have obj : (∃ a, u = .ref a) → wpAny (model X.prog X.w) X.A (call (.builtin "repr") [u]) (EP X pins σ Q) X.xe s := fun ⟨a, e⟩ => by
    subst e
    obtain ⟨as, rd, hs⟩ : ∃ as, Reads s.heap (.ref a) d as ∧ (d.hasDict = true → sysModules ∉ as) := by
      cases hd : d.hasDict with
      | false =>
        obtain ⟨as, rd⟩ := rp.reads I _ ru
        exact ⟨as, rd, fun z => nomatch z⟩
      | true =>
        rw [hd] at o4
        obtain ⟨as, rd, hn⟩ := rp.readsN I _ (by simpa using o4) ru
        exact ⟨as, rd, fun _ => hn⟩
    exact repr_of_reads' rd o1 hs hgd hu' (fun _ _ e => e) (fun h' t tk hk => ⟨.str d.shown, H, I.kept hk, ⟨_, rfl⟩, q⟩) o3
  cases rp with
  | non => cases ru; exact PySem.P.repr_of_none ⟨.str _, H, I.tok _, ⟨_, rfl⟩, q⟩
  | bl b => cases ru; exact PySem.P.repr_of_bool ⟨.str _, H, I.tok _, ⟨_, rfl⟩, q⟩
  | int i => obtain ⟨t, rfl⟩ := ru; exact PySem.P.repr_of_int (by rw [PyData.showable, decide_eq_true_eq] at o1; exact o1) ⟨.str _, H, I.tok _, ⟨_, rfl⟩, q⟩
  | str x => obtain ⟨t, rfl⟩ := ru; exact PySem.P.repr_of_str ⟨.str _, H, I.tok _, ⟨_, rfl⟩, q⟩ o3
  | tup _ _ => cases ru; exact obj ⟨_, rfl⟩
  | lst _ _ _ => cases ru; exact obj ⟨_, rfl⟩
  | dic _ _ _ _ => cases ru; exact obj ⟨_, rfl⟩
  | dit _ _ _ _ => cases ru; exact obj ⟨_, rfl⟩
theorem boot_reprE : bootBuiltins ("repr" : Str) = some (.builtin "repr") := by decide +kernel
theorem pd_repr {a : Expr} {A : DE} {pos pos' : Pos} (hu : X.A.units + deep < cLine) (hgd : X.A.guards = some []) (hg : Gl X "repr") (hm : X.mg "repr" = none) (ha : PDe X W a A) (he : starEach [a] X.env = (false, eval a X.env) :: starEach [] X.env := by rfl) (hpl : (backTo pos (starEach [] X.env)).any (·.1) = false := by rfl) :
    PDe X W (.Call (.Name "repr" pos') [a] [] pos) (dUn bRepr A) := by
  refine pd_b1 (cr_repr hu hgd) (fun p sc Z σ H q x dx Q pl nz hx hp => ?_) hg hm boot_reprE ha (by decide) (by decide) he hpl
  unfold bRepr at hp
  by_cases hc : reprOk dx = true
  · rw [if_pos hc] at hp
    exact ⟨Z, x, dx, rfl, hx, hc, hp _ H (Keep.refl _ _) pl (.str _)⟩
  · rw [if_neg hc] at hp
    exact hp.elim
end
end Ew
namespace Ew
open PySem PySem.Spec PyProof.Rows L2
section
variable {X : Cx} {W : WX} {F : DE} {pos : Pos}
end
def oLtD (x y : D) : M D := match x, y with
  | .int i, .int j => M.ret (.bool (decide (i < j)))
  | .tuple xs, .tuple ys => if PySem.W.alike (.tuple xs) (.tuple ys) = true ∧ (PyData.tuple xs).depth < deep then M.ret (.bool (PySem.W.dataLt (.tuple xs) (.tuple ys))) else M.stuck
  | _, _ => M.stuck
section
variable {X : Cx} {W : WX}
def rLtD (K : PySem.W.Frag) : R2 := fun x y H Q => ∃ (Z : Rg) (dx dy : D), Rp K Z H x dx ∧ Rp K Z H y dy ∧ PySem.W.alike dx dy = true ∧ dx ≠ .none ∧ dx.depth < deep ∧ Q (.bl (PySem.W.dataLt dx dy)) H
theorem op_ltD (hu : X.A.units + deep < cLine) : OpR X (compareOp .Lt) (rLtD X.K) := by
  intro pins s σ H x y v u Q I rx ry h
  obtain ⟨Z, dx, dy, r1, r2, ha, hn, hd, q⟩ := h
  obtain ⟨as, q1⟩ := r1.reads I _ rx
  obtain ⟨bs, q2⟩ := r2.reads I _ ry
  exact PySem.W.lt_data q1 q2 ha hn (by have := Nat.min_le_left dx.depth dy.depth; omega) ⟨.bl _, H, I, rfl, q⟩
theorem opd_ltD (hu : X.A.units + deep < cLine) : OpD X W (compareOp .Lt) oLtD := by
  refine ⟨_, OpR.or op_lt (op_ltD hu), fun p sc Z σ H q x y dx dy Q pl nz hx hy hp => ?_⟩
  unfold oLtD at hp
  cases dx with
  | int i =>
    cases dy with
    | int j =>
      cases hx
      cases hy
      exact .inl ⟨i, j, rfl, rfl, hp _ H (Keep.refl _ _) pl (.bl _)⟩
    | _ => exact hp.elim
  | tuple xs =>
    cases dy with
    | tuple ys =>
      dsimp only at hp
      by_cases hc : PySem.W.alike (.tuple xs) (.tuple ys) = true ∧ (PyData.tuple xs).depth < deep
      · rw [if_pos hc] at hp
        exact .inr ⟨Z, _, _, hx, hy, hc.1, (fun e => nomatch e), hc.2, hp _ H (Keep.refl _ _) pl (.bl _)⟩
      · rw [if_neg hc] at hp; exact hp.elim
    | _ => exact hp.elim
  | _ => exact hp.elim
end
end Ew
namespace Ew
open PySem PySem.Spec PyProof.Rows L2
structure Ld (K : PySem.W.Frag) (p sc L : Addr) (Zd : Rg) (H1 Hc : Hp) (q : Pool) (ac : List D) : Prop where
  keep : Keep p H1 Hc
  pool : PoolAt p sc Hc q
  lst : ∃ vs, Hc L = some (.lst vs) ∧ RpL K Zd Hc vs ac
theorem Ld.same {K : PySem.W.Frag} {p sc L : Addr} {Zd : Rg} {H1 Hc Hd : Hp} {q : Pool} {ac : List D} (a : Ld K p sc L Zd H1 Hc q ac) (nz : ¬ Zd p) (sm : Same Hc Hd) : Ld K p sc L Zd H1 Hd q ac := by
  have k : Keep p Hc Hd := Keep.of fun b o _ h => sm b o h
  obtain ⟨vs, e, r⟩ := a.lst
  exact ⟨a.keep.trans k, ⟨sm _ _ a.pool.1, sm _ _ a.pool.2.1, a.pool.2.2.1, a.pool.2.2.2.ext sm⟩, vs, sm _ _ e, r.stand (k.stand a.pool nz)⟩
theorem Ld.next {K : PySem.W.Frag} {p sc L : Addr} {Zd : Rg} {H1 Hc Hd : Hp} {q q' : Pool} {ac : List D} (a : Ld K p sc L Zd H1 Hc q ac) (nz : ¬ Zd p) (hp : L ≠ p) (k : Keep p Hc Hd) (pl : PoolAt p sc Hd q') : Ld K p sc L Zd H1 Hd q' ac := by
  obtain ⟨vs, e, r⟩ := a.lst
  exact ⟨a.keep.trans k, pl, vs, k.at _ _ hp nt_l e, r.stand (k.stand a.pool nz)⟩
section
variable {X : Cx} {e elt tg iter : Expr} {pos : Pos}
theorem PId.run {W : WX} {tg iter : Expr} {it : DI} (h : PId X W tg iter it) : PI X tg iter (tF X.K X.mg W (WaF X.K) it) := by
  obtain ⟨t, h1, h2⟩ := h
  exact ⟨fun pins s σ H Q I x => h1.run pins s σ H Q I (h2.tF x)⟩
end
section
variable {X : Cx} {W : WX} {a : Expr} {A : DE} {pos pos' pos2 p1 : Pos}
def rSetT (X : Cx) : List V → Hp → VK → Prop := fun vs H Q => ∃ (p : Addr) (ns : List Int), vs = [.ref p] ∧ SqT X.K H p (ns.map V.int) ∧ ns.length ≤ 1000 ∧ ∀ a c, H a = none → c ≤ ns.length → Q (.ref a) (upd H a (SetO X.w a (fun j => decide (j ∈ ns)) c))
theorem cr_setT (hc : X.calm = true) : CallR X (.type "set") (rSetT X) := by
  intro pins s σ H xs us Q I r h
  obtain ⟨p, ns, rfl, hq, hl, q⟩ := h
  rw [Vals.ref1 r]
  obtain ⟨its, rv, pt, hz⟩ := I.tuple hq
  have hi : IntsAre its.toArray.toList ns := ints_of_vals rv
  refine call_set_tupI ns (I.ok.hd hc) (show s.heap.IsTuple p its.toArray from pt) hi (by unfold scanBound; omega) fun h' tk c R1 hcn k => ?_
  have hn : H s.heap.objs.size = none := I.hok.fresh (Nat.le_refl _)
  have J : Inv X pins σ (upd H s.heap.objs.size (SetO X.w s.heap.objs.size (fun j => decide (j ∈ ns)) c)) { s with heap := h', gens := s.gens, drawn := s.drawn, toks := tk } :=
    I.call (ch := []) (Un.laid k (Nat.le_refl _) hn) (I.hok.laid k (Nat.le_refl _) (setO_new R1)) I.bare (fun _ z => nomatch z)
  exact ⟨.ref _, _, J, rfl, q _ c hn hcn⟩
def bSortedSetT (d : D) : M D := match d with
  | .tuple ds => match ints? ds with
    | some ns => if ds.length < 64 then M.ret (.list ((sortU ns).map PyData.int)) else M.stuck
    | none => M.stuck
  | _ => M.stuck
theorem pdf_sortedsetT (hc : X.calm = true) (hg : Gl X "sorted") (hm : X.mg "sorted" = none) (hg2 : Gl X "set") (hm2 : X.mg "set" = none) (ha : PDe X W a A)
    (he : starEach [.Call (.Name "set" pos2) [a] [] p1] X.env = (false, eval (.Call (.Name "set" pos2) [a] [] p1) X.env) :: starEach [] X.env := by rfl) (he2 : starEach [a] X.env = (false, eval a X.env) :: starEach [] X.env := by rfl)
    (hpl : (backTo pos (starEach [] X.env)).any (·.1) = false := by rfl) (hpl2 : (backTo p1 (starEach [] X.env)).any (·.1) = false := by rfl) :
    PDf X W (.Call (.Name "sorted" pos') [.Call (.Name "set" pos2) [a] [] p1] [] pos) (dUn bSortedSetT A) := by
  obtain ⟨t, h1, h2⟩ := ha
  refine ⟨_, pe_callB (cr_sortedSet hc) hg hm boot_sortedE (pa_cons (pe_callTy (cr_setT hc) hg2 hm2 boot_setE (pa_cons h1 pa_nil he2) (by decide) (by decide) he2 hpl2) pa_nil he) (by decide) (by decide) he hpl, ?_⟩
  refine rd_1 (X := X) (W := W) (r := fun x H Q => rSetT X [x] H fun y H1 => rSortedSet X.w [y] H1 Q) sh_new (fun p sc Z σ H q x dx Q pl nz hx hp => ?_) h2
  unfold bSortedSetT at hp
  cases hx with
  | tup ha ra =>
    rename_i a xs ds
    dsimp only at hp
    cases e : ints? ds with
    | none => rw [e] at hp; exact hp.elim
    | some ns =>
      rw [e] at hp
      dsimp only at hp
      by_cases hl : ds.length < 64
      · rw [if_pos hl] at hp
        obtain ⟨rfl, rfl⟩ := ints_rp ra e
        rw [List.length_map] at hl
        refine ⟨a, ns, rfl, ha, by omega, fun b c hb hcn => ⟨b, _, c, rfl, upd_same, by omega, fun ms p2 asc mem len hp2 => ?_⟩⟩
        have em : ms = sortU ns := asc_uniq _ _ asc (sortU_asc ns) fun k => by rw [mem k, sortU_mem, decide_eq_true_eq]
        subst em
        have hp2' : H p2 = none := by
          by_cases hpb : p2 = b
          · rw [hpb]; exact hb
          · rw [upd_ne hpb] at hp2; exact hp2
        have k1 : Keep p H (upd H b (SetO X.w b (fun j => decide (j ∈ ns)) c)) := new_keep hb
        have pl1 := new_pool (o := SetO X.w b (fun j => decide (j ∈ ns)) c) hb pl
        exact hp _ _ (k1.trans (new_keep hp2)) (new_pool hp2 pl1) ⟨p2, _, _, rfl, rfl, hp2', upd_same, rp_ints _⟩
      · rw [if_neg hl] at hp; exact hp.elim
  | _ => exact hp.elim
end
section
variable {X : Cx} {W : WX}
end
section
variable {X : Cx} {W : WX} {a : Expr} {A : DE} {pos pos' : Pos}
end
end Ew
namespace Ew
open PySem PySem.Spec PyProof.Rows L2 RT
theorem nolen_rt : typeLookup (.type "reversed") "__len__" = pure none := by rw [typeLookup_type, builtinLookup_eq_fast]; kernel_rfl
theorem hint_rt : typeLookup (.type "reversed") "__length_hint__" = pure (some (.builtin "reversed.__length_hint__")) := by rw [typeLookup_type, builtinLookup_eq_fast]; kernel_rfl
theorem slot_rt_hint : PySem.Slot "reversed" "__length_hint__" "reversed.__length_hint__" :=
  .of (owner := "reversed") (n := "__length_hint__") (by rw [typeLookup_type, builtinLookup_eq_fast]; kernel_rfl) (by decide +kernel) (by decide +kernel) (by decide +kernel)
    (by first | exact .inl (by decide +kernel) | exact .inr (by decide +kernel)) (by rw [isSubtype_type]; kernel_rfl)
theorem entry_rt_hint : entryFor table "reversed.__length_hint__" = some Builtin.«reversed.__length_hint__» := entryFor_of_tree (by kernel_rfl)
theorem args_rt_hint (a : Value) : argsOk "reversed.__length_hint__" ⟨[a], []⟩ := by
  unfold argsOk; rw [signature?_of (id := "reversed.__length_hint__") (n := ['_', '_', 't', 'n', 'i', 'h', '_', 'h', 't', 'g', 'n', 'e', 'l', '_', '_']) (o := ['d', 'e', 's', 'r', 'e', 'v', 'e', 'r']) (by kernel_rfl) owner_rt]; kernel_rfl
theorem type_rt_hint : typeOf (.builtin "reversed.__length_hint__") = pure (.type "method_descriptor") := by show builtinType _ = _; rw [builtinType_eq_fast]; kernel_rfl
theorem bind_rt_hint (self : Value) : bindSpecial (.builtin "reversed.__length_hint__") self = pure (.builtin "reversed.__length_hint__", [self]) := by
  unfold bindSpecial
  rw [type_rt_hint]
  rfl
theorem walks_rt {prog : Program} {w : World} {A : Around} (hh : A.handled = none) (I ax : Addr) (hne : ax ≠ I) (items : Array Value) (hsz : items.size ≤ sizeLine) :
    Walks prog w A I [I, ax] [I] items.size (fun i v => items[items.size - 1 - i]? = some v) (fun i h => IsRt h I ax ((items.size : Int) - 1 - (i : Nat)) ∧ IsTup h ax items) where
  sub := fun b hb => by simp at hb; simp [hb]
  frame := fun _ _ _ st hk => ⟨st.1.at fun o e => hk I (by simp) o e, by
    obtain ⟨o, ho, r⟩ := st.2
    exact ⟨o, hk ax (by simp) o ho, r⟩⟩
  item := fun i s Q E hi st hQ => by
    have e1 : (items.size : Int) - 1 - ((i : Nat) : Int) = ((items.size - 1 - i : Nat) : Int) := by omega
    have hit := st.1
    rw [e1] at hit
    have hx : items[items.size - 1 - i]? = some (items[items.size - 1 - i]'(by omega)) := Array.getElem?_eq_getElem (by omega)
    refine next_rt_item hit st.2 hx hsz fun h' hit' hs' => ?_
    have e2 : ((items.size - 1 - i : Nat) : Int) - 1 = (items.size : Int) - 1 - ((i + 1 : Nat) : Int) := by omega
    rw [e2] at hit'
    exact hQ _ h' _ hx ⟨hit', by
      obtain ⟨o, ho, r⟩ := st.2
      exact ⟨o, hs'.extBut ax o hne ho, r⟩⟩ fun b o hb e => hs'.extBut b o (fun h => hb (by simp [h])) e
  done := fun s Q E st hQ => by
    have e1 : (items.size : Int) - 1 - ((items.size : Nat) : Int) = -1 := by omega
    have hit := st.1
    rw [e1] at hit
    exact next_rt_end hh hit fun h' he' => hQ h' s.toks fun b o hb e => he' b o (fun h => hb (by simp [h])) e
  self := fun _ _ _ _ st hQ => iter_rt st.1 hQ
section
variable {prog : Program} {w : World} {A : Around} {E : Value → Shared → Prop} {s : Shared}
theorem call_hint {it l : Addr} {items : Array Value} {Q : Value → Shared → Prop} (hit : IsRt s.heap it l ((items.size : Int) - 1)) (hl : IsTup s.heap l items) (hn : items.size ≤ sizeLine)
    (hQ : ∀ tk t', Q (.int items.size t') { s with toks := tk }) : wpAny (model prog w) A (call (.builtin "reversed.__length_hint__") [.ref it]) Q E s := by
  obtain ⟨o, ho, hc, hd⟩ := id hit
  have h63 := line63
  refine wpAny_call_entry slot_rt_hint hit.typeIs entry_rt_hint ?_ (args_rt_hint _)
  unfold Builtin.«reversed.__length_hint__»
  refine wpAny_bind (wpAny_of_eq (a := Value.ref it) rfl ?_)
  refine wpAny_bind (wpAny_field ho hd (x := .ref l) rfl ?_)
  rw [if_neg (by rw [show (Value.ref l == Value.none) = false from rfl]; decide)]
  try dsimp only
  refine wpAny_bind (len_tuple hl (by omega) ?_)
  refine wpAny_bind (wpAny_of_eq (a := some ((items.size : Nat) : Int)) rfl ?_)
  try dsimp only
  refine wpAny_bind (wpAny_field (s := { s with toks := s.toks + 1 + 1 }) ho hd (x := rawInt ((items.size : Int) - 1)) rfl ?_)
  show wpAny _ _ (if ((items.size : Nat) : Int) < (items.size : Int) - 1 + 1 then _ else _) _ _ _
  rw [if_neg (by omega)]
  unfold retInt
  refine wpAny_bind (wpAny_mkInt ?_)
  refine wpAny_pure ⟨_, rfl, ?_⟩
  rw [show (items.size : Int) - 1 + 1 = items.size by omega]
  exact hQ _ _
theorem collect_rt {it l : Addr} {items : Array Value} {Q : List Value → Shared → Prop} (hh : A.handled = none) (hit : IsRt s.heap it l ((items.size : Int) - 1)) (hl : IsTup s.heap l items) (hne : l ≠ it) (hn : items.size ≤ sizeLine) (hpos : 0 < items.size)
    (hQ : ∀ (h' : Heap) (tk : Nat) (acc : Array Value), (∀ b o, b ≠ it → s.heap.get? b = some o → h'.get? b = some o) → ItemsOf (fun i v => items[items.size - 1 - i]? = some v) acc items.size → Q acc.toList { s with heap := h', toks := tk }) :
    wpAny (model prog w) A (collect (.ref it)) Q E s := by
  have W := (walks_rt (prog := prog) (w := w) (A := A.in1) hh it l hne items hn).toS
  obtain ⟨oi, hoi, _⟩ := id hit
  obtain ⟨ol, hol, _⟩ := id hl
  have hSi : s.heap.objs.size ≠ it := Nat.ne_of_gt (Heap.lt_size hoi)
  have hSl : s.heap.objs.size ≠ l := Nat.ne_of_gt (Heap.lt_size hol)
  have hSf : s.heap.objs.size ∉ [it, l] := by simp only [List.mem_cons, List.not_mem_nil, or_false, not_or]; exact ⟨hSi, hSl⟩
  unfold collect
  refine wpAny_bind (wpAny_runValue (codeAny_builtin F.entry_proto_collect ?_))
  rw [Around.under_plainId F.plain_proto_collect _]
  show wpAny _ A.in1 (newList [] >>= fun l' => again (.builtin "list.__iadd__" ⟨[l', .ref it], []⟩)) _ _ s
  refine wpAny_bind (wpAny_newObj_type ?_)
  refine wpAny_pure ⟨plainId_quiet F.plain_list_iadd _, codeAny_builtin F.entry_list_iadd ?_⟩
  rw [Around.under_plainId F.plain_list_iadd _]
  have hS₁ : (s.heap.push { cls := .type "list", data := .seq ([] : List Value).toArray }).get? s.heap.objs.size = some { cls := .type "list", data := .seq ([] : List Value).toArray } := Heap.get?_push_size _ rfl
  have hit1 : IsRt (s.heap.push { cls := .type "list", data := .seq ([] : List Value).toArray }) it l ((items.size : Int) - 1) := hit.at fun o e => Heap.get?_push_of_some _ e
  have hl1 : IsTup (s.heap.push { cls := .type "list", data := .seq ([] : List Value).toArray }) l items := by
    obtain ⟨o, ho, r⟩ := hl
    exact ⟨o, Heap.get?_push_of_some _ ho, r⟩
  have hT : ({ s with heap := s.heap.push { cls := .type "list", data := .seq ([] : List Value).toArray } } : Shared).TypeIs (.ref it) "reversed" := IsRt.typeIs (s := { s with heap := s.heap.push { cls := .type "list", data := .seq ([] : List Value).toArray } }) hit1
  have h1 : Builtin.List.listSameRef (.ref s.heap.objs.size) (.ref it) = false := by simp [Builtin.List.listSameRef, hSi]
  show wpAny _ A.in1 (Builtin.List.listExtendWith (.ref s.heap.objs.size) (.ref it) (.ref s.heap.objs.size)) _ _ _
  unfold Builtin.List.listExtendWith
  refine wpAny_bind (wpAny_typeOf hT ?_)
  rw [if_neg (by rw [h1]; decide)]
  refine wpAny_bind (iter_rt (s := { s with heap := s.heap.push { cls := .type "list", data := .seq ([] : List Value).toArray } }) hit1 ?_)
  refine wpAny_bind (wpAny_holding ?_)
  unfold Builtin.List.listLengthHint
  refine wpAny_bind (wpAny_specialOf hT nolen_rt ?_)
  show wpAny _ A.in1 (specialOf (Value.ref it) (Str.ofString "__length_hint__") >>= _) _ _ _
  refine wpAny_bind (wpAny_specialOf hT hint_rt ?_)
  generalize hid : ("reversed.__length_hint__" : String) = id0
  wp_delta
  rw [show splitId id0 = some ("reversed", "__length_hint__") from by subst hid; decide +kernel]
  subst hid
  refine wpAny_bind (wpAny_isInstance (b := true) hT (by rw [isSubtype_type]; kernel_rfl) ?_)
  rw [if_neg (by decide)]
  try dsimp only
  refine wpAny_ite_split (fun hab => absurd hab (by decide +kernel)) (fun _ => ?_)
  refine wpAny_bind (wpAny_rule ?_)
  refine wpAny_bind (wpAny_of_eq (bind_rt_hint _) ?_)
  try dsimp only
  refine wpAny_bind (wpAny_attempt (call_hint (s := { s with heap := s.heap.push { cls := .type "list", data := .seq ([] : List Value).toArray } }) hit1 hl1 hn fun tk t' => ?_))
  try dsimp only
  have ea : asInt? (Value.int ((items.size : Nat) : Int) t') = pure (some ((items.size : Nat) : Int)) := rfl
  rw [ea, pure_bind]
  try dsimp only
  have h63 := line63
  have hf : Builtin.List.listFitsIndex ((items.size : Nat) : Int) = true := by
    unfold Builtin.List.listFitsIndex
    rw [Bool.and_eq_true, decide_eq_true_eq, decide_eq_true_eq]
    omega
  have hlong : Builtin.List.listTooLong ((items.size : Nat) : Int).toNat = false := by
    unfold Builtin.List.listTooLong
    rw [decide_eq_false_iff_not]
    omega
  rw [if_neg (by rw [hf]; decide), if_neg (by omega), if_neg (by rw [hlong]; decide)]
  refine wpAny_pure ?_
  have hroom : (((items.size : Nat) : Int) != 0) = true := by
    rw [bne_iff_ne]
    omega
  try dsimp only
  rw [if_pos (by rw [hroom]; rfl)]
  show wpAny _ A.in1 (rule "list.extend.makes-room" >>= fun _ => Builtin.List.listTouch (.ref s.heap.objs.size) >>= fun _ =>
    again (.builtin "list.extend.loop" ⟨[.ref s.heap.objs.size, .ref it, .ref s.heap.objs.size], []⟩)) _ _ _
  refine wpAny_bind (wpAny_rule ?_)
  refine wpAny_bind ?_
  show wpAny _ A.in1 (updateSeq s.heap.objs.size (·.push .none) >>= fun _ => updateSeq s.heap.objs.size (·.pop)) _ _ _
  have one : 1 ≤ sizeLine := by rw [sizeLine_eq]; decide +kernel
  refine wpAny_bind (wpAny_updateSeq hS₁ rfl ?_ (Nat.zero_le _) (Nat.succ_le_succ (Nat.zero_le _)))
  have hS₂ := Heap.get?_update_self (Obj.mapSeq (·.push Value.none)) hS₁ rfl
  refine wpAny_updateSeq hS₂ rfl ?_ one (Nat.zero_le _)
  have hS₃ := Heap.get?_update_self (Obj.mapSeq (·.pop)) hS₂ rfl
  have oth : ∀ b o, b ≠ s.heap.objs.size → (s.heap.push { cls := .type "list", data := .seq ([] : List Value).toArray }).get? b = some o →
      (((s.heap.push { cls := .type "list", data := .seq ([] : List Value).toArray }).update s.heap.objs.size (Obj.mapSeq (·.push Value.none))).update s.heap.objs.size (Obj.mapSeq (·.pop))).get? b = some o :=
    fun b o hb e => (Heap.get?_update_other _ _ (Ne.symm hb)).trans ((Heap.get?_update_other _ _ (Ne.symm hb)).trans e)
  have e0 : ((items.size : Nat) : Int) - 1 - ((0 : Nat) : Int) = (items.size : Int) - 1 := by omega
  refine wpAny_pure ⟨plainId_quiet F.plain_extend_loop _, codeAny_extend_loopS W hn _ hSf _ items.size 0 _ _ _ rfl (Nat.zero_le _)
    (W.frame 0 ({ s with heap := s.heap.push { cls := .type "list", data := .seq ([] : List Value).toArray }, toks := tk } : Shared) _ tk ⟨by rw [e0]; exact hit1, hl1⟩ (Nat.le_refl _) fun b hb o e => oth b o (fun h => hSf (h ▸ hb)) e) hS₃ (ItemsOf.nil _) fun s' acc' c' hm hS' hacc => ?_⟩
  show wpAny _ A (load s.heap.objs.size >>= _) _ _ s'
  refine wpAny_bind (wpAny_load hS' ?_)
  refine wpAny_pure ?_
  rw [Moved.eq_with hm]
  refine hQ s'.heap s'.toks acc' (fun b o hb e => hm.heap b o (fun hmem => ?_) (oth b o (fun h => absurd (Heap.lt_size e) (by rw [h]; exact Nat.lt_irrefl _)) (Heap.get?_push_of_some _ e))) hacc
  rcases List.mem_cons.mp hmem with e' | hmem
  · exact absurd (Heap.lt_size e) (by rw [e']; exact Nat.lt_irrefl _)
  · exact hb (List.mem_singleton.mp hmem)
theorem code_tuple_new_rt {it l : Addr} {items : Array Value} {Q₁ : Value → Shared → Prop} (hh : A.handled = none) (hit : IsRt s.heap it l ((items.size : Int) - 1)) (hl : IsTup s.heap l items) (hne : l ≠ it) (hn : items.size ≤ sizeLine) (hpos : 0 < items.size)
    (h : ∀ (h' : Heap) (tk : Nat) (acc : Array Value), (∀ b o, b ≠ it → s.heap.get? b = some o → h'.get? b = some o) → ItemsOf (fun i v => items[items.size - 1 - i]? = some v) acc items.size →
      Q₁ (.ref h'.objs.size) { s with heap := h'.push { cls := .type "tuple", data := .seq acc }, toks := tk }) :
    codeAny (model prog w) A (.call (.builtin "tuple.__new__") ⟨[.type "tuple", .ref it], []⟩) (wants Q₁ E) s := by
  refine codeAny_of_tree ?_
  show wpAny _ A.in1 (do checkBuiltinCall "tuple.__new__" ⟨[.type "tuple", .ref it], []⟩; again (.builtin "tuple.__new__" ⟨[.type "tuple", .ref it], []⟩)) _ _ s
  refine wpAny_bind (wpAny_of_eq (F.newCall_tuple_1 _) (wpAny_pure ⟨plainId_quiet F.plain_tuple_new _, codeAny_builtin F.entry_tuple_new ?_⟩))
  rw [Around.under_plainId F.plain_tuple_new _]
  have hsub := sub_tuple_self
  have hinit := init_tuple_lookup
  have hmh := madeHere_tuple
  have hTI : s.TypeIs (.ref it) "reversed" := hit.typeIs
  have hh1 : A.in1.handled = none := hh
  wp_walk using wpAny_typeOf hTI, collect_rt (A := A.in1) hh1 hit hl hne hn hpos
  intro h' tk acc hk hacc
  show wpAny _ _ (Builtin.Tuple.tupleExact acc.toList.toArray >>= fun v => ret v) _ _ _
  unfold Builtin.Tuple.tupleExact
  refine wpAny_bind (wpAny_newObj_type ?_ (by show acc.toList.toArray.size ≤ sizeLine; simp only [Array.toArray_toList]; rw [hacc.1]; exact hn))
  refine wpAny_pure ?_
  have e : acc.toList.toArray = acc := by simp
  rw [e]
  exact h h' tk acc hk hacc
theorem call_tuple_rt {it l : Addr} {items : Array Value} {Q : Value → Shared → Prop} (hh : A.handled = none) (hit : IsRt s.heap it l ((items.size : Int) - 1)) (hl : IsTup s.heap l items) (hne : l ≠ it) (hn : items.size ≤ sizeLine) (hpos : 0 < items.size)
    (hQ : ∀ (h' : Heap) (tk : Nat) (acc : Array Value), (∀ b o, b ≠ it → s.heap.get? b = some o → h'.get? b = some o) → ItemsOf (fun i v => items[items.size - 1 - i]? = some v) acc items.size →
      Q (.ref h'.objs.size) { s with heap := h'.push { cls := .type "tuple", data := .seq acc }, toks := tk }) :
    wpAny (model prog w) A (call (.type "tuple") [.ref it]) Q E s := by
  refine callType_codes (Q₁ := fun obj s₁ => s₁.TypeIs obj "tuple" ∧ Q obj s₁) F.called_tuple (F.typeCall_tuple_1 _) F.entry_object_init
    (code_tuple_new_rt (A := A.in1) hh hit hl hne hn hpos fun h' tk acc hk hacc => ⟨⟨_, Heap.get?_push_size _ rfl, rfl⟩, hQ h' tk acc hk hacc⟩) fun obj s₁ h₁ => ?_
  exact ⟨h₁.1, F.args_object_init_2 obj _, object_init_meets F.called_tuple.init.lookup F.called_tuple.made (by decide) prog w A.in1 _ s₁ ⟨h₁.1, rfl, h₁.2⟩⟩
end
def tTupRevT (K : PySem.W.Frag) (te : TE) : TE := fun σ H Q => te σ H fun v H1 => ∃ (a : Addr) (xs : List V), v = .ref a ∧ SqT K H1 a xs ∧ 0 < xs.length ∧ ∀ q, H1 q = none → Q (.ref q) (upd H1 q (.tup xs.reverse))
section
variable {X : Cx} {W : WX} {a : Expr} {A : DE}
theorem pe_tupRevT {e : Expr} {te : TE} {p p2 pos pos2 : Pos} (hc : X.calm = true) (hg : Gl X "tuple") (hm : X.mg "tuple" = none) (hg2 : Gl X "reversed") (hm2 : X.mg "reversed" = none) (he : PE X e te)
    (hs : starEach [e] X.env = (false, eval e X.env) :: starEach [] X.env := by rfl)
    (hs2 : starEach [.Call (.Name "reversed" p2) [e] [] pos2] X.env = (false, eval (.Call (.Name "reversed" p2) [e] [] pos2) X.env) :: starEach [] X.env := by rfl) :
    PE X (.Call (.Name "tuple" p) [.Call (.Name "reversed" p2) [e] [] pos2] [] pos) (tTupRevT X.K te) := by
  refine ⟨fun pins s σ H Q I h => ?_⟩
  refine Call_ (ld_blt I hg hm boot_tuple (PyProof.Rows.callWith_type1 (args_cons (Call_ (ld_blt I hg2 hm2 PyProof.Rows.boot_reversed (PyProof.Rows.callWith_type1 (args_cons (thn (he.run pins s σ H _ I h) fun u s1 ⟨v, H1, I1, r1, q1⟩ => args_nil ?_) hs) hs rfl))) hs2) hs2 rfl))
  obtain ⟨a, xs, ev, hq, hpos, q⟩ := q1
  subst ev
  obtain rfl : u = Value.ref a := r1
  obtain ⟨its, rv, p', hz⟩ := I1.tuple hq
  have hn63 := line63
  have hl := rv.length
  refine call_reversed_tup p' (fun A E Q k => len_tuple p' (by simp only [List.size_toArray] <;> omega) k) (args_nil ?_)
  have k0 : ∀ b o, s1.heap.get? b = some o → (s1.heap.push (rtObj a ((its.toArray.size : Int) - 1))).get? b = some o := fun b o e => Heap.get?_push_of_some _ e
  have I2 : Inv X pins σ H1 { s1 with heap := s1.heap.push (rtObj a ((its.toArray.size : Int) - 1)), toks := s1.toks + 1 + 1 } := I1.kept (t' := s1.toks + 1 + 1) k0
  obtain ⟨f0, f1, f2, f3, f4, f5⟩ := I1.fpOk (H' := H1) (b := s1.heap.objs.size) (Nat.le_refl _) (I1.hok.fresh (Nat.le_refl _))
  obtain ⟨ol, hol, _⟩ := id p'
  have hne : a ≠ s1.heap.objs.size := Nat.ne_of_lt (Heap.lt_size hol)
  have hn : its.toArray.size ≤ sizeLine := by rw [List.size_toArray, ← rv.length]; exact hz
  have p2' : IsTup (s1.heap.push (rtObj a ((its.toArray.size : Int) - 1))) a its.toArray := by
    obtain ⟨o, ho, r⟩ := p'
    exact ⟨o, Heap.get?_push_of_some _ ho, r⟩
  refine call_tuple_rt (s := { s1 with heap := s1.heap.push (rtObj a ((its.toArray.size : Int) - 1)), toks := s1.toks + 1 + 1 }) (I1.ok.hd hc) ⟨_, Heap.get?_push_size _ rfl, rfl, rfl⟩ p2' hne hn (by rw [List.size_toArray]; omega) fun h' tk acc hk hi => ?_
  have I3 : Inv X pins σ H1 { s1 with heap := h', toks := tk } := I2.turned (t' := tk) (fun b o hb e => hk b o hb e) f0 f1 f3 f4 f5
  refine ⟨.ref h'.objs.size, upd H1 h'.objs.size (.tup xs.reverse), I3.laid (t' := tk) (fun c o e => Heap.get?_push_of_some _ e) (Nat.le_refl _) (show ObjOk X.prog X.w _ _ _ (.tup xs.reverse) from ⟨by rw [List.length_reverse]; exact hz, acc.toList, vals_rev rv hi, ?_⟩), rfl, q _ (I3.hok.fresh (Nat.le_refl _))⟩
  rw [Array.toArray_toList]
  exact IsTup.new _ _
def oRevT (x : D) : M D := match x with
  | .tuple (x :: xs) => M.ret (.tuple (x :: xs).reverse)
  | _ => M.stuck
theorem pd_tupRev {p p2 pos pos2 : Pos} (hc : X.calm = true) (hg : Gl X "tuple") (hm : X.mg "tuple" = none) (hg2 : Gl X "reversed") (hm2 : X.mg "reversed" = none) (ha : PDe X W a A)
    (hs : starEach [a] X.env = (false, eval a X.env) :: starEach [] X.env := by rfl)
    (hs2 : starEach [.Call (.Name "reversed" p2) [a] [] pos2] X.env = (false, eval (.Call (.Name "reversed" p2) [a] [] pos2) X.env) :: starEach [] X.env := by rfl) :
    PDe X W (.Call (.Name "tuple" p) [.Call (.Name "reversed" p2) [a] [] pos2] [] pos) (dUn oRevT A) := by
  obtain ⟨t, h1, h2⟩ := ha
  refine ⟨_, pe_tupRevT hc hg hm hg2 hm2 h1 hs hs2, ?_⟩
  refine rd_1 (X := X) (W := W) (r := fun x H Q => ∃ (a : Addr) (xs : List V), x = .ref a ∧ SqT X.K H a xs ∧ 0 < xs.length ∧ ∀ q, H q = none → Q (.ref q) (upd H q (.tup xs.reverse))) sh_rp (fun p sc Z σ H q x dx Q pl nz hx hp => ?_) h2
  unfold oRevT at hp
  cases hx with
  | tup ha ra =>
    rename_i a xs ds
    cases ds with
    | nil => exact hp.elim
    | cons d ds => exact ⟨a, xs, rfl, ha, (by rw [ra.length]; exact Nat.succ_pos _), fun b hb => hp _ _ (new_keep hb) (new_pool hb pl) (.tup (.inl upd_same) ((ra.reverse.stand (new_stand hb)).grow Zn.base))⟩
  | _ => exact hp.elim
end
end Ew
namespace Ew
open PySem PySem.Spec PyProof.Rows L2
def isK (k : Key) (d : D) : Bool := match k, d with
  | .inl i, .int j => decide (j = i)
  | .inr x, .str s => decide (s = x)
  | _, _ => false
theorem isK_keyD (k m : Key) : isK k (keyD m) = decide (m = k) := by
  cases k with
  | inl i =>
    cases m with
    | inl j => show decide (j = i) = _; exact decide_eq_decide.mpr ⟨fun h => by rw [h], fun h => Sum.inl.inj h⟩
    | inr j => exact (decide_eq_false (by intro z; cases z)).symm
  | inr x =>
    cases m with
    | inl j => exact (decide_eq_false (by intro z; cases z)).symm
    | inr j => show decide (j = x) = _; exact decide_eq_decide.mpr ⟨fun h => by rw [h], fun h => Sum.inr.inj h⟩
def putD (ds : List (D × D)) (k : Key) (v : D) : List (D × D) := if (ds.any fun q => isK k q.1) = true then ds.map (fun q => if isK k q.1 = true then (q.1, v) else q) else ds ++ [(keyD k, v)]
def keyOf (d : D) : Option Key := match d with
  | .int i => some (.inl i)
  | .str s => some (.inr s)
  | _ => none
theorem key_rp {K : PySem.W.Frag} {Z : Rg} {H : Hp} {y : V} {d : D} {k : Key} (r : Rp K Z H y d) (h : keyOf d = some k) : y = kV k := by
  cases r with
  | int i => cases h; rfl
  | str s => cases h; rfl
  | _ => cases h
theorem any_rel {k : Key} : ∀ {ds : List (D × D)} {ks : List (Key × V)}, ds.map (fun q => q.1) = ks.map (fun q => keyD q.1) → (ds.any fun q => isK k q.1) = ks.any fun kv => decide (kv.1 = k)
  | [], [], _ => rfl
  | [], _ :: _, h => nomatch h
  | _ :: _, [], h => nomatch h
  | d :: ds, m :: ks, h => by
    rw [List.map_cons, List.map_cons, List.cons.injEq] at h
    rw [List.any_cons, List.any_cons, any_rel h.2, h.1, isK_keyD]
theorem put_rel {K : PySem.W.Frag} {Z : Rg} {H : Hp} {k : Key} {w : V} {v : D} (rv : Rp K Z H w v) {ds : List (D × D)} {ks : List (Key × V)} (hk : ds.map (fun q => q.1) = ks.map (fun q => keyD q.1)) (rs : RpL K Z H (ks.map fun q => q.2) (ds.map fun q => q.2)) :
    (putD ds k v).map (fun q => q.1) = (putK ks k w).map (fun q => keyD q.1) ∧ RpL K Z H ((putK ks k w).map fun q => q.2) ((putD ds k v).map fun q => q.2) := by
  unfold putD putK
  rw [any_rel hk]
  by_cases ha : (ks.any fun kv => decide (kv.1 = k)) = true
  · rw [if_pos ha, if_pos ha]
    clear ha
    induction ds generalizing ks with
    | nil =>
      cases ks with
      | nil => exact ⟨rfl, .nil⟩
      | cons m ks => cases hk
    | cons d ds ih =>
      cases ks with
      | nil => cases hk
      | cons m ks =>
        rw [List.map_cons, List.map_cons, List.cons.injEq] at hk
        rw [List.map_cons, List.map_cons] at rs
        cases rs with
        | cons r1 r2 =>
          obtain ⟨i1, i2⟩ := ih hk.2 r2
          have e : isK k d.1 = decide (m.1 = k) := by rw [hk.1, isK_keyD]
          rw [List.map_cons, List.map_cons, List.map_cons, List.map_cons, List.map_cons, List.map_cons, i1, e]
          by_cases hm : m.1 = k
          · rw [if_pos (decide_eq_true hm), if_pos hm]
            exact ⟨by rw [hk.1], .cons rv i2⟩
          · rw [if_neg (by rw [decide_eq_false hm]; decide), if_neg hm]
            exact ⟨by rw [hk.1], .cons r1 i2⟩
  · rw [if_neg ha, if_neg ha]
    refine ⟨by rw [List.map_append, List.map_append, hk]; rfl, ?_⟩
    rw [List.map_append, List.map_append]
    exact rs.append (.cons rv .nil)
section
variable {X : Cx} {W : WX} {s : Stmt} {e k : Expr} {F E : DE} {pos p1 p2 : Pos}
end
structure LdK (K : PySem.W.Frag) (p sc L : Addr) (Zd : Rg) (H1 Hc : Hp) (q : Pool) (ac : List (D × D)) : Prop where
  keep : Keep p H1 Hc
  pool : PoolAt p sc Hc q
  dic : ∃ ks, Hc L = some (.dK ks) ∧ ac.map (fun q => q.1) = ks.map (fun q => keyD q.1) ∧ RpL K Zd Hc (ks.map fun q => q.2) (ac.map fun q => q.2)
theorem LdK.same {K : PySem.W.Frag} {p sc L : Addr} {Zd : Rg} {H1 Hc Hd : Hp} {q : Pool} {ac : List (D × D)} (a : LdK K p sc L Zd H1 Hc q ac) (nz : ¬ Zd p) (sm : Same Hc Hd) : LdK K p sc L Zd H1 Hd q ac := by
  have k : Keep p Hc Hd := Keep.of fun b o _ h => sm b o h
  obtain ⟨vs, e, e2, r⟩ := a.dic
  exact ⟨a.keep.trans k, ⟨sm _ _ a.pool.1, sm _ _ a.pool.2.1, a.pool.2.2.1, a.pool.2.2.2.ext sm⟩, vs, sm _ _ e, e2, r.stand (k.stand a.pool nz)⟩
theorem LdK.next {K : PySem.W.Frag} {p sc L : Addr} {Zd : Rg} {H1 Hc Hd : Hp} {q q' : Pool} {ac : List (D × D)} (a : LdK K p sc L Zd H1 Hc q ac) (nz : ¬ Zd p) (hp : L ≠ p) (k : Keep p Hc Hd) (pl : PoolAt p sc Hd q') : LdK K p sc L Zd H1 Hd q' ac := by
  obtain ⟨vs, e, e2, r⟩ := a.dic
  exact ⟨a.keep.trans k, pl, vs, k.at _ _ hp nt_k e, e2, r.stand (k.stand a.pool nz)⟩
section
variable {X : Cx} {e kx vx tg iter : Expr} {pos : Pos}
end
def getD (ds : List (D × D)) (k : Key) : Option D := (ds.find? fun q => isK k q.1).map (·.2)
section
variable {X : Cx} {W : WX} {s : Stmt} {e k : Expr} {F E : DE} {pos p1 p2 : Pos}
end
section
variable {X : Cx} {W : WX} {e a b : Expr} {A B : DE} {pos : Pos}
end
section
variable {X : Cx} {W : WX} {s : Stmt} {e k : Expr} {F E : DE} {pos p1 p2 : Pos}
end
section
variable {i : Nat} {k e : DE} {ρ : Rho} {ds : List (D × D)}
end
theorem RpL.erase {K : PySem.W.Frag} {Z : Rg} {H : Hp} : ∀ {vs : List V} {ds : List D} (m : Nat), RpL K Z H vs ds → RpL K Z H (vs.eraseIdx m) (ds.eraseIdx m)
  | _, _, _, .nil => .nil
  | _, _, 0, .cons _ r => r
  | _, _, m + 1, .cons h r => .cons h (RpL.erase m r)
section
variable {X : Cx} {W : WX} {F : DE}
end
end Ew
namespace Ew
open PySem PySem.Spec PyProof.Rows L2
section
variable {P : Program} {w : World} {K : PySem.W.Frag} {mg : Str → Option Value} {base : Heap} {k : Nat} {x qual y : Str} {f : Addr} {fd : FuncData} {N : List Str} {st : Stmt} {cls : Value} {d : Option Addr} {sp : Hp → VK → Prop}
end
section
variable {X : Cx} {W : WX} {e : Expr} {F : DE} {x : Str} {p pos pos' : Pos} {C : Addr}
end
def tSF (K : PySem.W.Frag) (mg : Str → Option Value) (W : WX) (F : DS) : TS := fun E σ H => ∃ (p sc : Addr) (Z0 : Rg) (H0 : Hp) (Z : Rg) (ρ : Rho) (q : Pool), BR K p sc Z0 H0 Z σ H ρ q ∧ PostS K mg p sc Z0 H0 Z H W E (F ρ q)
theorem PSsd.run {X : Cx} {W : WX} {ss : List Stmt} {F : DS} (h : PSsd X W ss F) : PSs X ss (tSF X.K X.mg W F) := by
  obtain ⟨t, h1, h2⟩ := h
  refine ⟨fun pins s σ H D I x => ?_⟩
  obtain ⟨p, sc, Z0, H0, Z, ρ, q, b, hp⟩ := x
  exact h1.run pins s σ H D I (h2 p sc Z0 H0 Z σ H ρ q D b hp)
section
variable {X : Cx} {W : WX} {body : List Stmt} {B : DS} {S : List (Str × Option Str)} {n : Str} {i j : Nat} {p1 p2 p3 p4 p5 p6 p7 : Pos}
end

def ENAMES : List Str := ["NoPart", "NoWeather", "NotAllowed", "BadCourse", "BadLine", "BadText", "Over", "NothingToUndo", "NoRule", "Full"]
structure ErrC (K : PySem.W.Frag) (c : Str) (n : Nat) : Prop where
  own : PySem.W.excIn K (He.ga K c) He.veBase "ValueError.__new__" = true ∧ PySem.W.keepIn K (.ref (He.ga K c)) = true ∧ PySem.W.subIn K (.ref (He.ga K c)) (.type "BaseException") = some true ∧ PySem.W.typeIn K (.ref (He.ga K c)) = some (.type "type")
  exw : PySem.W.exmOne K (.ref (He.ga K c)) (.ref (He.ga K "WeatherError")) = some true
  ix : ExcC K (He.ga K c)
  isV : PySem.W.kitOne K (.ref (He.ga K c)) (.type "ValueError") = some true
  is : ∀ k, k < 10 → PySem.W.kitOne K (.ref (He.ga K c)) (.ref (He.ga K (ENAMES.getD k "Full"))) = some (decide (k = n))
theorem ErrC.no {K : PySem.W.Frag} {c : Str} {n k : Nat} (E : ErrC K c n) (h : k < 10) (hn : k ≠ n) : PySem.W.kitOne K (.ref (He.ga K c)) (.ref (He.ga K (ENAMES.getD k "Full"))) = some false := (E.is k h).trans (by simp [hn])
end Ew
namespace Ew
open PySem PySem.Spec PyProof.Rows L2
def DicO (u : HO) : Prop := (∃ ks : List (Key × V), u = .dK ks) ∨ ∃ ks : List (List Key × V), u = .dT ks
section
variable {K : PySem.W.Frag} {Z : Rg} {H : Hp} {a : Addr} {od : Obj} {u : HO}
end
def FrzK (H : Hp) (a : Addr) (ds : List (D × D)) : Prop :=
  (∃ (od : Obj) (kvs : List (Key × V)), H a = some (.frz od (.dK kvs)) ∧ ds.map (fun q => q.1) = kvs.map fun q => keyD q.1) ∨ ∃ (od : Obj) (kvs : List (List Key × V)), H a = some (.frz od (.dT kvs)) ∧ ds.map (fun q => q.1) = kvs.map fun q => keyT q.1
theorem FrzK.of {K : PySem.W.Frag} {Z : Rg} {H : Hp} {v : V} {ds : List (D × D)} (r : Rp K Z H v (.dict ds)) : ∃ a, v = .ref a ∧ Z a ∧ (FrzK H a ds ∨ ∃ u, DicO u ∧ H a = some u ∧ ∀ od, FrzK (upd H a (.frz od u)) a ds) := by
  cases r with
  | dic h hz hk hr =>
    refine ⟨_, rfl, hz, ?_⟩
    rcases h with h | ⟨od, h⟩
    · exact .inr ⟨_, .inl ⟨_, rfl⟩, h, fun od => .inl ⟨od, _, upd_same, hk⟩⟩
    · exact .inl (.inl ⟨od, _, h, hk⟩)
  | dit h hz hk hr =>
    refine ⟨_, rfl, hz, ?_⟩
    rcases h with h | ⟨od, h⟩
    · exact .inr ⟨_, .inr ⟨_, rfl⟩, h, fun od => .inr ⟨od, _, upd_same, hk⟩⟩
    · exact .inl (.inr ⟨od, _, h, hk⟩)
section
variable {X : Cx} {W : WX} {tg elt iter : Expr} {pos : Pos}
end
end Ew
namespace Ew
open PySem PySem.Spec PyProof.Rows L2
section
variable {X : Cx} {W : WX}
end
end Ew
namespace Ew
open PySem PySem.Spec PyProof.Rows L2
def joinOk (a : Str) (ys : List Str) : Prop := (ys.map (·.length)).sum + ys.length * a.length ≤ 16777216
instance (a : Str) (ys : List Str) : Decidable (joinOk a ys) := by unfold joinOk; infer_instance
section
variable {X : Cx} {W : WX} {a e : Expr} {A : DE} {p1 p2 pos pos' apos : Pos}
end
end Ew
namespace Ew
open PySem PySem.Spec PyProof.Rows L2
section
variable {X : Cx} {W : WX}
end
end Ew
namespace Ew
open PySem PySem.Spec PyProof.Rows L2
section
variable {X : Cx} {W : WX} {a b : Expr} {A B : DE} {pos pos' : Pos}
end
end Ew
namespace EwSortT
open PySem PySem.W PySem.Calls PySem.SeqAt PyProof.Rows
section
variable {prog : Program} {w : World} {A : Around} {E : Value → Shared → Prop} {s : Shared} {κ : PyProof.Rows.KeyKind}
end
end EwSortT
namespace Ew
open PySem PySem.Spec PyProof.Rows L2
section
variable {X : Cx} {W : WX} {a : Expr} {A : DE} {pos pos' : Pos}
end
end Ew
namespace HT
open PySem PySem.Spec PyProof.Rows
section
variable {prog : Program} {w : World} {A : Around} {E : Value → Shared → Prop} {s : Shared}
theorem adjust_rev (n : Nat) : Builtin.Slice.sliceAdjust none none (-1) (n : Int) = ((n : Int) - 1, -1) := rfl
theorem places_rev (n : Nat) : Builtin.Slice.slicePlaces ((n : Int) - 1) (-1) (-1) = n := by
  unfold Builtin.Slice.slicePlaces
  have h1 : ¬ ((-1 : Int) > 0) := by omega
  simp only [h1, if_false]
  rw [show (- -1 : Int) = 1 by decide, Int.ediv_one]
  split <;> omega
theorem sliceApplied_rev {sl : Addr} {vl vu vs : Value} {n : Nat} {Q : Int × Int × Nat → Shared → Prop} (hs : s.heap.IsSliceOf sl vl vu vs) (pl : IsPart vl none) (pu : IsPart vu none) (ps : IsPart vs (some (-1)))
    (h : Q ((n : Int) - 1, -1, n) s) : wpAny (model prog w) A (Builtin.Slice.sliceApplied (.ref sl) (pure (n : Int))) Q E s := by
  obtain ⟨os, hos, hcs, hds⟩ := id hs
  unfold Builtin.Slice.sliceApplied Builtin.Slice.sliceFields
  refine wpAny_bind (wpAny_bind (wpAny_field hos hds (x := vl) rfl (wpAny_bind (wpAny_field hos hds (x := vu) rfl (wpAny_bind (wpAny_field hos hds (x := vs) rfl (wpAny_pure ?_)))))))
  refine wpAny_bind (slicePart_ ps ?_)
  show wpAny _ _ (if ((-1 : Int) == 0) = true then _ else _) _ _ s
  rw [if_neg (by decide)]
  refine wpAny_bind (slicePart_ pl (wpAny_bind (slicePart_ pu (wpAny_bind (wpAny_pure ?_)))))
  show wpAny _ _ (match Builtin.Slice.sliceAdjust none none (-1) (n : Int) with | (lo, hi) => pure (lo, (-1 : Int), Builtin.Slice.slicePlaces lo hi (-1))) _ _ s
  rw [adjust_rev n]
  show wpAny _ _ (pure ((n : Int) - 1, (-1 : Int), Builtin.Slice.slicePlaces ((n : Int) - 1) (-1) (-1))) _ _ s
  rw [places_rev]
  exact wpAny_pure h
theorem fm_map {α β : Type} (f : α → Option β) (g : α → β) : ∀ l : List α, (∀ m ∈ l, f m = some (g m)) → l.filterMap f = l.map g
  | [], _ => rfl
  | m :: l, h => by rw [List.filterMap_cons, h m List.mem_cons_self, List.map_cons, fm_map f g l fun x hx => h x (List.mem_cons_of_mem _ hx)]
theorem pick_rev (xs : Array Value) : ((List.range xs.size).filterMap fun (m : Nat) => xs[((xs.size : Int) - 1 + (m : Int) * -1).toNat]?).toArray = xs.toList.reverse.toArray := by
  congr 1
  have e : ∀ m ∈ List.range xs.size, xs[((xs.size : Int) - 1 + (m : Int) * -1).toNat]? = some ((xs.toList.reverse).getD m .none) := fun m hm => by
    have hm := List.mem_range.mp hm
    have h1 : ((xs.size : Int) - 1 + (m : Int) * -1).toNat = xs.size - 1 - m := by omega
    have h2 : m < xs.toList.reverse.length := by rw [List.length_reverse, Array.length_toList]; exact hm
    rw [h1, List.getD_eq_getElem?_getD, List.getElem?_eq_getElem h2, List.getElem_reverse, ← Array.getElem?_toList, List.getElem?_eq_getElem (by rw [Array.length_toList]; omega)]
    simp only [Option.getD_some, Array.length_toList]
  rw [fm_map _ (fun m => (xs.toList.reverse).getD m .none) _ e]
  refine List.ext_getElem (by rw [List.length_map, List.length_range, List.length_reverse, Array.length_toList]) fun i h1 h2 => ?_
  rw [List.getElem_map, List.getElem_range, List.getD_eq_getElem?_getD, List.getElem?_eq_getElem h2, Option.getD_some]
theorem getItem_tuple_rev {t sl : Addr} {items : Array Value} {vl vu vs : Value} {Q : Value → Shared → Prop} (ht : IsTup s.heap t items) (hs : s.heap.IsSliceOf sl vl vu vs) (pl : IsPart vl none) (pu : IsPart vu none) (ps : IsPart vs (some (-1)))
    (h : Q (.ref s.heap.objs.size) { s with heap := s.heap.push { cls := .type "tuple", data := .seq items.toList.reverse.toArray } })
    (hsz : items.size ≤ sizeLine) : wpAny (model prog w) A (getItem (.ref t) (.ref sl)) Q E s := by
  have htake : sizeOk (.seq items.toList.reverse.toArray) := by
    show items.toList.reverse.toArray.size ≤ sizeLine
    rw [List.size_toArray, List.length_reverse, Array.length_toList]
    exact hsz
  obtain ⟨os, hos, hcs, hds⟩ := id hs
  have hTs : s.TypeIs (.ref sl) "slice" := ⟨os, hos, hcs⟩
  unfold getItem
  try with_reducible refine wpAny_holding ?_
  first | refine wpAny_bind (wpAny_pure ?_) | skip
  refine wpAny_bind (wpAny_sequenceKey ht.typeIs (by decide) ?_)
  refine wpAny_bind (wpAny_callSpecial?_slot (name := Str.ofString "__getitem__") ht.typeIs PyProof.Rows.slot_tuple_getitem
    (wpAny_call_entry PyProof.Rows.slot_tuple_getitem ht.typeIs entry_tuple_getitem ?_ (args_tuple_getitem _ _)))
  show wpAny _ _ (Builtin.Tuple.tupleItemsOf (.ref t) >>= _) _ _ s
  refine wpAny_bind (tupleItemsOf_ ht ?_)
  refine wpAny_bind (wpAny_typeOf hTs ?_)
  rw [if_pos (by decide)]
  refine wpAny_bind (sliceApplied_rev hs pl pu ps ?_)
  have hno : ¬ ((((items.size : Int) - 1) == 0 && (-1 : Int) == 1 && items.size == items.size) = true) := by
    intro q
    rw [Bool.and_eq_true, Bool.and_eq_true] at q
    exact absurd q.1.2 (by decide)
  show wpAny _ _ (if (((items.size : Int) - 1) == 0 && (-1 : Int) == 1 && items.size == items.size) = true then _ else _) _ _ s
  rw [if_neg hno, pick_rev]
  first
    | exact wpAny_bind (m := Builtin.Tuple.tupleExact _) (wpAny_newObj_type (wpAny_pure ⟨_, rfl, wpAny_pure h⟩) htake)
    | exact wpAny_bind (m := Builtin.Tuple.tupleExact _) (wpAny_newObj_type (wpAny_bind (wpAny_pure (wpAny_pure ⟨_, rfl, wpAny_pure h⟩))) htake)
    | exact wpAny_bind (wpAny_bind (m := Builtin.Tuple.tupleExact _) (wpAny_newObj_type (wpAny_pure (wpAny_pure ⟨_, rfl, wpAny_pure h⟩)) htake))
    | exact wpAny_bind (wpAny_bind (m := Builtin.Tuple.tupleExact _) (wpAny_newObj_type (wpAny_pure ⟨_, rfl, wpAny_pure h⟩) htake))
end
end HT
namespace Ew
open PySem PySem.Spec PyProof.Rows L2
def bRev (x : D) : M D := match x with
  | .list xs => M.ret (.list xs.reverse)
  | .tuple xs => M.ret (.tuple xs.reverse)
  | _ => M.stuck
section
variable {X : Cx} {W : WX} {a : Expr} {A : DE} {pos p1 p2 p3 : Pos}
def tRevA (K : PySem.W.Frag) (te : TE) : TE := fun σ H Q => te σ H fun x H1 => (∃ a xs, x = .ref a ∧ SqL K H1 a xs ∧ ∀ p, H1 p = none → Q (.ref p) (upd H1 p (.lst xs.reverse))) ∨ (∃ a xs, x = .ref a ∧ SqT K H1 a xs ∧ ∀ p, H1 p = none → Q (.ref p) (upd H1 p (.tup xs.reverse)))
theorem pe_revA {e : Expr} {te : TE} {k : Nat} (he : PE X e te) : PE X (.Subscript e (.Slice none none (some (.UnaryOp .USub (.Constant (.int 1) k p1) p2)) p3) pos) (tRevA X.K te) := by
  refine ⟨fun pins s σ H Q I h => ?_⟩
  refine Subscript_ (thn (he.run pins s σ H _ I h) fun v s1 ⟨x, H1, I1, r1, q1⟩ => ?_)
  have hst : PO X (some (.UnaryOp .USub (.Constant (.int 1) k p1) p2)) (tPart (tUn (rU fun i => .int (-i)) (tC (.int 1)))) := po_some (pe_un un_neg pe_int)
  refine wpAny_Slice (thn (po_none.run pins s1 σ H1 (fun o H2 => o = none ∧ H2 = H1) I1 ⟨rfl, rfl⟩) fun vl s2 ⟨l, H2, I2, pl, el, e2⟩ => ?_)
  subst el e2
  refine thn (po_none.run pins s2 σ H2 (fun o H3 => o = none ∧ H3 = H2) I2 ⟨rfl, rfl⟩) fun vu s3 ⟨u, H3, I3, pu, eu, e3⟩ => ?_
  subst eu e3
  refine thn (hst.run pins s3 σ H3 (fun o H4 => o = some (-1) ∧ H4 = H3) I3 ⟨1, rfl, -1, rfl, rfl, rfl⟩) fun vs s4 ⟨o, H4, I4, ps, eo, e4⟩ => ?_
  subst eo e4
  have I5 : Inv X pins σ H4 { s4 with heap := s4.heap.push { cls := .type "slice", data := .fields #[vl, vu, vs] } } := I4.kept (t' := s4.toks) fun b ob q => Heap.get?_push_of_some _ q
  rcases q1 with ⟨a, xs, ex, hx, q⟩ | ⟨a, xs, ex, hx, q⟩
  · subst ex
    cases r1
    obtain ⟨its, r, ht, hz⟩ := I5.list hx
    have hlen := r.length
    show wpAny (model X.prog X.w) X.A (subscriptTail e (.Slice none none (some (.UnaryOp .USub (.Constant (.int 1) k p1) p2)) p3) (.ref a) (.ref s4.heap.objs.size)) (EP X pins σ Q) X.xe { s4 with heap := s4.heap.push { cls := .type "slice", data := .fields #[vl, vu, vs] } }
    refine tail_any (ops := [.ref a, .ref s4.heap.objs.size]) ht.isList.typeIs (PySem.slot_list_getitem.lookup) ?_ (by with_unfolding_all rfl)
    refine wpAny_getItem_list_slice ht.isList (Heap.IsSliceOf.new _ vl vu vs) pl pu ps (by decide) ?_ (by rw [List.size_toArray]; omega)
    rw [PySem.W.krv_pick]
    refine ⟨.ref _, _, I5.laid (t' := s4.toks) (o := .lst xs.reverse) (fun b ob q => Heap.get?_push_of_some _ q) (Nat.le_refl _) ?_, rfl, q _ (I5.hok.fresh (Nat.le_refl _))⟩
    exact ⟨by rw [List.length_reverse]; exact hz, _, 0, r.reverse, Heap.get?_push_size _ rfl⟩
  · subst ex
    cases r1
    obtain ⟨its, r, ht, hz⟩ := I5.tuple hx
    have hlen := r.length
    show wpAny (model X.prog X.w) X.A (subscriptTail e (.Slice none none (some (.UnaryOp .USub (.Constant (.int 1) k p1) p2)) p3) (.ref a) (.ref s4.heap.objs.size)) (EP X pins σ Q) X.xe { s4 with heap := s4.heap.push { cls := .type "slice", data := .fields #[vl, vu, vs] } }
    refine tail_any (ops := [.ref a, .ref s4.heap.objs.size]) ht.typeIs (PyProof.Rows.slot_tuple_getitem.lookup) ?_ (by with_unfolding_all rfl)
    refine HT.getItem_tuple_rev ht (Heap.IsSliceOf.new _ vl vu vs) pl pu ps ?_ (by rw [List.size_toArray]; omega)
    refine ⟨.ref _, _, I5.laid (t' := s4.toks) (o := .tup xs.reverse) (fun b ob q => Heap.get?_push_of_some _ q) (Nat.le_refl _) ?_, rfl, q _ (I5.hok.fresh (Nat.le_refl _))⟩
    exact ⟨by rw [List.length_reverse]; exact hz, _, r.reverse, IsTup.new _ _⟩
theorem RpL.rev {K : PySem.W.Frag} {Z : Rg} {H : Hp} : ∀ {vs : List V} {ds : List D}, RpL K Z H vs ds → RpL K Z H vs.reverse ds.reverse
  | _, _, .nil => .nil
  | _, _, .cons r rs => by
    rw [List.reverse_cons, List.reverse_cons]
    exact (RpL.rev rs).append (.cons r .nil)
theorem pd_rev {k : Nat} (ha : PDe X W a A) : PDe X W (.Subscript a (.Slice none none (some (.UnaryOp .USub (.Constant (.int 1) k p1) p2)) p3) pos) (dUn bRev A) := by
  obtain ⟨t, h1, h2⟩ := ha
  refine ⟨_, pe_revA h1, ?_⟩
  refine rd_1 (X := X) (W := W) (r := fun x H1 Q => (∃ a xs, x = .ref a ∧ SqL X.K H1 a xs ∧ ∀ p, H1 p = none → Q (.ref p) (upd H1 p (.lst xs.reverse))) ∨ (∃ a xs, x = .ref a ∧ SqT X.K H1 a xs ∧ ∀ p, H1 p = none → Q (.ref p) (upd H1 p (.tup xs.reverse)))) sh_rp (fun p sc Z σ H q x dx Q pl nz hx hp => ?_) h2
  unfold bRev at hp
  cases hx with
  | lst h1 z rs =>
    refine .inl ⟨_, _, rfl, .inl (.inl h1), fun c hc => hp _ _ (new_keep hc) (new_pool hc pl) ?_⟩
    exact .lst upd_same (.inr hc) ((rs.rev.stand (new_stand hc)).grow Zn.base)
  | tup h1 rs =>
    refine .inr ⟨_, _, rfl, h1, fun c hc => hp _ _ (new_keep hc) (new_pool hc pl) (.tup (.inl upd_same) ((rs.rev.stand (new_stand hc)).grow Zn.base))⟩
  | _ => exact hp.elim
end
end Ew
namespace Ew
open PySem PySem.Spec PyProof.Rows L2
section
variable {X : Cx} {W : WX} {a : Expr} {A : DE} {pos pos' : Pos}
end
end Ew
namespace Ew
open PySem PySem.Spec PyProof.Rows L2
section
variable {X : Cx} {W : WX} {tg elt : Expr} {pos : Pos}
end
end Ew
namespace PySem.W
open PySem PySem.Calls PyProof.Rows
end PySem.W
namespace Ew
open PySem PySem.Spec PyProof.Rows L2
section
variable {X : Cx} {W : WX} {a : Expr} {A : DE} {pos p1 p2 p3 p4 p5 : Pos}
end
end Ew
namespace Ew
open PySem PySem.Spec PyProof.Rows L2
section
variable {X : Cx} {W : WX} {tg elt : Expr} {pos spos : Pos}
end
end Ew
namespace Ew
open PySem PySem.Spec PyProof.Rows L2
section
variable {X : Cx} {W : WX} {a : Expr} {A : DE} {pos pos' pos2 p1 : Pos}
end
end Ew
namespace Ew
open PySem PySem.Spec PyProof.Rows L2
section
variable {K : PySem.W.Frag} {p sc a : Addr} {H H' : Hp} {q : Pool} {Z : Rg} {ks ls : List (List Key × V)}
end
def NewT (K : PySem.W.Frag) : RelT V D := fun _ Z H H' v d => ∃ a ks ds, v = .ref a ∧ d = .dict ds ∧ H a = none ∧ H' a = some (.dT ks) ∧ ds.map (fun q => q.1) = ks.map (fun q => keyT q.1) ∧ RpL K (fun b => Zn Z H b ∧ b ≠ a) H' (ks.map fun q => q.2) (ds.map fun q => q.2)
theorem NewT.rp {K : PySem.W.Frag} {p : Addr} {Z : Rg} {H H' : Hp} {v : V} {d : D} (h : NewT K p Z H H' v d) : Rp K (Zn Z H) H' v d := by
  obtain ⟨a, ks, ds, rfl, rfl, h1, h2, h3, h4⟩ := h
  exact .dit (.inl h2) (.inr h1) h3 (h4.grow fun b z => z.1)
section
variable {K : PySem.W.Frag} {p sc : Addr} {Z0 Z Z' : Rg} {H0 H H1 : Hp} {σ : L2.St} {ρ : Rho} {q q1 : Pool}
end

section
variable {X : Cx} {W : WX} {s : Stmt} {e k : Expr} {F E : DE} {pos p1 p2 : Pos}
end
section
variable {X : Cx} {W : WX} {k e : Expr} {A B : DE} {pos : Pos}
end
section
variable {K : PySem.W.Frag} {p sc : Addr} {Z0 Z Z' : Rg} {H0 H H1 : Hp} {σ : L2.St} {ρ : Rho} {q q1 : Pool}
end
section
variable {X : Cx} {W : WX} {tg iter : Expr} {ss : List Stmt} {g : Tgt} {B : DS} {pos : Pos} {is : List Nat}
end
def hasD (ds : List (D × D)) (y : D) : Option Bool := match y with
  | .int n => if tupKd ds = true then none else some (findI n ds).isSome
  | .str n => if tupKd ds = true then none else some (findS n ds).isSome
  | .tuple ks => (match keysO ks with
    | some k => if intKd ds = true then none else some (findT k ds).isSome
    | none => none)
  | _ => none
def oNotInD (y x : D) : M D := match x with
  | .dict ds => (match hasD ds y with
    | some b => M.ret (.bool (!b))
    | none => M.stuck)
  | _ => M.stuck
theorem has_get {K : PySem.W.Frag} {Z : Rg} {H : Hp} {x y : V} {ds : List (D × D)} {dy : D} {b : Bool} (hx : Rp K Z H x (.dict ds)) (hy : Rp K Z H y dy) (h : hasD ds dy = some b) : ∃ a o, x = .ref a ∧ DGetU K H a y o ∧ o.isSome = b := by
  cases hx with
  | @dic a kvs _ h1 z hk rs =>
    cases hy with
    | int n =>
      have h' : (if tupKd ds = true then none else some (findI n ds).isSome) = some b := h
      rw [(tupKd_K hk).1, if_neg Bool.false_ne_true] at h'
      cases ef : findI n ds with
      | none =>
        rw [ef] at h'
        cases h'
        exact ⟨a, none, rfl, .inl ⟨kvs, .inl n, h1, rfl, (find_atN (K := K) (Z := Z) (H := H) (.inl n) kvs ds hk ef).symm⟩, rfl⟩
      | some d =>
        rw [ef] at h'
        cases h'
        obtain ⟨v, g1, g2⟩ := find_at (.inl n) kvs ds hk rs ef
        exact ⟨a, some v, rfl, .inl ⟨kvs, .inl n, h1, rfl, g1.symm⟩, rfl⟩
    | str n =>
      have h' : (if tupKd ds = true then none else some (findS n ds).isSome) = some b := h
      rw [(tupKd_K hk).1, if_neg Bool.false_ne_true] at h'
      cases ef : findS n ds with
      | none =>
        rw [ef] at h'
        cases h'
        exact ⟨a, none, rfl, .inl ⟨kvs, .inr n, h1, rfl, (find_atN (K := K) (Z := Z) (H := H) (.inr n) kvs ds hk ef).symm⟩, rfl⟩
      | some d =>
        rw [ef] at h'
        cases h'
        obtain ⟨v, g1, g2⟩ := find_at (.inr n) kvs ds hk rs ef
        exact ⟨a, some v, rfl, .inl ⟨kvs, .inr n, h1, rfl, g1.symm⟩, rfl⟩
    | @tup c ys ks hq rq =>
      have h' : (match keysO ks with
        | some k => if intKd ds = true then none else some (findT k ds).isSome
        | none => none) = some b := h
      cases ek : keysO ks with
      | none => rw [ek] at h'; cases h'
      | some k =>
        rw [ek] at h'
        dsimp only at h'
        by_cases hd : ds = []
        · subst hd
          cases h'
          cases kvs with
          | cons kv kvs => cases hk
          | nil =>
            have hq2 := hq.t
            rw [keysO_rp rq ek] at hq2
            exact ⟨a, none, rfl, .inr (.inr (.inr ⟨k, c, h1, rfl, hq2, rfl⟩)), rfl⟩
        · rw [(tupKd_K hk).2 hd, if_pos rfl] at h'
          cases h'
    | _ => cases h
  | @dit a kvs _ h1 z hk rs =>
    have key : ∀ m : Key, (if tupKd ds = true then none else some false) = some b → ∃ a' o, V.ref a = .ref a' ∧ DGetU K H a' (kV m) o ∧ o.isSome = b := fun m hp4 => by
      by_cases hd : ds = []
      · subst hd
        cases hp4
        cases kvs with
        | cons kv kvs => cases hk
        | nil => exact ⟨a, none, rfl, .inr (.inr (.inl ⟨m, h1, rfl, rfl⟩)), rfl⟩
      · rw [(tupKd_T hk).2 hd, if_pos rfl] at hp4
        cases hp4
    cases hy with
    | int n =>
      have h' : (if tupKd ds = true then none else some (findI n ds).isSome) = some b := h
      rw [(find_noT hk).1] at h'
      exact key (.inl n) h'
    | str n =>
      have h' : (if tupKd ds = true then none else some (findS n ds).isSome) = some b := h
      rw [(find_noT hk).2] at h'
      exact key (.inr n) h'
    | @tup c ys ks hq rq =>
      have h' : (match keysO ks with
        | some k => if intKd ds = true then none else some (findT k ds).isSome
        | none => none) = some b := h
      cases ek : keysO ks with
      | none => rw [ek] at h'; cases h'
      | some k =>
        rw [ek] at h'
        dsimp only at h'
        rw [(tupKd_T hk).1, if_neg Bool.false_ne_true] at h'
        have hq2 := hq.t
        rw [keysO_rp rq ek] at hq2
        have z2 := find_atT k kvs ds hk rs
        cases ef : findT k ds with
        | none =>
          rw [ef] at h' z2
          cases h'
          exact ⟨a, none, rfl, .inr (.inl ⟨kvs, k, c, h1, rfl, hq2, z2.symm⟩), rfl⟩
        | some d =>
          rw [ef] at h' z2
          cases h'
          obtain ⟨v, g1, g2⟩ := z2
          exact ⟨a, some v, rfl, .inr (.inl ⟨kvs, k, c, h1, rfl, hq2, g1.symm⟩), rfl⟩
    | _ => cases h
section
variable {X : Cx} {W : WX}
theorem opd_notinD (hu : X.A.units + deep < cLine) : OpD X W (compareOp .NotIn) oNotInD := by
  refine ⟨fun y x H Q => ∃ a o, x = .ref a ∧ DGetU X.K H a y o ∧ Q (.bl (!o.isSome)) H, fun pins s σ H x y v u Q I rx ry h => ?_, fun p sc Z σ H q x y dx dy Q pl nz hx hy hp => ?_⟩
  · obtain ⟨a, o, rfl, g, h⟩ := h
    obtain rfl : u = Value.ref a := ry
    exact dU_notIn (by unfold deep at hu; omega) I g rx fun s' I' => ⟨.bl (!o.isSome), H, I', rfl, h⟩
  · unfold oNotInD at hp
    cases dy with
    | dict ds =>
      dsimp only at hp
      cases e : hasD ds dx with
      | none => rw [e] at hp; exact hp.elim
      | some b =>
        rw [e] at hp
        obtain ⟨a, o, e1, g, e2⟩ := has_get hy hx e
        exact ⟨a, o, e1, g, hp _ H (Keep.refl _ _) pl (by rw [e2]; exact .bl _)⟩
    | _ => exact hp.elim
end
section
variable {i j : Nat} {k e : DE} {ρ : Rho} {ds : List (D × D)} {g : Tgt} {B : DS}
end
end Ew
namespace Ew
open PySem PySem.Spec PyProof.Rows L2
section
variable {X : Cx} {W : WX}
end
section
variable {X : Cx} {W : WX} {o e : Expr} {A B : DE} {apos cpos : Pos}
end
section
variable {X : Cx} {W : WX} {tg iter : Expr} {ss : List Stmt} {g : Tgt} {B : DS} {pos : Pos} {is : List Nat}
end
section
variable {X : Cx} {W : WX} {a : Expr} {A : DE} {pos p1 : Pos}
end
theorem RpL.noLast {K : PySem.W.Frag} {Z : Rg} {H : Hp} : ∀ {vs : List V} {ds : List D}, RpL K Z H vs ds → RpL K Z H vs.dropLast ds.dropLast
  | _, _, .nil => .nil
  | _, _, .cons _ .nil => .nil
  | _, _, .cons h (.cons h2 r) => .cons h (RpL.noLast (.cons h2 r))
def sPop (i j : Nat) : DS := fun ρ => match ρ[j]? with
  | some (some (.own es)) => (match es[es.length - 1]? with
    | some d => M.ret (.next ((ρ.set j (some (.own es.dropLast))).set i (some (.dat d))))
    | none => M.stuck)
  | _ => M.stuck
theorem at_spop {i j : Nat} {ρ : Rho} {es : List D} {d : D} (h : ρ[j]? = some (some (.own (es ++ [d])))) : sPop i j ρ = M.ret (.next ((ρ.set j (some (.own es))).set i (some (.dat d)))) := by
  unfold sPop
  rw [h]
  dsimp only
  rw [List.length_append, List.length_singleton, Nat.add_sub_cancel, List.getElem?_concat_length, List.dropLast_concat]
section
variable {X : Cx} {W : WX}
theorem sd_pop {i j : Nat} {x y : Str} {p0 p5 p6 p7 pos : Pos} (hij : i ≠ j) (hN : X.N.Nodup) (hi : X.N[i]? = some x := by rfl) (hx : Loc X.env.scope x := by first | exact Or.inl rfl | exact Or.inr rfl) (hM : X.N[j]? = some y := by rfl)
    (hw : Vis X.env.scope y := by first | exact Or.inl rfl | exact Or.inr (Or.inl rfl) | exact Or.inr (Or.inr rfl))
    (hd2 : (y == ("__debug__" : Str)) = false := by decide) (hcd2 : (y == ("__classdict__" : Str)) = false := by decide)
    (hbase2 : attributeBase (.Name y p5) "pop" X.env (eval (.Name y p5) X.env) = eval (.Name y p5) X.env := by rfl)
    (hline2 : (p6.endLine == p7.line) = true := by rfl)
    (hs : swapsWith (.Call (.Attribute (.Name y p5) "pop" p6) [] [] p7) (some (.Name x p0)) pos.line X.env = pure false := by rfl)
    (hf : X.fn x = true ∨ X.env.scope.names.lookup x = some .local := by first | exact .inl rfl | exact .inr rfl | assumption) :
    PSd X W (.Assign [.Name x p0] (.Call (.Attribute (.Name y p5) "pop" p6) [] [] p7) pos) (sPop i j) := by
  have inner := pe_bm0 (X := X) (cpos := p7) PySem.F.plainAttrs_list PySem.F.slot_list_pop PySem.F.type_list_pop mt_pop (pe_var (pos := p5) hM hw hd2 hcd2) hbase2 hline2
  refine ⟨_, ps_set hN hi hx inner hs hf, fun p sc Z0 H0 Z σ H ρ q E b h => ?_⟩
  unfold sPop at h
  cases ej : ρ[j]? with
  | none => rw [ej] at h; exact h.elim
  | some o2 =>
    cases o2 with
    | none => rw [ej] at h; exact h.elim
    | some sl2 =>
      cases sl2 with
      | own es =>
        rw [ej] at h
        dsimp only at h
        obtain ⟨c', ws', t1, t2, t3, t4, t5⟩ := b.slot j _ ej
        cases el : es[es.length - 1]? with
        | none => rw [el] at h; exact h.elim
        | some d =>
          rw [el] at h
          dsimp only at h
          obtain ⟨v, hv', rv⟩ := t5.at el
          have z1 := b.chOwn ej t1 t2 (RpL.noLast t5)
          have z2 := z1.1.set (i := i) (rv.stand z1.2)
          have hlw : ws'.length = es.length := t5.length
          refine ⟨.ref c', t1, .inl ⟨rfl, _, .inl (.inl t2)⟩, ?_⟩
          exact ⟨c', ws', v, rfl, rfl, t2, by rw [hlw]; exact hv', h _ _ _ z2 (fun c z => z) z1.2⟩
      | dat d => rw [ej] at h; exact h.elim
      | pool => rw [ej] at h; exact h.elim
      | odic d => rw [ej] at h; exact h.elim
      | odicT d => rw [ej] at h; exact h.elim
end
def sDPutN (i : Nat) (k e : DE) : DS := fun ρ => match ρ[i]? with
  | some (some (.odic ds)) => M.bnd (e ρ) fun d => (match d with
    | .list es => if flatAll es = true then M.bnd (k ρ) fun y => (match keyOf y with
      | some kk => if ds.length < lineMax then M.ret (.next (ρ.set i (some (.odic (putD ds kk (.list es)))))) else M.stuck
      | none => M.stuck) else M.stuck
    | _ => M.stuck)
  | _ => M.stuck
theorem at_dputn {i : Nat} {k e : DE} {ρ : Rho} {ds : List (D × D)} (h : ρ[i]? = some (some (.odic ds))) : sDPutN i k e ρ = M.bnd (e ρ) fun d => (match d with
    | .list es => if flatAll es = true then M.bnd (k ρ) fun y => (match keyOf y with
      | some kk => if ds.length < lineMax then M.ret (.next (ρ.set i (some (.odic (putD ds kk (.list es)))))) else M.stuck
      | none => M.stuck) else M.stuck
    | _ => M.stuck) := by
  unfold sDPutN
  rw [h]
section
variable {X : Cx} {W : WX} {s : Stmt} {e k : Expr} {F E : DE} {pos p1 p2 : Pos}
theorem sd_dputN {i : Nat} {x : Str} (hu : X.A.units + deep < cLine) (he : PDf X W e F) (hk : PDe X W k E) (hN : X.N[i]? = some x := by rfl) (hv : Vis X.env.scope x := by first | exact Or.inl rfl | exact Or.inr (Or.inl rfl) | exact Or.inr (Or.inr rfl))
    (hd : (x == ("__debug__" : Str)) = false := by decide) (hcd : (x == ("__classdict__" : Str)) = false := by decide)
    (hs : swapsWith e (some (.Subscript (.Name x p1) k p2)) pos.line X.env = pure false := by rfl) : PSd X W (.Assign [.Subscript (.Name x p1) k p2] e pos) (sDPutN i E F) := by
  obtain ⟨t, h1, h2⟩ := he
  obtain ⟨u, g1, g2⟩ := hk
  refine ⟨_, ps_dput (by unfold deep at hu; omega) (pe_var (pos := p1) hN hv hd hcd) g1 h1 hs, fun p sc Z0 H0 Z σ H ρ q Ed b h => ?_⟩
  unfold sDPutN at h
  cases e : ρ[i]? with
  | none => rw [e] at h; exact h.elim
  | some o =>
    cases o with
    | none => rw [e] at h; exact h.elim
    | some sl =>
      cases sl with
      | odic ds =>
        rw [e] at h
        dsimp only at h
        obtain ⟨a', ks', h1', h2', h3', h4', h5', h6'⟩ := b.slot i _ e
        refine h2 p sc _ σ H ρ q _ b.sit (PostS.ex (Rel := fun H' v d => NewF X.K p (Zo Z σ ρ) H H' v d) b h fun d q1 v H1 e1 k1 pl r hp => ?_)
        obtain ⟨a, vs, es, rfl, rfl, u1, u2, u3⟩ := r
        dsimp only at hp
        by_cases hf : flatAll es = true
        case neg => rw [if_neg hf] at hp; exact hp.elim
        rw [if_pos hf] at hp
        have b1 := b.fresh k1 pl u1 (by rw [u2]; exact Option.some_ne_none _)
        have rv : Rp X.K (fun c => Z c ∨ c = a) H1 (.ref a) (.list es) := .lst u2 (.inr rfl) (u3.flat hf)
        refine ⟨.ref a', h1', ?_⟩
        refine g2 p sc _ σ H1 ρ q1 _ b1.sit (PostS.ex (Rel := fun H' v d => Rp X.K (Zn (Zo (fun c => Z c ∨ c = a) σ ρ) H1) H' v d) b1 (PostS.later hp (fun c z => .inl z) (Stand.refl _ _)) fun dj q2 o H2 e2 k2 pl2 rj hp2 => ?_)
        have b2 := b1.next k2 pl2
        obtain ⟨a2, ks, s1, s2, s3, s4, s5, s6⟩ := b2.slot i _ e
        rw [h1'] at s1
        cases s1
        cases ek : keyOf dj with
        | none => rw [ek] at hp2; exact hp2.elim
        | some kk =>
          rw [ek] at hp2
          dsimp only at hp2
          by_cases hc : ds.length < lineMax
          · rw [if_pos hc] at hp2
            have hlen : ks.length = ds.length := by
              have := congrArg List.length s5
              rw [List.length_map, List.length_map] at this
              exact this.symm
            have rv2 : Rp X.K (fun c => Z c ∨ c = a) H2 (.ref a) (.list es) := rv.stand (k2.stand pl b1.nz)
            obtain ⟨z1, z2⟩ := put_rel (k := kk) rv2 s5 s6
            have z := b2.chDic (es := putD ds kk (.list es)) (ls := putK ks kk (.ref a)) e h1' s2 z1 z2
            exact ⟨a', _, rfl, .inl ⟨ks, kk, s2, key_rp rj ek, by rw [hlen]; exact hc, rfl⟩, hp2 _ σ _ z.1 (fun c z => z) z.2⟩
          · rw [if_neg hc] at hp2; exact hp2.elim
      | odicT ds => rw [e] at h; exact h.elim
      | dat d => rw [e] at h; exact h.elim
      | pool => rw [e] at h; exact h.elim
      | own d => rw [e] at h; exact h.elim
end
end Ew
namespace Ew
open PySem PySem.Spec PyProof.Rows L2
def topS (i : Nat) : Stmt := PySem.Challenge.pw_everyweather_k52_cable_papers_judged.main.body.getD i (.Pass ⟨0, 0, 0, 0⟩)
abbrev s_pool : Stmt := topS 16
abbrev s_spread : Stmt := topS 17
abbrev s_draw : Stmt := topS 18
abbrev FnP (K : PySem.W.Frag) (x : Str) (st : Stmt) (f : Addr) (fd : FuncData) : Prop := FunD K x x (defArgs st) (defBody st) (defScope st) [] [] f fd
abbrev N_pool : List Str := ["script", "salt", "cell"]
abbrev N_spread : List Str := ["cell", "mixed", "total", "k"]
abbrev N_draw : List Str := ["pool", "many", "cell", "mixed", "value"]
theorem sc_pool : FnScope N_pool ["script"] (defScope s_pool) := ⟨rfl, rfl, rfl, by decide +kernel, rfl, by decide +kernel, by decide +kernel⟩
theorem sc_spread : FnScope N_spread ["cell"] (defScope s_spread) := ⟨rfl, rfl, rfl, by decide +kernel, rfl, by decide +kernel, by decide +kernel⟩
theorem sc_draw : FnScope N_draw ["pool", "many"] (defScope s_draw) := ⟨rfl, rfl, rfl, by decide +kernel, rfl, by decide +kernel, by decide +kernel⟩
section
variable {P : Program} {w : World} {K : PySem.W.Frag} {mg : Str → Option Value} {base : Heap} {f f2 : Addr} {fd fd2 : FuncData}
def spSpread : Sp := fun vs H Q _ => ∃ c : Int, vs = [.int c] ∧ Q (.int (spreadF c)) H
theorem ok_spread (F : FnP K "_law_spread" s_spread f fd) (mi : mg "int" = none) (mr : mg "range" = none) : FnOk P w K mg base (L2.CX P w) 1 f fd ["cell"] spSpread := by
  refine F.ok sc_spread (fun vs H Q E h => ?_) (fun cdv A outer s H vs Q E hr h => ?_)
  · obtain ⟨c, rfl, _⟩ := h
    rfl
  · obtain ⟨c, rfl, q⟩ := h
    refine ⟨_, PSs.nox (pss_cons (ps_set (i := 1) sc_spread.nd rfl (.inl rfl) (pe_op op_mod (pe_callTy call_int1 (by rfl) mi boot_int (pa_cons (pv 0) pa_nil)) pe_int))
      (pss_cons (ps_set (i := 2) sc_spread.nd rfl (.inl rfl) pe_int)
      (pss_cons (ps_for PassesOwn.never rfl (pi_range1 rfl mr (pa_cons pe_int pa_nil)) (pg_name (i := 3) sc_spread.nd rfl (.inl rfl))
        (pss_cons (ps_set (i := 1) sc_spread.nd rfl (.inl rfl) (pe_op op_mod (pe_callTy call_int1 (by rfl) mi boot_int (pa_cons (pe_op op_add (pe_op op_add (pe_op op_mul (pv 1) pe_int) pe_int) (pv 3)) pa_nil)) pe_int))
        (pss_one (ps_set (i := 2) sc_spread.nd rfl (.inl rfl) (pe_op op_add (pe_op op_mul (pv 2) pe_int) (pv 1))))))
      (pss_one (ps_ret (pv 2)))))), ?_⟩
    refine ⟨_, rfl, .inl ⟨c, rfl, _, _, rfl, rfl, (show (0 : Int) < 2147483647 by decide), ?_⟩⟩
    refine ⟨4, rfl, by decide, by decide, for_range (n := 4) (fun i σ H' => H' = H ∧ ∃ k3, σ = [some (.int c), some (.int (((List.range i).map fun (j : Nat) => (j : Int)).foldl spread1 (c % 2147483647, 1)).1), some (.int (((List.range i).map fun (j : Nat) => (j : Int)).foldl spread1 (c % 2147483647, 1)).2), k3]) ⟨rfl, _, rfl⟩ (fun i σ H' hi hW => ?_) (fun σ H' hW => ?_)⟩
    · obtain ⟨rfl, k3, rfl⟩ := hW
      refine ⟨_, rfl, _, _, rfl, rfl, .inr (show -(2 ^ 64) < (48271 : Int) ∧ (48271 : Int) < 2 ^ 64 by decide), _, _, rfl, rfl, _, rfl, _, _, rfl, rfl, .inl ⟨_, rfl, _, _, rfl, rfl, (show (0 : Int) < 2147483647 by decide), ?_⟩⟩
      refine ⟨_, rfl, _, _, rfl, rfl, .inr (show -(2 ^ 64) < (2147483647 : Int) ∧ (2147483647 : Int) < 2 ^ 64 by decide), _, rfl, _, _, rfl, rfl, rfl, some (.int (0 + (i : Int))), ?_⟩
      rw [List.range_succ, List.map_append, List.foldl_append]
      simp [spread1]
    · obtain ⟨rfl, k3, rfl⟩ := hW
      exact ⟨_, rfl, q⟩
theorem rd_item {σ : L2.St} {H : Hp} {Q : VK} {a : Addr} {xs : List V} {j : Nat} {v : V} (i : Int) (h0 : σ[0]? = some (some (.ref a))) (ha : H a = some (.lst xs)) (hi : i = (j : Int)) (hk : xs[j]? = some v) (q : Q v H) : tOp (rIxL K) (tVar 0) (tC (.int i)) σ H Q := by
  subst hi
  exact ⟨.ref a, h0, a, xs, j, v, rfl, rfl, .inl (.inl ha), atI_nat hk, q⟩
theorem seq_two {t u : TS} {E : Ends} {σ : L2.St} {H : Hp} (P : L2.St → Hp → Prop) (hu : ∀ σ' H', P σ' H' → u E σ' H') (ht : (∀ σ' H', P σ' H' → u E σ' H') → t { E with nx := u E } σ H) : tSeq t u E σ H := ht hu
theorem ok_draw (F : FnP K "_law_draw" s_draw f fd) (F2 : FnP K "_law_spread" s_spread f2 fd2) (g2 : mg "_law_spread" = some (.ref f2)) (mi : mg "int" = none) (mr : mg "range" = none) (ml : mg "len" = none) : FnOk P w K mg base (L2.CX P w) 2 f fd ["pool", "many"] (spD K mg 2 F_draw) := by
  have GS : FnOk P w K mg base (L2.CX P w) 1 f2 fd2 ["cell"] spSpread := ok_spread F2 mi mr
  have bS : Binds K fd2 ["cell"] [] := F2.bindsN fun _ _ _ _ _ _ us hl => match us, hl with | [_], _ => rfl
  refine F.ok sc_draw (fun vs H Q E h => h.1) (fun cdv A outer s H vs Q E hr h => ?_)
  obtain ⟨hl, p, sc, Z, q, as, pl, nz, ar, hp⟩ := h
  refine ⟨_, PSs.nox (pss_cons (ps_if (PW.pt (pw_and (pt_cmpR op_le (pe_ix ix_list (pv 0) pe_int (fun _ _ => rfl)) pe_int (nomark _)) (pw_and1 (pt_cmpR op_lt (pe_ix ix_list (pv 0) pe_int (fun _ _ => rfl)) (pe_callB call_len_seq (by rfl) ml boot_len (pa_cons (pe_ix ix_list (pv 0) pe_int (fun _ _ => rfl)) pa_nil)) (nomark _)))))
      (pss_cons (ps_set (i := 2) sc_draw.nd rfl (.inl rfl) (pe_ix ix_list (pe_ix ix_list (pv 0) pe_int (fun _ _ => rfl)) (pe_ix ix_list (pv 0) pe_int (fun _ _ => rfl)) (fun _ _ => rfl)))
      (pss_cons (ps_asg (pe_op op_add (pe_ix ix_list (pv 0) pe_int (fun _ _ => rfl)) pe_int) (pg_sub (pv 0) pe_int set_list))
      (pss_cons (ps_asg (pv 2) (pg_sub (pv 0) pe_int set_list))
      (pss_one (ps_if (pt_cmpR op_lt (pv 2) pe_int (nomark _)) (pss_one (ps_asg (pe_call GS hr (by rfl) g2 F2.kp bS .nil passL (pa_cons (pv 2) pa_nil)) (pg_sub (pv 0) pe_int set_list))) pss_nil))))) pss_nil)
    (pss_cons (ps_asg (pe_op op_add (pe_ix ix_list (pv 0) pe_int (fun _ _ => rfl)) pe_int) (pg_sub (pv 0) pe_int set_list))
    (pss_cons (ps_if (pt_cmpR op_le (pe_ix ix_list (pv 0) pe_int (fun _ _ => rfl)) pe_int (nomark _))
      (pss_cons (ps_set (i := 3) sc_draw.nd rfl (.inl rfl) (pe_op op_mod (pe_callTy call_int1 (by rfl) mi boot_int (pa_cons (pe_op op_add (pe_op op_add (pe_op op_mul (pe_ix ix_list (pv 0) pe_int (fun _ _ => rfl)) pe_int) (pe_op op_mul (pe_ix ix_list (pv 0) pe_int (fun _ _ => rfl)) pe_int)) pe_int) pa_nil)) pe_int))
      (pss_cons (ps_set (i := 3) sc_draw.nd rfl (.inl rfl) (pe_op op_mod (pe_callTy call_int1 (by rfl) mi boot_int (pa_cons (pe_op op_add (pe_op op_mul (pv 3) pe_int) (pe_ix ix_list (pv 0) pe_int (fun _ _ => rfl))) pa_nil)) pe_int))
      (pss_one (ps_ret (pe_op op_mod (pe_op op_fdiv (pv 3) pe_int) (pv 1)))))) pss_nil)
    (pss_cons (ps_set (i := 4) sc_draw.nd rfl (.inl rfl) (pe_op op_mod (pe_callTy call_int1 (by rfl) mi boot_int (pa_cons (pe_ix ix_list (pv 0) pe_int (fun _ _ => rfl)) pa_nil)) (pv 1)))
    (pss_cons (ps_asg (pe_op op_fdivW (pe_ix ix_list (pv 0) pe_int (fun _ _ => rfl)) (pv 1)) (pg_sub (pv 0) pe_int set_list))
    (pss_one (ps_ret (pv 4)))))))), ?_⟩
  have hla : as.length = 2 := by rw [← ArgR.length ar]; exact hl
  obtain ⟨a1, a2, rfl⟩ : ∃ a1 a2, as = [a1, a2] := by
    match as, hla with
    | [a1, a2], _ => exact ⟨a1, a2, rfl⟩
  obtain ⟨v1, v2, rfl⟩ : ∃ v1 v2, vs = [v1, v2] := by
    match vs, hl with
    | [a1, a2], _ => exact ⟨a1, a2, rfl⟩
  cases a1 with
  | d x => exact hp.elim
  | pool =>
    cases a2 with
    | pool => exact hp.elim
    | d x =>
      obtain ⟨rfl, rx, _⟩ := ar
      cases rx with
      | int many =>
        by_cases hm : 0 < many ∧ many < 2 ^ 2000
        case neg =>
          have z : F_draw [.pool, .d (.int many)] q = .stuck := by
            show drawF many q = _
            unfold drawF
            rw [if_neg hm]
          rw [z] at hp
          exact hp.elim
        have hpos : (0 : Int) < many := hm.1
        obtain ⟨hP, hS, hne, hT⟩ := pl
        have c1 : -(2 ^ 64) < (48271 : Int) ∧ (48271 : Int) < 2 ^ 64 := by decide
        have c2 : -(2 ^ 64) < (69621 : Int) ∧ (69621 : Int) < 2 ^ 64 := by decide
        have c3 : -(2 ^ 64) < (16807 : Int) ∧ (16807 : Int) < 2 ^ 64 := by decide
        refine seq_two (fun σ' H' => ∃ x2, σ' = [some (.ref p), some (.int many), x2, none, none] ∧ Keep p H H' ∧ PoolAt p sc H' (takeCell q)) (fun σ' H' hW => ?_) fun rest => ?_
        · -- behind the taking of a cell
          obtain ⟨x2, rfl, kp, hP', hS', _, hT'⟩ := hW
          generalize hq1 : takeCell q = q1 at hP' hS'
          refine rd_item 3 rfl hP' (j := 3) rfl rfl ⟨_, _, rfl, rfl, .ref p, rfl, p, _, 3, 3, rfl, rfl, hP', rfl, ?_⟩
          have kp2 : ∀ o, Keep p H (upd H' p o) := fun o b u hb e => by rw [upd_ne hb]; exact kp b u hb e
          generalize hH2 : upd H' p (HO.lst (([.ref sc, .int (q1.i : Int), .int q1.c, .int q1.n, .int q1.salt] : List V).set 3 (.int (q1.n + 1)))) = H2
          have e2 : H2 p = some (.lst [.ref sc, .int (q1.i : Int), .int q1.c, .int (q1.n + 1), .int q1.salt]) := by rw [← hH2]; exact upd_same
          have e3 : H2 sc = some (.lst (q1.script.map V.int)) := by rw [← hH2, upd_ne hne]; exact hS'
          have k2 : Keep p H H2 := by rw [← hH2]; exact kp2 _
          have hT2 : LamX.Tabs TABS H2 := by rw [← hH2]; exact tabs_upd hT' (lst_t hP')
          have dr : drawF many q = (if q1.c ≤ 0 then .ok (.int (mixF (tick q1) / 5 % many)) (tick q1) else .ok (.int (q1.c % many)) { tick q1 with c := q1.c / many }) := by
            unfold drawF
            rw [if_pos hm, hq1]
            rfl
          have hp' : Post mg p sc H (fun H' v d => Rp K (Zn Z H) H' v d) (fun c od H' => E c od H') Q (drawF many q) := hp
          rw [dr] at hp'
          refine rd_item 2 rfl e2 (j := 2) rfl rfl ⟨_, _, rfl, rfl, _, rfl, ?_⟩
          by_cases hc : q1.c ≤ 0
          · rw [if_pos hc] at hp'
            rw [decide_eq_true hc]
            refine rd_item 4 rfl e2 (j := 4) rfl rfl ⟨_, _, rfl, rfl, .inr c1, rd_item 3 rfl e2 (j := 3) rfl rfl ⟨_, _, rfl, rfl, .inr c2, _, _, rfl, rfl, _, _, rfl, rfl, .inl ⟨_, rfl, _, _, rfl, rfl, (show (0 : Int) < 2147483647 by decide), ?_⟩⟩⟩
            refine ⟨_, rfl, _, _, rfl, rfl, .inr c3, rd_item 3 rfl e2 (j := 3) rfl rfl ⟨_, _, rfl, rfl, .inl ⟨_, rfl, _, _, rfl, rfl, (show (0 : Int) < 2147483629 by decide), ?_⟩⟩⟩
            refine ⟨_, rfl, _, _, rfl, rfl, (show (0 : Int) < 5 ∧ (5 : Int) < 1073741824 by decide), _, rfl, _, _, rfl, rfl, hpos, ?_⟩
            exact hp' _ H2 k2 ⟨e2, e3, hne, hT2⟩ (.int _)
          · rw [if_neg hc] at hp'
            rw [decide_eq_false hc]
            refine rd_item 2 rfl e2 (j := 2) rfl rfl (.inl ⟨_, rfl, _, rfl, _, _, rfl, rfl, hpos, ?_⟩)
            refine rd_item 2 rfl e2 (j := 2) rfl rfl ⟨_, rfl, _, _, rfl, rfl, div_small hpos hm.2, .ref p, rfl, p, _, 2, 2, rfl, rfl, e2, rfl, ?_⟩
            refine ⟨_, rfl, hp' _ _ (fun b u hb e => by rw [upd_ne hb]; exact k2 b u hb e) ⟨upd_same, by rw [upd_ne hne]; exact e3, hne, tabs_upd hT2 (lst_t e2)⟩ (.int _)⟩
        · refine rd_item 2 rfl hP (j := 2) rfl rfl ⟨_, _, rfl, rfl, _, rfl, ?_⟩
          by_cases hc : q.c ≤ 0
          · rw [decide_eq_true hc]
            refine rd_item 1 rfl hP (j := 1) rfl rfl (rd_item 0 rfl hP (j := 0) rfl rfl ⟨sc, _, rfl, .inl (.inl (.inl hS)), _, _, rfl, rfl, _, rfl, ?_⟩)
            by_cases hi : q.i < q.script.length
            · have et : decide ((q.i : Int) < ((q.script.map V.int).length : Int)) = true := decide_eq_true (by rw [List.length_map]; omega)
              rw [et]
              have ecell : q.script[q.i]? = some q.script[q.i] := List.getElem?_eq_getElem hi
              generalize q.script[q.i] = cell at ecell
              have etk : takeCell q = { q with i := q.i + 1, c := if cell < 1000000000000000000 then spreadF cell else cell } := by unfold takeCell; rw [if_pos hc, ecell]
              refine rd_item 0 rfl hP (j := 0) rfl rfl (rd_item 1 rfl hP (j := 1) rfl rfl ⟨sc, _, _, .int cell, rfl, rfl, .inl (.inl hS), atI_nat (by rw [List.getElem?_map, ecell]; rfl), ?_⟩)
              refine rd_item 1 rfl hP (j := 1) rfl rfl ⟨_, _, rfl, rfl, .ref p, rfl, p, _, 1, 1, rfl, rfl, hP, rfl, ?_⟩
              refine ⟨_, rfl, .ref p, rfl, p, _, 2, 2, rfl, rfl, upd_same, rfl, ?_⟩
              rw [upd_upd]
              refine ⟨_, rfl, _, _, rfl, rfl, _, rfl, ?_⟩
              by_cases hs : cell < 1000000000000000000
              · rw [decide_eq_true hs]
                refine ⟨_, rfl, cell, rfl, .ref p, rfl, p, _, 2, 2, rfl, rfl, upd_same, rfl, ?_⟩
                rw [upd_upd]
                refine rest _ _ ⟨some (.int cell), rfl, fun b u hb e => by rw [upd_ne hb]; exact .inl e, ?_⟩
                rw [etk, if_pos hs]
                exact ⟨upd_same, by rw [upd_ne hne]; exact hS, hne, tabs_upd hT (lst_t hP)⟩
              · rw [decide_eq_false hs]
                refine rest _ _ ⟨some (.int cell), rfl, fun b u hb e => by rw [upd_ne hb]; exact .inl e, ?_⟩
                rw [etk, if_neg hs]
                exact ⟨upd_same, by rw [upd_ne hne]; exact hS, hne, tabs_upd hT (lst_t hP)⟩
            · have et : decide ((q.i : Int) < ((q.script.map V.int).length : Int)) = false := decide_eq_false (by rw [List.length_map]; omega)
              rw [et]
              have e : takeCell q = q := by unfold takeCell; rw [if_pos hc, List.getElem?_eq_none (by omega)]
              exact rest _ _ ⟨none, rfl, Keep.refl _ _, by rw [e]; exact ⟨hP, hS, hne, hT⟩⟩
          · rw [decide_eq_false hc]
            have e : takeCell q = q := by unfold takeCell; rw [if_neg hc]
            exact rest _ _ ⟨none, rfl, Keep.refl _ _, by rw [e]; exact ⟨hP, hS, hne, hT⟩⟩
      | _ => exact hp.elim
def spPool (K : PySem.W.Frag) : Sp := fun vs H Q _ => ∃ (a : Addr) (ns : List Int), vs = [.ref a] ∧ SqL K H a (ns.map V.int) ∧ LamX.Tabs TABS H ∧ ∀ p sc H' salt, Same H H' → PoolAt p sc H' ⟨ns, 0, 0, 0, salt⟩ → H p = none → Q (.ref p) H'
theorem cut_ints {ns : List Int} {lo hi : Option Int} {x : V} (h : x ∈ cutV (ns.map V.int) lo hi) : ∃ i, x = .int i := by
  unfold cutV at h
  have z := List.mem_of_mem_drop (List.mem_of_mem_take h)
  obtain ⟨i, _, e⟩ := List.mem_map.mp z
  exact ⟨i, e.symm⟩
theorem ok_pool (F : FnP K "_law_pool" s_pool f fd) (mi : mg "int" = none) (mt : mg "list" = none) : FnOk P w K mg base (L2.CX P w) 1 f fd ["script"] (spPool K) := by
  refine F.ok sc_pool (fun vs H Q E h => ?_) (fun cdv A outer s H vs Q E hr h => ?_)
  · obtain ⟨a, ns, rfl, _⟩ := h
    rfl
  obtain ⟨a, ns, rfl, hS, hTab, hq⟩ := h
  refine ⟨_, PSs.nox (pss_cons (ps_set (i := 1) sc_pool.nd rfl (.inl rfl) pe_int)
    (pss_cons (ps_for PassesOwn.never rfl (pi_list (pe_slice sl_list (pv 0) po_none (po_some pe_int))) (pg_name (i := 2) sc_pool.nd rfl (.inl rfl))
      (pss_one (ps_set (i := 1) sc_pool.nd rfl (.inl rfl) (pe_op op_mod (pe_callTy call_int1 (by rfl) mi boot_int (pa_cons (pe_op op_add (pe_op op_mul (pv 1) pe_int) (pv 2)) pa_nil)) pe_int))))
    (pss_one (ps_ret (pe_lst (pa_cons (pe_callTy call_list_of (by rfl) mt boot_list (pa_cons (pv 0) pa_nil)) (pa_cons pe_int (pa_cons pe_int (pa_cons pe_int (pa_cons (pv 1) pa_nil)))))))))), ?_⟩
  refine ⟨.ref a, rfl, 63, rfl, a, _, rfl, hS, fun c hc => ⟨c, rfl, ⟨_, .inl (.inl upd_same)⟩, ?_⟩⟩
  have sm : Same H (upd H c (.lst (cutV (ns.map V.int) none (some 63)))) := fun b u e => by rw [upd_ne (ne_of_none e hc)]; exact e
  have hcc : upd H c (.lst (cutV (ns.map V.int) none (some 63))) c = some (.lst (cutV (ns.map V.int) none (some 63))) := upd_same
  generalize upd H c (.lst (cutV (ns.map V.int) none (some 63))) = H1 at sm hcc
  refine for_list (xs := cutV (ns.map V.int) none (some 63)) (fun i σ H' => H' = H1 ∧ ∃ salt x2, σ = [some (.ref a), some (.int salt), x2]) ⟨rfl, _, _, rfl⟩ (fun i σ H' _ hW => by rw [hW.1]; exact .inl (.inl hcc)) (fun i x σ H' hx hW => ?_) (fun σ H' hW => ?_)
  · obtain ⟨rfl, salt, x2, rfl⟩ := hW
    obtain ⟨n, rfl⟩ := cut_ints (List.mem_of_getElem? hx)
    refine ⟨_, rfl, _, _, rfl, rfl, .inr (show -(2 ^ 64) < (31 : Int) ∧ (31 : Int) < 2 ^ 64 by decide), _, rfl, _, _, rfl, rfl, .inl ⟨_, rfl, _, _, rfl, rfl, (show (0 : Int) < 1000003 by decide), rfl, _, _, rfl⟩⟩
  · obtain ⟨rfl, salt, x2, rfl⟩ := hW
    refine ⟨_, rfl, a, _, rfl, .inl (sm.seq hS), fun l hl => ⟨_, rfl, (show (5 : Nat) ≤ 2 ^ 24 by decide), fun p hp => ?_⟩⟩
    have nlp : l ≠ p := fun e => by rw [← e, upd_same] at hp; cases hp
    have sm2 : Same H' (upd H' l (.lst (ns.map V.int))) := fun b u e => by rw [upd_ne (ne_of_none e hl)]; exact e
    have sm3 : ∀ o, Same (upd H' l (.lst (ns.map V.int))) (upd (upd H' l (.lst (ns.map V.int))) p o) := fun o b u e => by rw [upd_ne (ne_of_none e hp)]; exact e
    have z := hq p l _ salt (sm.trans (sm2.trans (sm3 _))) ⟨upd_same, by rw [upd_ne nlp]; exact upd_same, nlp, hTab.ext (sm.trans (sm2.trans (sm3 _)))⟩ (sm.free (sm2.free hp))
    exact z
end
structure Txt (K : PySem.W.Frag) (mg : Str → Option Value) : Prop where
  n_all : mg "all" = none
  n_any : mg "any" = none
  n_bool : mg "bool" = none
  n_int : mg "int" = none
  n_isinstance : mg "isinstance" = none
  n_len : mg "len" = none
  n_list : mg "list" = none
  n_range : mg "range" = none
  n_repr : mg "repr" = none
  n_reversed : mg "reversed" = none
  n_set : mg "set" = none
  n_sorted : mg "sorted" = none
  n_str : mg "str" = none
  n_tuple : mg "tuple" = none
noncomputable section
variable {P : Program} {w : World} {K : PySem.W.Frag} {mg : Str → Option Value} {base : Heap} {f : Addr} {fd : FuncData}
abbrev s_is_whole : Stmt := topS 1
abbrev N_is_whole : List Str := ["value"]
theorem sc_is_whole : FnScope N_is_whole ["value"] (defScope s_is_whole) := ⟨rfl, rfl, rfl, by decide +kernel, rfl, by decide +kernel, by decide +kernel⟩
def F_is_whole : List Arg → M D := fnD 1 1 ((sRet (dAnd (dUn bIsInt (dVar 0)) (dNot (dUn bIsBool (dVar 0))))))
theorem ok_is_whole (T : Txt K mg) (F : FnP K "is_whole" s_is_whole f fd) (mx : mg "is_whole" = some (.ref f)) : Ok P w K mg base 1 "is_whole" F_is_whole :=
  okMk F.kp mx (F.bindsN fun _ _ _ _ _ _ us hl => match us, hl with | [_], _ => rfl) fnD_len (fn_okB (N := N_is_whole) (k := 0) F sc_is_whole fun cdv A outer s H E hr => by
    have sc := sc_is_whole
    exact (sd_one (sd_ret (pd_and (pd_isi_int (by rfl) T.n_isinstance (by rfl) T.n_int (pd_var 0)) (pd_one (pd_not (pd_isi_bool (by rfl) T.n_isinstance (by rfl) T.n_bool (pd_var 0))))))))
abbrev s_is_from : Stmt := topS 2
abbrev N_is_from : List Str := ["value", "low", "high"]
theorem sc_is_from : FnScope N_is_from ["value", "low", "high"] (defScope s_is_from) := ⟨rfl, rfl, rfl, by decide +kernel, rfl, by decide +kernel, by decide +kernel⟩
def F_is_from : List Arg → M D := fnD 3 3 ((sRet (dAnd (dCall F_is_whole [(aD (dVar 0))]) (dChain oLe oLe (dVar 1) (dVar 0) (dVar 2)))))
theorem ok_is_from (T : Txt K mg) (F : FnP K "is_from" s_is_from f fd) (mx : mg "is_from" = some (.ref f)) (g_is_whole : Ok P w K mg base 1 "is_whole" F_is_whole) : Ok P w K mg base 2 "is_from" F_is_from :=
  okMk F.kp mx (F.bindsN fun _ _ _ _ _ _ us hl => match us, hl with | [_, _, _], _ => rfl) fnD_len (fn_okB (N := N_is_from) (k := 1) F sc_is_from fun cdv A outer s H E hr => by
    have sc := sc_is_from
    exact (sd_one (sd_ret (pd_and (pd_call (takes_of rfl rfl rfl rfl) (g_is_whole.fnd hr) (by rfl) (pda_d (pd_var 0) pda_nil)) (pd_one (pd_chain opd_le opd_le (pd_var 1) (pd_var 0) (pd_var 2)))))))
abbrev s_rises : Stmt := topS 3
abbrev N_rises : List Str := ["items", "k"]
theorem sc_rises : FnScope N_rises ["items"] (defScope s_rises) := ⟨rfl, rfl, rfl, by decide +kernel, rfl, by decide +kernel, by decide +kernel⟩
def F_rises : List Arg → M D := fnD 1 2 ((sRet (dUn bAll (dComp [1] (iR1 (dBin oSub (dUn bLen (dVar 0)) (dC (.int 1)))) (gN 1) tTrue (dBin oLtD (dBin oIx (dVar 0) (dVar 1)) (dBin oIx (dVar 0) (dBin oAdd (dVar 1) (dC (.int 1)))))))))
theorem ok_rises (T : Txt K mg) (F : FnP K "rises" s_rises f fd) (mx : mg "rises" = some (.ref f)) : Ok P w K mg base 1 "rises" F_rises :=
  okMk F.kp mx (F.bindsN fun _ _ _ _ _ _ us hl => match us, hl with | [_], _ => rfl) fnD_len (fn_okB (N := N_rises) (k := 0) F sc_rises fun cdv A outer s H E hr => by
    have sc := sc_rises
    have hu := roomHu hr
    exact (sd_one (sd_ret (pd_all rfl (by rfl) T.n_all (pde_f (pdf_lc rfl sc.nd (pid_r1 (by rfl) T.n_range (pd_bin opd_sub (pd_len (by rfl) T.n_len (pd_var 0)) pd_int)) (blkOk_by (own := [("k", 1)]) (N := N_rises) (sc := defScope s_rises) (by decide +kernel)) (by decide) (fun _ _ _ _ _ => (gd_name 1 sc.nd)) (fun _ _ _ _ _ => ptsd_nil) (fun _ _ _ _ _ => (pd_cmp (opd_ltD hu) (pd_ix ixd (pd_var 0) (pd_var 1)) (pd_ix ixd (pd_var 0) (pd_bin opd_add (pd_var 1) pd_int)))) (tgok_n 1)))))))
abbrev s_is_rising_row : Stmt := topS 4
abbrev N_is_rising_row : List Str := ["value", "low", "high", "item"]
theorem sc_is_rising_row : FnScope N_is_rising_row ["value", "low", "high"] (defScope s_is_rising_row) := ⟨rfl, rfl, rfl, by decide +kernel, rfl, by decide +kernel, by decide +kernel⟩
def F_is_rising_row : List Arg → M D := fnD 3 4 ((sRet (dAnd (dUn bIsTup (dVar 0)) (dAnd (dUn bAll (dComp [3] (iSeq (dVar 0)) (gN 3) tTrue (dCall F_is_from [(aD (dVar 3)), (aD (dVar 1)), (aD (dVar 2))]))) (dCall F_rises [(aD (dVar 0))])))))
theorem ok_is_rising_row (T : Txt K mg) (F : FnP K "is_rising_row" s_is_rising_row f fd) (mx : mg "is_rising_row" = some (.ref f)) (g_is_from : Ok P w K mg base 2 "is_from" F_is_from) (g_rises : Ok P w K mg base 1 "rises" F_rises) : Ok P w K mg base 3 "is_rising_row" F_is_rising_row :=
  okMk F.kp mx (F.bindsN fun _ _ _ _ _ _ us hl => match us, hl with | [_, _, _], _ => rfl) fnD_len (fn_okB (N := N_is_rising_row) (k := 2) F sc_is_rising_row fun cdv A outer s H E hr => by
    have sc := sc_is_rising_row
    exact (sd_one (sd_ret (pd_and (pd_isi_tup (by rfl) T.n_isinstance (by rfl) T.n_tuple (pd_var 0)) (pd_and (pd_all rfl (by rfl) T.n_all (pde_f (pdf_lc rfl sc.nd (pid_seq (pd_var 0)) (blkOk_by (own := [("item", 3)]) (N := N_is_rising_row) (sc := defScope s_is_rising_row) (by decide +kernel)) (by decide) (fun _ _ _ _ _ => (gd_name 3 sc.nd)) (fun _ _ _ _ _ => ptsd_nil) (fun _ _ _ _ _ => (pd_call takes0 (g_is_from.fnd hr) (by rfl) (pda_d (pd_var 3) (pda_d (pd_var 1) (pda_d (pd_var 2) pda_nil))))) (tgok_n 3)))) (pd_one (pd_call (takes_of rfl rfl rfl rfl) (g_rises.fnd hr) (by rfl) (pda_d (pd_var 0) pda_nil))))))))
abbrev s_is_named : Stmt := topS 5
abbrev N_is_named : List Str := ["value", "word", "many"]
theorem sc_is_named : FnScope N_is_named ["value", "word", "many"] (defScope s_is_named) := ⟨rfl, rfl, rfl, by decide +kernel, rfl, by decide +kernel, by decide +kernel⟩
def F_is_named : List Arg → M D := fnD 3 3 ((sRet (dAnd (dUn bIsTup (dVar 0)) (dAnd (dBin oEq (dUn bLen (dVar 0)) (dVar 2)) (dAnd (dUn bIsStr (dBin oIx (dVar 0) (dC (.int 0)))) (dBin oEq (dBin oIx (dVar 0) (dC (.int 0))) (dVar 1)))))))
theorem ok_is_named (T : Txt K mg) (F : FnP K "is_named" s_is_named f fd) (mx : mg "is_named" = some (.ref f)) : Ok P w K mg base 1 "is_named" F_is_named :=
  okMk F.kp mx (F.bindsN fun _ _ _ _ _ _ us hl => match us, hl with | [_, _, _], _ => rfl) fnD_len (fn_okB (N := N_is_named) (k := 0) F sc_is_named fun cdv A outer s H E hr => by
    have sc := sc_is_named
    have hu := roomHu hr
    exact (sd_one (sd_ret (pd_and (pd_isi_tup (by rfl) T.n_isinstance (by rfl) T.n_tuple (pd_var 0)) (pd_and (pd_cmp (opd_eq hu) (pd_len (by rfl) T.n_len (pd_var 0)) (pd_var 2)) (pd_and (pd_isi_str (by rfl) T.n_isinstance (by rfl) T.n_str (pd_ix ixd (pd_var 0) pd_int)) (pd_one (pd_cmp (opd_eq hu) (pd_ix ixd (pd_var 0) pd_int) (pd_var 1)))))))))
abbrev s_joined : Stmt := topS 7
abbrev N_joined : List Str := ["cables", "net", "start", "found", "at", "place", "a", "b", "_"]
theorem sc_joined : FnScope N_joined ["cables", "net", "start"] (defScope s_joined) := ⟨rfl, rfl, rfl, by decide +kernel, rfl, by decide +kernel, by decide +kernel⟩
def F_joined : List Arg → M D := fnD 3 9 ((sSeq (sOwn 3 (dLst [(dVar 2)]))
  (sSeq (sAsg (gN 4) (dC (.int 0)))
  (sSeq (sWhile fuelW (tOf (dBin oLt (dVar 4) (dUn bLen (dVar 3)))) (sSeq (sFor (iSeq (dVar 1)) (gN 5) (sSeq (sAsg (gT [(gN 6), (gN 7), (gN 8)]) (dBin oIx (dBin oIx (dVar 0) (dC (.int 1))) (dVar 5)))
  (sIf (tAnd (tOf (dBin oIn (dBin oIx (dVar 3) (dVar 4)) (dTup [(dVar 6), (dVar 7)]))) (tOf (dBin oNotIn (dBin oSub (dBin oAdd (dVar 6) (dVar 7)) (dBin oIx (dVar 3) (dVar 4))) (dVar 3)))) (sAppF 3 (dBin oSub (dBin oAdd (dVar 6) (dVar 7)) (dBin oIx (dVar 3) (dVar 4)))) sNil)))
  (sAugA 4 (dC (.int 1)))))
  (sRet (dUn bTuple (dUn bSorted (dVar 3))))))))
theorem ok_joined (T : Txt K mg) (F : FnP K "joined" s_joined f fd) (mx : mg "joined" = some (.ref f)) : Ok P w K mg base 1 "joined" F_joined :=
  okMk F.kp mx (F.bindsN fun _ _ _ _ _ _ us hl => match us, hl with | [_, _, _], _ => rfl) fnD_len (fn_okB (N := N_joined) (k := 0) F sc_joined fun cdv A outer s H E hr => by
    have sc := sc_joined
    have hu := roomHu hr
    exact (sd_cons (sd_own (i := 3) sc.nd (pdf_lst (pdl_cons (pd_var 2) pdl_nil)))
       (sd_cons (sd_asg (i := 4) sc.nd pd_int)
       (sd_cons (sd_while (passes_of rfl) (pdt_cmp opd_lt (pd_var 4) (pd_len (by rfl) T.n_len (pd_var 3))) (sd_cons (sd_for (passes_of rfl) rfl (pid_seq (pd_var 1)) (gd_name 5 sc.nd) (sd_cons (sd_tgt (pd_ix ixd (pd_ix ixd (pd_var 0) pd_int) (pd_var 5)) (gd_tup rfl (gds_cons (gd_name 6 sc.nd) (gds_cons (gd_name 7 sc.nd) (gds_cons (gd_name 8 sc.nd) gds_nil)))))
       (sd_one (sd_if (pdt_w (pdw_and (pdt_cmp (opd_in hu) (pd_ix ixd (pd_var 3) (pd_var 4)) (pd_tup (pdl_cons (pd_var 6) (pdl_cons (pd_var 7) pdl_nil))) (by rfl)) (pdw_and1 (pdt_cmp (opd_notin hu) (pd_bin opd_sub (pd_bin opd_add (pd_var 6) (pd_var 7)) (pd_ix ixd (pd_var 3) (pd_var 4))) (pd_var 3) (by rfl))))) (sd_one (sd_app (i := 3) (pd_bin opd_sub (pd_bin opd_add (pd_var 6) (pd_var 7)) (pd_ix ixd (pd_var 3) (pd_var 4)))).2) sd_nil))))
       (sd_one (sd_aug (i := 4) sc.nd pd_int))))
       (sd_one (sd_ret (pd_tuple (by rfl) T.n_tuple (pde_f (pdf_sorted hu (by rfl) T.n_sorted (pd_var 3))))))))))
abbrev s_is_net : Stmt := topS 8
abbrev N_is_net : List Str := ["cables", "value"]
theorem sc_is_net : FnScope N_is_net ["cables", "value"] (defScope s_is_net) := ⟨rfl, rfl, rfl, by decide +kernel, rfl, by decide +kernel, by decide +kernel⟩
def F_is_net : List Arg → M D := fnD 2 2 ((sSeq (sIf (tOr (tNot (tOf (dCall F_is_rising_row [(aD (dVar 1)), (aD (dC (.int 0))), (aD (dBin oSub (dUn bLen (dBin oIx (dVar 0) (dC (.int 1)))) (dC (.int 1))))]))) (tOf (dBin oNe (dUn bLen (dVar 1)) (dBin oSub (dBin oIx (dVar 0) (dC (.int 0))) (dC (.int 1)))))) (sRet (dC (.bool false))) sNil)
  (sRet (dBin oEq (dUn bLen (dCall F_joined [(aD (dVar 0)), (aD (dVar 1)), (aD (dC (.int 0)))])) (dBin oIx (dVar 0) (dC (.int 0)))))))
theorem ok_is_net (T : Txt K mg) (F : FnP K "is_net" s_is_net f fd) (mx : mg "is_net" = some (.ref f)) (g_is_rising_row : Ok P w K mg base 3 "is_rising_row" F_is_rising_row) (g_joined : Ok P w K mg base 1 "joined" F_joined) : Ok P w K mg base 4 "is_net" F_is_net :=
  okMk F.kp mx (F.bindsN fun _ _ _ _ _ _ us hl => match us, hl with | [_, _], _ => rfl) fnD_len (fn_okB (N := N_is_net) (k := 3) F sc_is_net fun cdv A outer s H E hr => by
    have sc := sc_is_net
    have hu := roomHu hr
    exact (sd_cons (sd_if (pdt_w (pdw_or (pdt_not (pdt_val (pd_call (takes_of rfl rfl rfl rfl) (g_is_rising_row.fnd hr) (by rfl) (pda_d (pd_var 1) (pda_d pd_int (pda_d (pd_bin opd_sub (pd_len (by rfl) T.n_len (pd_ix ixd (pd_var 0) pd_int)) pd_int) pda_nil)))))) (pdw_or1 (pdt_cmp (opd_ne hu) (pd_len (by rfl) T.n_len (pd_var 1)) (pd_bin opd_sub (pd_ix ixd (pd_var 0) pd_int) pd_int))))) (sd_one (sd_ret pd_bl)) sd_nil)
       (sd_one (sd_ret (pd_cmp (opd_eq hu) (pd_len (by rfl) T.n_len (pd_call (takes_of rfl rfl rfl rfl) (g_joined.fnd hr) (by rfl) (pda_d (pd_var 0) (pda_d (pd_var 1) (pda_d pd_int pda_nil))))) (pd_ix ixd (pd_var 0) pd_int))))))
abbrev s_way_between : Stmt := topS 9
abbrev N_way_between : List Str := ["cables", "net", "a", "b", "ways", "waiting", "here", "place", "one", "two", "_"]
theorem sc_way_between : FnScope N_way_between ["cables", "net", "a", "b"] (defScope s_way_between) := ⟨rfl, rfl, rfl, by decide +kernel, rfl, by decide +kernel, by decide +kernel⟩
def F_way_between : List Arg → M D := fnD 4 11 ((sSeq (sOwnD 4 (dDis1 (dVar 2) (dLst [])))
  (sSeq (sOwn 5 (dLst [(dVar 2)]))
  (sSeq (sWhile fuelW (tOf (dBin oGt (dUn bLen (dVar 5)) (dC (.int 0)))) (sSeq (sPop 6 5)
  (sFor (iSeq (dVar 1)) (gN 7) (sSeq (sAsg (gT [(gN 8), (gN 9), (gN 10)]) (dBin oIx (dBin oIx (dVar 0) (dC (.int 1))) (dVar 7)))
  (sIf (tAnd (tOf (dBin oIn (dVar 6) (dTup [(dVar 8), (dVar 9)]))) (tOf (dBin oNotInD (dBin oSub (dBin oAdd (dVar 8) (dVar 9)) (dVar 6)) (dVar 4)))) (sSeq (sDPutN 4 (dBin oSub (dBin oAdd (dVar 8) (dVar 9)) (dVar 6)) (dBin oCat (dBin oDGet (dVar 4) (dVar 6)) (dLst [(dVar 7)])))
  (sApp 5 (dBin oSub (dBin oAdd (dVar 8) (dVar 9)) (dVar 6)))) sNil)))))
  (sRet (dBin oDGet (dVar 4) (dVar 3)))))))
theorem ok_way_between (T : Txt K mg) (F : FnP K "way_between" s_way_between f fd) (mx : mg "way_between" = some (.ref f)) : Ok P w K mg base 1 "way_between" F_way_between :=
  okMk F.kp mx (F.bindsN fun _ _ _ _ _ _ us hl => match us, hl with | [_, _, _, _], _ => rfl) fnD_len (fn_okB (N := N_way_between) (k := 0) F sc_way_between fun cdv A outer s H E hr => by
    have sc := sc_way_between
    have hu := roomHu hr
    exact (sd_cons (sd_ownD (i := 4) sc.nd (pdg_one (pd_var 2) (pde_f (pdf_lst pdl_nil))))
       (sd_cons (sd_own (i := 5) sc.nd (pdf_lst (pdl_cons (pd_var 2) pdl_nil)))
       (sd_cons (sd_while (passes_of rfl) (pdt_cmp opd_gt (pd_len (by rfl) T.n_len (pd_var 5)) pd_int) (sd_cons (sd_pop (i := 6) (j := 5) (by decide) sc.nd)
       (sd_one (sd_for (passes_of rfl) rfl (pid_seq (pd_var 1)) (gd_name 7 sc.nd) (sd_cons (sd_tgt (pd_ix ixd (pd_ix ixd (pd_var 0) pd_int) (pd_var 7)) (gd_tup rfl (gds_cons (gd_name 8 sc.nd) (gds_cons (gd_name 9 sc.nd) (gds_cons (gd_name 10 sc.nd) gds_nil)))))
       (sd_one (sd_if (pdt_w (pdw_and (pdt_cmp (opd_in hu) (pd_var 6) (pd_tup (pdl_cons (pd_var 8) (pdl_cons (pd_var 9) pdl_nil))) (by rfl)) (pdw_and1 (pdt_cmp (opd_notinD hu) (pd_bin opd_sub (pd_bin opd_add (pd_var 8) (pd_var 9)) (pd_var 6)) (pd_var 4) (by rfl))))) (sd_cons (sd_dputN (i := 4) hu (pdf_cat (pd_dget hu (pd_var 4) (pd_var 6)) (pde_f (pdf_lst (pdl_cons (pd_var 7) pdl_nil)))) (pd_bin opd_sub (pd_bin opd_add (pd_var 8) (pd_var 9)) (pd_var 6)))
       (sd_one (sd_app (i := 5) (pd_bin opd_sub (pd_bin opd_add (pd_var 8) (pd_var 9)) (pd_var 6))).1)) sd_nil)))))))
       (sd_one (sd_ret (pd_dget hu (pd_var 4) (pd_var 3))))))))
abbrev s_least_net : Stmt := topS 10
abbrev N_least_net : List Str := ["cables", "net", "order", "_", "place", "a", "b"]
theorem sc_least_net : FnScope N_least_net ["cables"] (defScope s_least_net) := ⟨rfl, rfl, rfl, by decide +kernel, rfl, by decide +kernel, by decide +kernel⟩
def F_least_net : List Arg → M D := fnD 1 7 ((sSeq (sOwn 1 (dLst []))
  (sSeq (sAsg (gN 2) (dUn bSorted (dComp [4] (iR1 (dUn bLen (dBin oIx (dVar 0) (dC (.int 1))))) (gN 4) tTrue (dTup [(dBin oIx (dBin oIx (dBin oIx (dVar 0) (dC (.int 1))) (dVar 4)) (dC (.int 2))), (dVar 4)]))))
  (sSeq (sFor (iSeq (dVar 2)) (gT [(gN 3), (gN 4)]) (sSeq (sAsg (gT [(gN 5), (gN 6), (gN 3)]) (dBin oIx (dBin oIx (dVar 0) (dC (.int 1))) (dVar 4)))
  (sIf (tOf (dBin oNotIn (dVar 6) (dCall F_joined [(aD (dVar 0)), (aD (dVar 1)), (aD (dVar 5))]))) (sApp 1 (dVar 4)) sNil)))
  (sRet (dUn bTuple (dUn bSorted (dVar 1))))))))
theorem ok_least_net (T : Txt K mg) (F : FnP K "least_net" s_least_net f fd) (mx : mg "least_net" = some (.ref f)) (g_joined : Ok P w K mg base 1 "joined" F_joined) : Ok P w K mg base 2 "least_net" F_least_net :=
  okMk F.kp mx (F.bindsN fun _ _ _ _ _ _ us hl => match us, hl with | [_], _ => rfl) fnD_len (fn_okB (N := N_least_net) (k := 1) F sc_least_net fun cdv A outer s H E hr => by
    have sc := sc_least_net
    have hu := roomHu hr
    exact (sd_cons (sd_own (i := 1) sc.nd (pdf_lst pdl_nil))
       (sd_cons (sd_asg (i := 2) sc.nd (pde_f (pdf_sorted hu (by rfl) T.n_sorted (pde_f (pdf_lc rfl sc.nd (pid_r1 (by rfl) T.n_range (pd_len (by rfl) T.n_len (pd_ix ixd (pd_var 0) pd_int))) (blkOk_by (own := [("place", 4)]) (N := N_least_net) (sc := defScope s_least_net) (by decide +kernel)) (by decide) (fun _ _ _ _ _ => (gd_name 4 sc.nd)) (fun _ _ _ _ _ => ptsd_nil) (fun _ _ _ _ _ => (pd_tup (pdl_cons (pd_ix ixd (pd_ix ixd (pd_ix ixd (pd_var 0) pd_int) (pd_var 4)) pd_int) (pdl_cons (pd_var 4) pdl_nil)))) (tgok_n 4))))))
       (sd_cons (sd_for (passes_of rfl) rfl (pid_seq (pd_var 2)) (gd_tup rfl (gds_cons (gd_name 3 sc.nd) (gds_cons (gd_name 4 sc.nd) gds_nil))) (sd_cons (sd_tgt (pd_ix ixd (pd_ix ixd (pd_var 0) pd_int) (pd_var 4)) (gd_tup rfl (gds_cons (gd_name 5 sc.nd) (gds_cons (gd_name 6 sc.nd) (gds_cons (gd_name 3 sc.nd) gds_nil)))))
       (sd_one (sd_if (pdt_cmp (opd_notin hu) (pd_var 6) (pd_call (takes_of rfl rfl rfl rfl) (g_joined.fnd hr) (by rfl) (pda_d (pd_var 0) (pda_d (pd_var 1) (pda_d (pd_var 5) pda_nil)))) (by rfl)) (sd_one (sd_app (i := 1) (pd_var 4)).1) sd_nil))))
       (sd_one (sd_ret (pd_tuple (by rfl) T.n_tuple (pde_f (pdf_sorted hu (by rfl) T.n_sorted (pd_var 1))))))))))
abbrev s_cable_paper : Stmt := topS 11
abbrev N_cable_paper : List Str := ["cables", "net"]
theorem sc_cable_paper : FnScope N_cable_paper ["cables"] (defScope s_cable_paper) := ⟨rfl, rfl, rfl, by decide +kernel, rfl, by decide +kernel, by decide +kernel⟩
def F_cable_paper : List Arg → M D := fnD 1 2 ((sSeq (sAsg (gN 1) (dCall F_least_net [(aD (dVar 0))]))
  (sSeq (sIf (tOf (dBin oEq (dUn bLen (dVar 1)) (dBin oSub (dBin oIx (dVar 0) (dC (.int 0))) (dC (.int 1))))) (sRet (dTup [(dC (.str "net")), (dVar 1)])) sNil)
  (sRet (dTup [(dC (.str "apart")), (dCall F_joined [(aD (dVar 0)), (aD (dVar 1)), (aD (dC (.int 0)))])])))))
theorem ok_cable_paper (T : Txt K mg) (F : FnP K "cable_paper" s_cable_paper f fd) (mx : mg "cable_paper" = some (.ref f)) (g_least_net : Ok P w K mg base 2 "least_net" F_least_net) (g_joined : Ok P w K mg base 1 "joined" F_joined) : Ok P w K mg base 3 "cable_paper" F_cable_paper :=
  okMk F.kp mx (F.bindsN fun _ _ _ _ _ _ us hl => match us, hl with | [_], _ => rfl) fnD_len (fn_okB (N := N_cable_paper) (k := 2) F sc_cable_paper fun cdv A outer s H E hr => by
    have sc := sc_cable_paper
    have hu := roomHu hr
    exact (sd_cons (sd_asg (i := 1) sc.nd (pd_call (takes_of rfl rfl rfl rfl) (g_least_net.fnd hr) (by rfl) (pda_d (pd_var 0) pda_nil)))
       (sd_cons (sd_if (pdt_cmp (opd_eq hu) (pd_len (by rfl) T.n_len (pd_var 1)) (pd_bin opd_sub (pd_ix ixd (pd_var 0) pd_int) pd_int)) (sd_one (sd_ret (pd_tup (pdl_cons pd_str (pdl_cons (pd_var 1) pdl_nil))))) sd_nil)
       (sd_one (sd_ret (pd_tup (pdl_cons pd_str (pdl_cons (pd_call (takes_of rfl rfl rfl rfl) (g_joined.fnd hr) (by rfl) (pda_d (pd_var 0) (pda_d (pd_var 1) (pda_d pd_int pda_nil)))) pdl_nil))))))))
abbrev s_check_cables : Stmt := topS 12
abbrev N_check_cables : List Str := ["cables", "value", "machines", "edges", "place", "a", "b", "cost", "edge", "other"]
theorem sc_check_cables : FnScope N_check_cables ["cables", "value"] (defScope s_check_cables) := ⟨rfl, rfl, rfl, by decide +kernel, rfl, by decide +kernel, by decide +kernel⟩
def F_check_cables : List Arg → M D := fnD 2 10 ((sSeq (sAsg (gT [(gN 2), (gN 3)]) (dVar 0))
  (sSeq (sIf (tOf (dCall F_is_named [(aD (dVar 1)), (aD (dC (.str "apart"))), (aD (dC (.int 2)))])) (sSeq (sIf (tOr (tNot (tOf (dCall F_is_rising_row [(aD (dBin oIx (dVar 1) (dC (.int 1)))), (aD (dC (.int 0))), (aD (dBin oSub (dVar 2) (dC (.int 1))))]))) (tNot (tOf (dChain oLe oLt (dC (.int 1)) (dUn bLen (dBin oIx (dVar 1) (dC (.int 1)))) (dVar 2))))) (sRet (dC (.bool false))) sNil)
  (sRet (dNot (dUn bAny (dComp [8] (iSeq (dVar 3)) (gN 8) tTrue (dBin oNe (dBin oIn (dBin oIx (dVar 8) (dC (.int 0))) (dBin oIx (dVar 1) (dC (.int 1)))) (dBin oIn (dBin oIx (dVar 8) (dC (.int 1))) (dBin oIx (dVar 1) (dC (.int 1)))))))))) sNil)
  (sSeq (sIf (tOr (tNot (tOf (dCall F_is_named [(aD (dVar 1)), (aD (dC (.str "net"))), (aD (dC (.int 2)))]))) (tNot (tOf (dCall F_is_net [(aD (dVar 0)), (aD (dBin oIx (dVar 1) (dC (.int 1))))])))) (sRet (dC (.bool false))) sNil)
  (sSeq (sFor (iR1 (dUn bLen (dVar 3))) (gN 4) (sSeq (sAsg (gT [(gN 5), (gN 6), (gN 7)]) (dBin oIx (dVar 3) (dVar 4)))
  (sIf (tOf (dBin oNotIn (dVar 4) (dBin oIx (dVar 1) (dC (.int 1))))) (sIf (tOf (dUn bAny (dComp [9] (iSeq (dCall F_way_between [(aD (dVar 0)), (aD (dBin oIx (dVar 1) (dC (.int 1)))), (aD (dVar 5)), (aD (dVar 6))])) (gN 9) tTrue (dBin oGt (dBin oIx (dBin oIx (dVar 3) (dVar 9)) (dC (.int 2))) (dVar 7))))) (sRet (dC (.bool false))) sNil) sNil)))
  (sRet (dC (.bool true))))))))
theorem ok_check_cables (T : Txt K mg) (F : FnP K "check_cables" s_check_cables f fd) (mx : mg "check_cables" = some (.ref f)) (g_is_named : Ok P w K mg base 1 "is_named" F_is_named) (g_is_rising_row : Ok P w K mg base 3 "is_rising_row" F_is_rising_row) (g_is_net : Ok P w K mg base 4 "is_net" F_is_net) (g_way_between : Ok P w K mg base 1 "way_between" F_way_between) : Ok P w K mg base 5 "check_cables" F_check_cables :=
  okMk F.kp mx (F.bindsN fun _ _ _ _ _ _ us hl => match us, hl with | [_, _], _ => rfl) fnD_len (fn_okB (N := N_check_cables) (k := 4) F sc_check_cables fun cdv A outer s H E hr => by
    have sc := sc_check_cables
    have hu := roomHu hr
    exact (sd_cons (sd_tgt (pd_var 0) (gd_tup rfl (gds_cons (gd_name 2 sc.nd) (gds_cons (gd_name 3 sc.nd) gds_nil))))
       (sd_cons (sd_if (pdt_val (pd_call (takes_of rfl rfl rfl rfl) (g_is_named.fnd hr) (by rfl) (pda_d (pd_var 1) (pda_d pd_str (pda_d pd_int pda_nil))))) (sd_cons (sd_if (pdt_w (pdw_or (pdt_not (pdt_val (pd_call (takes_of rfl rfl rfl rfl) (g_is_rising_row.fnd hr) (by rfl) (pda_d (pd_ix ixd (pd_var 1) pd_int) (pda_d pd_int (pda_d (pd_bin opd_sub (pd_var 2) pd_int) pda_nil)))))) (pdw_or1 (pdt_not (pdt_chain opd_le opd_lt pd_int (pd_len (by rfl) T.n_len (pd_ix ixd (pd_var 1) pd_int)) (pd_var 2)))))) (sd_one (sd_ret pd_bl)) sd_nil)
       (sd_one (sd_ret (pd_not (pd_any rfl (by rfl) T.n_any (pde_f (pdf_lc rfl sc.nd (pid_seq (pd_var 3)) (blkOk_by (own := [("edge", 8)]) (N := N_check_cables) (sc := defScope s_check_cables) (by decide +kernel)) (by decide) (fun _ _ _ _ _ => (gd_name 8 sc.nd)) (fun _ _ _ _ _ => ptsd_nil) (fun _ _ _ _ _ => (pd_cmp (opd_ne hu) (pd_cmp (opd_in hu) (pd_ix ixd (pd_var 8) pd_int) (pd_ix ixd (pd_var 1) pd_int) (by rfl)) (pd_cmp (opd_in hu) (pd_ix ixd (pd_var 8) pd_int) (pd_ix ixd (pd_var 1) pd_int) (by rfl)))) (tgok_n 8)))))))) sd_nil)
       (sd_cons (sd_if (pdt_w (pdw_or (pdt_not (pdt_val (pd_call (takes_of rfl rfl rfl rfl) (g_is_named.fnd hr) (by rfl) (pda_d (pd_var 1) (pda_d pd_str (pda_d pd_int pda_nil)))))) (pdw_or1 (pdt_not (pdt_val (pd_call (takes_of rfl rfl rfl rfl) (g_is_net.fnd hr) (by rfl) (pda_d (pd_var 0) (pda_d (pd_ix ixd (pd_var 1) pd_int) pda_nil)))))))) (sd_one (sd_ret pd_bl)) sd_nil)
       (sd_cons (sd_for (passes_of rfl) rfl (pid_r1 (by rfl) T.n_range (pd_len (by rfl) T.n_len (pd_var 3))) (gd_name 4 sc.nd) (sd_cons (sd_tgt (pd_ix ixd (pd_var 3) (pd_var 4)) (gd_tup rfl (gds_cons (gd_name 5 sc.nd) (gds_cons (gd_name 6 sc.nd) (gds_cons (gd_name 7 sc.nd) gds_nil)))))
       (sd_one (sd_if (pdt_cmp (opd_notin hu) (pd_var 4) (pd_ix ixd (pd_var 1) pd_int) (by rfl)) (sd_one (sd_if (pdt_val (pd_any rfl (by rfl) T.n_any (pde_f (pdf_lc rfl sc.nd (pid_seq (pd_call (takes_of rfl rfl rfl rfl) (g_way_between.fnd hr) (by rfl) (pda_d (pd_var 0) (pda_d (pd_ix ixd (pd_var 1) pd_int) (pda_d (pd_var 5) (pda_d (pd_var 6) pda_nil)))))) (blkOk_by (own := [("other", 9)]) (N := N_check_cables) (sc := defScope s_check_cables) (by decide +kernel)) (by decide) (fun _ _ _ _ _ => (gd_name 9 sc.nd)) (fun _ _ _ _ _ => ptsd_nil) (fun _ _ _ _ _ => (pd_cmp opd_gt (pd_ix ixd (pd_ix ixd (pd_var 3) (pd_var 9)) pd_int) (pd_var 7))) (tgok_n 9))))) (sd_one (sd_ret pd_bl)) sd_nil)) sd_nil))))
       (sd_one (sd_ret pd_bl)))))))
abbrev s__law_is_integer : Stmt := topS 14
abbrev N__law_is_integer : List Str := ["actual"]
theorem sc__law_is_integer : FnScope N__law_is_integer ["actual"] (defScope s__law_is_integer) := ⟨rfl, rfl, rfl, by decide +kernel, rfl, by decide +kernel, by decide +kernel⟩
def F__law_is_integer : List Arg → M D := fnD 1 1 ((sRet (dAnd (dUn bIsInt (dVar 0)) (dNot (dUn bIsBool (dVar 0))))))
theorem ok__law_is_integer (T : Txt K mg) (F : FnP K "_law_is_integer" s__law_is_integer f fd) (mx : mg "_law_is_integer" = some (.ref f)) : Ok P w K mg base 1 "_law_is_integer" F__law_is_integer :=
  okMk F.kp mx (F.bindsN fun _ _ _ _ _ _ us hl => match us, hl with | [_], _ => rfl) fnD_len (fn_okB (N := N__law_is_integer) (k := 0) F sc__law_is_integer fun cdv A outer s H E hr => by
    have sc := sc__law_is_integer
    exact (sd_one (sd_ret (pd_and (pd_isi_int (by rfl) T.n_isinstance (by rfl) T.n_int (pd_var 0)) (pd_one (pd_not (pd_isi_bool (by rfl) T.n_isinstance (by rfl) T.n_bool (pd_var 0))))))))
abbrev s__law_same : Stmt := topS 15
abbrev N__law_same : List Str := ["actual", "due", "k"]
theorem sc__law_same : FnScope N__law_same ["actual", "due"] (defScope s__law_same) := ⟨rfl, rfl, rfl, by decide +kernel, rfl, by decide +kernel, by decide +kernel⟩
def B__law_same (rc : List Arg → M D) : DS := (sSeq (sIf (tOr (tOf (dUn bIsTup (dVar 1))) (tOf (dUn bIsLst (dVar 1)))) (sSeq (sIf (tOr (tOf (dBin oNe (dUn bIsTup (dVar 1)) (dUn bIsTup (dVar 0)))) (tOr (tOf (dBin oNe (dUn bIsLst (dVar 1)) (dUn bIsLst (dVar 0)))) (tOf (dBin oNe (dUn bLen (dVar 0)) (dUn bLen (dVar 1)))))) (sRet (dC (.bool false))) sNil)
  (sRet (dBin oEq (dUn bLen (dComp [2] (iR1 (dUn bLen (dVar 1))) (gN 2) (tNot (tOf (dCall rc [(aD (dBin oIx (dVar 0) (dVar 2))), (aD (dBin oIx (dVar 1) (dVar 2)))]))) (dVar 2))) (dC (.int 0))))) sNil)
  (sSeq (sIf (tOf (dUn oIsN (dVar 1))) (sRet (dUn oIsN (dVar 0))) sNil)
  (sSeq (sIf (tOr (tOf (dUn bIsBool (dVar 1))) (tOf (dUn bIsBool (dVar 0)))) (sRet (dAnd (dUn bIsBool (dVar 1)) (dAnd (dUn bIsBool (dVar 0)) (dBin oEq (dVar 0) (dVar 1))))) sNil)
  (sSeq (sIf (tOf (dUn bIsInt (dVar 1))) (sRet (dAnd (dUn bIsInt (dVar 0)) (dBin oEq (dVar 0) (dVar 1)))) sNil)
  (sRet (dAnd (dUn bIsStr (dVar 0)) (dAnd (dUn bIsStr (dVar 1)) (dBin oEq (dVar 0) (dVar 1)))))))))
def F__law_same : Nat → List Arg → M D
  | 0 => fnD 2 3 (fun _ => M.stuck)
  | n + 1 => fnD 2 3 (B__law_same (F__law_same n))
theorem ok__law_same (T : Txt K mg) (F : FnP K "_law_same" s__law_same f fd) (mx : mg "_law_same" = some (.ref f)) : ∀ n, Ok P w K mg base (1 + n) "_law_same" (F__law_same n)
  | 0 => okMk F.kp mx (F.bindsN fun _ _ _ _ _ _ us hl => match us, hl with | [_, _], _ => rfl) fnD_len (fn_okB (N := N__law_same) (k := 0) F sc__law_same fun cdv A outer s H E hr => ⟨tNever, pss_never, fun _ _ _ _ _ _ _ _ _ _ _ h => h.elim⟩)
  | n + 1 => okMk F.kp mx (F.bindsN fun _ _ _ _ _ _ us hl => match us, hl with | [_, _], _ => rfl) fnD_len (fn_okB (N := N__law_same) (k := 1 + n) F sc__law_same fun cdv A outer s H E hr => by
    have g__law_same := ok__law_same T F mx n
    have sc := sc__law_same
    have hu := roomHu hr
    exact (sd_cons (sd_if (pdt_w (pdw_or (pdt_val (pd_isi_tup (by rfl) T.n_isinstance (by rfl) T.n_tuple (pd_var 1))) (pdw_or1 (pdt_val (pd_isi_lst (by rfl) T.n_isinstance (by rfl) T.n_list (pd_var 1)))))) (sd_cons (sd_if (pdt_w (pdw_or (pdt_cmp (opd_ne hu) (pd_isi_tup (by rfl) T.n_isinstance (by rfl) T.n_tuple (pd_var 1)) (pd_isi_tup (by rfl) T.n_isinstance (by rfl) T.n_tuple (pd_var 0))) (pdw_or (pdt_cmp (opd_ne hu) (pd_isi_lst (by rfl) T.n_isinstance (by rfl) T.n_list (pd_var 1)) (pd_isi_lst (by rfl) T.n_isinstance (by rfl) T.n_list (pd_var 0))) (pdw_or1 (pdt_cmp (opd_ne hu) (pd_len (by rfl) T.n_len (pd_var 0)) (pd_len (by rfl) T.n_len (pd_var 1))))))) (sd_one (sd_ret pd_bl)) sd_nil)
       (sd_one (sd_ret (pd_cmp (opd_eq hu) (pd_len (by rfl) T.n_len (pde_f (pdf_lc rfl sc.nd (pid_r1 (by rfl) T.n_range (pd_len (by rfl) T.n_len (pd_var 1))) (blkOk_by (own := [("k", 2)]) (N := N__law_same) (sc := defScope s__law_same) (by decide +kernel)) (by decide) (fun _ _ _ _ _ => (gd_name 2 sc.nd)) (fun _ _ _ _ _ => (ptsd_one (pdt_not (pdt_val (pd_call takes0 (g__law_same.fnd hr) (by rfl) (pda_d (pd_ix ixd (pd_var 0) (pd_var 2)) (pda_d (pd_ix ixd (pd_var 1) (pd_var 2)) pda_nil))))))) (fun _ _ _ _ _ => (pd_var 2)) (tgok_n 2)))) pd_int)))) sd_nil)
       (sd_cons (sd_if (pdt_isN (pd_var 1)) (sd_one (sd_ret (pd_isN (pd_var 0)))) sd_nil)
       (sd_cons (sd_if (pdt_w (pdw_or (pdt_val (pd_isi_bool (by rfl) T.n_isinstance (by rfl) T.n_bool (pd_var 1))) (pdw_or1 (pdt_val (pd_isi_bool (by rfl) T.n_isinstance (by rfl) T.n_bool (pd_var 0)))))) (sd_one (sd_ret (pd_and (pd_isi_bool (by rfl) T.n_isinstance (by rfl) T.n_bool (pd_var 1)) (pd_and (pd_isi_bool (by rfl) T.n_isinstance (by rfl) T.n_bool (pd_var 0)) (pd_one (pd_cmp (opd_eq hu) (pd_var 0) (pd_var 1))))))) sd_nil)
       (sd_cons (sd_if (pdt_val (pd_isi_int (by rfl) T.n_isinstance (by rfl) T.n_int (pd_var 1))) (sd_one (sd_ret (pd_and (pd_isi_int (by rfl) T.n_isinstance (by rfl) T.n_int (pd_var 0)) (pd_one (pd_cmp (opd_eq hu) (pd_var 0) (pd_var 1)))))) sd_nil)
       (sd_one (sd_ret (pd_and (pd_isi_str (by rfl) T.n_isinstance (by rfl) T.n_str (pd_var 0)) (pd_and (pd_isi_str (by rfl) T.n_isinstance (by rfl) T.n_str (pd_var 1)) (pd_one (pd_cmp (opd_eq hu) (pd_var 0) (pd_var 1))))))))))))
abbrev s__law_bent : Stmt := topS 19
abbrev N__law_bent : List Str := ["pool", "value", "at", "turn", "other", "items"]
theorem sc__law_bent : FnScope N__law_bent ["pool", "value"] (defScope s__law_bent) := ⟨rfl, rfl, rfl, by decide +kernel, rfl, by decide +kernel, by decide +kernel⟩
def B__law_bent (rc : List Arg → M D) : DS := (sSeq (sIf (tAnd (tOf (dUn bIsTup (dVar 1))) (tAnd (tOf (dBin oGt (dUn bLen (dVar 1)) (dC (.int 0)))) (tOf (dBin oGt (dCall F_draw [(aPool 0), (aD (dC (.int 4)))]) (dC (.int 0)))))) (sSeq (sAsg (gN 2) (dCall F_draw [(aPool 0), (aD (dUn bLen (dVar 1)))]))
  (sRet (dBin oAdd (dBin oAdd (dSl (dVar 1) none (some (dVar 2))) (dTup [(dCall rc [(aPool 0), (aD (dBin oIx (dVar 1) (dVar 2)))])])) (dSl (dVar 1) (some (dBin oAdd (dVar 2) (dC (.int 1)))) none)))) sNil)
  (sSeq (sAsg (gN 3) (dCall F_draw [(aPool 0), (aD (dC (.int 9)))]))
  (sSeq (sIf (tOf (dBin oEq (dVar 3) (dC (.int 0)))) (sRet (dBin oIx (dTup [(dC (.str "x")), (dC (.bool true)), (dTup []), (dC (.int 0)), (dUn uNeg (dC (.int 1))), (dC .none), (dC (.bool false)), (dLst []), (dC (.str "in")), (dC (.int 1))]) (dCall F_draw [(aPool 0), (aD (dC (.int 10)))]))) sNil)
  (sSeq (sIf (tOf (dCall F__law_is_integer [(aD (dVar 1))])) (sRet (dBin oAdd (dVar 1) (dBin oIx (dTup [(dC (.int 1)), (dUn uNeg (dC (.int 1))), (dC (.int 2)), (dC (.int 0))]) (dCall F_draw [(aPool 0), (aD (dC (.int 4)))])))) sNil)
  (sSeq (sIf (tOf (dUn bIsStr (dVar 1))) (sRet (dBin oIx (dTup [(dBin oAdd (dVar 1) (dC (.str "a"))), (dSl (dVar 1) (some (dC (.int 1))) none), (dBin oAdd (dVar 1) (dC (.str "A"))), (dBin oAdd (dVar 1) (dC (.str " "))), (dSl (dVar 1) none (some (dC (.int 1))))]) (dCall F_draw [(aPool 0), (aD (dC (.int 5)))]))) sNil)
  (sSeq (sIf (tOr (tNot (tOf (dUn bIsTup (dVar 1)))) (tOf (dBin oEq (dUn bLen (dVar 1)) (dC (.int 0))))) (sRet (dIf (tOf (dBin oLt (dVar 3) (dC (.int 5)))) (dTup [(dVar 1), (dC (.int 0))]) (dTup []))) sNil)
  (sSeq (sAsg (gN 2) (dCall F_draw [(aPool 0), (aD (dUn bLen (dVar 1)))]))
  (sSeq (sIf (tOf (dBin oLt (dVar 3) (dC (.int 3)))) (sRet (dBin oAdd (dSl (dVar 1) none (some (dVar 2))) (dSl (dVar 1) (some (dBin oAdd (dVar 2) (dC (.int 1)))) none))) sNil)
  (sSeq (sIf (tOf (dBin oLt (dVar 3) (dC (.int 5)))) (sRet (dBin oAdd (dBin oAdd (dSl (dVar 1) none (some (dVar 2))) (dTup [(dBin oIx (dVar 1) (dVar 2))])) (dSl (dVar 1) (some (dVar 2)) none))) sNil)
  (sSeq (sIf (tOf (dBin oEq (dVar 3) (dC (.int 5)))) (sRet (dUn bList (dVar 1))) sNil)
  (sSeq (sAsg (gN 4) (dCall F_draw [(aPool 0), (aD (dUn bLen (dVar 1)))]))
  (sSeq (sOwn 5 (dUn bList (dVar 1)))
  (sSeq (sSet 5 (dVar 2) (dBin oIx (dVar 1) (dVar 4)))
  (sSeq (sSet 5 (dVar 4) (dBin oIx (dVar 1) (dVar 2)))
  (sRet (dUn bTuple (dVar 5)))))))))))))))))
def F__law_bent : Nat → List Arg → M D
  | 0 => fnD 2 6 (fun _ => M.stuck)
  | n + 1 => fnD 2 6 (B__law_bent (F__law_bent n))
theorem ok__law_bent (T : Txt K mg) (F : FnP K "_law_bent" s__law_bent f fd) (mx : mg "_law_bent" = some (.ref f)) (g__law_draw : Ok P w K mg base 2 "_law_draw" F_draw) (g__law_is_integer : Ok P w K mg base 1 "_law_is_integer" F__law_is_integer) : ∀ n, Ok P w K mg base (3 + n) "_law_bent" (F__law_bent n)
  | 0 => okMk F.kp mx (F.bindsN fun _ _ _ _ _ _ us hl => match us, hl with | [_, _], _ => rfl) fnD_len (fn_okB (N := N__law_bent) (k := 2) F sc__law_bent fun cdv A outer s H E hr => ⟨tNever, pss_never, fun _ _ _ _ _ _ _ _ _ _ _ h => h.elim⟩)
  | n + 1 => okMk F.kp mx (F.bindsN fun _ _ _ _ _ _ us hl => match us, hl with | [_, _], _ => rfl) fnD_len (fn_okB (N := N__law_bent) (k := 3 + n) F sc__law_bent fun cdv A outer s H E hr => by
    have g__law_bent := ok__law_bent T F mx g__law_draw g__law_is_integer n
    have sc := sc__law_bent
    have hu := roomHu hr
    exact (sd_cons (sd_if (pdt_w (pdw_and (pdt_val (pd_isi_tup (by rfl) T.n_isinstance (by rfl) T.n_tuple (pd_var 1))) (pdw_and (pdt_cmp opd_gt (pd_len (by rfl) T.n_len (pd_var 1)) pd_int) (pdw_and1 (pdt_cmp opd_gt (pd_call (takes_of rfl rfl rfl rfl) (g__law_draw.fnd hr) (by rfl) (pda_pool 0 (pda_d pd_int pda_nil))) pd_int))))) (sd_cons (sd_asg (i := 2) sc.nd (pd_call (takes_of rfl rfl rfl rfl) (g__law_draw.fnd hr) (by rfl) (pda_pool 0 (pda_d (pd_len (by rfl) T.n_len (pd_var 1)) pda_nil))))
       (sd_one (sd_ret (pd_bin opd_add (pd_bin opd_add (pd_sl (pd_var 1) pdo_none (pdo_some (pd_var 2))) (pd_tup (pdl_cons (pd_call (takes_of rfl rfl rfl rfl) (g__law_bent.fnd hr) (by rfl) (pda_pool 0 (pda_d (pd_ix ixd (pd_var 1) (pd_var 2)) pda_nil))) pdl_nil))) (pd_sl (pd_var 1) (pdo_some (pd_bin opd_add (pd_var 2) pd_int)) pdo_none))))) sd_nil)
       (sd_cons (sd_asg (i := 3) sc.nd (pd_call (takes_of rfl rfl rfl rfl) (g__law_draw.fnd hr) (by rfl) (pda_pool 0 (pda_d pd_int pda_nil))))
       (sd_cons (sd_if (pdt_cmp (opd_eq hu) (pd_var 3) pd_int) (sd_one (sd_ret (pd_ix ixd (pd_tup (pdl_cons pd_str (pdl_cons pd_bl (pdl_cons (pd_tup pdl_nil) (pdl_cons pd_int (pdl_cons (pd_neg pd_int) (pdl_cons pd_non (pdl_cons pd_bl (pdl_cons (pde_f (pdf_lst pdl_nil)) (pdl_cons pd_str (pdl_cons pd_int pdl_nil))))))))))) (pd_call (takes_of rfl rfl rfl rfl) (g__law_draw.fnd hr) (by rfl) (pda_pool 0 (pda_d pd_int pda_nil)))))) sd_nil)
       (sd_cons (sd_if (pdt_val (pd_call (takes_of rfl rfl rfl rfl) (g__law_is_integer.fnd hr) (by rfl) (pda_d (pd_var 1) pda_nil))) (sd_one (sd_ret (pd_bin opd_add (pd_var 1) (pd_ix ixd (pd_tup (pdl_cons pd_int (pdl_cons (pd_neg pd_int) (pdl_cons pd_int (pdl_cons pd_int pdl_nil))))) (pd_call (takes_of rfl rfl rfl rfl) (g__law_draw.fnd hr) (by rfl) (pda_pool 0 (pda_d pd_int pda_nil))))))) sd_nil)
       (sd_cons (sd_if (pdt_val (pd_isi_str (by rfl) T.n_isinstance (by rfl) T.n_str (pd_var 1))) (sd_one (sd_ret (pd_ix ixd (pd_tup (pdl_cons (pd_bin opd_add (pd_var 1) pd_str) (pdl_cons (pd_sl (pd_var 1) (pdo_some pd_int) pdo_none) (pdl_cons (pd_bin opd_add (pd_var 1) pd_str) (pdl_cons (pd_bin opd_add (pd_var 1) pd_str) (pdl_cons (pd_sl (pd_var 1) pdo_none (pdo_some pd_int)) pdl_nil)))))) (pd_call (takes_of rfl rfl rfl rfl) (g__law_draw.fnd hr) (by rfl) (pda_pool 0 (pda_d pd_int pda_nil)))))) sd_nil)
       (sd_cons (sd_if (pdt_w (pdw_or (pdt_not (pdt_val (pd_isi_tup (by rfl) T.n_isinstance (by rfl) T.n_tuple (pd_var 1)))) (pdw_or1 (pdt_cmp (opd_eq hu) (pd_len (by rfl) T.n_len (pd_var 1)) pd_int)))) (sd_one (sd_ret (pd_if (pdt_cmp opd_lt (pd_var 3) pd_int) (pd_tup (pdl_cons (pd_var 1) (pdl_cons pd_int pdl_nil))) (pd_tup pdl_nil)))) sd_nil)
       (sd_cons (sd_asg (i := 2) sc.nd (pd_call (takes_of rfl rfl rfl rfl) (g__law_draw.fnd hr) (by rfl) (pda_pool 0 (pda_d (pd_len (by rfl) T.n_len (pd_var 1)) pda_nil))))
       (sd_cons (sd_if (pdt_cmp opd_lt (pd_var 3) pd_int) (sd_one (sd_ret (pd_bin opd_add (pd_sl (pd_var 1) pdo_none (pdo_some (pd_var 2))) (pd_sl (pd_var 1) (pdo_some (pd_bin opd_add (pd_var 2) pd_int)) pdo_none)))) sd_nil)
       (sd_cons (sd_if (pdt_cmp opd_lt (pd_var 3) pd_int) (sd_one (sd_ret (pd_bin opd_add (pd_bin opd_add (pd_sl (pd_var 1) pdo_none (pdo_some (pd_var 2))) (pd_tup (pdl_cons (pd_ix ixd (pd_var 1) (pd_var 2)) pdl_nil))) (pd_sl (pd_var 1) (pdo_some (pd_var 2)) pdo_none)))) sd_nil)
       (sd_cons (sd_if (pdt_cmp (opd_eq hu) (pd_var 3) pd_int) (sd_one (sd_ret (pde_f (pdf_list (by rfl) T.n_list (pd_var 1))))) sd_nil)
       (sd_cons (sd_asg (i := 4) sc.nd (pd_call (takes_of rfl rfl rfl rfl) (g__law_draw.fnd hr) (by rfl) (pda_pool 0 (pda_d (pd_len (by rfl) T.n_len (pd_var 1)) pda_nil))))
       (sd_cons (sd_own (i := 5) sc.nd (pdf_list (by rfl) T.n_list (pd_var 1)))
       (sd_cons (sd_set (i := 5) (pd_ix ixd (pd_var 1) (pd_var 4)) (pd_var 2)).1
       (sd_cons (sd_set (i := 5) (pd_ix ixd (pd_var 1) (pd_var 2)) (pd_var 4)).1
       (sd_one (sd_ret (pd_tuple (by rfl) T.n_tuple (pd_var 5)))))))))))))))))))
abbrev s__law_booled : Stmt := topS 20
abbrev N__law_booled : List Str := ["value", "one"]
theorem sc__law_booled : FnScope N__law_booled ["value"] (defScope s__law_booled) := ⟨rfl, rfl, rfl, by decide +kernel, rfl, by decide +kernel, by decide +kernel⟩
def B__law_booled (rc : List Arg → M D) : DS := (sSeq (sIf (tOf (dUn bIsTup (dVar 0))) (sRet (dUn bTuple (dComp [1] (iSeq (dVar 0)) (gN 1) tTrue (dCall rc [(aD (dVar 1))])))) sNil)
  (sRet (dIf (tAnd (tOf (dCall F__law_is_integer [(aD (dVar 0))])) (tOf (dBin oIn (dVar 0) (dTup [(dC (.int 0)), (dC (.int 1))])))) (dBin oEq (dVar 0) (dC (.int 1))) (dVar 0))))
def F__law_booled : Nat → List Arg → M D
  | 0 => fnD 1 2 (fun _ => M.stuck)
  | n + 1 => fnD 1 2 (B__law_booled (F__law_booled n))
theorem ok__law_booled (T : Txt K mg) (F : FnP K "_law_booled" s__law_booled f fd) (mx : mg "_law_booled" = some (.ref f)) (g__law_is_integer : Ok P w K mg base 1 "_law_is_integer" F__law_is_integer) : ∀ n, Ok P w K mg base (2 + n) "_law_booled" (F__law_booled n)
  | 0 => okMk F.kp mx (F.bindsN fun _ _ _ _ _ _ us hl => match us, hl with | [_], _ => rfl) fnD_len (fn_okB (N := N__law_booled) (k := 1) F sc__law_booled fun cdv A outer s H E hr => ⟨tNever, pss_never, fun _ _ _ _ _ _ _ _ _ _ _ h => h.elim⟩)
  | n + 1 => okMk F.kp mx (F.bindsN fun _ _ _ _ _ _ us hl => match us, hl with | [_], _ => rfl) fnD_len (fn_okB (N := N__law_booled) (k := 2 + n) F sc__law_booled fun cdv A outer s H E hr => by
    have g__law_booled := ok__law_booled T F mx g__law_is_integer n
    have sc := sc__law_booled
    have hu := roomHu hr
    exact (sd_cons (sd_if (pdt_val (pd_isi_tup (by rfl) T.n_isinstance (by rfl) T.n_tuple (pd_var 0))) (sd_one (sd_ret (pd_tuple (by rfl) T.n_tuple (pde_f (pdf_lc rfl sc.nd (pid_seq (pd_var 0)) (blkOk_by (own := [("one", 1)]) (N := N__law_booled) (sc := defScope s__law_booled) (by decide +kernel)) (by decide) (fun _ _ _ _ _ => (gd_name 1 sc.nd)) (fun _ _ _ _ _ => ptsd_nil) (fun _ _ _ _ _ => (pd_call takes0 (g__law_booled.fnd hr) (by rfl) (pda_d (pd_var 1) pda_nil))) (tgok_n 1)))))) sd_nil)
       (sd_one (sd_ret (pd_if (pdt_w (pdw_and (pdt_val (pd_call (takes_of rfl rfl rfl rfl) (g__law_is_integer.fnd hr) (by rfl) (pda_d (pd_var 0) pda_nil))) (pdw_and1 (pdt_cmp (opd_in hu) (pd_var 0) (pd_tup (pdl_cons pd_int (pdl_cons pd_int pdl_nil))) (by rfl))))) (pd_cmp (opd_eq hu) (pd_var 0) pd_int) (pd_var 0))))))
abbrev s__law_listed : Stmt := topS 21
abbrev N__law_listed : List Str := ["value", "deep", "one"]
theorem sc__law_listed : FnScope N__law_listed ["value", "deep"] (defScope s__law_listed) := ⟨rfl, rfl, rfl, by decide +kernel, rfl, by decide +kernel, by decide +kernel⟩
def B__law_listed (rc : List Arg → M D) : DS := (sSeq (sIf (tNot (tOf (dUn bIsTup (dVar 0)))) (sRet (dVar 0)) sNil)
  (sSeq (sIf (tOf (dBin oEq (dVar 1) (dC (.int 0)))) (sRet (dUn bList (dVar 0))) sNil)
  (sRet (dUn bTuple (dComp [2] (iSeq (dVar 0)) (gN 2) tTrue (dCall rc [(aD (dVar 2)), (aD (dBin oSub (dVar 1) (dC (.int 1))))]))))))
def F__law_listed : Nat → List Arg → M D
  | 0 => fnD 2 3 (fun _ => M.stuck)
  | n + 1 => fnD 2 3 (B__law_listed (F__law_listed n))
theorem ok__law_listed (T : Txt K mg) (F : FnP K "_law_listed" s__law_listed f fd) (mx : mg "_law_listed" = some (.ref f)) : ∀ n, Ok P w K mg base (1 + n) "_law_listed" (F__law_listed n)
  | 0 => okMk F.kp mx (F.bindsN fun _ _ _ _ _ _ us hl => match us, hl with | [_, _], _ => rfl) fnD_len (fn_okB (N := N__law_listed) (k := 0) F sc__law_listed fun cdv A outer s H E hr => ⟨tNever, pss_never, fun _ _ _ _ _ _ _ _ _ _ _ h => h.elim⟩)
  | n + 1 => okMk F.kp mx (F.bindsN fun _ _ _ _ _ _ us hl => match us, hl with | [_, _], _ => rfl) fnD_len (fn_okB (N := N__law_listed) (k := 1 + n) F sc__law_listed fun cdv A outer s H E hr => by
    have g__law_listed := ok__law_listed T F mx n
    have sc := sc__law_listed
    have hu := roomHu hr
    exact (sd_cons (sd_if (pdt_not (pdt_val (pd_isi_tup (by rfl) T.n_isinstance (by rfl) T.n_tuple (pd_var 0)))) (sd_one (sd_ret (pd_var 0))) sd_nil)
       (sd_cons (sd_if (pdt_cmp (opd_eq hu) (pd_var 1) pd_int) (sd_one (sd_ret (pde_f (pdf_list (by rfl) T.n_list (pd_var 0))))) sd_nil)
       (sd_one (sd_ret (pd_tuple (by rfl) T.n_tuple (pde_f (pdf_lc rfl sc.nd (pid_seq (pd_var 0)) (blkOk_by (own := [("one", 2)]) (N := N__law_listed) (sc := defScope s__law_listed) (by decide +kernel)) (by decide) (fun _ _ _ _ _ => (gd_name 2 sc.nd)) (fun _ _ _ _ _ => ptsd_nil) (fun _ _ _ _ _ => (pd_call takes0 (g__law_listed.fnd hr) (by rfl) (pda_d (pd_var 2) (pda_d (pd_bin opd_sub (pd_var 1) pd_int) pda_nil)))) (tgok_n 2)))))))))
abbrev s__law_odd_values : Stmt := topS 22
abbrev N__law_odd_values : List Str := ["deep", "k"]
theorem sc__law_odd_values : FnScope N__law_odd_values [] (defScope s__law_odd_values) := ⟨rfl, rfl, rfl, by decide +kernel, rfl, by decide +kernel, by decide +kernel⟩
def F__law_odd_values : List Arg → M D := fnD 0 2 ((sSeq (sAsg (gN 0) (dTup []))
  (sSeq (sFor (iR1 (dC (.int 90))) (gN 1) (sAsg (gN 0) (dTup [(dVar 0)])))
  (sRet (dLst [(dVar 0), (dTup [(dC (.str "plan")), (dVar 0), (dVar 0)]), (dC .none), (dC (.int 0)), (dC (.int 1)), (dC (.bool true)), (dC (.bool false)), (dC (.str "")), (dC (.str "x")), (dTup []), (dLst []), dEmp, (dTup [(dTup [])]), (dTup [(dTup []), (dTup [])]), (dTup [(dC (.int 0))]), (dTup [(dC (.int 1)), (dC (.int 2))]), (dTup [(dC (.str "x"))]), (dTup [(dLst [])]), (dDis ["a"] [(dC (.int 1))]), (dTup [(dC .none)]), (dTup [(dTup [(dTup [])])]), (dUn uNeg (dC (.int 1)))])))))
theorem ok__law_odd_values (T : Txt K mg) (F : FnP K "_law_odd_values" s__law_odd_values f fd) (mx : mg "_law_odd_values" = some (.ref f)) : Ok P w K mg base 1 "_law_odd_values" F__law_odd_values :=
  okMk F.kp mx (F.bindsN fun _ _ _ _ _ _ us hl => match us, hl with | [], _ => rfl) fnD_len (fn_okB (N := N__law_odd_values) (k := 0) F sc__law_odd_values fun cdv A outer s H E hr => by
    have sc := sc__law_odd_values
    exact (sd_cons (sd_asg (i := 0) sc.nd (pd_tup pdl_nil))
       (sd_cons (sd_for (passes_of rfl) rfl (pid_r1 (by rfl) T.n_range pd_int) (gd_name 1 sc.nd) (sd_one (sd_asg (i := 0) sc.nd (pd_tup (pdl_cons (pd_var 0) pdl_nil)))))
       (sd_one (sd_ret (pde_f (pdf_lst (pdl_cons (pd_var 0) (pdl_cons (pd_tup (pdl_cons pd_str (pdl_cons (pd_var 0) (pdl_cons (pd_var 0) pdl_nil)))) (pdl_cons pd_non (pdl_cons pd_int (pdl_cons pd_int (pdl_cons pd_bl (pdl_cons pd_bl (pdl_cons pd_str (pdl_cons pd_str (pdl_cons (pd_tup pdl_nil) (pdl_cons (pde_f (pdf_lst pdl_nil)) (pdl_cons (pde_g pdg_emp) (pdl_cons (pd_tup (pdl_cons (pd_tup pdl_nil) pdl_nil)) (pdl_cons (pd_tup (pdl_cons (pd_tup pdl_nil) (pdl_cons (pd_tup pdl_nil) pdl_nil))) (pdl_cons (pd_tup (pdl_cons pd_int pdl_nil)) (pdl_cons (pd_tup (pdl_cons pd_int (pdl_cons pd_int pdl_nil))) (pdl_cons (pd_tup (pdl_cons pd_str pdl_nil)) (pdl_cons (pd_tup (pdl_cons (pde_f (pdf_lst pdl_nil)) pdl_nil)) (pdl_cons (pd_dis (pdp_cons pd_int pdp_nil)) (pdl_cons (pd_tup (pdl_cons pd_non pdl_nil)) (pdl_cons (pd_tup (pdl_cons (pd_tup (pdl_cons (pd_tup pdl_nil) pdl_nil)) pdl_nil)) (pdl_cons (pd_neg pd_int) pdl_nil)))))))))))))))))))))))))))))
abbrev s__law_is_up : Stmt := topS 23
abbrev N__law_is_up : List Str := ["items", "k"]
theorem sc__law_is_up : FnScope N__law_is_up ["items"] (defScope s__law_is_up) := ⟨rfl, rfl, rfl, by decide +kernel, rfl, by decide +kernel, by decide +kernel⟩
def F__law_is_up : List Arg → M D := fnD 1 2 ((sRet (dBin oEq (dUn bLen (dComp [1] (iR2 (dC (.int 1)) (dUn bLen (dVar 0))) (gN 1) (tNot (tOf (dBin oLtD (dBin oIx (dVar 0) (dBin oSub (dVar 1) (dC (.int 1)))) (dBin oIx (dVar 0) (dVar 1))))) (dVar 1))) (dC (.int 0)))))
theorem ok__law_is_up (T : Txt K mg) (F : FnP K "_law_is_up" s__law_is_up f fd) (mx : mg "_law_is_up" = some (.ref f)) : Ok P w K mg base 1 "_law_is_up" F__law_is_up :=
  okMk F.kp mx (F.bindsN fun _ _ _ _ _ _ us hl => match us, hl with | [_], _ => rfl) fnD_len (fn_okB (N := N__law_is_up) (k := 0) F sc__law_is_up fun cdv A outer s H E hr => by
    have sc := sc__law_is_up
    have hu := roomHu hr
    exact (sd_one (sd_ret (pd_cmp (opd_eq hu) (pd_len (by rfl) T.n_len (pde_f (pdf_lc rfl sc.nd (pid_r2 (by rfl) T.n_range pd_int (pd_len (by rfl) T.n_len (pd_var 0))) (blkOk_by (own := [("k", 1)]) (N := N__law_is_up) (sc := defScope s__law_is_up) (by decide +kernel)) (by decide) (fun _ _ _ _ _ => (gd_name 1 sc.nd)) (fun _ _ _ _ _ => (ptsd_one (pdt_not (pdt_cmp (opd_ltD hu) (pd_ix ixd (pd_var 0) (pd_bin opd_sub (pd_var 1) pd_int)) (pd_ix ixd (pd_var 0) (pd_var 1)))))) (fun _ _ _ _ _ => (pd_var 1)) (tgok_n 1)))) pd_int))))
abbrev s__law_is_row : Stmt := topS 24
abbrev N__law_is_row : List Str := ["value", "many", "low", "high", "one"]
theorem sc__law_is_row : FnScope N__law_is_row ["value", "many", "low", "high"] (defScope s__law_is_row) := ⟨rfl, rfl, rfl, by decide +kernel, rfl, by decide +kernel, by decide +kernel⟩
def F__law_is_row : List Arg → M D := fnD 4 5 ((sSeq (sIf (tOr (tNot (tOf (dUn bIsTup (dVar 0)))) (tAnd (tOf (dUn oNotN (dVar 1))) (tOf (dBin oNe (dUn bLen (dVar 0)) (dVar 1))))) (sRet (dC (.bool false))) sNil)
  (sRet (dBin oEq (dUn bLen (dComp [4] (iSeq (dVar 0)) (gN 4) (tOr (tNot (tOf (dCall F__law_is_integer [(aD (dVar 4))]))) (tOr (tOf (dBin oLt (dVar 4) (dVar 2))) (tOf (dBin oGt (dVar 4) (dVar 3))))) (dVar 4))) (dC (.int 0))))))
theorem ok__law_is_row (T : Txt K mg) (F : FnP K "_law_is_row" s__law_is_row f fd) (mx : mg "_law_is_row" = some (.ref f)) (g__law_is_integer : Ok P w K mg base 1 "_law_is_integer" F__law_is_integer) : Ok P w K mg base 2 "_law_is_row" F__law_is_row :=
  okMk F.kp mx (F.bindsN fun _ _ _ _ _ _ us hl => match us, hl with | [_, _, _, _], _ => rfl) fnD_len (fn_okB (N := N__law_is_row) (k := 1) F sc__law_is_row fun cdv A outer s H E hr => by
    have sc := sc__law_is_row
    have hu := roomHu hr
    exact (sd_cons (sd_if (pdt_w (pdw_or (pdt_not (pdt_val (pd_isi_tup (by rfl) T.n_isinstance (by rfl) T.n_tuple (pd_var 0)))) (pdw_or1 (pdt_w (pdw_and (pdt_notN (pd_var 1)) (pdw_and1 (pdt_cmp (opd_ne hu) (pd_len (by rfl) T.n_len (pd_var 0)) (pd_var 1)))))))) (sd_one (sd_ret pd_bl)) sd_nil)
       (sd_one (sd_ret (pd_cmp (opd_eq hu) (pd_len (by rfl) T.n_len (pde_f (pdf_lc rfl sc.nd (pid_seq (pd_var 0)) (blkOk_by (own := [("one", 4)]) (N := N__law_is_row) (sc := defScope s__law_is_row) (by decide +kernel)) (by decide) (fun _ _ _ _ _ => (gd_name 4 sc.nd)) (fun _ _ _ _ _ => (ptsd_one (pdt_w (pdw_or (pdt_not (pdt_val (pd_call takes0 (g__law_is_integer.fnd hr) (by rfl) (pda_d (pd_var 4) pda_nil)))) (pdw_or (pdt_cmp opd_lt (pd_var 4) (pd_var 2)) (pdw_or1 (pdt_cmp opd_gt (pd_var 4) (pd_var 3)))))))) (fun _ _ _ _ _ => (pd_var 4)) (tgok_n 4)))) pd_int)))))
abbrev s__law_cables : Stmt := topS 25
abbrev N__law_cables : List Str := ["pool", "most", "many", "edges", "dense", "far", "a", "b"]
theorem sc__law_cables : FnScope N__law_cables ["pool", "most"] (defScope s__law_cables) := ⟨rfl, rfl, rfl, by decide +kernel, rfl, by decide +kernel, by decide +kernel⟩
def F__law_cables : List Arg → M D := fnD 2 8 ((sSeq (sAsg (gN 2) (dBin oAdd (dC (.int 1)) (dCall F_draw [(aPool 0), (aD (dVar 1))])))
  (sSeq (sOwn 3 (dLst []))
  (sSeq (sAsg (gN 4) (dBin oIx (dTup [(dC (.int 1)), (dC (.int 2)), (dC (.int 3))]) (dCall F_draw [(aPool 0), (aD (dC (.int 3)))])))
  (sSeq (sAsg (gN 5) (dBin oIx (dTup [(dC (.int 2)), (dC (.int 6)), (dC (.int 100))]) (dCall F_draw [(aPool 0), (aD (dC (.int 3)))])))
  (sSeq (sFor (iR1 (dVar 2)) (gN 6) (sFor (iR2 (dBin oAdd (dVar 6) (dC (.int 1))) (dVar 2)) (gN 7) (sIf (tOf (dBin oEq (dCall F_draw [(aPool 0), (aD (dVar 4))]) (dC (.int 0)))) (sApp 3 (dTup [(dVar 6), (dVar 7), (dCall F_draw [(aPool 0), (aD (dVar 5))])])) sNil)))
  (sRet (dTup [(dVar 2), (dUn bTuple (dVar 3))]))))))))
theorem ok__law_cables (T : Txt K mg) (F : FnP K "_law_cables" s__law_cables f fd) (mx : mg "_law_cables" = some (.ref f)) (g__law_draw : Ok P w K mg base 2 "_law_draw" F_draw) : Ok P w K mg base 3 "_law_cables" F__law_cables :=
  okMk F.kp mx (F.bindsN fun _ _ _ _ _ _ us hl => match us, hl with | [_, _], _ => rfl) fnD_len (fn_okB (N := N__law_cables) (k := 2) F sc__law_cables fun cdv A outer s H E hr => by
    have sc := sc__law_cables
    have hu := roomHu hr
    exact (sd_cons (sd_asg (i := 2) sc.nd (pd_bin opd_add pd_int (pd_call (takes_of rfl rfl rfl rfl) (g__law_draw.fnd hr) (by rfl) (pda_pool 0 (pda_d (pd_var 1) pda_nil)))))
       (sd_cons (sd_own (i := 3) sc.nd (pdf_lst pdl_nil))
       (sd_cons (sd_asg (i := 4) sc.nd (pd_ix ixd (pd_tup (pdl_cons pd_int (pdl_cons pd_int (pdl_cons pd_int pdl_nil)))) (pd_call (takes_of rfl rfl rfl rfl) (g__law_draw.fnd hr) (by rfl) (pda_pool 0 (pda_d pd_int pda_nil)))))
       (sd_cons (sd_asg (i := 5) sc.nd (pd_ix ixd (pd_tup (pdl_cons pd_int (pdl_cons pd_int (pdl_cons pd_int pdl_nil)))) (pd_call (takes_of rfl rfl rfl rfl) (g__law_draw.fnd hr) (by rfl) (pda_pool 0 (pda_d pd_int pda_nil)))))
       (sd_cons (sd_for (passes_of rfl) rfl (pid_r1 (by rfl) T.n_range (pd_var 2)) (gd_name 6 sc.nd) (sd_one (sd_for (passes_of rfl) rfl (pid_r2 (by rfl) T.n_range (pd_bin opd_add (pd_var 6) pd_int) (pd_var 2)) (gd_name 7 sc.nd) (sd_one (sd_if (pdt_cmp (opd_eq hu) (pd_call (takes_of rfl rfl rfl rfl) (g__law_draw.fnd hr) (by rfl) (pda_pool 0 (pda_d (pd_var 4) pda_nil))) pd_int) (sd_one (sd_app (i := 3) (pd_tup (pdl_cons (pd_var 6) (pdl_cons (pd_var 7) (pdl_cons (pd_call (takes_of rfl rfl rfl rfl) (g__law_draw.fnd hr) (by rfl) (pda_pool 0 (pda_d (pd_var 5) pda_nil))) pdl_nil))))).1) sd_nil)))))
       (sd_one (sd_ret (pd_tup (pdl_cons (pd_var 2) (pdl_cons (pd_tuple (by rfl) T.n_tuple (pd_var 3)) pdl_nil)))))))))))
abbrev s__law_together : Stmt := topS 26
abbrev N__law_together : List Str := ["many", "edges", "start", "found", "grew", "edge"]
theorem sc__law_together : FnScope N__law_together ["many", "edges", "start"] (defScope s__law_together) := ⟨rfl, rfl, rfl, by decide +kernel, rfl, by decide +kernel, by decide +kernel⟩
def F__law_together : List Arg → M D := fnD 3 6 ((sSeq (sOwn 3 (dLst [(dVar 2)]))
  (sSeq (sAsg (gN 4) (dC (.bool true)))
  (sSeq (sWhile fuelW (tOf (dVar 4)) (sSeq (sAsg (gN 4) (dC (.bool false)))
  (sFor (iSeq (dVar 1)) (gN 5) (sIf (tOf (dBin oNe (dBin oIn (dBin oIx (dVar 5) (dC (.int 0))) (dVar 3)) (dBin oIn (dBin oIx (dVar 5) (dC (.int 1))) (dVar 3)))) (sSeq (sAppF 3 (dIf (tOf (dBin oIn (dBin oIx (dVar 5) (dC (.int 0))) (dVar 3))) (dBin oIx (dVar 5) (dC (.int 1))) (dBin oIx (dVar 5) (dC (.int 0)))))
  (sAsg (gN 4) (dC (.bool true)))) sNil))))
  (sRet (dUn bSorted (dVar 3)))))))
theorem ok__law_together (T : Txt K mg) (F : FnP K "_law_together" s__law_together f fd) (mx : mg "_law_together" = some (.ref f)) : Ok P w K mg base 1 "_law_together" F__law_together :=
  okMk F.kp mx (F.bindsN fun _ _ _ _ _ _ us hl => match us, hl with | [_, _, _], _ => rfl) fnD_len (fn_okB (N := N__law_together) (k := 0) F sc__law_together fun cdv A outer s H E hr => by
    have sc := sc__law_together
    have hu := roomHu hr
    exact (sd_cons (sd_own (i := 3) sc.nd (pdf_lst (pdl_cons (pd_var 2) pdl_nil)))
       (sd_cons (sd_asg (i := 4) sc.nd pd_bl)
       (sd_cons (sd_while (passes_of rfl) (pdt_val (pd_var 4)) (sd_cons (sd_asg (i := 4) sc.nd pd_bl)
       (sd_one (sd_for (passes_of rfl) rfl (pid_seq (pd_var 1)) (gd_name 5 sc.nd) (sd_one (sd_if (pdt_cmp (opd_ne hu) (pd_cmp (opd_in hu) (pd_ix ixd (pd_var 5) pd_int) (pd_var 3) (by rfl)) (pd_cmp (opd_in hu) (pd_ix ixd (pd_var 5) pd_int) (pd_var 3) (by rfl))) (sd_cons (sd_app (i := 3) (pd_if (pdt_cmp (opd_in hu) (pd_ix ixd (pd_var 5) pd_int) (pd_var 3) (by rfl)) (pd_ix ixd (pd_var 5) pd_int) (pd_ix ixd (pd_var 5) pd_int))).2
       (sd_one (sd_asg (i := 4) sc.nd pd_bl))) sd_nil))))))
       (sd_one (sd_ret (pde_f (pdf_sorted hu (by rfl) T.n_sorted (pd_var 3)))))))))
abbrev s__law_is_cable_net : Stmt := topS 27
abbrev N__law_is_cable_net : List Str := ["cables", "value", "k"]
theorem sc__law_is_cable_net : FnScope N__law_is_cable_net ["cables", "value"] (defScope s__law_is_cable_net) := ⟨rfl, rfl, rfl, by decide +kernel, rfl, by decide +kernel, by decide +kernel⟩
def F__law_is_cable_net : List Arg → M D := fnD 2 3 ((sSeq (sIf (tOr (tNot (tOf (dCall F__law_is_row [(aD (dVar 1)), (aD (dC .none)), (aD (dC (.int 0))), (aD (dBin oSub (dUn bLen (dBin oIx (dVar 0) (dC (.int 1)))) (dC (.int 1))))]))) (tOr (tNot (tOf (dCall F__law_is_up [(aD (dVar 1))]))) (tOf (dBin oNe (dUn bLen (dVar 1)) (dBin oSub (dBin oIx (dVar 0) (dC (.int 0))) (dC (.int 1))))))) (sRet (dC (.bool false))) sNil)
  (sRet (dBin oEq (dUn bLen (dCall F__law_together [(aD (dBin oIx (dVar 0) (dC (.int 0)))), (aD (dComp [2] (iSeq (dVar 1)) (gN 2) tTrue (dBin oIx (dBin oIx (dVar 0) (dC (.int 1))) (dVar 2)))), (aD (dC (.int 0)))])) (dBin oIx (dVar 0) (dC (.int 0)))))))
theorem ok__law_is_cable_net (T : Txt K mg) (F : FnP K "_law_is_cable_net" s__law_is_cable_net f fd) (mx : mg "_law_is_cable_net" = some (.ref f)) (g__law_is_row : Ok P w K mg base 2 "_law_is_row" F__law_is_row) (g__law_is_up : Ok P w K mg base 1 "_law_is_up" F__law_is_up) (g__law_together : Ok P w K mg base 1 "_law_together" F__law_together) : Ok P w K mg base 3 "_law_is_cable_net" F__law_is_cable_net :=
  okMk F.kp mx (F.bindsN fun _ _ _ _ _ _ us hl => match us, hl with | [_, _], _ => rfl) fnD_len (fn_okB (N := N__law_is_cable_net) (k := 2) F sc__law_is_cable_net fun cdv A outer s H E hr => by
    have sc := sc__law_is_cable_net
    have hu := roomHu hr
    exact (sd_cons (sd_if (pdt_w (pdw_or (pdt_not (pdt_val (pd_call (takes_of rfl rfl rfl rfl) (g__law_is_row.fnd hr) (by rfl) (pda_d (pd_var 1) (pda_d pd_non (pda_d pd_int (pda_d (pd_bin opd_sub (pd_len (by rfl) T.n_len (pd_ix ixd (pd_var 0) pd_int)) pd_int) pda_nil))))))) (pdw_or (pdt_not (pdt_val (pd_call (takes_of rfl rfl rfl rfl) (g__law_is_up.fnd hr) (by rfl) (pda_d (pd_var 1) pda_nil)))) (pdw_or1 (pdt_cmp (opd_ne hu) (pd_len (by rfl) T.n_len (pd_var 1)) (pd_bin opd_sub (pd_ix ixd (pd_var 0) pd_int) pd_int)))))) (sd_one (sd_ret pd_bl)) sd_nil)
       (sd_one (sd_ret (pd_cmp (opd_eq hu) (pd_len (by rfl) T.n_len (pd_call (takes_of rfl rfl rfl rfl) (g__law_together.fnd hr) (by rfl) (pda_d (pd_ix ixd (pd_var 0) pd_int) (pda_d (pde_f (pdf_lc rfl sc.nd (pid_seq (pd_var 1)) (blkOk_by (own := [("k", 2)]) (N := N__law_is_cable_net) (sc := defScope s__law_is_cable_net) (by decide +kernel)) (by decide) (fun _ _ _ _ _ => (gd_name 2 sc.nd)) (fun _ _ _ _ _ => ptsd_nil) (fun _ _ _ _ _ => (pd_ix ixd (pd_ix ixd (pd_var 0) pd_int) (pd_var 2))) (tgok_n 2))) (pda_d pd_int pda_nil))))) (pd_ix ixd (pd_var 0) pd_int))))))
abbrev s__law_right_cables : Stmt := topS 28
abbrev N__law_right_cables : List Str := ["cables", "value", "many", "edges", "k", "cheap", "edge", "j"]
theorem sc__law_right_cables : FnScope N__law_right_cables ["cables", "value"] (defScope s__law_right_cables) := ⟨rfl, rfl, rfl, by decide +kernel, rfl, by decide +kernel, by decide +kernel⟩
def F__law_right_cables : List Arg → M D := fnD 2 8 ((sSeq (sAsg (gT [(gN 2), (gN 3)]) (dVar 0))
  (sSeq (sIf (tOr (tNot (tOf (dUn bIsTup (dVar 1)))) (tOr (tOf (dBin oNe (dUn bLen (dVar 1)) (dC (.int 2)))) (tNot (tOf (dUn bIsStr (dBin oIx (dVar 1) (dC (.int 0)))))))) (sRet (dC (.bool false))) sNil)
  (sSeq (sIf (tOf (dBin oEq (dBin oIx (dVar 1) (dC (.int 0))) (dC (.str "apart")))) (sSeq (sIf (tOr (tNot (tOf (dCall F__law_is_row [(aD (dBin oIx (dVar 1) (dC (.int 1)))), (aD (dC .none)), (aD (dC (.int 0))), (aD (dBin oSub (dVar 2) (dC (.int 1))))]))) (tOr (tNot (tOf (dCall F__law_is_up [(aD (dBin oIx (dVar 1) (dC (.int 1))))]))) (tOr (tOf (dBin oLt (dUn bLen (dBin oIx (dVar 1) (dC (.int 1)))) (dC (.int 1)))) (tOf (dBin oGe (dUn bLen (dBin oIx (dVar 1) (dC (.int 1)))) (dVar 2)))))) (sRet (dC (.bool false))) sNil)
  (sRet (dBin oEq (dUn bLen (dComp [6] (iSeq (dVar 3)) (gN 6) (tOf (dBin oNe (dBin oIn (dBin oIx (dVar 6) (dC (.int 0))) (dBin oIx (dVar 1) (dC (.int 1)))) (dBin oIn (dBin oIx (dVar 6) (dC (.int 1))) (dBin oIx (dVar 1) (dC (.int 1)))))) (dVar 6))) (dC (.int 0))))) sNil)
  (sSeq (sIf (tOr (tOf (dBin oNe (dBin oIx (dVar 1) (dC (.int 0))) (dC (.str "net")))) (tNot (tOf (dCall F__law_is_cable_net [(aD (dVar 0)), (aD (dBin oIx (dVar 1) (dC (.int 1))))])))) (sRet (dC (.bool false))) sNil)
  (sSeq (sFor (iR1 (dUn bLen (dVar 3))) (gN 4) (sIf (tOf (dBin oNotIn (dVar 4) (dBin oIx (dVar 1) (dC (.int 1))))) (sSeq (sAsg (gN 5) (dComp [7] (iSeq (dBin oIx (dVar 1) (dC (.int 1)))) (gN 7) (tOf (dBin oLe (dBin oIx (dBin oIx (dVar 3) (dVar 7)) (dC (.int 2))) (dBin oIx (dBin oIx (dVar 3) (dVar 4)) (dC (.int 2))))) (dBin oIx (dVar 3) (dVar 7))))
  (sIf (tOf (dBin oNotIn (dBin oIx (dBin oIx (dVar 3) (dVar 4)) (dC (.int 1))) (dCall F__law_together [(aD (dVar 2)), (aD (dVar 5)), (aD (dBin oIx (dBin oIx (dVar 3) (dVar 4)) (dC (.int 0))))]))) (sRet (dC (.bool false))) sNil)) sNil))
  (sRet (dC (.bool true)))))))))
theorem ok__law_right_cables (T : Txt K mg) (F : FnP K "_law_right_cables" s__law_right_cables f fd) (mx : mg "_law_right_cables" = some (.ref f)) (g__law_is_row : Ok P w K mg base 2 "_law_is_row" F__law_is_row) (g__law_is_up : Ok P w K mg base 1 "_law_is_up" F__law_is_up) (g__law_is_cable_net : Ok P w K mg base 3 "_law_is_cable_net" F__law_is_cable_net) (g__law_together : Ok P w K mg base 1 "_law_together" F__law_together) : Ok P w K mg base 4 "_law_right_cables" F__law_right_cables :=
  okMk F.kp mx (F.bindsN fun _ _ _ _ _ _ us hl => match us, hl with | [_, _], _ => rfl) fnD_len (fn_okB (N := N__law_right_cables) (k := 3) F sc__law_right_cables fun cdv A outer s H E hr => by
    have sc := sc__law_right_cables
    have hu := roomHu hr
    exact (sd_cons (sd_tgt (pd_var 0) (gd_tup rfl (gds_cons (gd_name 2 sc.nd) (gds_cons (gd_name 3 sc.nd) gds_nil))))
       (sd_cons (sd_if (pdt_w (pdw_or (pdt_not (pdt_val (pd_isi_tup (by rfl) T.n_isinstance (by rfl) T.n_tuple (pd_var 1)))) (pdw_or (pdt_cmp (opd_ne hu) (pd_len (by rfl) T.n_len (pd_var 1)) pd_int) (pdw_or1 (pdt_not (pdt_val (pd_isi_str (by rfl) T.n_isinstance (by rfl) T.n_str (pd_ix ixd (pd_var 1) pd_int)))))))) (sd_one (sd_ret pd_bl)) sd_nil)
       (sd_cons (sd_if (pdt_cmp (opd_eq hu) (pd_ix ixd (pd_var 1) pd_int) pd_str) (sd_cons (sd_if (pdt_w (pdw_or (pdt_not (pdt_val (pd_call (takes_of rfl rfl rfl rfl) (g__law_is_row.fnd hr) (by rfl) (pda_d (pd_ix ixd (pd_var 1) pd_int) (pda_d pd_non (pda_d pd_int (pda_d (pd_bin opd_sub (pd_var 2) pd_int) pda_nil))))))) (pdw_or (pdt_not (pdt_val (pd_call (takes_of rfl rfl rfl rfl) (g__law_is_up.fnd hr) (by rfl) (pda_d (pd_ix ixd (pd_var 1) pd_int) pda_nil)))) (pdw_or (pdt_cmp opd_lt (pd_len (by rfl) T.n_len (pd_ix ixd (pd_var 1) pd_int)) pd_int) (pdw_or1 (pdt_cmp opd_ge (pd_len (by rfl) T.n_len (pd_ix ixd (pd_var 1) pd_int)) (pd_var 2))))))) (sd_one (sd_ret pd_bl)) sd_nil)
       (sd_one (sd_ret (pd_cmp (opd_eq hu) (pd_len (by rfl) T.n_len (pde_f (pdf_lc rfl sc.nd (pid_seq (pd_var 3)) (blkOk_by (own := [("edge", 6)]) (N := N__law_right_cables) (sc := defScope s__law_right_cables) (by decide +kernel)) (by decide) (fun _ _ _ _ _ => (gd_name 6 sc.nd)) (fun _ _ _ _ _ => (ptsd_one (pdt_cmp (opd_ne hu) (pd_cmp (opd_in hu) (pd_ix ixd (pd_var 6) pd_int) (pd_ix ixd (pd_var 1) pd_int) (by rfl)) (pd_cmp (opd_in hu) (pd_ix ixd (pd_var 6) pd_int) (pd_ix ixd (pd_var 1) pd_int) (by rfl))))) (fun _ _ _ _ _ => (pd_var 6)) (tgok_n 6)))) pd_int)))) sd_nil)
       (sd_cons (sd_if (pdt_w (pdw_or (pdt_cmp (opd_ne hu) (pd_ix ixd (pd_var 1) pd_int) pd_str) (pdw_or1 (pdt_not (pdt_val (pd_call (takes_of rfl rfl rfl rfl) (g__law_is_cable_net.fnd hr) (by rfl) (pda_d (pd_var 0) (pda_d (pd_ix ixd (pd_var 1) pd_int) pda_nil)))))))) (sd_one (sd_ret pd_bl)) sd_nil)
       (sd_cons (sd_for (passes_of rfl) rfl (pid_r1 (by rfl) T.n_range (pd_len (by rfl) T.n_len (pd_var 3))) (gd_name 4 sc.nd) (sd_one (sd_if (pdt_cmp (opd_notin hu) (pd_var 4) (pd_ix ixd (pd_var 1) pd_int) (by rfl)) (sd_cons (sd_lcd (ps_lcn (i := 5) rfl sc.nd (sw_true rfl rfl rfl (by decide +kernel)) (pid_seq (pd_ix ixd (pd_var 1) pd_int)) (blkOk_by (own := [("j", 7)]) (N := N__law_right_cables) (sc := defScope s__law_right_cables) (by decide +kernel)) (by decide) (fun _ _ _ _ _ => (gd_name 7 sc.nd)) (fun _ _ _ _ _ => (ptsd_one (pdt_cmp opd_le (pd_ix ixd (pd_ix ixd (pd_var 3) (pd_var 7)) pd_int) (pd_ix ixd (pd_ix ixd (pd_var 3) (pd_var 4)) pd_int)))) (fun _ _ _ _ _ => (pd_ix ixd (pd_var 3) (pd_var 7))) (tgok_n 7)))
       (sd_one (sd_if (pdt_cmp (opd_notin hu) (pd_ix ixd (pd_ix ixd (pd_var 3) (pd_var 4)) pd_int) (pd_call (takes_of rfl rfl rfl rfl) (g__law_together.fnd hr) (by rfl) (pda_d (pd_var 2) (pda_d (pd_var 5) (pda_d (pd_ix ixd (pd_ix ixd (pd_var 3) (pd_var 4)) pd_int) pda_nil)))) (by rfl)) (sd_one (sd_ret pd_bl)) sd_nil))) sd_nil)))
       (sd_one (sd_ret pd_bl))))))))
abbrev s_law : Stmt := topS 29
abbrev N_law : List Str := ["script", "pool", "cables", "many", "edges", "paper", "row", "tried", "k", "side", "together", "at", "other", "value", "due", "shown", "m"]
theorem sc_law : FnScope N_law ["script"] (defScope s_law) := ⟨rfl, rfl, rfl, by decide +kernel, rfl, by decide +kernel, by decide +kernel⟩
def B_law : DS := (sSeq (sAsg (gN 2) (dCall F__law_cables [(aPool 1), (aD (dC (.int 8)))]))
  (sSeq (sAsg (gT [(gN 3), (gN 4)]) (dVar 2))
  (sSeq (sAsg (gN 5) (dCall F_cable_paper [(aD (dVar 2))]))
  (sSeq (sAsg (gN 6) (dBin oIx (dVar 5) (dC (.int 1))))
  (sSeq (sAsg (gN 7) (dLst [(dVar 5), (dUn bList (dVar 5)), (dCall (F__law_listed 12) [(aD (dVar 5)), (aD (dC (.int 1)))]), (dCall (F__law_booled 14) [(aD (dVar 5))]), (dSl (dVar 5) none (some (dC (.int 1)))), (dBin oAdd (dVar 5) (dTup [(dTup [])])), (dTup [(dC (.str "net")), (dTup [])]), (dTup [(dC (.str "apart")), (dTup [])]), (dTup [(dC (.str "apart")), (dUn rgt1 (dVar 3))])]))
  (sSeq (sAsg (gN 7) (dBin oAdd (dVar 7) (dLst [(dTup [(dC (.str "net")), (dVar 6)]), (dTup [(dC (.str "apart")), (dVar 6)]), (dTup [(dC .none), (dVar 6)])])))
  (sSeq (sFor (iR1 (dC (.int 12))) (gN 8) (sSeq (sAsg (gN 9) (dUn bTuple (dComp [16] (iR1 (dVar 3)) (gN 16) (tOf (dBin oEq (dCall F_draw [(aPool 1), (aD (dC (.int 2)))]) (dC (.int 0)))) (dVar 16))))
  (sSeq (sAsg (gN 10) (dUn bTuple (dCall F__law_together [(aD (dVar 3)), (aD (dVar 4)), (aD (dCall F_draw [(aPool 1), (aD (dVar 3))]))])))
  (sSeq (sAsg (gN 7) (dBin oAdd (dVar 7) (dLst [(dTup [(dC (.str "apart")), (dVar 9)]), (dTup [(dC (.str "apart")), (dVar 10)]), (dTup [(dC (.str "apart")), (dUn oRevT (dVar 10))]), (dTup [(dC (.str "apart")), (dUn bTuple (dUn bSortedSetT (dBin oAdd (dVar 9) (dVar 10))))])])))
  (sIf (tAnd (tOf (dBin oNe (dVar 6) (dTup []))) (tOf (dBin oNe (dVar 4) (dTup [])))) (sSeq (sAsg (gN 11) (dCall F_draw [(aPool 1), (aD (dUn bLen (dVar 6)))]))
  (sSeq (sAsg (gN 12) (dUn bTuple (dUn bSortedSetT (dBin oAdd (dBin oAdd (dSl (dVar 6) none (some (dVar 11))) (dSl (dVar 6) (some (dBin oAdd (dVar 11) (dC (.int 1)))) none)) (dTup [(dCall F_draw [(aPool 1), (aD (dUn bLen (dVar 4)))])])))))
  (sAsg (gN 7) (dBin oAdd (dVar 7) (dLst [(dTup [(dC (.str "net")), (dVar 12)]), (dTup [(dC (.str "net")), (dBin oAdd (dSl (dVar 6) none (some (dVar 11))) (dSl (dVar 6) (some (dBin oAdd (dVar 11) (dC (.int 1)))) none))]), (dTup [(dC (.str "net")), (dUn bTuple (dUn bSortedSetT (dBin oAdd (dVar 6) (dTup [(dCall F_draw [(aPool 1), (aD (dUn bLen (dVar 4)))])]))))]), (dTup [(dC (.str "net")), (dUn bRev (dVar 6))])]))))) sNil)))))
  (sSeq (sFor (iSeq (dBin oAdd (dBin oAdd (dVar 7) (dCall0 F__law_odd_values)) (dComp [8] (iR1 (dC (.int 8))) (gN 8) tTrue (dCall (F__law_bent 14) [(aPool 1), (aD (dVar 5))])))) (gN 13) (sSeq (sAsg (gN 14) (dCall F__law_right_cables [(aD (dVar 2)), (aD (dVar 13))]))
  (sSeq (sAsg (gN 15) (dUn bRepr (dVar 13)))
  (sIf (tOr (tNot (tOf (dCall (F__law_same 12) [(aD (dCall F_check_cables [(aD (dVar 2)), (aD (dVar 13))])), (aD (dVar 14))]))) (tOf (dBin oNe (dUn bRepr (dVar 13)) (dVar 15)))) (sRet (dC (.bool false))) sNil))))
  (sRet (dC (.bool true)))))))))))
abbrev rho0 : Rho := [none, some .pool] ++ List.replicate 15 none
theorem ok_law (T : Txt K mg) (F : FnP K "law" s_law f fd) {fp : Addr} {fdp : FuncData} (Fp : FnP K "_law_pool" s_pool fp fdp) (gp : mg "_law_pool" = some (.ref fp)) (g__law_cables : Ok P w K mg base 3 "_law_cables" F__law_cables) (g_cable_paper : Ok P w K mg base 3 "cable_paper" F_cable_paper) (g__law_listed : Ok P w K mg base 13 "_law_listed" (F__law_listed 12)) (g__law_booled : Ok P w K mg base 16 "_law_booled" (F__law_booled 14)) (g__law_draw : Ok P w K mg base 2 "_law_draw" F_draw) (g__law_together : Ok P w K mg base 1 "_law_together" F__law_together) (g__law_odd_values : Ok P w K mg base 1 "_law_odd_values" F__law_odd_values) (g__law_bent : Ok P w K mg base 17 "_law_bent" (F__law_bent 14)) (g__law_right_cables : Ok P w K mg base 4 "_law_right_cables" F__law_right_cables) (g__law_same : Ok P w K mg base 13 "_law_same" (F__law_same 12)) (g_check_cables : Ok P w K mg base 5 "check_cables" F_check_cables) (good : ∀ q, ∃ q', B_law rho0 q = .ok (.ret (.bool true)) q') :
    FnG P w K mg base (L2.CX P w) 18 f fd ["script"] (spLaw K) := by
  have GP : FnOk P w K mg base (L2.CX P w) 1 fp fdp ["script"] (spPool K) := ok_pool Fp T.n_int T.n_list
  have bp : Binds K fdp ["script"] [] := Fp.bindsN fun _ _ _ _ _ _ us hl => match us, hl with | [_], _ => rfl
  refine fnG_of F sc_law (fun vs H Q E h => ?_) (fun cdv A outer s H vs Q E hgd hr h => ?_)
  · obtain ⟨a, ns, rfl, _⟩ := h
    rfl
  obtain ⟨a, ns, rfl, hS, hTab, hq⟩ := h
  have sc := sc_law
  have rest : PSsd (cxOf (L2.CX P w) P w K mg base N_law "law" (defScope s_law) f cdv A outer s H E) (fun cls d _ H => E cls d H) ((defBody s_law).drop 1) B_law := by
    have hu := roomHu hr
    exact (sd_cons (sd_asg (i := 2) sc.nd (pd_call (takes_of rfl rfl rfl rfl) (g__law_cables.fnd hr) (by rfl) (pda_pool 1 (pda_d pd_int pda_nil))))
       (sd_cons (sd_tgt (pd_var 2) (gd_tup rfl (gds_cons (gd_name 3 sc.nd) (gds_cons (gd_name 4 sc.nd) gds_nil))))
       (sd_cons (sd_asg (i := 5) sc.nd (pd_call (takes_of rfl rfl rfl rfl) (g_cable_paper.fnd hr) (by rfl) (pda_d (pd_var 2) pda_nil)))
       (sd_cons (sd_asg (i := 6) sc.nd (pd_ix ixd (pd_var 5) pd_int))
       (sd_cons (sd_asg (i := 7) sc.nd (pde_f (pdf_lst (pdl_cons (pd_var 5) (pdl_cons (pde_f (pdf_list (by rfl) T.n_list (pd_var 5))) (pdl_cons (pd_call (takes_of rfl rfl rfl rfl) (g__law_listed.fnd hr) (by rfl) (pda_d (pd_var 5) (pda_d pd_int pda_nil))) (pdl_cons (pd_call (takes_of rfl rfl rfl rfl) (g__law_booled.fnd hr) (by rfl) (pda_d (pd_var 5) pda_nil)) (pdl_cons (pd_sl (pd_var 5) pdo_none (pdo_some pd_int)) (pdl_cons (pd_bin opd_add (pd_var 5) (pd_tup (pdl_cons (pd_tup pdl_nil) pdl_nil))) (pdl_cons (pd_tup (pdl_cons pd_str (pdl_cons (pd_tup pdl_nil) pdl_nil))) (pdl_cons (pd_tup (pdl_cons pd_str (pdl_cons (pd_tup pdl_nil) pdl_nil))) (pdl_cons (pd_tup (pdl_cons pd_str (pdl_cons (pd_rgt1 rfl (by rfl) T.n_tuple (by rfl) T.n_range (pd_var 3)) pdl_nil))) pdl_nil))))))))))))
       (sd_cons (sd_asg (i := 7) sc.nd (pd_bin opd_add (pd_var 7) (pde_f (pdf_lst (pdl_cons (pd_tup (pdl_cons pd_str (pdl_cons (pd_var 6) pdl_nil))) (pdl_cons (pd_tup (pdl_cons pd_str (pdl_cons (pd_var 6) pdl_nil))) (pdl_cons (pd_tup (pdl_cons pd_non (pdl_cons (pd_var 6) pdl_nil))) pdl_nil)))))))
       (sd_cons (sd_for (passes_of rfl) rfl (pid_r1 (by rfl) T.n_range pd_int) (gd_name 8 sc.nd) (sd_cons (sd_asg (i := 9) sc.nd (pd_tuple (by rfl) T.n_tuple (pde_f (pdf_lc rfl sc.nd (pid_r1 (by rfl) T.n_range (pd_var 3)) (blkOk_by (own := [("m", 16)]) (N := N_law) (sc := defScope s_law) (by decide +kernel)) (by decide) (fun _ _ _ _ _ => (gd_name 16 sc.nd)) (fun _ _ _ _ _ => (ptsd_one (pdt_cmp (opd_eq hu) (pd_call takes0 (g__law_draw.fnd hr) (by rfl) (pda_pool 1 (pda_d pd_int pda_nil))) pd_int))) (fun _ _ _ _ _ => (pd_var 16)) (tgok_n 16)))))
       (sd_cons (sd_asg (i := 10) sc.nd (pd_tuple (by rfl) T.n_tuple (pd_call (takes_of rfl rfl rfl rfl) (g__law_together.fnd hr) (by rfl) (pda_d (pd_var 3) (pda_d (pd_var 4) (pda_d (pd_call (takes_of rfl rfl rfl rfl) (g__law_draw.fnd hr) (by rfl) (pda_pool 1 (pda_d (pd_var 3) pda_nil))) pda_nil))))))
       (sd_cons (sd_asg (i := 7) sc.nd (pd_bin opd_add (pd_var 7) (pde_f (pdf_lst (pdl_cons (pd_tup (pdl_cons pd_str (pdl_cons (pd_var 9) pdl_nil))) (pdl_cons (pd_tup (pdl_cons pd_str (pdl_cons (pd_var 10) pdl_nil))) (pdl_cons (pd_tup (pdl_cons pd_str (pdl_cons (pd_tupRev rfl (by rfl) T.n_tuple (by rfl) T.n_reversed (pd_var 10)) pdl_nil))) (pdl_cons (pd_tup (pdl_cons pd_str (pdl_cons (pd_tuple (by rfl) T.n_tuple (pde_f (pdf_sortedsetT rfl (by rfl) T.n_sorted (by rfl) T.n_set (pd_bin opd_add (pd_var 9) (pd_var 10))))) pdl_nil))) pdl_nil))))))))
       (sd_one (sd_if (pdt_w (pdw_and (pdt_cmp (opd_ne hu) (pd_var 6) (pd_tup pdl_nil)) (pdw_and1 (pdt_cmp (opd_ne hu) (pd_var 4) (pd_tup pdl_nil))))) (sd_cons (sd_asg (i := 11) sc.nd (pd_call (takes_of rfl rfl rfl rfl) (g__law_draw.fnd hr) (by rfl) (pda_pool 1 (pda_d (pd_len (by rfl) T.n_len (pd_var 6)) pda_nil))))
       (sd_cons (sd_asg (i := 12) sc.nd (pd_tuple (by rfl) T.n_tuple (pde_f (pdf_sortedsetT rfl (by rfl) T.n_sorted (by rfl) T.n_set (pd_bin opd_add (pd_bin opd_add (pd_sl (pd_var 6) pdo_none (pdo_some (pd_var 11))) (pd_sl (pd_var 6) (pdo_some (pd_bin opd_add (pd_var 11) pd_int)) pdo_none)) (pd_tup (pdl_cons (pd_call (takes_of rfl rfl rfl rfl) (g__law_draw.fnd hr) (by rfl) (pda_pool 1 (pda_d (pd_len (by rfl) T.n_len (pd_var 4)) pda_nil))) pdl_nil)))))))
       (sd_one (sd_asg (i := 7) sc.nd (pd_bin opd_add (pd_var 7) (pde_f (pdf_lst (pdl_cons (pd_tup (pdl_cons pd_str (pdl_cons (pd_var 12) pdl_nil))) (pdl_cons (pd_tup (pdl_cons pd_str (pdl_cons (pd_bin opd_add (pd_sl (pd_var 6) pdo_none (pdo_some (pd_var 11))) (pd_sl (pd_var 6) (pdo_some (pd_bin opd_add (pd_var 11) pd_int)) pdo_none)) pdl_nil))) (pdl_cons (pd_tup (pdl_cons pd_str (pdl_cons (pd_tuple (by rfl) T.n_tuple (pde_f (pdf_sortedsetT rfl (by rfl) T.n_sorted (by rfl) T.n_set (pd_bin opd_add (pd_var 6) (pd_tup (pdl_cons (pd_call (takes_of rfl rfl rfl rfl) (g__law_draw.fnd hr) (by rfl) (pda_pool 1 (pda_d (pd_len (by rfl) T.n_len (pd_var 4)) pda_nil))) pdl_nil)))))) pdl_nil))) (pdl_cons (pd_tup (pdl_cons pd_str (pdl_cons (pd_rev (pd_var 6)) pdl_nil))) pdl_nil))))))))))) sd_nil))))))
       (sd_cons (sd_for (passes_of rfl) rfl (pid_seq (pd_bin opd_add (pd_bin opd_add (pd_var 7) (pd_call0 (g__law_odd_values.fnd hr) (by rfl))) (pde_f (pdf_lc rfl sc.nd (pid_r1 (by rfl) T.n_range pd_int) (blkOk_by (own := [("k", 8)]) (N := N_law) (sc := defScope s_law) (by decide +kernel)) (by decide) (fun _ _ _ _ _ => (gd_name 8 sc.nd)) (fun _ _ _ _ _ => ptsd_nil) (fun _ _ _ _ _ => (pd_call takes0 (g__law_bent.fnd hr) (by rfl) (pda_pool 1 (pda_d (pd_var 5) pda_nil)))) (tgok_n 8))))) (gd_name 13 sc.nd) (sd_cons (sd_asg (i := 14) sc.nd (pd_call (takes_of rfl rfl rfl rfl) (g__law_right_cables.fnd hr) (by rfl) (pda_d (pd_var 2) (pda_d (pd_var 13) pda_nil))))
       (sd_cons (sd_asg (i := 15) sc.nd (pd_repr hu hgd (by rfl) T.n_repr (pd_var 13)))
       (sd_one (sd_if (pdt_w (pdw_or (pdt_not (pdt_val (pd_call (takes_of rfl rfl rfl rfl) (g__law_same.fnd hr) (by rfl) (pda_d (pd_call (takes_of rfl rfl rfl rfl) (g_check_cables.fnd hr) (by rfl) (pda_d (pd_var 2) (pda_d (pd_var 13) pda_nil))) (pda_d (pd_var 14) pda_nil))))) (pdw_or1 (pdt_cmp (opd_ne hu) (pd_repr hu hgd (by rfl) T.n_repr (pd_var 13)) (pd_var 15))))) (sd_one (sd_ret pd_bl)) sd_nil)))))
       (sd_one (sd_ret pd_bl))))))))))
  obtain ⟨t, h1, h2⟩ := rest
  refine ⟨_, pss_cons (ps_set (i := 1) sc_law.nd rfl (.inr rfl) (pe_callS GP (hr.mono (by decide)) (by rfl) gp Fp.kp bp (fun σ => passAt (W := fun cls d _ H => E cls d H) (takes_of rfl rfl rfl rfl) σ) (pa_cons (pv 0) pa_nil))) h1, ?_⟩
  refine ⟨_, rfl, a, ns, rfl, hS, hTab, fun p sc H' salt sm pl hp => ?_⟩
  exact law_end (m := 15) (good _) pl hq h2 _
end
section
variable {κ : Bool}
theorem same_items {rc : List Arg → M D} {xs : List D} {m : D} (hl : xs.length ≤ 2 ^ 20) (hx : ∀ x ∈ xs, DoesK κ (rc [.d x, .d x]) (· = .bool true)) (bl : bLen m = M.ret (.int xs.length)) (ix : ∀ j x, xs[j]? = some x → oIx m (.int ((j : Nat) : Int)) = M.ret x) :
    DoesK κ (dComp [2] (iR1 (dUn bLen (dVar 1))) (gN 2) (tNot (tOf (dCall rc [(aD (dBin oIx (dVar 0) (dVar 2))), (aD (dBin oIx (dVar 1) (dVar 2)))]))) (dVar 2) [some (.dat m), some (.dat m), none]) (· = .list []) := by
  have z := lc_filt (κ := κ) (own := [2]) (it := iR1 (dUn bLen (dVar 1))) (g := gN 2) (t := tNot (tOf (dCall rc [(aD (dBin oIx (dVar 0) (dVar 2))), (aD (dBin oIx (dVar 1) (dVar 2)))]))) (e := dVar 2) (ρ := [some (.dat m), some (.dat m), none]) (xs := intsFrom 0 xs.length)
    (fun x => [some (.dat m), some (.dat m), some (.dat x)]) (fun _ => false) id (by
      simp only [at_r1, at_un, at_vs, at_v0, bnd_ret, bl, list_len xs hl]
      exact does_ret rfl) (by rw [intsFrom_len]; exact small20 hl) (fun x hx => rfl) (fun x hx' => by
      obtain ⟨j, hj⟩ := List.getElem?_of_mem hx'
      obtain ⟨rfl, hj2⟩ := intsFrom_at hj
      have hx2 := ix j _ (List.getElem?_eq_getElem hj2)
      simp only [at_not, at_tofk, at_call, at_argss, at_args0, at_ad, at_bin, at_vs, at_v0, bnd_ret, Int.zero_add, hx2]
      rw [bnd_bnd]
      refine does_eq (hx _ (List.getElem_mem hj2)) ?_
      exact does_ret rfl) (fun x _ h => by cases h)
  have e2 : ((intsFrom 0 xs.length).filter fun _ => false).map id = ([] : List D) := by simp
  rw [e2] at z
  exact z
theorem same_step {rc : List Arg → M D} (d : D) (h : match d with
    | .tuple xs => xs.length ≤ 2 ^ 20 ∧ ∀ x ∈ xs, DoesK κ (rc [.d x, .d x]) (· = .bool true)
    | .list xs => xs.length ≤ 2 ^ 20 ∧ ∀ x ∈ xs, DoesK κ (rc [.d x, .d x]) (· = .bool true)
    | .dict _ => False
    | _ => True) : DoesK κ (fnD 2 3 (B__law_same rc) [.d d, .d d]) (· = .bool true) := by
  refine does_fn rfl ?_
  show DoesK κ (B__law_same rc [some (.dat d), some (.dat d), none]) _
  unfold B__law_same
  cases d with
  | none => simp [bIsTup, bIsLst, oIsN, isN, PyData.isTuple, PyData.isList]; exact does_ret rfl
  | bool b => simp [bIsTup, bIsLst, oIsN, isN, PyData.isTuple, PyData.isList, bIsBool, PyData.isBool, oEq_bools]; exact does_ret rfl
  | int b => simp [bIsTup, bIsLst, oIsN, isN, PyData.isTuple, PyData.isList, bIsBool, PyData.isBool, bIsInt, PyData.isInt, oEq_ints]; exact does_ret rfl
  | str b => simp [bIsTup, bIsLst, oIsN, isN, PyData.isTuple, PyData.isList, bIsBool, PyData.isBool, bIsInt, PyData.isInt, bIsStr, PyData.isStr, oEq_refl_str]; exact does_ret rfl
  | dict kvs => exact h.elim
  | tuple xs =>
    have z := same_items (m := .tuple xs) h.1 h.2 rfl fun j x hx => oIx_t hx
    simp only [at_seq, at_sif, at_or, at_tofk, at_un, at_bin, at_vs, at_v0, bnd_ret, bIsTup, bIsLst, PyData.isTuple, PyData.isList, if_true, oNe_bools, bLen, oNe_ints, decide_true, Bool.not_true, Bool.false_eq_true, if_false, at_nil, at_sret, bnd_bnd]
    refine does_eq z ?_
    exact does_ret rfl
  | list xs =>
    have z := same_items (m := .list xs) h.1 h.2 rfl fun j x hx => oIx_l hx
    simp only [at_seq, at_sif, at_or, at_tofk, at_un, at_bin, at_vs, at_v0, bnd_ret, bIsTup, bIsLst, PyData.isTuple, PyData.isList, if_true, oNe_bools, bLen, oNe_ints, decide_true, Bool.not_true, Bool.false_eq_true, if_false, at_nil, at_sret, bnd_bnd]
    refine does_eq z ?_
    exact does_ret rfl
theorem same_ok (n : Nat) : ∀ d : D, Fl n d → DoesK κ (F__law_same n [.d d, .d d]) (· = .bool true) := by
  induction n with
  | zero => exact fun d h => h.elim
  | succ n ih =>
    intro d h
    refine same_step d ?_
    cases d with
    | tuple xs => exact ⟨h.1, fun x hx => ih x (h.2 x hx)⟩
    | list xs => exact ⟨h.1, fun x hx => ih x (h.2 x hx)⟩
    | dict kvs => exact h.elim
    | none => trivial
    | bool b => trivial
    | int i => trivial
    | str x => trivial
end

mutual
/-- small numbers, texts, tuples and lists of such -/
def tame (B : Nat) : D → Bool
  | .none | .bool _ => true
  | .int i => decide (i.natAbs < B)
  | .str x => x.cps.toList.all fun c => decide (c < 0x110000)
  | .tuple xs | .list xs => tameAll B xs
  | .dict _ => false
def tameAll (B : Nat) : List D → Bool
  | [] => true
  | x :: xs => tame B x && tameAll B xs
end
theorem tameAll_iff {B : Nat} : ∀ {xs : List D}, tameAll B xs = true ↔ ∀ x ∈ xs, tame B x = true
  | [] => by simp [tameAll]
  | x :: xs => by rw [tameAll, Bool.and_eq_true, tameAll_iff, List.forall_mem_cons]
theorem tame_t {B : Nat} {xs : List D} : tame B (.tuple xs) = tameAll B xs := by rw [tame]
theorem tame_l {B : Nat} {xs : List D} : tame B (.list xs) = tameAll B xs := by rw [tame]
theorem tame_i {B : Nat} {i : Int} (h : i.natAbs < B) : tame B (.int i) = true := by rw [tame, decide_eq_true_eq]; exact h
abbrev Big : Nat := 10 ^ 24
mutual
theorem tame_mono {B C : Nat} (h : B ≤ C) : ∀ d : D, tame B d = true → tame C d = true
  | .none, _ => by rw [tame]
  | .bool _, _ => by rw [tame]
  | .int i, e => by rw [tame, decide_eq_true_eq] at *; omega
  | .str x, e => by rw [tame] at *; exact e
  | .tuple xs, e => by rw [tame] at *; exact tame_monoAll h xs e
  | .list xs, e => by rw [tame] at *; exact tame_monoAll h xs e
  | .dict _, e => by rw [tame] at e; cases e
theorem tame_monoAll {B C : Nat} (h : B ≤ C) : ∀ xs : List D, tameAll B xs = true → tameAll C xs = true
  | [], _ => by rw [tameAll]
  | x :: xs, e => by
    rw [tameAll, Bool.and_eq_true] at *
    exact ⟨tame_mono h x e.1, tame_monoAll h xs e.2⟩
end
mutual
theorem tame_short : ∀ d : D, tame Big d = true → d.leavesShort 25 = true ∧ d.showable = true ∧ d.hasDict = false ∧ d.plain = true
  | .none, _ => by simp only [PyData.leavesShort, PyData.showable, PyData.hasDict, PyData.plain, and_self]
  | .bool _, _ => by simp only [PyData.leavesShort, PyData.showable, PyData.hasDict, PyData.plain, and_self]
  | .int i, h => by
    rw [tame, decide_eq_true_eq] at h
    refine ⟨?_, ?_, by rw [PyData.hasDict], by rw [PyData.plain]⟩
    · rw [PyData.leavesShort, decide_eq_true_eq, PyData.shown_int]
      have e := int_text_length_le10 (k := 24) (by decide) h
      rw [PySem.ofString_length]
      exact e
    · rw [PyData.showable, decide_eq_true_eq]
      by_cases h0 : i.natAbs = 0
      · rw [h0]; decide +kernel
      · refine (Nat.log2_lt h0).mpr (Nat.lt_trans h (by decide +kernel))
  | .str x, h => by
    rw [tame] at h
    exact ⟨by rw [PyData.leavesShort]; exact List.all_eq_true.mpr fun c hc => decide_eq_true (Nat.lt_trans (of_decide_eq_true ((List.all_eq_true.mp h) c hc)) (by decide +kernel)), by rw [PyData.showable], by rw [PyData.hasDict], by rw [PyData.plain]⟩
  | .tuple xs, h => by
    rw [tame] at h
    obtain ⟨h1, h2, h3, h4⟩ := tame_shortAll xs h
    exact ⟨by rw [PyData.leavesShort]; exact h1, by rw [PyData.showable]; exact h2, by rw [PyData.hasDict]; exact h3, by rw [PyData.plain]; exact h4⟩
  | .list xs, h => by
    rw [tame] at h
    obtain ⟨h1, h2, h3, h4⟩ := tame_shortAll xs h
    exact ⟨by rw [PyData.leavesShort]; exact h1, by rw [PyData.showable]; exact h2, by rw [PyData.hasDict]; exact h3, by rw [PyData.plain]; exact h4⟩
  | .dict _, h => by rw [tame] at h; cases h
theorem tame_shortAll : ∀ xs : List D, tameAll Big xs = true → PyData.leavesShortAll 25 xs = true ∧ PyData.showableAll xs = true ∧ PyData.hasDictAll xs = false ∧ PyData.plainAll xs = true
  | [], _ => by simp only [PyData.leavesShortAll, PyData.showableAll, PyData.hasDictAll, PyData.plainAll, and_self]
  | x :: xs, h => by
    rw [tameAll, Bool.and_eq_true] at h
    obtain ⟨a1, a2, a3, a4⟩ := tame_short x h.1
    obtain ⟨b1, b2, b3, b4⟩ := tame_shortAll xs h.2
    simp only [PyData.leavesShortAll, PyData.showableAll, PyData.hasDictAll, PyData.plainAll, a1, a2, a3, a4, b1, b2, b3, b4, Bool.and_self, Bool.or_self, and_self]
end
mutual
/-- its texts are texts -/
def okS : D → Bool
  | .none | .bool _ | .int _ | .dict _ => true
  | .str x => x.cps.toList.all fun c => decide (c < 0x110000)
  | .tuple xs | .list xs => okSAll xs
def okSAll : List D → Bool
  | [] => true
  | x :: xs => okS x && okSAll xs
end
mutual
theorem tame_okS {B : Nat} : ∀ d : D, tame B d = true → okS d = true
  | .none, _ => by rw [okS]
  | .bool _, _ => by rw [okS]
  | .int i, e => by rw [okS]
  | .str x, e => by rw [tame] at e; rw [okS]; exact e
  | .tuple xs, e => by rw [tame] at e; rw [okS]; exact tame_okSAll xs e
  | .list xs, e => by rw [tame] at e; rw [okS]; exact tame_okSAll xs e
  | .dict _, e => by rw [okS]
theorem tame_okSAll {B : Nat} : ∀ xs : List D, tameAll B xs = true → okSAll xs = true
  | [], _ => by rw [okSAll]
  | x :: xs, e => by
    rw [tameAll, Bool.and_eq_true] at e
    rw [okSAll, Bool.and_eq_true]
    exact ⟨tame_okS x e.1, tame_okSAll xs e.2⟩
end
def Fit (n k : Nat) (d : D) : Prop := tame Big d = true ∧ d.bulk ≤ n ∧ d.depth ≤ k
theorem Fit.mono {n k n' k' : Nat} {d : D} (h : Fit n k d) (hn : n ≤ n') (hk : k ≤ k') : Fit n' k' d := ⟨h.1, Nat.le_trans h.2.1 hn, Nat.le_trans h.2.2 hk⟩
theorem reprOk_fit {n k : Nat} {d : D} (h : Fit n k d) (hn : n ≤ 2 ^ 18) (hk : k ≤ 98) : reprOk d = true := by
  obtain ⟨h1, h2, h3⟩ := h
  obtain ⟨a1, a2, a3, _⟩ := tame_short d h1
  have z := PyData.shown_le_bulk 25 (by decide) d a1
  unfold reprOk
  rw [Bool.and_eq_true, Bool.and_eq_true, Bool.and_eq_true, decide_eq_true_eq, decide_eq_true_eq, a2, a3]
  have e : (2 : Nat) ^ 18 = 262144 := by decide
  refine ⟨⟨⟨rfl, by omega⟩, ?_⟩, rfl⟩
  rw [sizeLine_eq]
  omega
theorem bulk_t (xs : List D) : (PyData.tuple xs).bulk = PyData.bulkAll xs := by rw [PyData.bulk]
theorem bulk_l (xs : List D) : (PyData.list xs).bulk = PyData.bulkAll xs := by rw [PyData.bulk]
theorem bulkAll_cons (x : D) (xs : List D) : PyData.bulkAll (x :: xs) = x.bulk + 1 + PyData.bulkAll xs := by rw [PyData.bulkAll]
theorem bulkAll_nil : PyData.bulkAll [] = 0 := by rw [PyData.bulkAll]
theorem bulkAll_len : ∀ xs : List D, xs.length ≤ PyData.bulkAll xs
  | [] => Nat.zero_le _
  | x :: xs => by rw [bulkAll_cons, List.length_cons]; have := bulkAll_len xs; omega
theorem bulkAll_mem : ∀ {xs : List D} {x : D}, x ∈ xs → x.bulk + 1 ≤ PyData.bulkAll xs
  | y :: xs, x, h => by
    rw [bulkAll_cons]
    rcases List.mem_cons.mp h with rfl | h
    · omega
    · have := bulkAll_mem h; omega
theorem bulkAll_app : ∀ xs ys : List D, PyData.bulkAll (xs ++ ys) = PyData.bulkAll xs + PyData.bulkAll ys
  | [], ys => by rw [bulkAll_nil, List.nil_append, Nat.zero_add]
  | x :: xs, ys => by rw [List.cons_append, bulkAll_cons, bulkAll_cons, bulkAll_app xs ys]; omega
theorem bulkAll_split (xs : List D) (n : Nat) : PyData.bulkAll (xs.take n) + PyData.bulkAll (xs.drop n) = PyData.bulkAll xs := by rw [← bulkAll_app, List.take_append_drop]
theorem bulkAll_set : ∀ (xs : List D) (i : Nat) (y : D), PyData.bulkAll (xs.set i y) ≤ PyData.bulkAll xs + y.bulk
  | [], _, _ => by rw [List.set_nil]; exact Nat.le_add_right _ _
  | x :: xs, 0, y => by rw [List.set_cons_zero, bulkAll_cons, bulkAll_cons]; omega
  | x :: xs, i + 1, y => by rw [List.set_cons_succ, bulkAll_cons, bulkAll_cons]; have := bulkAll_set xs i y; omega
theorem depth_t (xs : List D) : (PyData.tuple xs).depth = PyData.depthAll xs + 1 := by rw [PyData.depth]
theorem depth_l (xs : List D) : (PyData.list xs).depth = PyData.depthAll xs + 1 := by rw [PyData.depth]
theorem depthAll_le : ∀ {xs : List D} {n : Nat}, PyData.depthAll xs ≤ n ↔ ∀ x ∈ xs, x.depth ≤ n
  | [], n => by simp [PyData.depthAll]
  | x :: xs, n => by rw [PyData.depthAll, Nat.max_le, depthAll_le, List.forall_mem_cons]
theorem depthAll_mem {xs : List D} {x : D} (h : x ∈ xs) : x.depth ≤ PyData.depthAll xs := depthAll_le.mp (Nat.le_refl _) x h
theorem fit_t {n k : Nat} {xs : List D} : Fit n (k + 1) (.tuple xs) ↔ (∀ x ∈ xs, tame Big x = true ∧ x.depth ≤ k) ∧ PyData.bulkAll xs ≤ n := by
  unfold Fit
  rw [tame_t, bulk_t, depth_t, tameAll_iff, Nat.add_le_add_iff_right, depthAll_le]
  exact ⟨fun h => ⟨fun x hx => ⟨h.1 x hx, h.2.2 x hx⟩, h.2.1⟩, fun h => ⟨fun x hx => (h.1 x hx).1, h.2, fun x hx => (h.1 x hx).2⟩⟩
section
variable {κ : Bool}
theorem cut_to (xs : List D) (k : Nat) : cutD xs none (some (k : Int)) = xs.take k := by
  unfold cutD
  rw [HT.sIx_nat, HT.sIx_none, List.drop_zero, Nat.sub_zero]
  by_cases h : k ≤ xs.length
  · rw [Nat.min_eq_left h]
  · rw [Nat.min_eq_right (by omega), List.take_of_length_le (Nat.le_refl _), List.take_of_length_le (by omega)]
theorem cut_from (xs : List D) (k : Nat) : cutD xs (some (k : Int)) none = xs.drop k := by
  unfold cutD
  rw [HT.sIx_nat, HT.sIx_none]
  by_cases h : k ≤ xs.length
  · rw [Nat.min_eq_left h, List.take_of_length_le (by rw [List.length_drop]; omega)]
  · rw [Nat.min_eq_right (by omega), List.drop_of_length_le (Nat.le_refl _), List.drop_of_length_le (by omega), List.take_nil]
end

section
variable {κ : Bool}
def BentP (B : Nat) (d : D) (r : D) : Prop := tame (B + 2) r = true ∧ r.bulk ≤ 3 * d.bulk + 3 ∧ r.depth ≤ d.depth + 2
theorem strs_app {a b : Str} {p : Nat → Bool} (ha : a.cps.toList.all p = true) (hb : b.cps.toList.all p = true) : (a ++ b).cps.toList.all p = true := by
  show (a.cps ++ b.cps).toList.all p = true
  rw [Array.toList_append, List.all_append, ha, hb]; rfl
theorem strs_cut {a : Str} {p : Nat → Bool} (ha : a.cps.toList.all p = true) (lo hi : Option Int) : (L2.cutS a lo hi).cps.toList.all p = true := by
  unfold L2.cutS
  dsimp only
  rw [List.toList_toArray, List.all_eq_true]
  intro c hc
  exact (List.all_eq_true.mp ha) c (List.mem_of_mem_drop (List.mem_of_mem_take hc))
theorem seq_ret {κ : Bool} {t : DT} {e : DE} {T : DS} {ρ : Rho} {R : Out → Prop} {c : Bool} (h : DoesK κ (t ρ) (· = c)) (ha : c = true → DoesK κ (e ρ) fun d => R (.ret d)) (hb : c = false → DoesK κ (T ρ) R) : DoesK κ (sSeq (sIf t (sRet e) sNil) T ρ) R := by
  rw [at_seq, at_sif, bnd_bnd]
  refine does_eq h ?_
  cases c with
  | true =>
    rw [if_pos rfl, at_sret, bnd_bnd]
    refine does_bnd (ha rfl) fun d hd => ?_
    exact does_ret hd
  | false =>
    rw [if_neg Bool.false_ne_true, at_nil, bnd_ret]
    exact hb rfl
theorem seq_ifd {κ : Bool} {t : DT} {A T : DS} {ρ : Rho} {R : Out → Prop} (h : DoesK κ (t ρ) fun _ => True) (ha : DoesK κ (A ρ) fun o => ∃ d, o = .ret d ∧ R (.ret d)) (hb : DoesK κ (T ρ) R) : DoesK κ (sSeq (sIf t A sNil) T ρ) R := by
  rw [at_seq, at_sif, bnd_bnd]
  refine does_bnd h fun c _ => ?_
  cases c with
  | true =>
    rw [if_pos rfl]
    refine does_bnd ha fun o ⟨d, e, hd⟩ => ?_
    rw [e]
    exact does_ret hd
  | false =>
    rw [if_neg Bool.false_ne_true, at_nil, bnd_ret]
    exact hb
theorem is_integer_at (d : D) : F__law_is_integer [.d d] = M.ret (.bool (d.isInt && !d.isBool)) := by
  unfold F__law_is_integer
  rw [fn_eq]
  cases d <;> try simp only [at_emp, at_dis1, at_ow0, at_ows, at_calln, isLst_ret, at_c, at_bin, at_un, at_v0, at_o0, at_vs, at_tup, at_lst, at_each0, at_eachs, at_ad, at_p0, at_ps, at_args0, at_argss, at_call, at_tofk, at_and, at_or, at_not, at_dand, at_dor, at_dnot, at_if, at_chain, at_gn, at_g2, at_g3, at_g4, at_iseq, at_r1, at_r2, turn_def, at_sasgn, at_sforr, at_nil, at_seq, at_asg, at_sown, at_sret, at_sretn, at_sif, at_sdrop, at_sbrk, at_scont, at_sfor, hide_nil, hide_cons, hide1_d, hide1_n, hide1_p, hide1_o, set_0, set_s, bnd_ret, bnd_stuck, bnd_bnd, bnd_ite, slot_d, slot_p, wipeR, List.map_cons, List.map_nil, List.cons_append, List.nil_append, List.replicate, add_ints, sub_ints, le_ints, lt_ints, ge_ints, gt_ints, neg_ints, min2_ints, max2_ints, oEq_ints, oNe_ints, oEq_bools, oNe_bools, len_tup, len_lst, revL_l, oEq_strs, oNe_strs, tuple_l, tuple_t, list_l, list_t, at_sl, at_pn, at_ps', sl_tup', sl_lst', is_T, is_L, is_I, is_B, is_S, is_N, not_N, isT_n, isT_b, isT_i, isT_s, isT_t, isT_l, isT_d, isL_n, isL_b, isL_i, isL_s, isL_t, isL_l, isL_d, isI_n, isI_b, isI_i, isI_s, isI_t, isI_l, isI_d, isB_n, isB_b, isB_i, isB_s, isB_t, isB_l, isB_d, isS_n, isS_b, isS_i, isS_s, isS_t, isS_l, isS_d, isN_n, isN_b, isN_i, isN_s, isN_t, isN_l, isN_d, decide_eq_true_eq, Bool.not_eq_true', decide_eq_false_iff_not, Bool.false_eq_true, if_true, if_false, decide_true, decide_false, Bool.not_true, Bool.not_false, not_true_eq_false, not_false_eq_true, ret_ite_o, Int.reduceLT, Int.reduceLE, Int.reduceEq, Int.reduceAdd, Int.reduceSub, Int.reduceNeg, reduceCtorEq] <;> rfl
theorem bent_odd {B : Nat} {κ : Bool} {d : D} {v : Int} (v0 : 0 ≤ v) (v9 : v < 10) : ∃ x, oIx (.tuple [.str "x", .bool true, .tuple [], .int 0, .int (-1), .none, .bool false, .list [], .str "in", .int 1]) (.int v) = M.ret x ∧ BentP B d x :=
  pick_of v0 (by simp only [List.length_cons, List.length_nil]; omega) (fun x hx => by
    have small : ∀ y : D, tame 2 y = true → y.bulk ≤ 3 → y.depth ≤ 2 → BentP B d y := fun y h1 h2 h3 => ⟨tame_mono (by omega) _ h1, by omega, by omega⟩
    simp only [List.mem_cons, List.not_mem_nil, or_false] at hx
    rcases hx with rfl | rfl | rfl | rfl | rfl | rfl | rfl | rfl | rfl | rfl <;> exact small _ (by decide +kernel) (by decide +kernel) (by decide +kernel))
theorem bent_leaf {B : Nat} {rc : List Arg → M D} (d : D) (hd : tame B d = true) (hb : d.bulk ≤ 2 ^ 18) (ht : d.isTuple = false ∨ d = .tuple []) :
    Does (fnD 2 6 (B__law_bent rc) [.pool, .d d]) (BentP B d) := by
  refine does_fn rfl ?_
  show Does (B__law_bent rc [some .pool, some (.dat d), none, none, none, none]) _
  unfold B__law_bent
  refine seq_not ?_ ?_
  · rcases ht with ht | rfl
    · simp only [at_emp, at_dis1, at_ow0, at_ows, at_calln, isLst_ret, at_c, at_bin, at_un, at_v0, at_o0, at_vs, at_tup, at_lst, at_each0, at_eachs, at_ad, at_p0, at_ps, at_args0, at_argss, at_call, at_tofk, at_and, at_or, at_not, at_dand, at_dor, at_dnot, at_if, at_chain, at_gn, at_g2, at_g3, at_g4, at_iseq, at_r1, at_r2, turn_def, at_sasgn, at_sforr, at_nil, at_seq, at_asg, at_sown, at_sret, at_sretn, at_sif, at_sdrop, at_sbrk, at_scont, at_sfor, hide_nil, hide_cons, hide1_d, hide1_n, hide1_p, hide1_o, set_0, set_s, bnd_ret, bnd_stuck, bnd_bnd, bnd_ite, slot_d, slot_p, wipeR, List.map_cons, List.map_nil, List.cons_append, List.nil_append, List.replicate, add_ints, sub_ints, le_ints, lt_ints, ge_ints, gt_ints, neg_ints, min2_ints, max2_ints, oEq_ints, oNe_ints, oEq_bools, oNe_bools, len_tup, len_lst, revL_l, oEq_strs, oNe_strs, tuple_l, tuple_t, list_l, list_t, at_sl, at_pn, at_ps', sl_tup', sl_lst', is_T, is_L, is_I, is_B, is_S, is_N, not_N, isT_n, isT_b, isT_i, isT_s, isT_t, isT_l, isT_d, isL_n, isL_b, isL_i, isL_s, isL_t, isL_l, isL_d, isI_n, isI_b, isI_i, isI_s, isI_t, isI_l, isI_d, isB_n, isB_b, isB_i, isB_s, isB_t, isB_l, isB_d, isS_n, isS_b, isS_i, isS_s, isS_t, isS_l, isS_d, isN_n, isN_b, isN_i, isN_s, isN_t, isN_l, isN_d, decide_eq_true_eq, Bool.not_eq_true', decide_eq_false_iff_not, Bool.false_eq_true, if_true, if_false, decide_true, decide_false, Bool.not_true, Bool.not_false, not_true_eq_false, not_false_eq_true, ret_ite_o, Int.reduceLT, Int.reduceLE, Int.reduceEq, Int.reduceAdd, Int.reduceSub, Int.reduceNeg, reduceCtorEq, ht]
      exact does_ret rfl
    · simp only [at_emp, at_dis1, at_ow0, at_ows, at_calln, isLst_ret, at_c, at_bin, at_un, at_v0, at_o0, at_vs, at_tup, at_lst, at_each0, at_eachs, at_ad, at_p0, at_ps, at_args0, at_argss, at_call, at_tofk, at_and, at_or, at_not, at_dand, at_dor, at_dnot, at_if, at_chain, at_gn, at_g2, at_g3, at_g4, at_iseq, at_r1, at_r2, turn_def, at_sasgn, at_sforr, at_nil, at_seq, at_asg, at_sown, at_sret, at_sretn, at_sif, at_sdrop, at_sbrk, at_scont, at_sfor, hide_nil, hide_cons, hide1_d, hide1_n, hide1_p, hide1_o, set_0, set_s, bnd_ret, bnd_stuck, bnd_bnd, bnd_ite, slot_d, slot_p, wipeR, List.map_cons, List.map_nil, List.cons_append, List.nil_append, List.replicate, add_ints, sub_ints, le_ints, lt_ints, ge_ints, gt_ints, neg_ints, min2_ints, max2_ints, oEq_ints, oNe_ints, oEq_bools, oNe_bools, len_tup, len_lst, revL_l, oEq_strs, oNe_strs, tuple_l, tuple_t, list_l, list_t, at_sl, at_pn, at_ps', sl_tup', sl_lst', is_T, is_L, is_I, is_B, is_S, is_N, not_N, isT_n, isT_b, isT_i, isT_s, isT_t, isT_l, isT_d, isL_n, isL_b, isL_i, isL_s, isL_t, isL_l, isL_d, isI_n, isI_b, isI_i, isI_s, isI_t, isI_l, isI_d, isB_n, isB_b, isB_i, isB_s, isB_t, isB_l, isB_d, isS_n, isS_b, isS_i, isS_s, isS_t, isS_l, isS_d, isN_n, isN_b, isN_i, isN_s, isN_t, isN_l, isN_d, decide_eq_true_eq, Bool.not_eq_true', decide_eq_false_iff_not, Bool.false_eq_true, if_true, if_false, decide_true, decide_false, Bool.not_true, Bool.not_false, not_true_eq_false, not_false_eq_true, ret_ite_o, Int.reduceLT, Int.reduceLE, Int.reduceEq, Int.reduceAdd, Int.reduceSub, Int.reduceNeg, reduceCtorEq, List.length_nil]
      exact does_ret rfl
  refine seq_asg (P := fun x => ∃ v : Int, x = .int v ∧ 0 ≤ v ∧ v < 9) ?_ ?_
  · simp only [at_emp, at_dis1, at_ow0, at_ows, at_calln, isLst_ret, at_c, at_bin, at_un, at_v0, at_o0, at_vs, at_tup, at_lst, at_each0, at_eachs, at_ad, at_p0, at_ps, at_args0, at_argss, at_call, at_tofk, at_and, at_or, at_not, at_dand, at_dor, at_dnot, at_if, at_chain, at_gn, at_g2, at_g3, at_g4, at_iseq, at_r1, at_r2, turn_def, at_sasgn, at_sforr, at_nil, at_seq, at_asg, at_sown, at_sret, at_sretn, at_sif, at_sdrop, at_sbrk, at_scont, at_sfor, hide_nil, hide_cons, hide1_d, hide1_n, hide1_p, hide1_o, set_0, set_s, bnd_ret, bnd_stuck, bnd_bnd, bnd_ite, slot_d, slot_p, wipeR, List.map_cons, List.map_nil, List.cons_append, List.nil_append, List.replicate, add_ints, sub_ints, le_ints, lt_ints, ge_ints, gt_ints, neg_ints, min2_ints, max2_ints, oEq_ints, oNe_ints, oEq_bools, oNe_bools, len_tup, len_lst, revL_l, oEq_strs, oNe_strs, tuple_l, tuple_t, list_l, list_t, at_sl, at_pn, at_ps', sl_tup', sl_lst', is_T, is_L, is_I, is_B, is_S, is_N, not_N, isT_n, isT_b, isT_i, isT_s, isT_t, isT_l, isT_d, isL_n, isL_b, isL_i, isL_s, isL_t, isL_l, isL_d, isI_n, isI_b, isI_i, isI_s, isI_t, isI_l, isI_d, isB_n, isB_b, isB_i, isB_s, isB_t, isB_l, isB_d, isS_n, isS_b, isS_i, isS_s, isS_t, isS_l, isS_d, isN_n, isN_b, isN_i, isN_s, isN_t, isN_l, isN_d, decide_eq_true_eq, Bool.not_eq_true', decide_eq_false_iff_not, Bool.false_eq_true, if_true, if_false, decide_true, decide_false, Bool.not_true, Bool.not_false, not_true_eq_false, not_false_eq_true, ret_ite_o, Int.reduceLT, Int.reduceLE, Int.reduceEq, Int.reduceAdd, Int.reduceSub, Int.reduceNeg, reduceCtorEq]
    exact does_draw' (by decide) (by decide)
  rintro _ ⟨turn, rfl, t0, t9⟩
  simp only [set_0, set_s]
  refine seq_ret (c := decide (turn = 0)) ?_ (fun _ => ?_) fun h0 => ?_
  · try simp only [at_emp, at_dis1, at_ow0, at_ows, at_calln, isLst_ret, at_c, at_bin, at_un, at_v0, at_o0, at_vs, at_tup, at_lst, at_each0, at_eachs, at_ad, at_p0, at_ps, at_args0, at_argss, at_call, at_tofk, at_and, at_or, at_not, at_dand, at_dor, at_dnot, at_if, at_chain, at_gn, at_g2, at_g3, at_g4, at_iseq, at_r1, at_r2, turn_def, at_sasgn, at_sforr, at_nil, at_seq, at_asg, at_sown, at_sret, at_sretn, at_sif, at_sdrop, at_sbrk, at_scont, at_sfor, hide_nil, hide_cons, hide1_d, hide1_n, hide1_p, hide1_o, set_0, set_s, bnd_ret, bnd_stuck, bnd_bnd, bnd_ite, slot_d, slot_p, wipeR, List.map_cons, List.map_nil, List.cons_append, List.nil_append, List.replicate, add_ints, sub_ints, le_ints, lt_ints, ge_ints, gt_ints, neg_ints, min2_ints, max2_ints, oEq_ints, oNe_ints, oEq_bools, oNe_bools, len_tup, len_lst, revL_l, oEq_strs, oNe_strs, tuple_l, tuple_t, list_l, list_t, at_sl, at_pn, at_ps', sl_tup', sl_lst', is_T, is_L, is_I, is_B, is_S, is_N, not_N, isT_n, isT_b, isT_i, isT_s, isT_t, isT_l, isT_d, isL_n, isL_b, isL_i, isL_s, isL_t, isL_l, isL_d, isI_n, isI_b, isI_i, isI_s, isI_t, isI_l, isI_d, isB_n, isB_b, isB_i, isB_s, isB_t, isB_l, isB_d, isS_n, isS_b, isS_i, isS_s, isS_t, isS_l, isS_d, isN_n, isN_b, isN_i, isN_s, isN_t, isN_l, isN_d, decide_eq_true_eq, Bool.not_eq_true', decide_eq_false_iff_not, Bool.false_eq_true, if_true, if_false, decide_true, decide_false, Bool.not_true, Bool.not_false, not_true_eq_false, not_false_eq_true, ret_ite_o, Int.reduceLT, Int.reduceLE, Int.reduceEq, Int.reduceAdd, Int.reduceSub, Int.reduceNeg, reduceCtorEq]
    exact does_ret rfl
  · try simp only [at_emp, at_dis1, at_ow0, at_ows, at_calln, isLst_ret, at_c, at_bin, at_un, at_v0, at_o0, at_vs, at_tup, at_lst, at_each0, at_eachs, at_ad, at_p0, at_ps, at_args0, at_argss, at_call, at_tofk, at_and, at_or, at_not, at_dand, at_dor, at_dnot, at_if, at_chain, at_gn, at_g2, at_g3, at_g4, at_iseq, at_r1, at_r2, turn_def, at_sasgn, at_sforr, at_nil, at_seq, at_asg, at_sown, at_sret, at_sretn, at_sif, at_sdrop, at_sbrk, at_scont, at_sfor, hide_nil, hide_cons, hide1_d, hide1_n, hide1_p, hide1_o, set_0, set_s, bnd_ret, bnd_stuck, bnd_bnd, bnd_ite, slot_d, slot_p, wipeR, List.map_cons, List.map_nil, List.cons_append, List.nil_append, List.replicate, add_ints, sub_ints, le_ints, lt_ints, ge_ints, gt_ints, neg_ints, min2_ints, max2_ints, oEq_ints, oNe_ints, oEq_bools, oNe_bools, len_tup, len_lst, revL_l, oEq_strs, oNe_strs, tuple_l, tuple_t, list_l, list_t, at_sl, at_pn, at_ps', sl_tup', sl_lst', is_T, is_L, is_I, is_B, is_S, is_N, not_N, isT_n, isT_b, isT_i, isT_s, isT_t, isT_l, isT_d, isL_n, isL_b, isL_i, isL_s, isL_t, isL_l, isL_d, isI_n, isI_b, isI_i, isI_s, isI_t, isI_l, isI_d, isB_n, isB_b, isB_i, isB_s, isB_t, isB_l, isB_d, isS_n, isS_b, isS_i, isS_s, isS_t, isS_l, isS_d, isN_n, isN_b, isN_i, isN_s, isN_t, isN_l, isN_d, decide_eq_true_eq, Bool.not_eq_true', decide_eq_false_iff_not, Bool.false_eq_true, if_true, if_false, decide_true, decide_false, Bool.not_true, Bool.not_false, not_true_eq_false, not_false_eq_true, ret_ite_o, Int.reduceLT, Int.reduceLE, Int.reduceEq, Int.reduceAdd, Int.reduceSub, Int.reduceNeg, reduceCtorEq]
    refine does_bnd (does_draw' (by decide) (by decide)) ?_
    rintro _ ⟨v, rfl, v0, v9⟩
    obtain ⟨x, hx, px⟩ := bent_odd (κ := false) (d := d) v0 v9
    try simp only [at_emp, at_dis1, at_ow0, at_ows, at_calln, isLst_ret, at_c, at_bin, at_un, at_v0, at_o0, at_vs, at_tup, at_lst, at_each0, at_eachs, at_ad, at_p0, at_ps, at_args0, at_argss, at_call, at_tofk, at_and, at_or, at_not, at_dand, at_dor, at_dnot, at_if, at_chain, at_gn, at_g2, at_g3, at_g4, at_iseq, at_r1, at_r2, turn_def, at_sasgn, at_sforr, at_nil, at_seq, at_asg, at_sown, at_sret, at_sretn, at_sif, at_sdrop, at_sbrk, at_scont, at_sfor, hide_nil, hide_cons, hide1_d, hide1_n, hide1_p, hide1_o, set_0, set_s, bnd_ret, bnd_stuck, bnd_bnd, bnd_ite, slot_d, slot_p, wipeR, List.map_cons, List.map_nil, List.cons_append, List.nil_append, List.replicate, add_ints, sub_ints, le_ints, lt_ints, ge_ints, gt_ints, neg_ints, min2_ints, max2_ints, oEq_ints, oNe_ints, oEq_bools, oNe_bools, len_tup, len_lst, revL_l, oEq_strs, oNe_strs, tuple_l, tuple_t, list_l, list_t, at_sl, at_pn, at_ps', sl_tup', sl_lst', is_T, is_L, is_I, is_B, is_S, is_N, not_N, isT_n, isT_b, isT_i, isT_s, isT_t, isT_l, isT_d, isL_n, isL_b, isL_i, isL_s, isL_t, isL_l, isL_d, isI_n, isI_b, isI_i, isI_s, isI_t, isI_l, isI_d, isB_n, isB_b, isB_i, isB_s, isB_t, isB_l, isB_d, isS_n, isS_b, isS_i, isS_s, isS_t, isS_l, isS_d, isN_n, isN_b, isN_i, isN_s, isN_t, isN_l, isN_d, decide_eq_true_eq, Bool.not_eq_true', decide_eq_false_iff_not, Bool.false_eq_true, if_true, if_false, decide_true, decide_false, Bool.not_true, Bool.not_false, not_true_eq_false, not_false_eq_true, ret_ite_o, Int.reduceLT, Int.reduceLE, Int.reduceEq, Int.reduceAdd, Int.reduceSub, Int.reduceNeg, reduceCtorEq, Int.reduceNeg]
    rw [hx]
    exact does_ret px
  refine seq_ret (c := d.isInt && !d.isBool) ?_ (fun hi => ?_) fun hi => ?_
  · try simp only [at_emp, at_dis1, at_ow0, at_ows, at_calln, isLst_ret, at_c, at_bin, at_un, at_v0, at_o0, at_vs, at_tup, at_lst, at_each0, at_eachs, at_ad, at_p0, at_ps, at_args0, at_argss, at_call, at_tofk, at_and, at_or, at_not, at_dand, at_dor, at_dnot, at_if, at_chain, at_gn, at_g2, at_g3, at_g4, at_iseq, at_r1, at_r2, turn_def, at_sasgn, at_sforr, at_nil, at_seq, at_asg, at_sown, at_sret, at_sretn, at_sif, at_sdrop, at_sbrk, at_scont, at_sfor, hide_nil, hide_cons, hide1_d, hide1_n, hide1_p, hide1_o, set_0, set_s, bnd_ret, bnd_stuck, bnd_bnd, bnd_ite, slot_d, slot_p, wipeR, List.map_cons, List.map_nil, List.cons_append, List.nil_append, List.replicate, add_ints, sub_ints, le_ints, lt_ints, ge_ints, gt_ints, neg_ints, min2_ints, max2_ints, oEq_ints, oNe_ints, oEq_bools, oNe_bools, len_tup, len_lst, revL_l, oEq_strs, oNe_strs, tuple_l, tuple_t, list_l, list_t, at_sl, at_pn, at_ps', sl_tup', sl_lst', is_T, is_L, is_I, is_B, is_S, is_N, not_N, isT_n, isT_b, isT_i, isT_s, isT_t, isT_l, isT_d, isL_n, isL_b, isL_i, isL_s, isL_t, isL_l, isL_d, isI_n, isI_b, isI_i, isI_s, isI_t, isI_l, isI_d, isB_n, isB_b, isB_i, isB_s, isB_t, isB_l, isB_d, isS_n, isS_b, isS_i, isS_s, isS_t, isS_l, isS_d, isN_n, isN_b, isN_i, isN_s, isN_t, isN_l, isN_d, decide_eq_true_eq, Bool.not_eq_true', decide_eq_false_iff_not, Bool.false_eq_true, if_true, if_false, decide_true, decide_false, Bool.not_true, Bool.not_false, not_true_eq_false, not_false_eq_true, ret_ite_o, Int.reduceLT, Int.reduceLE, Int.reduceEq, Int.reduceAdd, Int.reduceSub, Int.reduceNeg, reduceCtorEq, is_integer_at]
    exact does_ret rfl
  · obtain ⟨i, rfl⟩ : ∃ i, d = .int i := by cases d <;> first | exact ⟨_, rfl⟩ | cases hi
    try simp only [at_emp, at_dis1, at_ow0, at_ows, at_calln, isLst_ret, at_c, at_bin, at_un, at_v0, at_o0, at_vs, at_tup, at_lst, at_each0, at_eachs, at_ad, at_p0, at_ps, at_args0, at_argss, at_call, at_tofk, at_and, at_or, at_not, at_dand, at_dor, at_dnot, at_if, at_chain, at_gn, at_g2, at_g3, at_g4, at_iseq, at_r1, at_r2, turn_def, at_sasgn, at_sforr, at_nil, at_seq, at_asg, at_sown, at_sret, at_sretn, at_sif, at_sdrop, at_sbrk, at_scont, at_sfor, hide_nil, hide_cons, hide1_d, hide1_n, hide1_p, hide1_o, set_0, set_s, bnd_ret, bnd_stuck, bnd_bnd, bnd_ite, slot_d, slot_p, wipeR, List.map_cons, List.map_nil, List.cons_append, List.nil_append, List.replicate, add_ints, sub_ints, le_ints, lt_ints, ge_ints, gt_ints, neg_ints, min2_ints, max2_ints, oEq_ints, oNe_ints, oEq_bools, oNe_bools, len_tup, len_lst, revL_l, oEq_strs, oNe_strs, tuple_l, tuple_t, list_l, list_t, at_sl, at_pn, at_ps', sl_tup', sl_lst', is_T, is_L, is_I, is_B, is_S, is_N, not_N, isT_n, isT_b, isT_i, isT_s, isT_t, isT_l, isT_d, isL_n, isL_b, isL_i, isL_s, isL_t, isL_l, isL_d, isI_n, isI_b, isI_i, isI_s, isI_t, isI_l, isI_d, isB_n, isB_b, isB_i, isB_s, isB_t, isB_l, isB_d, isS_n, isS_b, isS_i, isS_s, isS_t, isS_l, isS_d, isN_n, isN_b, isN_i, isN_s, isN_t, isN_l, isN_d, decide_eq_true_eq, Bool.not_eq_true', decide_eq_false_iff_not, Bool.false_eq_true, if_true, if_false, decide_true, decide_false, Bool.not_true, Bool.not_false, not_true_eq_false, not_false_eq_true, ret_ite_o, Int.reduceLT, Int.reduceLE, Int.reduceEq, Int.reduceAdd, Int.reduceSub, Int.reduceNeg, reduceCtorEq]
    refine does_bnd (does_draw' (by decide) (by decide)) ?_
    rintro _ ⟨v, rfl, v0, v9⟩
    try simp only [at_emp, at_dis1, at_ow0, at_ows, at_calln, isLst_ret, at_c, at_bin, at_un, at_v0, at_o0, at_vs, at_tup, at_lst, at_each0, at_eachs, at_ad, at_p0, at_ps, at_args0, at_argss, at_call, at_tofk, at_and, at_or, at_not, at_dand, at_dor, at_dnot, at_if, at_chain, at_gn, at_g2, at_g3, at_g4, at_iseq, at_r1, at_r2, turn_def, at_sasgn, at_sforr, at_nil, at_seq, at_asg, at_sown, at_sret, at_sretn, at_sif, at_sdrop, at_sbrk, at_scont, at_sfor, hide_nil, hide_cons, hide1_d, hide1_n, hide1_p, hide1_o, set_0, set_s, bnd_ret, bnd_stuck, bnd_bnd, bnd_ite, slot_d, slot_p, wipeR, List.map_cons, List.map_nil, List.cons_append, List.nil_append, List.replicate, add_ints, sub_ints, le_ints, lt_ints, ge_ints, gt_ints, neg_ints, min2_ints, max2_ints, oEq_ints, oNe_ints, oEq_bools, oNe_bools, len_tup, len_lst, revL_l, oEq_strs, oNe_strs, tuple_l, tuple_t, list_l, list_t, at_sl, at_pn, at_ps', sl_tup', sl_lst', is_T, is_L, is_I, is_B, is_S, is_N, not_N, isT_n, isT_b, isT_i, isT_s, isT_t, isT_l, isT_d, isL_n, isL_b, isL_i, isL_s, isL_t, isL_l, isL_d, isI_n, isI_b, isI_i, isI_s, isI_t, isI_l, isI_d, isB_n, isB_b, isB_i, isB_s, isB_t, isB_l, isB_d, isS_n, isS_b, isS_i, isS_s, isS_t, isS_l, isS_d, isN_n, isN_b, isN_i, isN_s, isN_t, isN_l, isN_d, decide_eq_true_eq, Bool.not_eq_true', decide_eq_false_iff_not, Bool.false_eq_true, if_true, if_false, decide_true, decide_false, Bool.not_true, Bool.not_false, not_true_eq_false, not_false_eq_true, ret_ite_o, Int.reduceLT, Int.reduceLE, Int.reduceEq, Int.reduceAdd, Int.reduceSub, Int.reduceNeg, reduceCtorEq, Int.reduceNeg]
    obtain ⟨x, hx, j, rfl, hj⟩ := pick_of (xs := [.int 1, .int (-1), .int 2, .int 0]) (n := v) (P := fun d => ∃ j : Int, d = .int j ∧ -1 ≤ j ∧ j ≤ 2) v0 (by simp only [List.length_cons, List.length_nil]; omega) (fun x hx => by
      simp only [List.mem_cons, List.not_mem_nil, or_false] at hx
      rcases hx with rfl | rfl | rfl | rfl <;> exact ⟨_, rfl, by decide, by decide⟩)
    rw [hx, bnd_ret, add_ints]
    refine does_ret ⟨?_, by rw [PyData.bulk]; omega, by rw [PyData.depth]; omega⟩
    rw [tame, decide_eq_true_eq] at hd ⊢
    omega
  refine seq_ret (c := d.isStr) ?_ (fun hi => ?_) fun hs => ?_
  · try simp only [at_emp, at_dis1, at_ow0, at_ows, at_calln, isLst_ret, at_c, at_bin, at_un, at_v0, at_o0, at_vs, at_tup, at_lst, at_each0, at_eachs, at_ad, at_p0, at_ps, at_args0, at_argss, at_call, at_tofk, at_and, at_or, at_not, at_dand, at_dor, at_dnot, at_if, at_chain, at_gn, at_g2, at_g3, at_g4, at_iseq, at_r1, at_r2, turn_def, at_sasgn, at_sforr, at_nil, at_seq, at_asg, at_sown, at_sret, at_sretn, at_sif, at_sdrop, at_sbrk, at_scont, at_sfor, hide_nil, hide_cons, hide1_d, hide1_n, hide1_p, hide1_o, set_0, set_s, bnd_ret, bnd_stuck, bnd_bnd, bnd_ite, slot_d, slot_p, wipeR, List.map_cons, List.map_nil, List.cons_append, List.nil_append, List.replicate, add_ints, sub_ints, le_ints, lt_ints, ge_ints, gt_ints, neg_ints, min2_ints, max2_ints, oEq_ints, oNe_ints, oEq_bools, oNe_bools, len_tup, len_lst, revL_l, oEq_strs, oNe_strs, tuple_l, tuple_t, list_l, list_t, at_sl, at_pn, at_ps', sl_tup', sl_lst', is_T, is_L, is_I, is_B, is_S, is_N, not_N, isT_n, isT_b, isT_i, isT_s, isT_t, isT_l, isT_d, isL_n, isL_b, isL_i, isL_s, isL_t, isL_l, isL_d, isI_n, isI_b, isI_i, isI_s, isI_t, isI_l, isI_d, isB_n, isB_b, isB_i, isB_s, isB_t, isB_l, isB_d, isS_n, isS_b, isS_i, isS_s, isS_t, isS_l, isS_d, isN_n, isN_b, isN_i, isN_s, isN_t, isN_l, isN_d, decide_eq_true_eq, Bool.not_eq_true', decide_eq_false_iff_not, Bool.false_eq_true, if_true, if_false, decide_true, decide_false, Bool.not_true, Bool.not_false, not_true_eq_false, not_false_eq_true, ret_ite_o, Int.reduceLT, Int.reduceLE, Int.reduceEq, Int.reduceAdd, Int.reduceSub, Int.reduceNeg, reduceCtorEq]
    exact does_ret rfl
  · obtain ⟨x, rfl⟩ : ∃ x, d = .str x := by cases d <;> first | exact ⟨_, rfl⟩ | cases hi
    rw [PyData.bulk] at hb
    have hsz : ∀ k : Nat, k ≤ 4 → x.cps.size + k ≤ lineMax := fun k hk => Nat.le_trans (Nat.add_le_add hb hk) (by show _ ≤ 2 ^ 24; decide +kernel)
    have hz : x.length ≤ lineMax := hsz 0 (by decide)
    have ad : ∀ y : Str, y.cps.size = 1 → oAdd (.str x) (.str y) = M.ret (.str (x ++ y)) := fun y hy => by
      unfold oAdd
      dsimp only
      rw [hy, if_pos (hsz 1 (by decide))]
    have sl : ∀ lo hi, oSl (.str x) lo hi = M.ret (.str (L2.cutS x lo hi)) := fun lo hi => by
      unfold oSl
      dsimp only
      rw [if_pos hz]
    rw [tame] at hd
    have gd : ∀ y : Str, y.cps.size ≤ x.cps.size + 1 → (y.cps.toList.all fun c => decide (c < 0x110000)) = true → BentP B (.str x) (.str y) := fun y h1 h2 => ⟨by rw [tame]; exact h2, by rw [PyData.bulk, PyData.bulk]; omega, by rw [PyData.depth, PyData.depth]; omega⟩
    have g1 : ∀ y : Str, y.cps.size = 1 → (y.cps.toList.all fun c => decide (c < 0x110000)) = true → BentP B (.str x) (.str (x ++ y)) := fun y h1 h2 => gd _ (by
      show (x.cps ++ y.cps).size ≤ _
      rw [Array.size_append, h1]; exact Nat.le_refl _) (strs_app hd h2)
    have g2 : ∀ lo hi, BentP B (.str x) (.str (L2.cutS x lo hi)) := fun lo hi => gd _ (Nat.le_succ_of_le (L2.cutS_length x lo hi)) (strs_cut hd lo hi)
    try simp only [at_emp, at_dis1, at_ow0, at_ows, at_calln, isLst_ret, at_c, at_bin, at_un, at_v0, at_o0, at_vs, at_tup, at_lst, at_each0, at_eachs, at_ad, at_p0, at_ps, at_args0, at_argss, at_call, at_tofk, at_and, at_or, at_not, at_dand, at_dor, at_dnot, at_if, at_chain, at_gn, at_g2, at_g3, at_g4, at_iseq, at_r1, at_r2, turn_def, at_sasgn, at_sforr, at_nil, at_seq, at_asg, at_sown, at_sret, at_sretn, at_sif, at_sdrop, at_sbrk, at_scont, at_sfor, hide_nil, hide_cons, hide1_d, hide1_n, hide1_p, hide1_o, set_0, set_s, bnd_ret, bnd_stuck, bnd_bnd, bnd_ite, slot_d, slot_p, wipeR, List.map_cons, List.map_nil, List.cons_append, List.nil_append, List.replicate, add_ints, sub_ints, le_ints, lt_ints, ge_ints, gt_ints, neg_ints, min2_ints, max2_ints, oEq_ints, oNe_ints, oEq_bools, oNe_bools, len_tup, len_lst, revL_l, oEq_strs, oNe_strs, tuple_l, tuple_t, list_l, list_t, at_sl, at_pn, at_ps', sl_tup', sl_lst', is_T, is_L, is_I, is_B, is_S, is_N, not_N, isT_n, isT_b, isT_i, isT_s, isT_t, isT_l, isT_d, isL_n, isL_b, isL_i, isL_s, isL_t, isL_l, isL_d, isI_n, isI_b, isI_i, isI_s, isI_t, isI_l, isI_d, isB_n, isB_b, isB_i, isB_s, isB_t, isB_l, isB_d, isS_n, isS_b, isS_i, isS_s, isS_t, isS_l, isS_d, isN_n, isN_b, isN_i, isN_s, isN_t, isN_l, isN_d, decide_eq_true_eq, Bool.not_eq_true', decide_eq_false_iff_not, Bool.false_eq_true, if_true, if_false, decide_true, decide_false, Bool.not_true, Bool.not_false, not_true_eq_false, not_false_eq_true, ret_ite_o, Int.reduceLT, Int.reduceLE, Int.reduceEq, Int.reduceAdd, Int.reduceSub, Int.reduceNeg, reduceCtorEq]
    rw [ad "a" (by decide +kernel), bnd_ret, sl, bnd_ret, ad "A" (by decide +kernel), bnd_ret, ad " " (by decide +kernel), bnd_ret, sl, bnd_ret]
    refine does_bnd (does_draw' (by decide) (by decide)) ?_
    rintro _ ⟨v, rfl, v0, v9⟩
    obtain ⟨y, hy, py⟩ := pick_of (xs := [.str (x ++ "a"), .str (L2.cutS x (some 1) none), .str (x ++ "A"), .str (x ++ " "), .str (L2.cutS x none (some 1))]) (n := v) (P := BentP B (.str x)) v0 (by simp only [List.length_cons, List.length_nil]; omega) (fun y hy => by
      simp only [List.mem_cons, List.not_mem_nil, or_false] at hy
      rcases hy with rfl | rfl | rfl | rfl | rfl
      · exact g1 "a" (by decide +kernel) (by decide +kernel)
      · exact g2 _ _
      · exact g1 "A" (by decide +kernel) (by decide +kernel)
      · exact g1 " " (by decide +kernel) (by decide +kernel)
      · exact g2 _ _)
    rw [hy]
    exact does_ret py
  refine seq_ret (c := true) ?_ (fun _ => ?_) fun h => by cases h
  · rcases ht with ht | rfl
    · simp only [at_emp, at_dis1, at_ow0, at_ows, at_calln, isLst_ret, at_c, at_bin, at_un, at_v0, at_o0, at_vs, at_tup, at_lst, at_each0, at_eachs, at_ad, at_p0, at_ps, at_args0, at_argss, at_call, at_tofk, at_and, at_or, at_not, at_dand, at_dor, at_dnot, at_if, at_chain, at_gn, at_g2, at_g3, at_g4, at_iseq, at_r1, at_r2, turn_def, at_sasgn, at_sforr, at_nil, at_seq, at_asg, at_sown, at_sret, at_sretn, at_sif, at_sdrop, at_sbrk, at_scont, at_sfor, hide_nil, hide_cons, hide1_d, hide1_n, hide1_p, hide1_o, set_0, set_s, bnd_ret, bnd_stuck, bnd_bnd, bnd_ite, slot_d, slot_p, wipeR, List.map_cons, List.map_nil, List.cons_append, List.nil_append, List.replicate, add_ints, sub_ints, le_ints, lt_ints, ge_ints, gt_ints, neg_ints, min2_ints, max2_ints, oEq_ints, oNe_ints, oEq_bools, oNe_bools, len_tup, len_lst, revL_l, oEq_strs, oNe_strs, tuple_l, tuple_t, list_l, list_t, at_sl, at_pn, at_ps', sl_tup', sl_lst', is_T, is_L, is_I, is_B, is_S, is_N, not_N, isT_n, isT_b, isT_i, isT_s, isT_t, isT_l, isT_d, isL_n, isL_b, isL_i, isL_s, isL_t, isL_l, isL_d, isI_n, isI_b, isI_i, isI_s, isI_t, isI_l, isI_d, isB_n, isB_b, isB_i, isB_s, isB_t, isB_l, isB_d, isS_n, isS_b, isS_i, isS_s, isS_t, isS_l, isS_d, isN_n, isN_b, isN_i, isN_s, isN_t, isN_l, isN_d, decide_eq_true_eq, Bool.not_eq_true', decide_eq_false_iff_not, Bool.false_eq_true, if_true, if_false, decide_true, decide_false, Bool.not_true, Bool.not_false, not_true_eq_false, not_false_eq_true, ret_ite_o, Int.reduceLT, Int.reduceLE, Int.reduceEq, Int.reduceAdd, Int.reduceSub, Int.reduceNeg, reduceCtorEq, ht]
      exact does_ret rfl
    · simp only [at_emp, at_dis1, at_ow0, at_ows, at_calln, isLst_ret, at_c, at_bin, at_un, at_v0, at_o0, at_vs, at_tup, at_lst, at_each0, at_eachs, at_ad, at_p0, at_ps, at_args0, at_argss, at_call, at_tofk, at_and, at_or, at_not, at_dand, at_dor, at_dnot, at_if, at_chain, at_gn, at_g2, at_g3, at_g4, at_iseq, at_r1, at_r2, turn_def, at_sasgn, at_sforr, at_nil, at_seq, at_asg, at_sown, at_sret, at_sretn, at_sif, at_sdrop, at_sbrk, at_scont, at_sfor, hide_nil, hide_cons, hide1_d, hide1_n, hide1_p, hide1_o, set_0, set_s, bnd_ret, bnd_stuck, bnd_bnd, bnd_ite, slot_d, slot_p, wipeR, List.map_cons, List.map_nil, List.cons_append, List.nil_append, List.replicate, add_ints, sub_ints, le_ints, lt_ints, ge_ints, gt_ints, neg_ints, min2_ints, max2_ints, oEq_ints, oNe_ints, oEq_bools, oNe_bools, len_tup, len_lst, revL_l, oEq_strs, oNe_strs, tuple_l, tuple_t, list_l, list_t, at_sl, at_pn, at_ps', sl_tup', sl_lst', is_T, is_L, is_I, is_B, is_S, is_N, not_N, isT_n, isT_b, isT_i, isT_s, isT_t, isT_l, isT_d, isL_n, isL_b, isL_i, isL_s, isL_t, isL_l, isL_d, isI_n, isI_b, isI_i, isI_s, isI_t, isI_l, isI_d, isB_n, isB_b, isB_i, isB_s, isB_t, isB_l, isB_d, isS_n, isS_b, isS_i, isS_s, isS_t, isS_l, isS_d, isN_n, isN_b, isN_i, isN_s, isN_t, isN_l, isN_d, decide_eq_true_eq, Bool.not_eq_true', decide_eq_false_iff_not, Bool.false_eq_true, if_true, if_false, decide_true, decide_false, Bool.not_true, Bool.not_false, not_true_eq_false, not_false_eq_true, ret_ite_o, Int.reduceLT, Int.reduceLE, Int.reduceEq, Int.reduceAdd, Int.reduceSub, Int.reduceNeg, reduceCtorEq, List.length_nil]
      exact does_ret rfl
  have two : BentP B d (.tuple [d, .int 0]) := ⟨by
      rw [tame_t, tameAll, tameAll, tameAll, tame_mono (by omega) d hd]
      rw [tame_i (by omega)]
      rfl, by rw [bulk_t, bulkAll_cons, bulkAll_cons, bulkAll_nil, PyData.bulk]; omega, by rw [depth_t, PyData.depthAll, PyData.depthAll, PyData.depthAll, PyData.depth]; omega⟩
  have non : BentP B d (.tuple []) := ⟨by rw [tame_t, tameAll], by rw [bulk_t, bulkAll_nil]; omega, by rw [depth_t, PyData.depthAll]; omega⟩
  by_cases h5 : turn < 5
  · try simp only [at_emp, at_dis1, at_ow0, at_ows, at_calln, isLst_ret, at_c, at_bin, at_un, at_v0, at_o0, at_vs, at_tup, at_lst, at_each0, at_eachs, at_ad, at_p0, at_ps, at_args0, at_argss, at_call, at_tofk, at_and, at_or, at_not, at_dand, at_dor, at_dnot, at_if, at_chain, at_gn, at_g2, at_g3, at_g4, at_iseq, at_r1, at_r2, turn_def, at_sasgn, at_sforr, at_nil, at_seq, at_asg, at_sown, at_sret, at_sretn, at_sif, at_sdrop, at_sbrk, at_scont, at_sfor, hide_nil, hide_cons, hide1_d, hide1_n, hide1_p, hide1_o, set_0, set_s, bnd_ret, bnd_stuck, bnd_bnd, bnd_ite, slot_d, slot_p, wipeR, List.map_cons, List.map_nil, List.cons_append, List.nil_append, List.replicate, add_ints, sub_ints, le_ints, lt_ints, ge_ints, gt_ints, neg_ints, min2_ints, max2_ints, oEq_ints, oNe_ints, oEq_bools, oNe_bools, len_tup, len_lst, revL_l, oEq_strs, oNe_strs, tuple_l, tuple_t, list_l, list_t, at_sl, at_pn, at_ps', sl_tup', sl_lst', is_T, is_L, is_I, is_B, is_S, is_N, not_N, isT_n, isT_b, isT_i, isT_s, isT_t, isT_l, isT_d, isL_n, isL_b, isL_i, isL_s, isL_t, isL_l, isL_d, isI_n, isI_b, isI_i, isI_s, isI_t, isI_l, isI_d, isB_n, isB_b, isB_i, isB_s, isB_t, isB_l, isB_d, isS_n, isS_b, isS_i, isS_s, isS_t, isS_l, isS_d, isN_n, isN_b, isN_i, isN_s, isN_t, isN_l, isN_d, decide_eq_true_eq, Bool.not_eq_true', decide_eq_false_iff_not, Bool.false_eq_true, if_true, if_false, decide_true, decide_false, Bool.not_true, Bool.not_false, not_true_eq_false, not_false_eq_true, ret_ite_o, Int.reduceLT, Int.reduceLE, Int.reduceEq, Int.reduceAdd, Int.reduceSub, Int.reduceNeg, reduceCtorEq, h5]
    exact does_ret two
  · try simp only [at_emp, at_dis1, at_ow0, at_ows, at_calln, isLst_ret, at_c, at_bin, at_un, at_v0, at_o0, at_vs, at_tup, at_lst, at_each0, at_eachs, at_ad, at_p0, at_ps, at_args0, at_argss, at_call, at_tofk, at_and, at_or, at_not, at_dand, at_dor, at_dnot, at_if, at_chain, at_gn, at_g2, at_g3, at_g4, at_iseq, at_r1, at_r2, turn_def, at_sasgn, at_sforr, at_nil, at_seq, at_asg, at_sown, at_sret, at_sretn, at_sif, at_sdrop, at_sbrk, at_scont, at_sfor, hide_nil, hide_cons, hide1_d, hide1_n, hide1_p, hide1_o, set_0, set_s, bnd_ret, bnd_stuck, bnd_bnd, bnd_ite, slot_d, slot_p, wipeR, List.map_cons, List.map_nil, List.cons_append, List.nil_append, List.replicate, add_ints, sub_ints, le_ints, lt_ints, ge_ints, gt_ints, neg_ints, min2_ints, max2_ints, oEq_ints, oNe_ints, oEq_bools, oNe_bools, len_tup, len_lst, revL_l, oEq_strs, oNe_strs, tuple_l, tuple_t, list_l, list_t, at_sl, at_pn, at_ps', sl_tup', sl_lst', is_T, is_L, is_I, is_B, is_S, is_N, not_N, isT_n, isT_b, isT_i, isT_s, isT_t, isT_l, isT_d, isL_n, isL_b, isL_i, isL_s, isL_t, isL_l, isL_d, isI_n, isI_b, isI_i, isI_s, isI_t, isI_l, isI_d, isB_n, isB_b, isB_i, isB_s, isB_t, isB_l, isB_d, isS_n, isS_b, isS_i, isS_s, isS_t, isS_l, isS_d, isN_n, isN_b, isN_i, isN_s, isN_t, isN_l, isN_d, decide_eq_true_eq, Bool.not_eq_true', decide_eq_false_iff_not, Bool.false_eq_true, if_true, if_false, decide_true, decide_false, Bool.not_true, Bool.not_false, not_true_eq_false, not_false_eq_true, ret_ite_o, Int.reduceLT, Int.reduceLE, Int.reduceEq, Int.reduceAdd, Int.reduceSub, Int.reduceNeg, reduceCtorEq, h5]
    exact does_ret non
theorem bent_made {B : Nat} {xs ys : List D} (h : ∀ y ∈ ys, tame (B + 2) y = true ∧ y.depth ≤ PyData.depthAll xs + 2) (hb : PyData.bulkAll ys ≤ 3 * PyData.bulkAll xs + 3) : BentP B (.tuple xs) (.tuple ys) :=
  ⟨by rw [tame_t]; exact tameAll_iff.mpr fun y hy => (h y hy).1, by rw [bulk_t, bulk_t]; exact hb, by
    rw [depth_t, depth_t]
    have := depthAll_le.mpr fun y hy => (h y hy).2
    omega⟩
theorem bulk_drop {xs : List D} {k : Nat} {x : D} (h : xs[k]? = some x) : PyData.bulkAll (xs.take k) + (x.bulk + 1) + PyData.bulkAll (xs.drop (k + 1)) = PyData.bulkAll xs := by
  obtain ⟨hk, e⟩ := List.getElem?_eq_some_iff.mp h
  have z := bulkAll_split xs k
  rw [List.drop_eq_getElem_cons hk, bulkAll_cons, e] at z
  omega
theorem bent_tup {B : Nat} {rc : List Arg → M D} {xs : List D} (hd : tame B (.tuple xs) = true) (hb : (PyData.tuple xs).bulk ≤ 2 ^ 18) (h0 : 0 < xs.length) (ih : ∀ x ∈ xs, Does (rc [.pool, .d x]) (BentP B x)) :
    Does (fnD 2 6 (B__law_bent rc) [.pool, .d (.tuple xs)]) (BentP B (.tuple xs)) := by
  have hl : xs.length ≤ 2 ^ 18 := Nat.le_trans (bulkAll_len xs) (by rw [bulk_t] at hb; exact hb)
  have hz : (xs.length : Int) ≤ 2 ^ 40 := by have : (2 : Nat) ^ 18 = 262144 := by decide +kernel
                                             omega
  have hp : (0 : Int) < (xs.length : Int) := by omega
  rw [tame_t] at hd
  have hd' := tameAll_iff.mp hd
  have old : ∀ y ∈ xs, tame (B + 2) y = true ∧ y.depth ≤ PyData.depthAll xs + 2 := fun y hy => ⟨tame_mono (by omega) y (hd' y hy), by have := depthAll_mem hy; omega⟩
  have at_ : Does (F_draw [.pool, .d (.int (xs.length : Int))]) fun d => ∃ k x, d = .int ((k : Nat) : Int) ∧ xs[k]? = some x := by
    refine (does_draw' hp hz).imp ?_
    rintro _ ⟨v, rfl, v0, v1⟩
    have hk : v.toNat < xs.length := by omega
    exact ⟨v.toNat, xs[v.toNat], by rw [Int.toNat_of_nonneg v0], List.getElem?_eq_getElem hk⟩
  have ap : ∀ {as bs : List D}, as.length + bs.length ≤ 2 ^ 20 → oAdd (.tuple as) (.tuple bs) = M.ret (.tuple (as ++ bs)) := fun h => add_tups h
  refine does_fn rfl ?_
  show Does (B__law_bent rc [some .pool, some (.dat (.tuple xs)), none, none, none, none]) _
  unfold B__law_bent
  refine seq_ifd ?_ ?_ ?_
  · simp only [at_emp, at_dis1, at_ow0, at_ows, at_calln, isLst_ret, at_c, at_bin, at_un, at_v0, at_o0, at_vs, at_tup, at_lst, at_each0, at_eachs, at_ad, at_p0, at_ps, at_args0, at_argss, at_call, at_tofk, at_and, at_or, at_not, at_dand, at_dor, at_dnot, at_if, at_chain, at_gn, at_g2, at_g3, at_g4, at_iseq, at_r1, at_r2, turn_def, at_sasgn, at_sforr, at_nil, at_seq, at_asg, at_sown, at_sret, at_sretn, at_sif, at_sdrop, at_sbrk, at_scont, at_sfor, hide_nil, hide_cons, hide1_d, hide1_n, hide1_p, hide1_o, set_0, set_s, bnd_ret, bnd_stuck, bnd_bnd, bnd_ite, slot_d, slot_p, wipeR, List.map_cons, List.map_nil, List.cons_append, List.nil_append, List.replicate, add_ints, sub_ints, le_ints, lt_ints, ge_ints, gt_ints, neg_ints, min2_ints, max2_ints, oEq_ints, oNe_ints, oEq_bools, oNe_bools, len_tup, len_lst, revL_l, oEq_strs, oNe_strs, tuple_l, tuple_t, list_l, list_t, at_sl, at_pn, at_ps', sl_tup', sl_lst', is_T, is_L, is_I, is_B, is_S, is_N, not_N, isT_n, isT_b, isT_i, isT_s, isT_t, isT_l, isT_d, isL_n, isL_b, isL_i, isL_s, isL_t, isL_l, isL_d, isI_n, isI_b, isI_i, isI_s, isI_t, isI_l, isI_d, isB_n, isB_b, isB_i, isB_s, isB_t, isB_l, isB_d, isS_n, isS_b, isS_i, isS_s, isS_t, isS_l, isS_d, isN_n, isN_b, isN_i, isN_s, isN_t, isN_l, isN_d, decide_eq_true_eq, Bool.not_eq_true', decide_eq_false_iff_not, Bool.false_eq_true, if_true, if_false, decide_true, decide_false, Bool.not_true, Bool.not_false, not_true_eq_false, not_false_eq_true, ret_ite_o, Int.reduceLT, Int.reduceLE, Int.reduceEq, Int.reduceAdd, Int.reduceSub, Int.reduceNeg, reduceCtorEq, hp]
    refine does_bnd (does_draw' (by decide) (by decide)) ?_
    rintro _ ⟨v, rfl, v0, v4⟩
    simp only [at_emp, at_dis1, at_ow0, at_ows, at_calln, isLst_ret, at_c, at_bin, at_un, at_v0, at_o0, at_vs, at_tup, at_lst, at_each0, at_eachs, at_ad, at_p0, at_ps, at_args0, at_argss, at_call, at_tofk, at_and, at_or, at_not, at_dand, at_dor, at_dnot, at_if, at_chain, at_gn, at_g2, at_g3, at_g4, at_iseq, at_r1, at_r2, turn_def, at_sasgn, at_sforr, at_nil, at_seq, at_asg, at_sown, at_sret, at_sretn, at_sif, at_sdrop, at_sbrk, at_scont, at_sfor, hide_nil, hide_cons, hide1_d, hide1_n, hide1_p, hide1_o, set_0, set_s, bnd_ret, bnd_stuck, bnd_bnd, bnd_ite, slot_d, slot_p, wipeR, List.map_cons, List.map_nil, List.cons_append, List.nil_append, List.replicate, add_ints, sub_ints, le_ints, lt_ints, ge_ints, gt_ints, neg_ints, min2_ints, max2_ints, oEq_ints, oNe_ints, oEq_bools, oNe_bools, len_tup, len_lst, revL_l, oEq_strs, oNe_strs, tuple_l, tuple_t, list_l, list_t, at_sl, at_pn, at_ps', sl_tup', sl_lst', is_T, is_L, is_I, is_B, is_S, is_N, not_N, isT_n, isT_b, isT_i, isT_s, isT_t, isT_l, isT_d, isL_n, isL_b, isL_i, isL_s, isL_t, isL_l, isL_d, isI_n, isI_b, isI_i, isI_s, isI_t, isI_l, isI_d, isB_n, isB_b, isB_i, isB_s, isB_t, isB_l, isB_d, isS_n, isS_b, isS_i, isS_s, isS_t, isS_l, isS_d, isN_n, isN_b, isN_i, isN_s, isN_t, isN_l, isN_d, decide_eq_true_eq, Bool.not_eq_true', decide_eq_false_iff_not, Bool.false_eq_true, if_true, if_false, decide_true, decide_false, Bool.not_true, Bool.not_false, not_true_eq_false, not_false_eq_true, ret_ite_o, Int.reduceLT, Int.reduceLE, Int.reduceEq, Int.reduceAdd, Int.reduceSub, Int.reduceNeg, reduceCtorEq]
    exact does_ret trivial
  · rw [at_seq, at_asg]
    simp only [at_emp, at_dis1, at_ow0, at_ows, at_calln, isLst_ret, at_c, at_bin, at_un, at_v0, at_o0, at_vs, at_tup, at_lst, at_each0, at_eachs, at_ad, at_p0, at_ps, at_args0, at_argss, at_call, at_tofk, at_and, at_or, at_not, at_dand, at_dor, at_dnot, at_if, at_chain, at_gn, at_g2, at_g3, at_g4, at_iseq, at_r1, at_r2, turn_def, at_sasgn, at_sforr, at_nil, at_seq, at_asg, at_sown, at_sret, at_sretn, at_sif, at_sdrop, at_sbrk, at_scont, at_sfor, hide_nil, hide_cons, hide1_d, hide1_n, hide1_p, hide1_o, set_0, set_s, bnd_ret, bnd_stuck, bnd_bnd, bnd_ite, slot_d, slot_p, wipeR, List.map_cons, List.map_nil, List.cons_append, List.nil_append, List.replicate, add_ints, sub_ints, le_ints, lt_ints, ge_ints, gt_ints, neg_ints, min2_ints, max2_ints, oEq_ints, oNe_ints, oEq_bools, oNe_bools, len_tup, len_lst, revL_l, oEq_strs, oNe_strs, tuple_l, tuple_t, list_l, list_t, at_sl, at_pn, at_ps', sl_tup', sl_lst', is_T, is_L, is_I, is_B, is_S, is_N, not_N, isT_n, isT_b, isT_i, isT_s, isT_t, isT_l, isT_d, isL_n, isL_b, isL_i, isL_s, isL_t, isL_l, isL_d, isI_n, isI_b, isI_i, isI_s, isI_t, isI_l, isI_d, isB_n, isB_b, isB_i, isB_s, isB_t, isB_l, isB_d, isS_n, isS_b, isS_i, isS_s, isS_t, isS_l, isS_d, isN_n, isN_b, isN_i, isN_s, isN_t, isN_l, isN_d, decide_eq_true_eq, Bool.not_eq_true', decide_eq_false_iff_not, Bool.false_eq_true, if_true, if_false, decide_true, decide_false, Bool.not_true, Bool.not_false, not_true_eq_false, not_false_eq_true, ret_ite_o, Int.reduceLT, Int.reduceLE, Int.reduceEq, Int.reduceAdd, Int.reduceSub, Int.reduceNeg, reduceCtorEq]
    try simp only [bnd_bnd]
    refine does_bnd at_ ?_
    rintro _ ⟨k, x, rfl, hk⟩
    have hkl : k < xs.length := (List.getElem?_eq_some_iff.mp hk).1
    simp only [at_emp, at_dis1, at_ow0, at_ows, at_calln, isLst_ret, at_c, at_bin, at_un, at_v0, at_o0, at_vs, at_tup, at_lst, at_each0, at_eachs, at_ad, at_p0, at_ps, at_args0, at_argss, at_call, at_tofk, at_and, at_or, at_not, at_dand, at_dor, at_dnot, at_if, at_chain, at_gn, at_g2, at_g3, at_g4, at_iseq, at_r1, at_r2, turn_def, at_sasgn, at_sforr, at_nil, at_seq, at_asg, at_sown, at_sret, at_sretn, at_sif, at_sdrop, at_sbrk, at_scont, at_sfor, hide_nil, hide_cons, hide1_d, hide1_n, hide1_p, hide1_o, set_0, set_s, bnd_ret, bnd_stuck, bnd_bnd, bnd_ite, slot_d, slot_p, wipeR, List.map_cons, List.map_nil, List.cons_append, List.nil_append, List.replicate, add_ints, sub_ints, le_ints, lt_ints, ge_ints, gt_ints, neg_ints, min2_ints, max2_ints, oEq_ints, oNe_ints, oEq_bools, oNe_bools, len_tup, len_lst, revL_l, oEq_strs, oNe_strs, tuple_l, tuple_t, list_l, list_t, at_sl, at_pn, at_ps', sl_tup', sl_lst', is_T, is_L, is_I, is_B, is_S, is_N, not_N, isT_n, isT_b, isT_i, isT_s, isT_t, isT_l, isT_d, isL_n, isL_b, isL_i, isL_s, isL_t, isL_l, isL_d, isI_n, isI_b, isI_i, isI_s, isI_t, isI_l, isI_d, isB_n, isB_b, isB_i, isB_s, isB_t, isB_l, isB_d, isS_n, isS_b, isS_i, isS_s, isS_t, isS_l, isS_d, isN_n, isN_b, isN_i, isN_s, isN_t, isN_l, isN_d, decide_eq_true_eq, Bool.not_eq_true', decide_eq_false_iff_not, Bool.false_eq_true, if_true, if_false, decide_true, decide_false, Bool.not_true, Bool.not_false, not_true_eq_false, not_false_eq_true, ret_ite_o, Int.reduceLT, Int.reduceLE, Int.reduceEq, Int.reduceAdd, Int.reduceSub, Int.reduceNeg, reduceCtorEq, cut_to, oIx_t hk]
    try simp only [bnd_bnd]
    refine does_bnd (ih x (List.mem_of_getElem? hk)) ?_
    rintro y ⟨y1, y2, y3⟩
    have hs : ((k : Nat) : Int) + 1 = ((k + 1 : Nat) : Int) := by omega
    have b1 : (2 : Nat) ^ 18 = 262144 := by decide +kernel
    have b2 : (2 : Nat) ^ 20 = 1048576 := by decide +kernel
    simp only [at_emp, at_dis1, at_ow0, at_ows, at_calln, isLst_ret, at_c, at_bin, at_un, at_v0, at_o0, at_vs, at_tup, at_lst, at_each0, at_eachs, at_ad, at_p0, at_ps, at_args0, at_argss, at_call, at_tofk, at_and, at_or, at_not, at_dand, at_dor, at_dnot, at_if, at_chain, at_gn, at_g2, at_g3, at_g4, at_iseq, at_r1, at_r2, turn_def, at_sasgn, at_sforr, at_nil, at_seq, at_asg, at_sown, at_sret, at_sretn, at_sif, at_sdrop, at_sbrk, at_scont, at_sfor, hide_nil, hide_cons, hide1_d, hide1_n, hide1_p, hide1_o, set_0, set_s, bnd_ret, bnd_stuck, bnd_bnd, bnd_ite, slot_d, slot_p, wipeR, List.map_cons, List.map_nil, List.cons_append, List.nil_append, List.replicate, add_ints, sub_ints, le_ints, lt_ints, ge_ints, gt_ints, neg_ints, min2_ints, max2_ints, oEq_ints, oNe_ints, oEq_bools, oNe_bools, len_tup, len_lst, revL_l, oEq_strs, oNe_strs, tuple_l, tuple_t, list_l, list_t, at_sl, at_pn, at_ps', sl_tup', sl_lst', is_T, is_L, is_I, is_B, is_S, is_N, not_N, isT_n, isT_b, isT_i, isT_s, isT_t, isT_l, isT_d, isL_n, isL_b, isL_i, isL_s, isL_t, isL_l, isL_d, isI_n, isI_b, isI_i, isI_s, isI_t, isI_l, isI_d, isB_n, isB_b, isB_i, isB_s, isB_t, isB_l, isB_d, isS_n, isS_b, isS_i, isS_s, isS_t, isS_l, isS_d, isN_n, isN_b, isN_i, isN_s, isN_t, isN_l, isN_d, decide_eq_true_eq, Bool.not_eq_true', decide_eq_false_iff_not, Bool.false_eq_true, if_true, if_false, decide_true, decide_false, Bool.not_true, Bool.not_false, not_true_eq_false, not_false_eq_true, ret_ite_o, Int.reduceLT, Int.reduceLE, Int.reduceEq, Int.reduceAdd, Int.reduceSub, Int.reduceNeg, reduceCtorEq, hs, cut_from]
    rw [ap (by rw [List.length_take, List.length_singleton]; omega), bnd_ret, ap (by rw [List.length_append, List.length_take, List.length_singleton, List.length_drop]; omega)]
    refine does_ret ⟨_, rfl, bent_made (fun z hz => ?_) ?_⟩
    · rcases List.mem_append.mp hz with hz | hz
      · rcases List.mem_append.mp hz with hz | hz
        · exact old z (List.mem_of_mem_take hz)
        · rw [List.mem_singleton.mp hz]
          have := depthAll_mem (List.mem_of_getElem? hk)
          exact ⟨y1, by omega⟩
      · exact old z (List.mem_of_mem_drop hz)
    · have := bulk_drop hk
      have := bulkAll_mem (List.mem_of_getElem? hk)
      rw [bulkAll_app, bulkAll_app, bulkAll_cons, bulkAll_nil]
      omega
  refine seq_asg (P := fun x => ∃ v : Int, x = .int v ∧ 0 ≤ v ∧ v < 9) ?_ ?_
  · simp only [at_emp, at_dis1, at_ow0, at_ows, at_calln, isLst_ret, at_c, at_bin, at_un, at_v0, at_o0, at_vs, at_tup, at_lst, at_each0, at_eachs, at_ad, at_p0, at_ps, at_args0, at_argss, at_call, at_tofk, at_and, at_or, at_not, at_dand, at_dor, at_dnot, at_if, at_chain, at_gn, at_g2, at_g3, at_g4, at_iseq, at_r1, at_r2, turn_def, at_sasgn, at_sforr, at_nil, at_seq, at_asg, at_sown, at_sret, at_sretn, at_sif, at_sdrop, at_sbrk, at_scont, at_sfor, hide_nil, hide_cons, hide1_d, hide1_n, hide1_p, hide1_o, set_0, set_s, bnd_ret, bnd_stuck, bnd_bnd, bnd_ite, slot_d, slot_p, wipeR, List.map_cons, List.map_nil, List.cons_append, List.nil_append, List.replicate, add_ints, sub_ints, le_ints, lt_ints, ge_ints, gt_ints, neg_ints, min2_ints, max2_ints, oEq_ints, oNe_ints, oEq_bools, oNe_bools, len_tup, len_lst, revL_l, oEq_strs, oNe_strs, tuple_l, tuple_t, list_l, list_t, at_sl, at_pn, at_ps', sl_tup', sl_lst', is_T, is_L, is_I, is_B, is_S, is_N, not_N, isT_n, isT_b, isT_i, isT_s, isT_t, isT_l, isT_d, isL_n, isL_b, isL_i, isL_s, isL_t, isL_l, isL_d, isI_n, isI_b, isI_i, isI_s, isI_t, isI_l, isI_d, isB_n, isB_b, isB_i, isB_s, isB_t, isB_l, isB_d, isS_n, isS_b, isS_i, isS_s, isS_t, isS_l, isS_d, isN_n, isN_b, isN_i, isN_s, isN_t, isN_l, isN_d, decide_eq_true_eq, Bool.not_eq_true', decide_eq_false_iff_not, Bool.false_eq_true, if_true, if_false, decide_true, decide_false, Bool.not_true, Bool.not_false, not_true_eq_false, not_false_eq_true, ret_ite_o, Int.reduceLT, Int.reduceLE, Int.reduceEq, Int.reduceAdd, Int.reduceSub, Int.reduceNeg, reduceCtorEq]
    exact does_draw' (by decide) (by decide)
  rintro _ ⟨turn, rfl, t0, t9⟩
  simp only [set_0, set_s]
  refine seq_ret (c := decide (turn = 0)) ?_ (fun _ => ?_) fun h0 => ?_
  · try simp only [at_emp, at_dis1, at_ow0, at_ows, at_calln, isLst_ret, at_c, at_bin, at_un, at_v0, at_o0, at_vs, at_tup, at_lst, at_each0, at_eachs, at_ad, at_p0, at_ps, at_args0, at_argss, at_call, at_tofk, at_and, at_or, at_not, at_dand, at_dor, at_dnot, at_if, at_chain, at_gn, at_g2, at_g3, at_g4, at_iseq, at_r1, at_r2, turn_def, at_sasgn, at_sforr, at_nil, at_seq, at_asg, at_sown, at_sret, at_sretn, at_sif, at_sdrop, at_sbrk, at_scont, at_sfor, hide_nil, hide_cons, hide1_d, hide1_n, hide1_p, hide1_o, set_0, set_s, bnd_ret, bnd_stuck, bnd_bnd, bnd_ite, slot_d, slot_p, wipeR, List.map_cons, List.map_nil, List.cons_append, List.nil_append, List.replicate, add_ints, sub_ints, le_ints, lt_ints, ge_ints, gt_ints, neg_ints, min2_ints, max2_ints, oEq_ints, oNe_ints, oEq_bools, oNe_bools, len_tup, len_lst, revL_l, oEq_strs, oNe_strs, tuple_l, tuple_t, list_l, list_t, at_sl, at_pn, at_ps', sl_tup', sl_lst', is_T, is_L, is_I, is_B, is_S, is_N, not_N, isT_n, isT_b, isT_i, isT_s, isT_t, isT_l, isT_d, isL_n, isL_b, isL_i, isL_s, isL_t, isL_l, isL_d, isI_n, isI_b, isI_i, isI_s, isI_t, isI_l, isI_d, isB_n, isB_b, isB_i, isB_s, isB_t, isB_l, isB_d, isS_n, isS_b, isS_i, isS_s, isS_t, isS_l, isS_d, isN_n, isN_b, isN_i, isN_s, isN_t, isN_l, isN_d, decide_eq_true_eq, Bool.not_eq_true', decide_eq_false_iff_not, Bool.false_eq_true, if_true, if_false, decide_true, decide_false, Bool.not_true, Bool.not_false, not_true_eq_false, not_false_eq_true, ret_ite_o, Int.reduceLT, Int.reduceLE, Int.reduceEq, Int.reduceAdd, Int.reduceSub, Int.reduceNeg, reduceCtorEq]
    exact does_ret rfl
  · try simp only [at_emp, at_dis1, at_ow0, at_ows, at_calln, isLst_ret, at_c, at_bin, at_un, at_v0, at_o0, at_vs, at_tup, at_lst, at_each0, at_eachs, at_ad, at_p0, at_ps, at_args0, at_argss, at_call, at_tofk, at_and, at_or, at_not, at_dand, at_dor, at_dnot, at_if, at_chain, at_gn, at_g2, at_g3, at_g4, at_iseq, at_r1, at_r2, turn_def, at_sasgn, at_sforr, at_nil, at_seq, at_asg, at_sown, at_sret, at_sretn, at_sif, at_sdrop, at_sbrk, at_scont, at_sfor, hide_nil, hide_cons, hide1_d, hide1_n, hide1_p, hide1_o, set_0, set_s, bnd_ret, bnd_stuck, bnd_bnd, bnd_ite, slot_d, slot_p, wipeR, List.map_cons, List.map_nil, List.cons_append, List.nil_append, List.replicate, add_ints, sub_ints, le_ints, lt_ints, ge_ints, gt_ints, neg_ints, min2_ints, max2_ints, oEq_ints, oNe_ints, oEq_bools, oNe_bools, len_tup, len_lst, revL_l, oEq_strs, oNe_strs, tuple_l, tuple_t, list_l, list_t, at_sl, at_pn, at_ps', sl_tup', sl_lst', is_T, is_L, is_I, is_B, is_S, is_N, not_N, isT_n, isT_b, isT_i, isT_s, isT_t, isT_l, isT_d, isL_n, isL_b, isL_i, isL_s, isL_t, isL_l, isL_d, isI_n, isI_b, isI_i, isI_s, isI_t, isI_l, isI_d, isB_n, isB_b, isB_i, isB_s, isB_t, isB_l, isB_d, isS_n, isS_b, isS_i, isS_s, isS_t, isS_l, isS_d, isN_n, isN_b, isN_i, isN_s, isN_t, isN_l, isN_d, decide_eq_true_eq, Bool.not_eq_true', decide_eq_false_iff_not, Bool.false_eq_true, if_true, if_false, decide_true, decide_false, Bool.not_true, Bool.not_false, not_true_eq_false, not_false_eq_true, ret_ite_o, Int.reduceLT, Int.reduceLE, Int.reduceEq, Int.reduceAdd, Int.reduceSub, Int.reduceNeg, reduceCtorEq]
    refine does_bnd (does_draw' (by decide) (by decide)) ?_
    rintro _ ⟨v, rfl, v0, v9⟩
    obtain ⟨x, hx, px⟩ := bent_odd (B := B) (κ := false) (d := .tuple xs) v0 v9
    try simp only [at_emp, at_dis1, at_ow0, at_ows, at_calln, isLst_ret, at_c, at_bin, at_un, at_v0, at_o0, at_vs, at_tup, at_lst, at_each0, at_eachs, at_ad, at_p0, at_ps, at_args0, at_argss, at_call, at_tofk, at_and, at_or, at_not, at_dand, at_dor, at_dnot, at_if, at_chain, at_gn, at_g2, at_g3, at_g4, at_iseq, at_r1, at_r2, turn_def, at_sasgn, at_sforr, at_nil, at_seq, at_asg, at_sown, at_sret, at_sretn, at_sif, at_sdrop, at_sbrk, at_scont, at_sfor, hide_nil, hide_cons, hide1_d, hide1_n, hide1_p, hide1_o, set_0, set_s, bnd_ret, bnd_stuck, bnd_bnd, bnd_ite, slot_d, slot_p, wipeR, List.map_cons, List.map_nil, List.cons_append, List.nil_append, List.replicate, add_ints, sub_ints, le_ints, lt_ints, ge_ints, gt_ints, neg_ints, min2_ints, max2_ints, oEq_ints, oNe_ints, oEq_bools, oNe_bools, len_tup, len_lst, revL_l, oEq_strs, oNe_strs, tuple_l, tuple_t, list_l, list_t, at_sl, at_pn, at_ps', sl_tup', sl_lst', is_T, is_L, is_I, is_B, is_S, is_N, not_N, isT_n, isT_b, isT_i, isT_s, isT_t, isT_l, isT_d, isL_n, isL_b, isL_i, isL_s, isL_t, isL_l, isL_d, isI_n, isI_b, isI_i, isI_s, isI_t, isI_l, isI_d, isB_n, isB_b, isB_i, isB_s, isB_t, isB_l, isB_d, isS_n, isS_b, isS_i, isS_s, isS_t, isS_l, isS_d, isN_n, isN_b, isN_i, isN_s, isN_t, isN_l, isN_d, decide_eq_true_eq, Bool.not_eq_true', decide_eq_false_iff_not, Bool.false_eq_true, if_true, if_false, decide_true, decide_false, Bool.not_true, Bool.not_false, not_true_eq_false, not_false_eq_true, ret_ite_o, Int.reduceLT, Int.reduceLE, Int.reduceEq, Int.reduceAdd, Int.reduceSub, Int.reduceNeg, reduceCtorEq, Int.reduceNeg]
    rw [hx]
    exact does_ret px
  refine seq_ret (c := false) ?_ (fun hi => by cases hi) fun hi => ?_
  · try simp only [at_emp, at_dis1, at_ow0, at_ows, at_calln, isLst_ret, at_c, at_bin, at_un, at_v0, at_o0, at_vs, at_tup, at_lst, at_each0, at_eachs, at_ad, at_p0, at_ps, at_args0, at_argss, at_call, at_tofk, at_and, at_or, at_not, at_dand, at_dor, at_dnot, at_if, at_chain, at_gn, at_g2, at_g3, at_g4, at_iseq, at_r1, at_r2, turn_def, at_sasgn, at_sforr, at_nil, at_seq, at_asg, at_sown, at_sret, at_sretn, at_sif, at_sdrop, at_sbrk, at_scont, at_sfor, hide_nil, hide_cons, hide1_d, hide1_n, hide1_p, hide1_o, set_0, set_s, bnd_ret, bnd_stuck, bnd_bnd, bnd_ite, slot_d, slot_p, wipeR, List.map_cons, List.map_nil, List.cons_append, List.nil_append, List.replicate, add_ints, sub_ints, le_ints, lt_ints, ge_ints, gt_ints, neg_ints, min2_ints, max2_ints, oEq_ints, oNe_ints, oEq_bools, oNe_bools, len_tup, len_lst, revL_l, oEq_strs, oNe_strs, tuple_l, tuple_t, list_l, list_t, at_sl, at_pn, at_ps', sl_tup', sl_lst', is_T, is_L, is_I, is_B, is_S, is_N, not_N, isT_n, isT_b, isT_i, isT_s, isT_t, isT_l, isT_d, isL_n, isL_b, isL_i, isL_s, isL_t, isL_l, isL_d, isI_n, isI_b, isI_i, isI_s, isI_t, isI_l, isI_d, isB_n, isB_b, isB_i, isB_s, isB_t, isB_l, isB_d, isS_n, isS_b, isS_i, isS_s, isS_t, isS_l, isS_d, isN_n, isN_b, isN_i, isN_s, isN_t, isN_l, isN_d, decide_eq_true_eq, Bool.not_eq_true', decide_eq_false_iff_not, Bool.false_eq_true, if_true, if_false, decide_true, decide_false, Bool.not_true, Bool.not_false, not_true_eq_false, not_false_eq_true, ret_ite_o, Int.reduceLT, Int.reduceLE, Int.reduceEq, Int.reduceAdd, Int.reduceSub, Int.reduceNeg, reduceCtorEq, is_integer_at]
    exact does_ret rfl
  refine seq_ret (c := false) ?_ (fun hi => by cases hi) fun hi => ?_
  · try simp only [at_emp, at_dis1, at_ow0, at_ows, at_calln, isLst_ret, at_c, at_bin, at_un, at_v0, at_o0, at_vs, at_tup, at_lst, at_each0, at_eachs, at_ad, at_p0, at_ps, at_args0, at_argss, at_call, at_tofk, at_and, at_or, at_not, at_dand, at_dor, at_dnot, at_if, at_chain, at_gn, at_g2, at_g3, at_g4, at_iseq, at_r1, at_r2, turn_def, at_sasgn, at_sforr, at_nil, at_seq, at_asg, at_sown, at_sret, at_sretn, at_sif, at_sdrop, at_sbrk, at_scont, at_sfor, hide_nil, hide_cons, hide1_d, hide1_n, hide1_p, hide1_o, set_0, set_s, bnd_ret, bnd_stuck, bnd_bnd, bnd_ite, slot_d, slot_p, wipeR, List.map_cons, List.map_nil, List.cons_append, List.nil_append, List.replicate, add_ints, sub_ints, le_ints, lt_ints, ge_ints, gt_ints, neg_ints, min2_ints, max2_ints, oEq_ints, oNe_ints, oEq_bools, oNe_bools, len_tup, len_lst, revL_l, oEq_strs, oNe_strs, tuple_l, tuple_t, list_l, list_t, at_sl, at_pn, at_ps', sl_tup', sl_lst', is_T, is_L, is_I, is_B, is_S, is_N, not_N, isT_n, isT_b, isT_i, isT_s, isT_t, isT_l, isT_d, isL_n, isL_b, isL_i, isL_s, isL_t, isL_l, isL_d, isI_n, isI_b, isI_i, isI_s, isI_t, isI_l, isI_d, isB_n, isB_b, isB_i, isB_s, isB_t, isB_l, isB_d, isS_n, isS_b, isS_i, isS_s, isS_t, isS_l, isS_d, isN_n, isN_b, isN_i, isN_s, isN_t, isN_l, isN_d, decide_eq_true_eq, Bool.not_eq_true', decide_eq_false_iff_not, Bool.false_eq_true, if_true, if_false, decide_true, decide_false, Bool.not_true, Bool.not_false, not_true_eq_false, not_false_eq_true, ret_ite_o, Int.reduceLT, Int.reduceLE, Int.reduceEq, Int.reduceAdd, Int.reduceSub, Int.reduceNeg, reduceCtorEq, is_integer_at]
    exact does_ret rfl
  refine seq_ret (c := false) ?_ (fun hi => by cases hi) fun hi => ?_
  · have : ¬ (xs.length : Int) = 0 := by omega
    try simp only [at_emp, at_dis1, at_ow0, at_ows, at_calln, isLst_ret, at_c, at_bin, at_un, at_v0, at_o0, at_vs, at_tup, at_lst, at_each0, at_eachs, at_ad, at_p0, at_ps, at_args0, at_argss, at_call, at_tofk, at_and, at_or, at_not, at_dand, at_dor, at_dnot, at_if, at_chain, at_gn, at_g2, at_g3, at_g4, at_iseq, at_r1, at_r2, turn_def, at_sasgn, at_sforr, at_nil, at_seq, at_asg, at_sown, at_sret, at_sretn, at_sif, at_sdrop, at_sbrk, at_scont, at_sfor, hide_nil, hide_cons, hide1_d, hide1_n, hide1_p, hide1_o, set_0, set_s, bnd_ret, bnd_stuck, bnd_bnd, bnd_ite, slot_d, slot_p, wipeR, List.map_cons, List.map_nil, List.cons_append, List.nil_append, List.replicate, add_ints, sub_ints, le_ints, lt_ints, ge_ints, gt_ints, neg_ints, min2_ints, max2_ints, oEq_ints, oNe_ints, oEq_bools, oNe_bools, len_tup, len_lst, revL_l, oEq_strs, oNe_strs, tuple_l, tuple_t, list_l, list_t, at_sl, at_pn, at_ps', sl_tup', sl_lst', is_T, is_L, is_I, is_B, is_S, is_N, not_N, isT_n, isT_b, isT_i, isT_s, isT_t, isT_l, isT_d, isL_n, isL_b, isL_i, isL_s, isL_t, isL_l, isL_d, isI_n, isI_b, isI_i, isI_s, isI_t, isI_l, isI_d, isB_n, isB_b, isB_i, isB_s, isB_t, isB_l, isB_d, isS_n, isS_b, isS_i, isS_s, isS_t, isS_l, isS_d, isN_n, isN_b, isN_i, isN_s, isN_t, isN_l, isN_d, decide_eq_true_eq, Bool.not_eq_true', decide_eq_false_iff_not, Bool.false_eq_true, if_true, if_false, decide_true, decide_false, Bool.not_true, Bool.not_false, not_true_eq_false, not_false_eq_true, ret_ite_o, Int.reduceLT, Int.reduceLE, Int.reduceEq, Int.reduceAdd, Int.reduceSub, Int.reduceNeg, reduceCtorEq, this]
    exact does_ret rfl
  refine seq_asg (P := fun d => ∃ k x, d = .int ((k : Nat) : Int) ∧ xs[k]? = some x) ?_ ?_
  · simp only [at_emp, at_dis1, at_ow0, at_ows, at_calln, isLst_ret, at_c, at_bin, at_un, at_v0, at_o0, at_vs, at_tup, at_lst, at_each0, at_eachs, at_ad, at_p0, at_ps, at_args0, at_argss, at_call, at_tofk, at_and, at_or, at_not, at_dand, at_dor, at_dnot, at_if, at_chain, at_gn, at_g2, at_g3, at_g4, at_iseq, at_r1, at_r2, turn_def, at_sasgn, at_sforr, at_nil, at_seq, at_asg, at_sown, at_sret, at_sretn, at_sif, at_sdrop, at_sbrk, at_scont, at_sfor, hide_nil, hide_cons, hide1_d, hide1_n, hide1_p, hide1_o, set_0, set_s, bnd_ret, bnd_stuck, bnd_bnd, bnd_ite, slot_d, slot_p, wipeR, List.map_cons, List.map_nil, List.cons_append, List.nil_append, List.replicate, add_ints, sub_ints, le_ints, lt_ints, ge_ints, gt_ints, neg_ints, min2_ints, max2_ints, oEq_ints, oNe_ints, oEq_bools, oNe_bools, len_tup, len_lst, revL_l, oEq_strs, oNe_strs, tuple_l, tuple_t, list_l, list_t, at_sl, at_pn, at_ps', sl_tup', sl_lst', is_T, is_L, is_I, is_B, is_S, is_N, not_N, isT_n, isT_b, isT_i, isT_s, isT_t, isT_l, isT_d, isL_n, isL_b, isL_i, isL_s, isL_t, isL_l, isL_d, isI_n, isI_b, isI_i, isI_s, isI_t, isI_l, isI_d, isB_n, isB_b, isB_i, isB_s, isB_t, isB_l, isB_d, isS_n, isS_b, isS_i, isS_s, isS_t, isS_l, isS_d, isN_n, isN_b, isN_i, isN_s, isN_t, isN_l, isN_d, decide_eq_true_eq, Bool.not_eq_true', decide_eq_false_iff_not, Bool.false_eq_true, if_true, if_false, decide_true, decide_false, Bool.not_true, Bool.not_false, not_true_eq_false, not_false_eq_true, ret_ite_o, Int.reduceLT, Int.reduceLE, Int.reduceEq, Int.reduceAdd, Int.reduceSub, Int.reduceNeg, reduceCtorEq]
    exact at_
  rintro _ ⟨k, x, rfl, hk⟩
  simp only [set_0, set_s]
  have hkl : k < xs.length := (List.getElem?_eq_some_iff.mp hk).1
  have hs : ((k : Nat) : Int) + 1 = ((k + 1 : Nat) : Int) := by omega
  have b1 : (2 : Nat) ^ 18 = 262144 := by decide +kernel
  have b2 : (2 : Nat) ^ 20 = 1048576 := by decide +kernel
  have bd := bulk_drop hk
  have bm := bulkAll_mem (List.mem_of_getElem? hk)
  refine seq_ret (c := decide (turn < 3)) ?_ (fun _ => ?_) fun h3 => ?_
  · try simp only [at_emp, at_dis1, at_ow0, at_ows, at_calln, isLst_ret, at_c, at_bin, at_un, at_v0, at_o0, at_vs, at_tup, at_lst, at_each0, at_eachs, at_ad, at_p0, at_ps, at_args0, at_argss, at_call, at_tofk, at_and, at_or, at_not, at_dand, at_dor, at_dnot, at_if, at_chain, at_gn, at_g2, at_g3, at_g4, at_iseq, at_r1, at_r2, turn_def, at_sasgn, at_sforr, at_nil, at_seq, at_asg, at_sown, at_sret, at_sretn, at_sif, at_sdrop, at_sbrk, at_scont, at_sfor, hide_nil, hide_cons, hide1_d, hide1_n, hide1_p, hide1_o, set_0, set_s, bnd_ret, bnd_stuck, bnd_bnd, bnd_ite, slot_d, slot_p, wipeR, List.map_cons, List.map_nil, List.cons_append, List.nil_append, List.replicate, add_ints, sub_ints, le_ints, lt_ints, ge_ints, gt_ints, neg_ints, min2_ints, max2_ints, oEq_ints, oNe_ints, oEq_bools, oNe_bools, len_tup, len_lst, revL_l, oEq_strs, oNe_strs, tuple_l, tuple_t, list_l, list_t, at_sl, at_pn, at_ps', sl_tup', sl_lst', is_T, is_L, is_I, is_B, is_S, is_N, not_N, isT_n, isT_b, isT_i, isT_s, isT_t, isT_l, isT_d, isL_n, isL_b, isL_i, isL_s, isL_t, isL_l, isL_d, isI_n, isI_b, isI_i, isI_s, isI_t, isI_l, isI_d, isB_n, isB_b, isB_i, isB_s, isB_t, isB_l, isB_d, isS_n, isS_b, isS_i, isS_s, isS_t, isS_l, isS_d, isN_n, isN_b, isN_i, isN_s, isN_t, isN_l, isN_d, decide_eq_true_eq, Bool.not_eq_true', decide_eq_false_iff_not, Bool.false_eq_true, if_true, if_false, decide_true, decide_false, Bool.not_true, Bool.not_false, not_true_eq_false, not_false_eq_true, ret_ite_o, Int.reduceLT, Int.reduceLE, Int.reduceEq, Int.reduceAdd, Int.reduceSub, Int.reduceNeg, reduceCtorEq]
    exact does_ret rfl
  · simp only [at_emp, at_dis1, at_ow0, at_ows, at_calln, isLst_ret, at_c, at_bin, at_un, at_v0, at_o0, at_vs, at_tup, at_lst, at_each0, at_eachs, at_ad, at_p0, at_ps, at_args0, at_argss, at_call, at_tofk, at_and, at_or, at_not, at_dand, at_dor, at_dnot, at_if, at_chain, at_gn, at_g2, at_g3, at_g4, at_iseq, at_r1, at_r2, turn_def, at_sasgn, at_sforr, at_nil, at_seq, at_asg, at_sown, at_sret, at_sretn, at_sif, at_sdrop, at_sbrk, at_scont, at_sfor, hide_nil, hide_cons, hide1_d, hide1_n, hide1_p, hide1_o, set_0, set_s, bnd_ret, bnd_stuck, bnd_bnd, bnd_ite, slot_d, slot_p, wipeR, List.map_cons, List.map_nil, List.cons_append, List.nil_append, List.replicate, add_ints, sub_ints, le_ints, lt_ints, ge_ints, gt_ints, neg_ints, min2_ints, max2_ints, oEq_ints, oNe_ints, oEq_bools, oNe_bools, len_tup, len_lst, revL_l, oEq_strs, oNe_strs, tuple_l, tuple_t, list_l, list_t, at_sl, at_pn, at_ps', sl_tup', sl_lst', is_T, is_L, is_I, is_B, is_S, is_N, not_N, isT_n, isT_b, isT_i, isT_s, isT_t, isT_l, isT_d, isL_n, isL_b, isL_i, isL_s, isL_t, isL_l, isL_d, isI_n, isI_b, isI_i, isI_s, isI_t, isI_l, isI_d, isB_n, isB_b, isB_i, isB_s, isB_t, isB_l, isB_d, isS_n, isS_b, isS_i, isS_s, isS_t, isS_l, isS_d, isN_n, isN_b, isN_i, isN_s, isN_t, isN_l, isN_d, decide_eq_true_eq, Bool.not_eq_true', decide_eq_false_iff_not, Bool.false_eq_true, if_true, if_false, decide_true, decide_false, Bool.not_true, Bool.not_false, not_true_eq_false, not_false_eq_true, ret_ite_o, Int.reduceLT, Int.reduceLE, Int.reduceEq, Int.reduceAdd, Int.reduceSub, Int.reduceNeg, reduceCtorEq, hs, cut_from, cut_to]
    rw [ap (by rw [List.length_take, List.length_drop]; omega)]
    refine does_ret (bent_made (fun z hz => ?_) ?_)
    · rcases List.mem_append.mp hz with hz | hz
      · exact old z (List.mem_of_mem_take hz)
      · exact old z (List.mem_of_mem_drop hz)
    · rw [bulkAll_app]
      omega
  refine seq_ret (c := decide (turn < 5)) ?_ (fun _ => ?_) fun h5 => ?_
  · try simp only [at_emp, at_dis1, at_ow0, at_ows, at_calln, isLst_ret, at_c, at_bin, at_un, at_v0, at_o0, at_vs, at_tup, at_lst, at_each0, at_eachs, at_ad, at_p0, at_ps, at_args0, at_argss, at_call, at_tofk, at_and, at_or, at_not, at_dand, at_dor, at_dnot, at_if, at_chain, at_gn, at_g2, at_g3, at_g4, at_iseq, at_r1, at_r2, turn_def, at_sasgn, at_sforr, at_nil, at_seq, at_asg, at_sown, at_sret, at_sretn, at_sif, at_sdrop, at_sbrk, at_scont, at_sfor, hide_nil, hide_cons, hide1_d, hide1_n, hide1_p, hide1_o, set_0, set_s, bnd_ret, bnd_stuck, bnd_bnd, bnd_ite, slot_d, slot_p, wipeR, List.map_cons, List.map_nil, List.cons_append, List.nil_append, List.replicate, add_ints, sub_ints, le_ints, lt_ints, ge_ints, gt_ints, neg_ints, min2_ints, max2_ints, oEq_ints, oNe_ints, oEq_bools, oNe_bools, len_tup, len_lst, revL_l, oEq_strs, oNe_strs, tuple_l, tuple_t, list_l, list_t, at_sl, at_pn, at_ps', sl_tup', sl_lst', is_T, is_L, is_I, is_B, is_S, is_N, not_N, isT_n, isT_b, isT_i, isT_s, isT_t, isT_l, isT_d, isL_n, isL_b, isL_i, isL_s, isL_t, isL_l, isL_d, isI_n, isI_b, isI_i, isI_s, isI_t, isI_l, isI_d, isB_n, isB_b, isB_i, isB_s, isB_t, isB_l, isB_d, isS_n, isS_b, isS_i, isS_s, isS_t, isS_l, isS_d, isN_n, isN_b, isN_i, isN_s, isN_t, isN_l, isN_d, decide_eq_true_eq, Bool.not_eq_true', decide_eq_false_iff_not, Bool.false_eq_true, if_true, if_false, decide_true, decide_false, Bool.not_true, Bool.not_false, not_true_eq_false, not_false_eq_true, ret_ite_o, Int.reduceLT, Int.reduceLE, Int.reduceEq, Int.reduceAdd, Int.reduceSub, Int.reduceNeg, reduceCtorEq]
    exact does_ret rfl
  · simp only [at_emp, at_dis1, at_ow0, at_ows, at_calln, isLst_ret, at_c, at_bin, at_un, at_v0, at_o0, at_vs, at_tup, at_lst, at_each0, at_eachs, at_ad, at_p0, at_ps, at_args0, at_argss, at_call, at_tofk, at_and, at_or, at_not, at_dand, at_dor, at_dnot, at_if, at_chain, at_gn, at_g2, at_g3, at_g4, at_iseq, at_r1, at_r2, turn_def, at_sasgn, at_sforr, at_nil, at_seq, at_asg, at_sown, at_sret, at_sretn, at_sif, at_sdrop, at_sbrk, at_scont, at_sfor, hide_nil, hide_cons, hide1_d, hide1_n, hide1_p, hide1_o, set_0, set_s, bnd_ret, bnd_stuck, bnd_bnd, bnd_ite, slot_d, slot_p, wipeR, List.map_cons, List.map_nil, List.cons_append, List.nil_append, List.replicate, add_ints, sub_ints, le_ints, lt_ints, ge_ints, gt_ints, neg_ints, min2_ints, max2_ints, oEq_ints, oNe_ints, oEq_bools, oNe_bools, len_tup, len_lst, revL_l, oEq_strs, oNe_strs, tuple_l, tuple_t, list_l, list_t, at_sl, at_pn, at_ps', sl_tup', sl_lst', is_T, is_L, is_I, is_B, is_S, is_N, not_N, isT_n, isT_b, isT_i, isT_s, isT_t, isT_l, isT_d, isL_n, isL_b, isL_i, isL_s, isL_t, isL_l, isL_d, isI_n, isI_b, isI_i, isI_s, isI_t, isI_l, isI_d, isB_n, isB_b, isB_i, isB_s, isB_t, isB_l, isB_d, isS_n, isS_b, isS_i, isS_s, isS_t, isS_l, isS_d, isN_n, isN_b, isN_i, isN_s, isN_t, isN_l, isN_d, decide_eq_true_eq, Bool.not_eq_true', decide_eq_false_iff_not, Bool.false_eq_true, if_true, if_false, decide_true, decide_false, Bool.not_true, Bool.not_false, not_true_eq_false, not_false_eq_true, ret_ite_o, Int.reduceLT, Int.reduceLE, Int.reduceEq, Int.reduceAdd, Int.reduceSub, Int.reduceNeg, reduceCtorEq, cut_from, cut_to, oIx_t hk]
    rw [ap (by rw [List.length_take, List.length_singleton]; omega), bnd_ret, ap (by rw [List.length_append, List.length_take, List.length_singleton, List.length_drop]; omega)]
    refine does_ret (bent_made (fun z hz => ?_) ?_)
    · rcases List.mem_append.mp hz with hz | hz
      · rcases List.mem_append.mp hz with hz | hz
        · exact old z (List.mem_of_mem_take hz)
        · rw [List.mem_singleton.mp hz]
          exact old x (List.mem_of_getElem? hk)
      · exact old z (List.mem_of_mem_drop hz)
    · have z := bulkAll_split xs k
      rw [bulkAll_app, bulkAll_app, bulkAll_cons, bulkAll_nil]
      omega
  refine seq_ret (c := decide (turn = 5)) ?_ (fun _ => ?_) fun h6 => ?_
  · try simp only [at_emp, at_dis1, at_ow0, at_ows, at_calln, isLst_ret, at_c, at_bin, at_un, at_v0, at_o0, at_vs, at_tup, at_lst, at_each0, at_eachs, at_ad, at_p0, at_ps, at_args0, at_argss, at_call, at_tofk, at_and, at_or, at_not, at_dand, at_dor, at_dnot, at_if, at_chain, at_gn, at_g2, at_g3, at_g4, at_iseq, at_r1, at_r2, turn_def, at_sasgn, at_sforr, at_nil, at_seq, at_asg, at_sown, at_sret, at_sretn, at_sif, at_sdrop, at_sbrk, at_scont, at_sfor, hide_nil, hide_cons, hide1_d, hide1_n, hide1_p, hide1_o, set_0, set_s, bnd_ret, bnd_stuck, bnd_bnd, bnd_ite, slot_d, slot_p, wipeR, List.map_cons, List.map_nil, List.cons_append, List.nil_append, List.replicate, add_ints, sub_ints, le_ints, lt_ints, ge_ints, gt_ints, neg_ints, min2_ints, max2_ints, oEq_ints, oNe_ints, oEq_bools, oNe_bools, len_tup, len_lst, revL_l, oEq_strs, oNe_strs, tuple_l, tuple_t, list_l, list_t, at_sl, at_pn, at_ps', sl_tup', sl_lst', is_T, is_L, is_I, is_B, is_S, is_N, not_N, isT_n, isT_b, isT_i, isT_s, isT_t, isT_l, isT_d, isL_n, isL_b, isL_i, isL_s, isL_t, isL_l, isL_d, isI_n, isI_b, isI_i, isI_s, isI_t, isI_l, isI_d, isB_n, isB_b, isB_i, isB_s, isB_t, isB_l, isB_d, isS_n, isS_b, isS_i, isS_s, isS_t, isS_l, isS_d, isN_n, isN_b, isN_i, isN_s, isN_t, isN_l, isN_d, decide_eq_true_eq, Bool.not_eq_true', decide_eq_false_iff_not, Bool.false_eq_true, if_true, if_false, decide_true, decide_false, Bool.not_true, Bool.not_false, not_true_eq_false, not_false_eq_true, ret_ite_o, Int.reduceLT, Int.reduceLE, Int.reduceEq, Int.reduceAdd, Int.reduceSub, Int.reduceNeg, reduceCtorEq]
    exact does_ret rfl
  · simp only [at_emp, at_dis1, at_ow0, at_ows, at_calln, isLst_ret, at_c, at_bin, at_un, at_v0, at_o0, at_vs, at_tup, at_lst, at_each0, at_eachs, at_ad, at_p0, at_ps, at_args0, at_argss, at_call, at_tofk, at_and, at_or, at_not, at_dand, at_dor, at_dnot, at_if, at_chain, at_gn, at_g2, at_g3, at_g4, at_iseq, at_r1, at_r2, turn_def, at_sasgn, at_sforr, at_nil, at_seq, at_asg, at_sown, at_sret, at_sretn, at_sif, at_sdrop, at_sbrk, at_scont, at_sfor, hide_nil, hide_cons, hide1_d, hide1_n, hide1_p, hide1_o, set_0, set_s, bnd_ret, bnd_stuck, bnd_bnd, bnd_ite, slot_d, slot_p, wipeR, List.map_cons, List.map_nil, List.cons_append, List.nil_append, List.replicate, add_ints, sub_ints, le_ints, lt_ints, ge_ints, gt_ints, neg_ints, min2_ints, max2_ints, oEq_ints, oNe_ints, oEq_bools, oNe_bools, len_tup, len_lst, revL_l, oEq_strs, oNe_strs, tuple_l, tuple_t, list_l, list_t, at_sl, at_pn, at_ps', sl_tup', sl_lst', is_T, is_L, is_I, is_B, is_S, is_N, not_N, isT_n, isT_b, isT_i, isT_s, isT_t, isT_l, isT_d, isL_n, isL_b, isL_i, isL_s, isL_t, isL_l, isL_d, isI_n, isI_b, isI_i, isI_s, isI_t, isI_l, isI_d, isB_n, isB_b, isB_i, isB_s, isB_t, isB_l, isB_d, isS_n, isS_b, isS_i, isS_s, isS_t, isS_l, isS_d, isN_n, isN_b, isN_i, isN_s, isN_t, isN_l, isN_d, decide_eq_true_eq, Bool.not_eq_true', decide_eq_false_iff_not, Bool.false_eq_true, if_true, if_false, decide_true, decide_false, Bool.not_true, Bool.not_false, not_true_eq_false, not_false_eq_true, ret_ite_o, Int.reduceLT, Int.reduceLE, Int.reduceEq, Int.reduceAdd, Int.reduceSub, Int.reduceNeg, reduceCtorEq]
    refine does_ret ⟨?_, by rw [bulk_t, bulk_l]; omega, by rw [depth_t, depth_l]; omega⟩
    rw [tame_l]
    exact tameAll_iff.mpr fun y hy => (old y hy).1
  refine seq_asg (P := fun d => ∃ k x, d = .int ((k : Nat) : Int) ∧ xs[k]? = some x) ?_ ?_
  · simp only [at_emp, at_dis1, at_ow0, at_ows, at_calln, isLst_ret, at_c, at_bin, at_un, at_v0, at_o0, at_vs, at_tup, at_lst, at_each0, at_eachs, at_ad, at_p0, at_ps, at_args0, at_argss, at_call, at_tofk, at_and, at_or, at_not, at_dand, at_dor, at_dnot, at_if, at_chain, at_gn, at_g2, at_g3, at_g4, at_iseq, at_r1, at_r2, turn_def, at_sasgn, at_sforr, at_nil, at_seq, at_asg, at_sown, at_sret, at_sretn, at_sif, at_sdrop, at_sbrk, at_scont, at_sfor, hide_nil, hide_cons, hide1_d, hide1_n, hide1_p, hide1_o, set_0, set_s, bnd_ret, bnd_stuck, bnd_bnd, bnd_ite, slot_d, slot_p, wipeR, List.map_cons, List.map_nil, List.cons_append, List.nil_append, List.replicate, add_ints, sub_ints, le_ints, lt_ints, ge_ints, gt_ints, neg_ints, min2_ints, max2_ints, oEq_ints, oNe_ints, oEq_bools, oNe_bools, len_tup, len_lst, revL_l, oEq_strs, oNe_strs, tuple_l, tuple_t, list_l, list_t, at_sl, at_pn, at_ps', sl_tup', sl_lst', is_T, is_L, is_I, is_B, is_S, is_N, not_N, isT_n, isT_b, isT_i, isT_s, isT_t, isT_l, isT_d, isL_n, isL_b, isL_i, isL_s, isL_t, isL_l, isL_d, isI_n, isI_b, isI_i, isI_s, isI_t, isI_l, isI_d, isB_n, isB_b, isB_i, isB_s, isB_t, isB_l, isB_d, isS_n, isS_b, isS_i, isS_s, isS_t, isS_l, isS_d, isN_n, isN_b, isN_i, isN_s, isN_t, isN_l, isN_d, decide_eq_true_eq, Bool.not_eq_true', decide_eq_false_iff_not, Bool.false_eq_true, if_true, if_false, decide_true, decide_false, Bool.not_true, Bool.not_false, not_true_eq_false, not_false_eq_true, ret_ite_o, Int.reduceLT, Int.reduceLE, Int.reduceEq, Int.reduceAdd, Int.reduceSub, Int.reduceNeg, reduceCtorEq]
    exact at_
  rintro _ ⟨j, y, rfl, hj⟩
  simp only [set_0, set_s]
  have hjl : j < xs.length := (List.getElem?_eq_some_iff.mp hj).1
  have bm2 := bulkAll_mem (List.mem_of_getElem? hj)
  have memset : ∀ (zs : List D) (n : Nat) (y : D), (∀ z ∈ zs, z ∈ xs) → y ∈ xs → ∀ z ∈ zs.set n y, z ∈ xs := fun zs n y h hy z hz => (List.mem_or_eq_of_mem_set hz).elim (h z) fun e => e ▸ hy
  have fin : BentP B (.tuple xs) (.tuple ((xs.set k y).set j x)) := bent_made (fun z hz => old z (memset _ _ _ (memset _ _ _ (fun _ h => h) (List.mem_of_getElem? hj)) (List.mem_of_getElem? hk) z hz)) (by
    have a1 := bulkAll_set xs k y
    have a2 := bulkAll_set (xs.set k y) j x
    omega)
  refine seq_own (ds := xs) ?_ ?_
  · simp only [at_emp, at_dis1, at_ow0, at_ows, at_calln, isLst_ret, at_c, at_bin, at_un, at_v0, at_o0, at_vs, at_tup, at_lst, at_each0, at_eachs, at_ad, at_p0, at_ps, at_args0, at_argss, at_call, at_tofk, at_and, at_or, at_not, at_dand, at_dor, at_dnot, at_if, at_chain, at_gn, at_g2, at_g3, at_g4, at_iseq, at_r1, at_r2, turn_def, at_sasgn, at_sforr, at_nil, at_seq, at_asg, at_sown, at_sret, at_sretn, at_sif, at_sdrop, at_sbrk, at_scont, at_sfor, hide_nil, hide_cons, hide1_d, hide1_n, hide1_p, hide1_o, set_0, set_s, bnd_ret, bnd_stuck, bnd_bnd, bnd_ite, slot_d, slot_p, wipeR, List.map_cons, List.map_nil, List.cons_append, List.nil_append, List.replicate, add_ints, sub_ints, le_ints, lt_ints, ge_ints, gt_ints, neg_ints, min2_ints, max2_ints, oEq_ints, oNe_ints, oEq_bools, oNe_bools, len_tup, len_lst, revL_l, oEq_strs, oNe_strs, tuple_l, tuple_t, list_l, list_t, at_sl, at_pn, at_ps', sl_tup', sl_lst', is_T, is_L, is_I, is_B, is_S, is_N, not_N, isT_n, isT_b, isT_i, isT_s, isT_t, isT_l, isT_d, isL_n, isL_b, isL_i, isL_s, isL_t, isL_l, isL_d, isI_n, isI_b, isI_i, isI_s, isI_t, isI_l, isI_d, isB_n, isB_b, isB_i, isB_s, isB_t, isB_l, isB_d, isS_n, isS_b, isS_i, isS_s, isS_t, isS_l, isS_d, isN_n, isN_b, isN_i, isN_s, isN_t, isN_l, isN_d, decide_eq_true_eq, Bool.not_eq_true', decide_eq_false_iff_not, Bool.false_eq_true, if_true, if_false, decide_true, decide_false, Bool.not_true, Bool.not_false, not_true_eq_false, not_false_eq_true, ret_ite_o, Int.reduceLT, Int.reduceLE, Int.reduceEq, Int.reduceAdd, Int.reduceSub, Int.reduceNeg, reduceCtorEq]
  simp only [set_0, set_s]
  refine seq_next (P := (· = [some .pool, some (.dat (.tuple xs)), some (.dat (.int (k : Int))), some (.dat (.int turn)), some (.dat (.int (j : Int))), some (.own (xs.set k y))])) ?_ ?_
  · rw [at_sset rfl]
    simp only [at_emp, at_dis1, at_ow0, at_ows, at_calln, isLst_ret, at_c, at_bin, at_un, at_v0, at_o0, at_vs, at_tup, at_lst, at_each0, at_eachs, at_ad, at_p0, at_ps, at_args0, at_argss, at_call, at_tofk, at_and, at_or, at_not, at_dand, at_dor, at_dnot, at_if, at_chain, at_gn, at_g2, at_g3, at_g4, at_iseq, at_r1, at_r2, turn_def, at_sasgn, at_sforr, at_nil, at_seq, at_asg, at_sown, at_sret, at_sretn, at_sif, at_sdrop, at_sbrk, at_scont, at_sfor, hide_nil, hide_cons, hide1_d, hide1_n, hide1_p, hide1_o, set_0, set_s, bnd_ret, bnd_stuck, bnd_bnd, bnd_ite, slot_d, slot_p, wipeR, List.map_cons, List.map_nil, List.cons_append, List.nil_append, List.replicate, add_ints, sub_ints, le_ints, lt_ints, ge_ints, gt_ints, neg_ints, min2_ints, max2_ints, oEq_ints, oNe_ints, oEq_bools, oNe_bools, len_tup, len_lst, revL_l, oEq_strs, oNe_strs, tuple_l, tuple_t, list_l, list_t, at_sl, at_pn, at_ps', sl_tup', sl_lst', is_T, is_L, is_I, is_B, is_S, is_N, not_N, isT_n, isT_b, isT_i, isT_s, isT_t, isT_l, isT_d, isL_n, isL_b, isL_i, isL_s, isL_t, isL_l, isL_d, isI_n, isI_b, isI_i, isI_s, isI_t, isI_l, isI_d, isB_n, isB_b, isB_i, isB_s, isB_t, isB_l, isB_d, isS_n, isS_b, isS_i, isS_s, isS_t, isS_l, isS_d, isN_n, isN_b, isN_i, isN_s, isN_t, isN_l, isN_d, decide_eq_true_eq, Bool.not_eq_true', decide_eq_false_iff_not, Bool.false_eq_true, if_true, if_false, decide_true, decide_false, Bool.not_true, Bool.not_false, not_true_eq_false, not_false_eq_true, ret_ite_o, Int.reduceLT, Int.reduceLE, Int.reduceEq, Int.reduceAdd, Int.reduceSub, Int.reduceNeg, reduceCtorEq, oIx_t hj]
    rw [setGo_at (ixN_nat hkl)]
    exact does_ret ⟨_, rfl, rfl⟩
  rintro _ rfl
  refine seq_next (P := (· = [some .pool, some (.dat (.tuple xs)), some (.dat (.int (k : Int))), some (.dat (.int turn)), some (.dat (.int (j : Int))), some (.own ((xs.set k y).set j x))])) ?_ ?_
  · rw [at_sset rfl]
    simp only [at_emp, at_dis1, at_ow0, at_ows, at_calln, isLst_ret, at_c, at_bin, at_un, at_v0, at_o0, at_vs, at_tup, at_lst, at_each0, at_eachs, at_ad, at_p0, at_ps, at_args0, at_argss, at_call, at_tofk, at_and, at_or, at_not, at_dand, at_dor, at_dnot, at_if, at_chain, at_gn, at_g2, at_g3, at_g4, at_iseq, at_r1, at_r2, turn_def, at_sasgn, at_sforr, at_nil, at_seq, at_asg, at_sown, at_sret, at_sretn, at_sif, at_sdrop, at_sbrk, at_scont, at_sfor, hide_nil, hide_cons, hide1_d, hide1_n, hide1_p, hide1_o, set_0, set_s, bnd_ret, bnd_stuck, bnd_bnd, bnd_ite, slot_d, slot_p, wipeR, List.map_cons, List.map_nil, List.cons_append, List.nil_append, List.replicate, add_ints, sub_ints, le_ints, lt_ints, ge_ints, gt_ints, neg_ints, min2_ints, max2_ints, oEq_ints, oNe_ints, oEq_bools, oNe_bools, len_tup, len_lst, revL_l, oEq_strs, oNe_strs, tuple_l, tuple_t, list_l, list_t, at_sl, at_pn, at_ps', sl_tup', sl_lst', is_T, is_L, is_I, is_B, is_S, is_N, not_N, isT_n, isT_b, isT_i, isT_s, isT_t, isT_l, isT_d, isL_n, isL_b, isL_i, isL_s, isL_t, isL_l, isL_d, isI_n, isI_b, isI_i, isI_s, isI_t, isI_l, isI_d, isB_n, isB_b, isB_i, isB_s, isB_t, isB_l, isB_d, isS_n, isS_b, isS_i, isS_s, isS_t, isS_l, isS_d, isN_n, isN_b, isN_i, isN_s, isN_t, isN_l, isN_d, decide_eq_true_eq, Bool.not_eq_true', decide_eq_false_iff_not, Bool.false_eq_true, if_true, if_false, decide_true, decide_false, Bool.not_true, Bool.not_false, not_true_eq_false, not_false_eq_true, ret_ite_o, Int.reduceLT, Int.reduceLE, Int.reduceEq, Int.reduceAdd, Int.reduceSub, Int.reduceNeg, reduceCtorEq, oIx_t hk]
    rw [setGo_at (ixN_nat (by rw [List.length_set]; exact hjl))]
    exact does_ret ⟨_, rfl, rfl⟩
  rintro _ rfl
  simp only [at_emp, at_dis1, at_ow0, at_ows, at_calln, isLst_ret, at_c, at_bin, at_un, at_v0, at_o0, at_vs, at_tup, at_lst, at_each0, at_eachs, at_ad, at_p0, at_ps, at_args0, at_argss, at_call, at_tofk, at_and, at_or, at_not, at_dand, at_dor, at_dnot, at_if, at_chain, at_gn, at_g2, at_g3, at_g4, at_iseq, at_r1, at_r2, turn_def, at_sasgn, at_sforr, at_nil, at_seq, at_asg, at_sown, at_sret, at_sretn, at_sif, at_sdrop, at_sbrk, at_scont, at_sfor, hide_nil, hide_cons, hide1_d, hide1_n, hide1_p, hide1_o, set_0, set_s, bnd_ret, bnd_stuck, bnd_bnd, bnd_ite, slot_d, slot_p, wipeR, List.map_cons, List.map_nil, List.cons_append, List.nil_append, List.replicate, add_ints, sub_ints, le_ints, lt_ints, ge_ints, gt_ints, neg_ints, min2_ints, max2_ints, oEq_ints, oNe_ints, oEq_bools, oNe_bools, len_tup, len_lst, revL_l, oEq_strs, oNe_strs, tuple_l, tuple_t, list_l, list_t, at_sl, at_pn, at_ps', sl_tup', sl_lst', is_T, is_L, is_I, is_B, is_S, is_N, not_N, isT_n, isT_b, isT_i, isT_s, isT_t, isT_l, isT_d, isL_n, isL_b, isL_i, isL_s, isL_t, isL_l, isL_d, isI_n, isI_b, isI_i, isI_s, isI_t, isI_l, isI_d, isB_n, isB_b, isB_i, isB_s, isB_t, isB_l, isB_d, isS_n, isS_b, isS_i, isS_s, isS_t, isS_l, isS_d, isN_n, isN_b, isN_i, isN_s, isN_t, isN_l, isN_d, decide_eq_true_eq, Bool.not_eq_true', decide_eq_false_iff_not, Bool.false_eq_true, if_true, if_false, decide_true, decide_false, Bool.not_true, Bool.not_false, not_true_eq_false, not_false_eq_true, ret_ite_o, Int.reduceLT, Int.reduceLE, Int.reduceEq, Int.reduceAdd, Int.reduceSub, Int.reduceNeg, reduceCtorEq]
  exact does_ret fin
theorem bent_ok {B : Nat} : ∀ (n : Nat) (d : D), tame B d = true → d.bulk ≤ 2 ^ 18 → d.depth < n → Does (F__law_bent n [.pool, .d d]) (BentP B d)
  | 0, d, _, _, h => by omega
  | n + 1, d, h1, h2, h3 => by
    show Does (fnD 2 6 (B__law_bent (F__law_bent n)) [.pool, .d d]) (BentP B d)
    cases d with
    | tuple xs =>
      cases xs with
      | nil => exact bent_leaf _ h1 h2 (.inr rfl)
      | cons x xs =>
        refine bent_tup h1 h2 (by rw [List.length_cons]; omega) fun y hy => bent_ok n y ?_ ?_ ?_
        · rw [tame_t] at h1
          exact tameAll_iff.mp h1 y hy
        · have := bulkAll_mem hy
          rw [bulk_t] at h2
          omega
        · have := depthAll_mem hy
          rw [depth_t] at h3
          omega
    | _ => exact bent_leaf _ h1 h2 (.inl rfl)
end

def frm (lo hi : Int) (d : D) : Bool := match d with
  | .int i => decide (lo ≤ i) && decide (i ≤ hi)
  | _ => false
def whl (d : D) : Bool := match d with
  | .int _ => true
  | _ => false
theorem is_whole_at (d : D) : F_is_whole [.d d] = M.ret (.bool (whl d)) := by
  unfold F_is_whole
  rw [fn_eq]
  cases d <;> try simp only [at_emp, at_dis1, at_ow0, at_ows, at_calln, isLst_ret, at_c, at_bin, at_un, at_v0, at_o0, at_vs, at_tup, at_lst, at_each0, at_eachs, at_ad, at_p0, at_ps, at_args0, at_argss, at_call, at_tofk, at_and, at_or, at_not, at_dand, at_dor, at_dnot, at_if, at_chain, at_gn, at_g2, at_g3, at_g4, at_iseq, at_r1, at_r2, turn_def, at_sasgn, at_sforr, at_nil, at_seq, at_asg, at_sown, at_sret, at_sretn, at_sif, at_sdrop, at_sbrk, at_scont, at_sfor, hide_nil, hide_cons, hide1_d, hide1_n, hide1_p, hide1_o, set_0, set_s, bnd_ret, bnd_stuck, bnd_bnd, bnd_ite, slot_d, slot_p, wipeR, List.map_cons, List.map_nil, List.cons_append, List.nil_append, List.replicate, add_ints, sub_ints, le_ints, lt_ints, ge_ints, gt_ints, neg_ints, min2_ints, max2_ints, oEq_ints, oNe_ints, oEq_bools, oNe_bools, len_tup, len_lst, revL_l, oEq_strs, oNe_strs, tuple_l, tuple_t, list_l, list_t, at_sl, at_pn, at_ps', sl_tup', sl_lst', is_T, is_L, is_I, is_B, is_S, is_N, not_N, isT_n, isT_b, isT_i, isT_s, isT_t, isT_l, isT_d, isL_n, isL_b, isL_i, isL_s, isL_t, isL_l, isL_d, isI_n, isI_b, isI_i, isI_s, isI_t, isI_l, isI_d, isB_n, isB_b, isB_i, isB_s, isB_t, isB_l, isB_d, isS_n, isS_b, isS_i, isS_s, isS_t, isS_l, isS_d, isN_n, isN_b, isN_i, isN_s, isN_t, isN_l, isN_d, decide_eq_true_eq, Bool.not_eq_true', decide_eq_false_iff_not, Bool.false_eq_true, if_true, if_false, decide_true, decide_false, Bool.not_true, Bool.not_false, not_true_eq_false, not_false_eq_true, ret_ite_o, Int.reduceLT, Int.reduceLE, Int.reduceEq, Int.reduceAdd, Int.reduceSub, Int.reduceNeg, reduceCtorEq] <;> rfl
theorem linteger_at (d : D) : F__law_is_integer [.d d] = M.ret (.bool (whl d)) := by
  unfold F__law_is_integer
  rw [fn_eq]
  cases d <;> try simp only [at_emp, at_dis1, at_ow0, at_ows, at_calln, isLst_ret, at_c, at_bin, at_un, at_v0, at_o0, at_vs, at_tup, at_lst, at_each0, at_eachs, at_ad, at_p0, at_ps, at_args0, at_argss, at_call, at_tofk, at_and, at_or, at_not, at_dand, at_dor, at_dnot, at_if, at_chain, at_gn, at_g2, at_g3, at_g4, at_iseq, at_r1, at_r2, turn_def, at_sasgn, at_sforr, at_nil, at_seq, at_asg, at_sown, at_sret, at_sretn, at_sif, at_sdrop, at_sbrk, at_scont, at_sfor, hide_nil, hide_cons, hide1_d, hide1_n, hide1_p, hide1_o, set_0, set_s, bnd_ret, bnd_stuck, bnd_bnd, bnd_ite, slot_d, slot_p, wipeR, List.map_cons, List.map_nil, List.cons_append, List.nil_append, List.replicate, add_ints, sub_ints, le_ints, lt_ints, ge_ints, gt_ints, neg_ints, min2_ints, max2_ints, oEq_ints, oNe_ints, oEq_bools, oNe_bools, len_tup, len_lst, revL_l, oEq_strs, oNe_strs, tuple_l, tuple_t, list_l, list_t, at_sl, at_pn, at_ps', sl_tup', sl_lst', is_T, is_L, is_I, is_B, is_S, is_N, not_N, isT_n, isT_b, isT_i, isT_s, isT_t, isT_l, isT_d, isL_n, isL_b, isL_i, isL_s, isL_t, isL_l, isL_d, isI_n, isI_b, isI_i, isI_s, isI_t, isI_l, isI_d, isB_n, isB_b, isB_i, isB_s, isB_t, isB_l, isB_d, isS_n, isS_b, isS_i, isS_s, isS_t, isS_l, isS_d, isN_n, isN_b, isN_i, isN_s, isN_t, isN_l, isN_d, decide_eq_true_eq, Bool.not_eq_true', decide_eq_false_iff_not, Bool.false_eq_true, if_true, if_false, decide_true, decide_false, Bool.not_true, Bool.not_false, not_true_eq_false, not_false_eq_true, ret_ite_o, Int.reduceLT, Int.reduceLE, Int.reduceEq, Int.reduceAdd, Int.reduceSub, Int.reduceNeg, reduceCtorEq] <;> rfl
theorem is_from_at (d : D) (lo hi : Int) : F_is_from [.d d, .d (.int lo), .d (.int hi)] = M.ret (.bool (frm lo hi d)) := by
  unfold F_is_from
  rw [fn_eq]
  cases d with
  | int i =>
    by_cases h : lo ≤ i
    · simp only [at_emp, at_dis1, at_ow0, at_ows, at_calln, isLst_ret, at_c, at_bin, at_un, at_v0, at_o0, at_vs, at_tup, at_lst, at_each0, at_eachs, at_ad, at_p0, at_ps, at_args0, at_argss, at_call, at_tofk, at_and, at_or, at_not, at_dand, at_dor, at_dnot, at_if, at_chain, at_gn, at_g2, at_g3, at_g4, at_iseq, at_r1, at_r2, turn_def, at_sasgn, at_sforr, at_nil, at_seq, at_asg, at_sown, at_sret, at_sretn, at_sif, at_sdrop, at_sbrk, at_scont, at_sfor, hide_nil, hide_cons, hide1_d, hide1_n, hide1_p, hide1_o, set_0, set_s, bnd_ret, bnd_stuck, bnd_bnd, bnd_ite, slot_d, slot_p, wipeR, List.map_cons, List.map_nil, List.cons_append, List.nil_append, List.replicate, add_ints, sub_ints, le_ints, lt_ints, ge_ints, gt_ints, neg_ints, min2_ints, max2_ints, oEq_ints, oNe_ints, oEq_bools, oNe_bools, len_tup, len_lst, revL_l, oEq_strs, oNe_strs, tuple_l, tuple_t, list_l, list_t, at_sl, at_pn, at_ps', sl_tup', sl_lst', is_T, is_L, is_I, is_B, is_S, is_N, not_N, isT_n, isT_b, isT_i, isT_s, isT_t, isT_l, isT_d, isL_n, isL_b, isL_i, isL_s, isL_t, isL_l, isL_d, isI_n, isI_b, isI_i, isI_s, isI_t, isI_l, isI_d, isB_n, isB_b, isB_i, isB_s, isB_t, isB_l, isB_d, isS_n, isS_b, isS_i, isS_s, isS_t, isS_l, isS_d, isN_n, isN_b, isN_i, isN_s, isN_t, isN_l, isN_d, decide_eq_true_eq, Bool.not_eq_true', decide_eq_false_iff_not, Bool.false_eq_true, if_true, if_false, decide_true, decide_false, Bool.not_true, Bool.not_false, not_true_eq_false, not_false_eq_true, ret_ite_o, Int.reduceLT, Int.reduceLE, Int.reduceEq, Int.reduceAdd, Int.reduceSub, Int.reduceNeg, reduceCtorEq, is_whole_at, whl, frm, h, Bool.true_and]
    · simp only [at_emp, at_dis1, at_ow0, at_ows, at_calln, isLst_ret, at_c, at_bin, at_un, at_v0, at_o0, at_vs, at_tup, at_lst, at_each0, at_eachs, at_ad, at_p0, at_ps, at_args0, at_argss, at_call, at_tofk, at_and, at_or, at_not, at_dand, at_dor, at_dnot, at_if, at_chain, at_gn, at_g2, at_g3, at_g4, at_iseq, at_r1, at_r2, turn_def, at_sasgn, at_sforr, at_nil, at_seq, at_asg, at_sown, at_sret, at_sretn, at_sif, at_sdrop, at_sbrk, at_scont, at_sfor, hide_nil, hide_cons, hide1_d, hide1_n, hide1_p, hide1_o, set_0, set_s, bnd_ret, bnd_stuck, bnd_bnd, bnd_ite, slot_d, slot_p, wipeR, List.map_cons, List.map_nil, List.cons_append, List.nil_append, List.replicate, add_ints, sub_ints, le_ints, lt_ints, ge_ints, gt_ints, neg_ints, min2_ints, max2_ints, oEq_ints, oNe_ints, oEq_bools, oNe_bools, len_tup, len_lst, revL_l, oEq_strs, oNe_strs, tuple_l, tuple_t, list_l, list_t, at_sl, at_pn, at_ps', sl_tup', sl_lst', is_T, is_L, is_I, is_B, is_S, is_N, not_N, isT_n, isT_b, isT_i, isT_s, isT_t, isT_l, isT_d, isL_n, isL_b, isL_i, isL_s, isL_t, isL_l, isL_d, isI_n, isI_b, isI_i, isI_s, isI_t, isI_l, isI_d, isB_n, isB_b, isB_i, isB_s, isB_t, isB_l, isB_d, isS_n, isS_b, isS_i, isS_s, isS_t, isS_l, isS_d, isN_n, isN_b, isN_i, isN_s, isN_t, isN_l, isN_d, decide_eq_true_eq, Bool.not_eq_true', decide_eq_false_iff_not, Bool.false_eq_true, if_true, if_false, decide_true, decide_false, Bool.not_true, Bool.not_false, not_true_eq_false, not_false_eq_true, ret_ite_o, Int.reduceLT, Int.reduceLE, Int.reduceEq, Int.reduceAdd, Int.reduceSub, Int.reduceNeg, reduceCtorEq, is_whole_at, whl, frm, h, Bool.false_and]
  | _ => simp only [at_emp, at_dis1, at_ow0, at_ows, at_calln, isLst_ret, at_c, at_bin, at_un, at_v0, at_o0, at_vs, at_tup, at_lst, at_each0, at_eachs, at_ad, at_p0, at_ps, at_args0, at_argss, at_call, at_tofk, at_and, at_or, at_not, at_dand, at_dor, at_dnot, at_if, at_chain, at_gn, at_g2, at_g3, at_g4, at_iseq, at_r1, at_r2, turn_def, at_sasgn, at_sforr, at_nil, at_seq, at_asg, at_sown, at_sret, at_sretn, at_sif, at_sdrop, at_sbrk, at_scont, at_sfor, hide_nil, hide_cons, hide1_d, hide1_n, hide1_p, hide1_o, set_0, set_s, bnd_ret, bnd_stuck, bnd_bnd, bnd_ite, slot_d, slot_p, wipeR, List.map_cons, List.map_nil, List.cons_append, List.nil_append, List.replicate, add_ints, sub_ints, le_ints, lt_ints, ge_ints, gt_ints, neg_ints, min2_ints, max2_ints, oEq_ints, oNe_ints, oEq_bools, oNe_bools, len_tup, len_lst, revL_l, oEq_strs, oNe_strs, tuple_l, tuple_t, list_l, list_t, at_sl, at_pn, at_ps', sl_tup', sl_lst', is_T, is_L, is_I, is_B, is_S, is_N, not_N, isT_n, isT_b, isT_i, isT_s, isT_t, isT_l, isT_d, isL_n, isL_b, isL_i, isL_s, isL_t, isL_l, isL_d, isI_n, isI_b, isI_i, isI_s, isI_t, isI_l, isI_d, isB_n, isB_b, isB_i, isB_s, isB_t, isB_l, isB_d, isS_n, isS_b, isS_i, isS_s, isS_t, isS_l, isS_d, isN_n, isN_b, isN_i, isN_s, isN_t, isN_l, isN_d, decide_eq_true_eq, Bool.not_eq_true', decide_eq_false_iff_not, Bool.false_eq_true, if_true, if_false, decide_true, decide_false, Bool.not_true, Bool.not_false, not_true_eq_false, not_false_eq_true, ret_ite_o, Int.reduceLT, Int.reduceLE, Int.reduceEq, Int.reduceAdd, Int.reduceSub, Int.reduceNeg, reduceCtorEq, is_whole_at, whl, frm]
def rowB (many lo hi : Int) (d : D) : Bool := match d with
  | .tuple xs => decide ((xs.length : Int) = many) && xs.all (frm lo hi)
  | _ => false
def Sz (d : D) : Prop := d.bulk ≤ 2 ^ 18
theorem Sz.len_t {xs : List D} (h : Sz (.tuple xs)) : xs.length ≤ 2 ^ 18 := Nat.le_trans (bulkAll_len xs) (by rw [← bulk_t]; exact h)
theorem Sz.mem_t {xs : List D} (h : Sz (.tuple xs)) {x : D} (hx : x ∈ xs) : Sz x := by
  have := bulkAll_mem hx
  have h' : PyData.bulkAll xs ≤ 2 ^ 18 := by rw [← bulk_t]; exact h
  show x.bulk ≤ 2 ^ 18
  omega
theorem sz18 {n : Nat} (h : n ≤ 2 ^ 18) : n ≤ PySem.sizeLine := Nat.le_trans h (by rw [sizeLine_eq]; decide +kernel)
theorem all_at {own : List Nat} {it : DI} {g : Tgt} {e : DE} {ρ : Rho} {xs : List D} (p : D → Bool) (hi : it ρ = M.ret xs) (hl : xs.length ≤ 2 ^ 18) (h : ∀ x ∈ xs, M.bnd (g x (wipeR ρ own)) e = M.ret (.bool (p x))) :
    dComp own it g tTrue e ρ = M.ret (.list (xs.map fun x => .bool (p x))) := by
  rw [comp_map xs id (fun x => .bool (p x)) (by rw [List.map_id]; exact hi) (sz18 hl) h]
theorem none_at {own : List Nat} {it : DI} {g : Tgt} {t : DT} {e : DE} {ρ : Rho} {xs : List D} (p : D → Bool) (hi : it ρ = M.ret xs) (hl : xs.length ≤ 2 ^ 18) (h : ∀ x ∈ xs, compTurn g t e (wipeR ρ own) x = M.ret (if p x = true then none else some x)) :
    ∃ ys : List D, dComp own it g t e ρ = M.ret (.list ys) ∧ decide ((ys.length : Int) = 0) = xs.all p ∧ decide (0 < (ys.length : Int)) = !xs.all p := by
  have z := comp_typed (own := own) (it := it) (g := g) (t := t) (e := e) (ρ := ρ) xs id (fun x => !p x) id (by rw [List.map_id]; exact hi) (sz18 hl) fun x hx => by
    show compTurn g t e (wipeR ρ own) x = _
    rw [h x hx]
    cases p x <;> rfl
  refine ⟨xs.filter fun x => !p x, by rw [z, List.map_id], ?_⟩
  have e1 : (xs.filter fun x => !p x).length = 0 ↔ xs.all p = true := by
    rw [List.length_eq_zero_iff, List.filter_eq_nil_iff, List.all_eq_true]
    exact ⟨fun h x hx => by have := h x hx; simpa using this, fun h x hx => by simp [h x hx]⟩
  cases hb : xs.all p with
  | true =>
    have := e1.mpr hb
    rw [this]
    exact ⟨rfl, rfl⟩
  | false =>
    have : (xs.filter fun x => !p x).length ≠ 0 := fun z => by rw [e1.mp z] at hb; cases hb
    exact ⟨decide_eq_false (by omega), by rw [decide_eq_true (by omega)]; rfl⟩
theorem lrow_go {xs : List D} (hl : xs.length ≤ 2 ^ 18) (m : D) (lo hi : Int) : ∃ ys : List D, dComp [4] (iSeq (dVar 0)) (gN 4) (tOr (tNot (tOf (dCall F__law_is_integer [(aD (dVar 4))]))) (tOr (tOf (dBin oLt (dVar 4) (dVar 2))) (tOf (dBin oGt (dVar 4) (dVar 3))))) (dVar 4) [some (.dat (.tuple xs)), some (.dat m), some (.dat (.int lo)), some (.dat (.int hi)), none] = M.ret (.list ys) ∧ decide ((ys.length : Int) = 0) = xs.all (frm lo hi) ∧ decide (0 < (ys.length : Int)) = !xs.all (frm lo hi) :=
  none_at (frm lo hi) (by simp only [at_emp, at_dis1, at_ow0, at_ows, at_calln, isLst_ret, at_c, at_bin, at_un, at_v0, at_o0, at_vs, at_tup, at_lst, at_each0, at_eachs, at_ad, at_p0, at_ps, at_args0, at_argss, at_call, at_tofk, at_and, at_or, at_not, at_dand, at_dor, at_dnot, at_if, at_chain, at_gn, at_g2, at_g3, at_g4, at_iseq, at_r1, at_r2, turn_def, at_sasgn, at_sforr, at_nil, at_seq, at_asg, at_sown, at_sret, at_sretn, at_sif, at_sdrop, at_sbrk, at_scont, at_sfor, hide_nil, hide_cons, hide1_d, hide1_n, hide1_p, hide1_o, set_0, set_s, bnd_ret, bnd_stuck, bnd_bnd, bnd_ite, slot_d, slot_p, wipeR, List.map_cons, List.map_nil, List.cons_append, List.nil_append, List.replicate, add_ints, sub_ints, le_ints, lt_ints, ge_ints, gt_ints, neg_ints, min2_ints, max2_ints, oEq_ints, oNe_ints, oEq_bools, oNe_bools, len_tup, len_lst, revL_l, oEq_strs, oNe_strs, tuple_l, tuple_t, list_l, list_t, at_sl, at_pn, at_ps', sl_tup', sl_lst', is_T, is_L, is_I, is_B, is_S, is_N, not_N, isT_n, isT_b, isT_i, isT_s, isT_t, isT_l, isT_d, isL_n, isL_b, isL_i, isL_s, isL_t, isL_l, isL_d, isI_n, isI_b, isI_i, isI_s, isI_t, isI_l, isI_d, isB_n, isB_b, isB_i, isB_s, isB_t, isB_l, isB_d, isS_n, isS_b, isS_i, isS_s, isS_t, isS_l, isS_d, isN_n, isN_b, isN_i, isN_s, isN_t, isN_l, isN_d, decide_eq_true_eq, Bool.not_eq_true', decide_eq_false_iff_not, Bool.false_eq_true, if_true, if_false, decide_true, decide_false, Bool.not_true, Bool.not_false, not_true_eq_false, not_false_eq_true, ret_ite_o, Int.reduceLT, Int.reduceLE, Int.reduceEq, Int.reduceAdd, Int.reduceSub, Int.reduceNeg, reduceCtorEq]) hl fun x hx => by
    cases x with
    | int i =>
      by_cases h1 : i < lo
      · have : ¬ lo ≤ i := by omega
        simp only [at_emp, at_dis1, at_ow0, at_ows, at_calln, isLst_ret, at_c, at_bin, at_un, at_v0, at_o0, at_vs, at_tup, at_lst, at_each0, at_eachs, at_ad, at_p0, at_ps, at_args0, at_argss, at_call, at_tofk, at_and, at_or, at_not, at_dand, at_dor, at_dnot, at_if, at_chain, at_gn, at_g2, at_g3, at_g4, at_iseq, at_r1, at_r2, turn_def, at_sasgn, at_sforr, at_nil, at_seq, at_asg, at_sown, at_sret, at_sretn, at_sif, at_sdrop, at_sbrk, at_scont, at_sfor, hide_nil, hide_cons, hide1_d, hide1_n, hide1_p, hide1_o, set_0, set_s, bnd_ret, bnd_stuck, bnd_bnd, bnd_ite, slot_d, slot_p, wipeR, List.map_cons, List.map_nil, List.cons_append, List.nil_append, List.replicate, add_ints, sub_ints, le_ints, lt_ints, ge_ints, gt_ints, neg_ints, min2_ints, max2_ints, oEq_ints, oNe_ints, oEq_bools, oNe_bools, len_tup, len_lst, revL_l, oEq_strs, oNe_strs, tuple_l, tuple_t, list_l, list_t, at_sl, at_pn, at_ps', sl_tup', sl_lst', is_T, is_L, is_I, is_B, is_S, is_N, not_N, isT_n, isT_b, isT_i, isT_s, isT_t, isT_l, isT_d, isL_n, isL_b, isL_i, isL_s, isL_t, isL_l, isL_d, isI_n, isI_b, isI_i, isI_s, isI_t, isI_l, isI_d, isB_n, isB_b, isB_i, isB_s, isB_t, isB_l, isB_d, isS_n, isS_b, isS_i, isS_s, isS_t, isS_l, isS_d, isN_n, isN_b, isN_i, isN_s, isN_t, isN_l, isN_d, decide_eq_true_eq, Bool.not_eq_true', decide_eq_false_iff_not, Bool.false_eq_true, if_true, if_false, decide_true, decide_false, Bool.not_true, Bool.not_false, not_true_eq_false, not_false_eq_true, ret_ite_o, Int.reduceLT, Int.reduceLE, Int.reduceEq, Int.reduceAdd, Int.reduceSub, Int.reduceNeg, reduceCtorEq, linteger_at, whl, frm, h1, this, Bool.false_and]
      · by_cases h2 : hi < i
        · have : ¬ i ≤ hi := by omega
          simp only [at_emp, at_dis1, at_ow0, at_ows, at_calln, isLst_ret, at_c, at_bin, at_un, at_v0, at_o0, at_vs, at_tup, at_lst, at_each0, at_eachs, at_ad, at_p0, at_ps, at_args0, at_argss, at_call, at_tofk, at_and, at_or, at_not, at_dand, at_dor, at_dnot, at_if, at_chain, at_gn, at_g2, at_g3, at_g4, at_iseq, at_r1, at_r2, turn_def, at_sasgn, at_sforr, at_nil, at_seq, at_asg, at_sown, at_sret, at_sretn, at_sif, at_sdrop, at_sbrk, at_scont, at_sfor, hide_nil, hide_cons, hide1_d, hide1_n, hide1_p, hide1_o, set_0, set_s, bnd_ret, bnd_stuck, bnd_bnd, bnd_ite, slot_d, slot_p, wipeR, List.map_cons, List.map_nil, List.cons_append, List.nil_append, List.replicate, add_ints, sub_ints, le_ints, lt_ints, ge_ints, gt_ints, neg_ints, min2_ints, max2_ints, oEq_ints, oNe_ints, oEq_bools, oNe_bools, len_tup, len_lst, revL_l, oEq_strs, oNe_strs, tuple_l, tuple_t, list_l, list_t, at_sl, at_pn, at_ps', sl_tup', sl_lst', is_T, is_L, is_I, is_B, is_S, is_N, not_N, isT_n, isT_b, isT_i, isT_s, isT_t, isT_l, isT_d, isL_n, isL_b, isL_i, isL_s, isL_t, isL_l, isL_d, isI_n, isI_b, isI_i, isI_s, isI_t, isI_l, isI_d, isB_n, isB_b, isB_i, isB_s, isB_t, isB_l, isB_d, isS_n, isS_b, isS_i, isS_s, isS_t, isS_l, isS_d, isN_n, isN_b, isN_i, isN_s, isN_t, isN_l, isN_d, decide_eq_true_eq, Bool.not_eq_true', decide_eq_false_iff_not, Bool.false_eq_true, if_true, if_false, decide_true, decide_false, Bool.not_true, Bool.not_false, not_true_eq_false, not_false_eq_true, ret_ite_o, Int.reduceLT, Int.reduceLE, Int.reduceEq, Int.reduceAdd, Int.reduceSub, Int.reduceNeg, reduceCtorEq, linteger_at, whl, frm, h1, h2, this, Bool.and_false]
        · have a1 : lo ≤ i := by omega
          have a2 : i ≤ hi := by omega
          simp only [at_emp, at_dis1, at_ow0, at_ows, at_calln, isLst_ret, at_c, at_bin, at_un, at_v0, at_o0, at_vs, at_tup, at_lst, at_each0, at_eachs, at_ad, at_p0, at_ps, at_args0, at_argss, at_call, at_tofk, at_and, at_or, at_not, at_dand, at_dor, at_dnot, at_if, at_chain, at_gn, at_g2, at_g3, at_g4, at_iseq, at_r1, at_r2, turn_def, at_sasgn, at_sforr, at_nil, at_seq, at_asg, at_sown, at_sret, at_sretn, at_sif, at_sdrop, at_sbrk, at_scont, at_sfor, hide_nil, hide_cons, hide1_d, hide1_n, hide1_p, hide1_o, set_0, set_s, bnd_ret, bnd_stuck, bnd_bnd, bnd_ite, slot_d, slot_p, wipeR, List.map_cons, List.map_nil, List.cons_append, List.nil_append, List.replicate, add_ints, sub_ints, le_ints, lt_ints, ge_ints, gt_ints, neg_ints, min2_ints, max2_ints, oEq_ints, oNe_ints, oEq_bools, oNe_bools, len_tup, len_lst, revL_l, oEq_strs, oNe_strs, tuple_l, tuple_t, list_l, list_t, at_sl, at_pn, at_ps', sl_tup', sl_lst', is_T, is_L, is_I, is_B, is_S, is_N, not_N, isT_n, isT_b, isT_i, isT_s, isT_t, isT_l, isT_d, isL_n, isL_b, isL_i, isL_s, isL_t, isL_l, isL_d, isI_n, isI_b, isI_i, isI_s, isI_t, isI_l, isI_d, isB_n, isB_b, isB_i, isB_s, isB_t, isB_l, isB_d, isS_n, isS_b, isS_i, isS_s, isS_t, isS_l, isS_d, isN_n, isN_b, isN_i, isN_s, isN_t, isN_l, isN_d, decide_eq_true_eq, Bool.not_eq_true', decide_eq_false_iff_not, Bool.false_eq_true, if_true, if_false, decide_true, decide_false, Bool.not_true, Bool.not_false, not_true_eq_false, not_false_eq_true, ret_ite_o, Int.reduceLT, Int.reduceLE, Int.reduceEq, Int.reduceAdd, Int.reduceSub, Int.reduceNeg, reduceCtorEq, linteger_at, whl, frm, h1, h2, a1, a2, Bool.and_self]
    | _ => simp only [at_emp, at_dis1, at_ow0, at_ows, at_calln, isLst_ret, at_c, at_bin, at_un, at_v0, at_o0, at_vs, at_tup, at_lst, at_each0, at_eachs, at_ad, at_p0, at_ps, at_args0, at_argss, at_call, at_tofk, at_and, at_or, at_not, at_dand, at_dor, at_dnot, at_if, at_chain, at_gn, at_g2, at_g3, at_g4, at_iseq, at_r1, at_r2, turn_def, at_sasgn, at_sforr, at_nil, at_seq, at_asg, at_sown, at_sret, at_sretn, at_sif, at_sdrop, at_sbrk, at_scont, at_sfor, hide_nil, hide_cons, hide1_d, hide1_n, hide1_p, hide1_o, set_0, set_s, bnd_ret, bnd_stuck, bnd_bnd, bnd_ite, slot_d, slot_p, wipeR, List.map_cons, List.map_nil, List.cons_append, List.nil_append, List.replicate, add_ints, sub_ints, le_ints, lt_ints, ge_ints, gt_ints, neg_ints, min2_ints, max2_ints, oEq_ints, oNe_ints, oEq_bools, oNe_bools, len_tup, len_lst, revL_l, oEq_strs, oNe_strs, tuple_l, tuple_t, list_l, list_t, at_sl, at_pn, at_ps', sl_tup', sl_lst', is_T, is_L, is_I, is_B, is_S, is_N, not_N, isT_n, isT_b, isT_i, isT_s, isT_t, isT_l, isT_d, isL_n, isL_b, isL_i, isL_s, isL_t, isL_l, isL_d, isI_n, isI_b, isI_i, isI_s, isI_t, isI_l, isI_d, isB_n, isB_b, isB_i, isB_s, isB_t, isB_l, isB_d, isS_n, isS_b, isS_i, isS_s, isS_t, isS_l, isS_d, isN_n, isN_b, isN_i, isN_s, isN_t, isN_l, isN_d, decide_eq_true_eq, Bool.not_eq_true', decide_eq_false_iff_not, Bool.false_eq_true, if_true, if_false, decide_true, decide_false, Bool.not_true, Bool.not_false, not_true_eq_false, not_false_eq_true, ret_ite_o, Int.reduceLT, Int.reduceLE, Int.reduceEq, Int.reduceAdd, Int.reduceSub, Int.reduceNeg, reduceCtorEq, linteger_at, whl, frm]
def rowAny (lo hi : Int) (d : D) : Bool := match d with
  | .tuple xs => xs.all (frm lo hi)
  | _ => false
theorem lrow_any {d : D} (hz : Sz d) (lo hi : Int) : F__law_is_row [.d d, .d .none, .d (.int lo), .d (.int hi)] = M.ret (.bool (rowAny lo hi d)) := by
  unfold F__law_is_row
  rw [fn_eq]
  cases d with
  | tuple xs =>
    obtain ⟨n, a, b, _⟩ := lrow_go hz.len_t .none lo hi
    simp only [at_emp, at_dis1, at_ow0, at_ows, at_calln, isLst_ret, at_c, at_bin, at_un, at_v0, at_o0, at_vs, at_tup, at_lst, at_each0, at_eachs, at_ad, at_p0, at_ps, at_args0, at_argss, at_call, at_tofk, at_and, at_or, at_not, at_dand, at_dor, at_dnot, at_if, at_chain, at_gn, at_g2, at_g3, at_g4, at_iseq, at_r1, at_r2, turn_def, at_sasgn, at_sforr, at_nil, at_seq, at_asg, at_sown, at_sret, at_sretn, at_sif, at_sdrop, at_sbrk, at_scont, at_sfor, hide_nil, hide_cons, hide1_d, hide1_n, hide1_p, hide1_o, set_0, set_s, bnd_ret, bnd_stuck, bnd_bnd, bnd_ite, slot_d, slot_p, wipeR, List.map_cons, List.map_nil, List.cons_append, List.nil_append, List.replicate, add_ints, sub_ints, le_ints, lt_ints, ge_ints, gt_ints, neg_ints, min2_ints, max2_ints, oEq_ints, oNe_ints, oEq_bools, oNe_bools, len_tup, len_lst, revL_l, oEq_strs, oNe_strs, tuple_l, tuple_t, list_l, list_t, at_sl, at_pn, at_ps', sl_tup', sl_lst', is_T, is_L, is_I, is_B, is_S, is_N, not_N, isT_n, isT_b, isT_i, isT_s, isT_t, isT_l, isT_d, isL_n, isL_b, isL_i, isL_s, isL_t, isL_l, isL_d, isI_n, isI_b, isI_i, isI_s, isI_t, isI_l, isI_d, isB_n, isB_b, isB_i, isB_s, isB_t, isB_l, isB_d, isS_n, isS_b, isS_i, isS_s, isS_t, isS_l, isS_d, isN_n, isN_b, isN_i, isN_s, isN_t, isN_l, isN_d, decide_eq_true_eq, Bool.not_eq_true', decide_eq_false_iff_not, Bool.false_eq_true, if_true, if_false, decide_true, decide_false, Bool.not_true, Bool.not_false, not_true_eq_false, not_false_eq_true, ret_ite_o, Int.reduceLT, Int.reduceLE, Int.reduceEq, Int.reduceAdd, Int.reduceSub, Int.reduceNeg, reduceCtorEq, rowAny, a, b]
  | _ => simp only [at_emp, at_dis1, at_ow0, at_ows, at_calln, isLst_ret, at_c, at_bin, at_un, at_v0, at_o0, at_vs, at_tup, at_lst, at_each0, at_eachs, at_ad, at_p0, at_ps, at_args0, at_argss, at_call, at_tofk, at_and, at_or, at_not, at_dand, at_dor, at_dnot, at_if, at_chain, at_gn, at_g2, at_g3, at_g4, at_iseq, at_r1, at_r2, turn_def, at_sasgn, at_sforr, at_nil, at_seq, at_asg, at_sown, at_sret, at_sretn, at_sif, at_sdrop, at_sbrk, at_scont, at_sfor, hide_nil, hide_cons, hide1_d, hide1_n, hide1_p, hide1_o, set_0, set_s, bnd_ret, bnd_stuck, bnd_bnd, bnd_ite, slot_d, slot_p, wipeR, List.map_cons, List.map_nil, List.cons_append, List.nil_append, List.replicate, add_ints, sub_ints, le_ints, lt_ints, ge_ints, gt_ints, neg_ints, min2_ints, max2_ints, oEq_ints, oNe_ints, oEq_bools, oNe_bools, len_tup, len_lst, revL_l, oEq_strs, oNe_strs, tuple_l, tuple_t, list_l, list_t, at_sl, at_pn, at_ps', sl_tup', sl_lst', is_T, is_L, is_I, is_B, is_S, is_N, not_N, isT_n, isT_b, isT_i, isT_s, isT_t, isT_l, isT_d, isL_n, isL_b, isL_i, isL_s, isL_t, isL_l, isL_d, isI_n, isI_b, isI_i, isI_s, isI_t, isI_l, isI_d, isB_n, isB_b, isB_i, isB_s, isB_t, isB_l, isB_d, isS_n, isS_b, isS_i, isS_s, isS_t, isS_l, isS_d, isN_n, isN_b, isN_i, isN_s, isN_t, isN_l, isN_d, decide_eq_true_eq, Bool.not_eq_true', decide_eq_false_iff_not, Bool.false_eq_true, if_true, if_false, decide_true, decide_false, Bool.not_true, Bool.not_false, not_true_eq_false, not_false_eq_true, ret_ite_o, Int.reduceLT, Int.reduceLE, Int.reduceEq, Int.reduceAdd, Int.reduceSub, Int.reduceNeg, reduceCtorEq, rowAny]
def ltB (x y : D) : Bool := match x, y with
  | .int i, .int j => decide (i < j)
  | _, _ => PySem.W.dataLt x y
def upD : List D → Bool
  | a :: b :: r => ltB a b && upD (b :: r)
  | _ => true
theorem upD_iff : ∀ {xs : List D}, upD xs = true ↔ ∀ (k : Nat) a b, xs[k]? = some a → xs[k + 1]? = some b → ltB a b = true
  | [] => ⟨fun _ k a b h => (by cases h), fun _ => rfl⟩
  | [x] => ⟨fun _ k a b _ h => (by cases h), fun _ => rfl⟩
  | x :: y :: r => by
    rw [upD, Bool.and_eq_true, upD_iff]
    constructor
    · rintro ⟨h, h2⟩ k a b h3 h4
      cases k with
      | zero => cases h3; cases h4; exact h
      | succ k => exact h2 k a b h3 h4
    · exact fun h => ⟨h 0 x y rfl rfl, fun k a b h3 h4 => h (k + 1) a b h3 h4⟩
theorem gd_at {xs : List D} {k : Nat} (h : k < xs.length) : xs[k]? = some (xs.getD k .none) := by rw [List.getD_eq_getElem?_getD, List.getElem?_eq_getElem h]; rfl
theorem upD_range {xs : List D} {n : Nat} (hn : n = xs.length - 1) : ((List.range n).all fun k => ltB (xs.getD k .none) (xs.getD (k + 1) .none)) = upD xs := by
  rw [Bool.eq_iff_iff, List.all_eq_true, upD_iff]
  constructor
  · intro h k a b ha hb
    obtain ⟨h1, e1⟩ := List.getElem?_eq_some_iff.mp ha
    obtain ⟨h2, e2⟩ := List.getElem?_eq_some_iff.mp hb
    have z := h k (List.mem_range.mpr (by omega))
    have g1 := gd_at h1
    have g2 := gd_at h2
    rw [ha] at g1
    rw [hb] at g2
    cases g1
    cases g2
    exact z
  · intro h k hk
    have hk' := List.mem_range.mp hk
    exact h k _ _ (gd_at (by omega)) (gd_at (by omega))
structure SeqD (m : D) (xs : List D) : Prop where
  len : bLen m = M.ret (.int (xs.length : Int))
  ix : ∀ (k : Nat) x (i : Int), xs[k]? = some x → i = (k : Int) → oIx m (.int i) = M.ret x
theorem seqd_t (xs : List D) : SeqD (.tuple xs) xs := ⟨rfl, fun k x i h e => by rw [e]; exact oIx_t h⟩
theorem rises_gen {m : D} {xs : List D} (hm : SeqD m xs) (hl : xs.length ≤ 2 ^ 18) (ho : ∀ (k : Nat) x y, xs[k]? = some x → xs[k + 1]? = some y → oLtD x y = M.ret (.bool (ltB x y))) : F_rises [.d m] = M.ret (.bool (upD xs)) := by
  unfold F_rises
  rw [fn_eq]
  have b : (2 : Nat) ^ 18 = 262144 := by decide +kernel
  have r : rng1 (.int ((xs.length : Int) - 1)) = M.ret (intsFrom 0 (xs.length - 1)) := by
    rw [rng1_of (by omega) (by omega), show ((xs.length : Int) - 1).toNat = xs.length - 1 from by omega]
  have z := comp_rng (own := [1]) (it := iR1 (dBin oSub (dUn bLen (dVar 0)) (dC (.int 1)))) (g := gN 1) (e := dBin oLtD (dBin oIx (dVar 0) (dVar 1)) (dBin oIx (dVar 0) (dBin oAdd (dVar 1) (dC (.int 1))))) (ρ := [some (.dat m), none])
    0 (xs.length - 1) (fun k => .bool (ltB (xs.getD k .none) (xs.getD (k + 1) .none))) (by
      simp only [at_r1, at_bin, at_un, at_v0, at_c, bnd_ret, hm.len, sub_ints]
      exact r) (sz18 (by omega)) (fun k hk => by
      have g1 := gd_at (xs := xs) (k := k) (by omega)
      have g2 := gd_at (xs := xs) (k := k + 1) (by omega)
      have e1 := hm.ix k _ (0 + (k : Int)) g1 (by omega)
      have e2 := hm.ix (k + 1) _ (0 + (k : Int) + 1) g2 (by omega)
      show M.bnd (gN 1 _ [some (.dat m), none]) _ = _
      simp only [at_gn, set_0, set_s, bnd_ret, at_bin, at_v0, at_vs, at_c, add_ints, e1, e2, ho k _ _ g1 g2])
  show M.bnd (sRet _ [some (.dat m), none]) _ = _
  rw [at_sret, at_un, z, bnd_ret, all_bools, upD_range rfl]
  rfl
theorem lup_gen {m : D} {xs : List D} (hm : SeqD m xs) (hl : xs.length ≤ 2 ^ 18) (ho : ∀ (k : Nat) x y, xs[k]? = some x → xs[k + 1]? = some y → oLtD x y = M.ret (.bool (ltB x y))) : F__law_is_up [.d m] = M.ret (.bool (upD xs)) := by
  unfold F__law_is_up
  rw [fn_eq]
  have b : (2 : Nat) ^ 18 = 262144 := by decide +kernel
  have r : rng2 (.int 1) (.int (xs.length : Int)) = M.ret (intsFrom 1 (xs.length - 1)) := by
    rw [rng2_of (by omega) (by omega) (by omega) (by omega), show ((xs.length : Int) - 1).toNat = xs.length - 1 from by omega]
  have z := comp_rngf (own := [1]) (it := iR2 (dC (.int 1)) (dUn bLen (dVar 0))) (g := gN 1) (t := tNot (tOf (dBin oLtD (dBin oIx (dVar 0) (dBin oSub (dVar 1) (dC (.int 1)))) (dBin oIx (dVar 0) (dVar 1))))) (e := dVar 1) (ρ := [some (.dat m), none])
    1 (xs.length - 1) (fun k => !ltB (xs.getD k .none) (xs.getD (k + 1) .none)) (fun k => .int (1 + (k : Int))) (by
      simp only [at_r2, at_un, at_v0, at_c, bnd_ret, hm.len]
      exact r) (sz18 (by omega)) (fun k hk => by
      have g1 := gd_at (xs := xs) (k := k) (by omega)
      have g2 := gd_at (xs := xs) (k := k + 1) (by omega)
      have e1 := hm.ix k _ (1 + (k : Int) - 1) g1 (by omega)
      have e2 := hm.ix (k + 1) _ (1 + (k : Int)) g2 (by omega)
      show compTurn _ _ _ [some (.dat m), none] _ = _
      rw [turn_at (r' := [some (.dat m), some (.dat (.int (1 + (k : Int))))]) rfl]
      simp only [at_not, at_tofk, at_bin, at_v0, at_vs, at_c, sub_ints, bnd_ret, e1, e2, ho k _ _ g1 g2]
      split <;> rfl)
  show M.bnd (sRet _ [some (.dat m), none]) _ = _
  have e0 : decide ((((List.range (xs.length - 1)).filter fun k => !ltB (xs.getD k .none) (xs.getD (k + 1) .none)).length : Int) = 0) = upD xs := by
    rw [← upD_range (xs := xs) rfl, Bool.eq_iff_iff, decide_eq_true_eq, List.all_eq_true]
    rw [show ((((List.range (xs.length - 1)).filter fun k => !ltB (xs.getD k .none) (xs.getD (k + 1) .none)).length : Int) = 0) = (((List.range (xs.length - 1)).filter fun k => !ltB (xs.getD k .none) (xs.getD (k + 1) .none)).length = 0) from by simp only [Int.natCast_eq_zero]]
    rw [List.length_eq_zero_iff, List.filter_eq_nil_iff]
    exact ⟨fun h k hk => by have := h k hk; simpa using this, fun h k hk => by have := h k hk; simpa using this⟩
  rw [at_sret, at_bin, at_un, z, bnd_ret, len_lst, bnd_ret, at_c, bnd_ret, oEq_ints, List.length_map, e0]
  rfl
theorem lt_ints_map {ns : List Int} : ∀ (k : Nat) x y, (ns.map PyData.int)[k]? = some x → (ns.map PyData.int)[k + 1]? = some y → oLtD x y = M.ret (.bool (ltB x y)) := fun k x y h1 h2 => by
  rw [List.getElem?_map] at h1 h2
  obtain ⟨a, _, rfl⟩ := Option.map_eq_some_iff.mp h1
  obtain ⟨b, _, rfl⟩ := Option.map_eq_some_iff.mp h2
  rfl
def its (d : D) : List D := match d with
  | .tuple xs => xs
  | _ => []
def intOf (d : D) : Int := match d with
  | .int i => i
  | _ => 0
theorem two {xs : List D} (h : (xs.length : Int) = 2) : ∃ a b, xs = [a, b] := by
  match xs, h with
  | [a, b], _ => exact ⟨a, b, rfl⟩
  | [], h => cases h
  | [_], h => cases h
  | _ :: _ :: _ :: _, h =>
    simp only [List.length_cons] at h
    omega
theorem frm_int {lo hi : Int} {d : D} (h : frm lo hi d = true) : ∃ i : Int, d = .int i ∧ lo ≤ i ∧ i ≤ hi := by
  cases d with
  | int i =>
    rw [frm, Bool.and_eq_true, decide_eq_true_eq, decide_eq_true_eq] at h
    exact ⟨i, rfl, h⟩
  | _ => cases h
theorem for_check {g : Tgt} {B : DS} (p : D → Bool) (I : Rho → Prop) : ∀ (xs : List D) (ρ : Rho), I ρ → (∀ x ∈ xs, ∀ ρ, I ρ → (p x = true → ∃ r, M.bnd (g x ρ) B = M.ret (.next r) ∧ I r) ∧ (p x = false → M.bnd (g x ρ) B = M.ret (.ret (.bool false)))) →
    ∃ r, I r ∧ forGo g B xs ρ = M.ret (if xs.all p = true then .next r else .ret (.bool false))
  | [], ρ, h, _ => ⟨ρ, h, rfl⟩
  | x :: xs, ρ, h, k => by
    have e : forGo g B (x :: xs) ρ = M.bnd (M.bnd (g x ρ) B) fun o => (match o with
      | .next ρ2 => forGo g B xs ρ2
      | .cont ρ2 => forGo g B xs ρ2
      | .brk ρ2 => M.ret (.next ρ2)
      | .ret d => M.ret (.ret d)) := by rw [bnd_bnd]; rfl
    obtain ⟨k1, k2⟩ := k x List.mem_cons_self ρ h
    cases hp : p x with
    | true =>
      obtain ⟨r, e1, hr⟩ := k1 hp
      obtain ⟨r', h', e2⟩ := for_check p I xs r hr fun y hy => k y (List.mem_cons_of_mem _ hy)
      refine ⟨r', h', ?_⟩
      rw [e, e1, bnd_ret]
      show forGo g B xs r = _
      rw [e2, List.all_cons, hp, Bool.true_and]
    | false =>
      refine ⟨ρ, h, ?_⟩
      rw [e, k2 hp, bnd_ret, List.all_cons, hp, Bool.false_and, if_neg Bool.false_ne_true]

structure Tst (d : D) : Prop where
  rp : reprOk d = true
  sz : Sz d
  sk : okS d = true
theorem Tst.fit {n k : Nat} {d : D} (h : Fit n k d) (hn : n ≤ 2 ^ 18 := by decide +kernel) (hk : k ≤ 98 := by decide) : Tst d := ⟨reprOk_fit h hn hk, Nat.le_trans h.2.1 hn, tame_okS d h.1⟩
theorem Tst.repr {d : D} (h : Tst d) : bRepr d = M.ret (.str d.shown) := by unfold bRepr; rw [if_pos h.rp]
theorem Tst.dec {d : D} (h : (reprOk d && (decide (d.bulk ≤ 2 ^ 18) && okS d)) = true := by decide +kernel) : Tst d := by
  rw [Bool.and_eq_true, Bool.and_eq_true, decide_eq_true_eq] at h
  exact ⟨h.1, h.2.1, h.2.2⟩
theorem for_each {κ : Bool} {g : Tgt} {B : DS} {xs : List D} {ρ : Rho} (I : Rho → Prop) (T : D → Prop) (h0 : I ρ) (hx : ∀ x ∈ xs, T x) (s : ∀ x ρ, T x → I ρ → DoesK κ (M.bnd (g x ρ) B) fun o => ∃ r, o = .next r ∧ I r) :
    DoesK κ (forGo g B xs ρ) fun o => ∃ r, o = .next r ∧ I r :=
  for_does (fun _ ρ => I ρ) xs 0 ρ h0 (fun j x ρ hj hI => (s x ρ (hx x (List.mem_of_getElem? hj)) hI).imp fun o ⟨r, e, h⟩ => by subst e; exact h) fun ρ h => ⟨ρ, rfl, h⟩
def deepD : Nat → D
  | 0 => .tuple []
  | n + 1 => .tuple [deepD n]
def oddV : List D := [deepD 90, .tuple [.str "plan", deepD 90, deepD 90], .none, .int 0, .int 1, .bool true, .bool false, .str "", .str "x", .tuple [], .list [], .dict [], .tuple [.tuple []], .tuple [.tuple [], .tuple []], .tuple [.int 0], .tuple [.int 1, .int 2], .tuple [.str "x"], .tuple [.list []], .dict [(.str "a", .int 1)], .tuple [.none], .tuple [.tuple [.tuple []]], .int (-1)]
theorem odd_eq : F__law_odd_values [] = M.ret (.list oddV) := by
  unfold F__law_odd_values
  rw [fn_eq]
  have r : rng1 (.int 90) = M.ret (intsFrom 0 90) := rng1_of (by omega) (by omega)
  have z : ∃ x1, forGo (gN 1) (sAsg (gN 0) (dTup [dVar 0])) (intsFrom 0 90) [some (.dat (.tuple [])), none] = M.ret (.next [some (.dat (deepD 90)), x1]) := by
    have e : intsFrom 0 90 = (List.range 90).map fun (k : Nat) => PyData.int (0 + (k : Int)) := rfl
    obtain ⟨r, h1, h2⟩ := for_all (g := gN 1) (B := sAsg (gN 0) (dTup [dVar 0])) (as := List.range 90) (ρ := [some (.dat (.tuple [])), none]) (fun (k : Nat) => PyData.int (0 + (k : Int))) (fun j ρ => ∃ x1, ρ = [some (.dat (deepD j)), x1]) ⟨_, rfl⟩ fun j a ρ ha ⟨x1, hI⟩ => by
      subst hI
      refine ⟨[some (.dat (deepD (j + 1))), some (.dat (.int (0 + (a : Int))))], .inl ?_, _, rfl⟩
      try simp only [at_emp, at_dis1, at_ow0, at_ows, at_calln, isLst_ret, at_c, at_bin, at_un, at_v0, at_o0, at_vs, at_tup, at_lst, at_each0, at_eachs, at_ad, at_p0, at_ps, at_args0, at_argss, at_call, at_tofk, at_and, at_or, at_not, at_dand, at_dor, at_dnot, at_if, at_chain, at_gn, at_g2, at_g3, at_g4, at_iseq, at_r1, at_r2, turn_def, at_sasgn, at_sforr, at_nil, at_seq, at_asg, at_sown, at_sret, at_sretn, at_sif, at_sdrop, at_sbrk, at_scont, at_sfor, hide_nil, hide_cons, hide1_d, hide1_n, hide1_p, hide1_o, set_0, set_s, bnd_ret, bnd_stuck, bnd_bnd, bnd_ite, slot_d, slot_p, wipeR, List.map_cons, List.map_nil, List.cons_append, List.nil_append, List.replicate, add_ints, sub_ints, le_ints, lt_ints, ge_ints, gt_ints, neg_ints, min2_ints, max2_ints, oEq_ints, oNe_ints, oEq_bools, oNe_bools, len_tup, len_lst, revL_l, oEq_strs, oNe_strs, tuple_l, tuple_t, list_l, list_t, at_sl, at_pn, at_ps', sl_tup', sl_lst', is_T, is_L, is_I, is_B, is_S, is_N, not_N, isT_n, isT_b, isT_i, isT_s, isT_t, isT_l, isT_d, isL_n, isL_b, isL_i, isL_s, isL_t, isL_l, isL_d, isI_n, isI_b, isI_i, isI_s, isI_t, isI_l, isI_d, isB_n, isB_b, isB_i, isB_s, isB_t, isB_l, isB_d, isS_n, isS_b, isS_i, isS_s, isS_t, isS_l, isS_d, isN_n, isN_b, isN_i, isN_s, isN_t, isN_l, isN_d, decide_eq_true_eq, Bool.not_eq_true', decide_eq_false_iff_not, Bool.false_eq_true, if_true, if_false, decide_true, decide_false, Bool.not_true, Bool.not_false, not_true_eq_false, not_false_eq_true, ret_ite_o, Int.reduceLT, Int.reduceLE, Int.reduceEq, Int.reduceAdd, Int.reduceSub, Int.reduceNeg, reduceCtorEq]
      rfl
    rw [List.length_range] at h2
    obtain ⟨x1, rfl⟩ := h2
    exact ⟨x1, by rw [e, h1]⟩
  obtain ⟨x1, z⟩ := z
  try simp only [at_emp, at_dis1, at_ow0, at_ows, at_calln, isLst_ret, at_c, at_bin, at_un, at_v0, at_o0, at_vs, at_tup, at_lst, at_each0, at_eachs, at_ad, at_p0, at_ps, at_args0, at_argss, at_call, at_tofk, at_and, at_or, at_not, at_dand, at_dor, at_dnot, at_if, at_chain, at_gn, at_g2, at_g3, at_g4, at_iseq, at_r1, at_r2, turn_def, at_sasgn, at_sforr, at_nil, at_seq, at_asg, at_sown, at_sret, at_sretn, at_sif, at_sdrop, at_sbrk, at_scont, at_sfor, hide_nil, hide_cons, hide1_d, hide1_n, hide1_p, hide1_o, set_0, set_s, bnd_ret, bnd_stuck, bnd_bnd, bnd_ite, slot_d, slot_p, wipeR, List.map_cons, List.map_nil, List.cons_append, List.nil_append, List.replicate, add_ints, sub_ints, le_ints, lt_ints, ge_ints, gt_ints, neg_ints, min2_ints, max2_ints, oEq_ints, oNe_ints, oEq_bools, oNe_bools, len_tup, len_lst, revL_l, oEq_strs, oNe_strs, tuple_l, tuple_t, list_l, list_t, at_sl, at_pn, at_ps', sl_tup', sl_lst', is_T, is_L, is_I, is_B, is_S, is_N, not_N, isT_n, isT_b, isT_i, isT_s, isT_t, isT_l, isT_d, isL_n, isL_b, isL_i, isL_s, isL_t, isL_l, isL_d, isI_n, isI_b, isI_i, isI_s, isI_t, isI_l, isI_d, isB_n, isB_b, isB_i, isB_s, isB_t, isB_l, isB_d, isS_n, isS_b, isS_i, isS_s, isS_t, isS_l, isS_d, isN_n, isN_b, isN_i, isN_s, isN_t, isN_l, isN_d, decide_eq_true_eq, Bool.not_eq_true', decide_eq_false_iff_not, Bool.false_eq_true, if_true, if_false, decide_true, decide_false, Bool.not_true, Bool.not_false, not_true_eq_false, not_false_eq_true, ret_ite_o, Int.reduceLT, Int.reduceLE, Int.reduceEq, Int.reduceAdd, Int.reduceSub, Int.reduceNeg, reduceCtorEq, r, z]
  rfl
theorem deep_fit : ∀ n : Nat, Fit n (n + 1) (deepD n)
  | 0 => ⟨by rw [deepD, tame_t, tameAll], by rw [deepD, bulk_t, bulkAll_nil]; exact Nat.le_refl _, by rw [deepD, depth_t, PyData.depthAll]; exact Nat.le_refl _⟩
  | n + 1 => by
    obtain ⟨h1, h2, h3⟩ := deep_fit n
    refine ⟨by rw [deepD, tame_t, tameAll, tameAll, h1]; rfl, ?_, ?_⟩
    · rw [deepD, bulk_t, bulkAll_cons, bulkAll_nil]; omega
    · rw [deepD, depth_t, PyData.depthAll, PyData.depthAll]; omega
theorem odd_tst : ∀ x ∈ oddV, Tst x := by
  intro x hx
  have h := deep_fit 90
  have two : Fit 200 92 (.tuple [.str "plan", deepD 90, deepD 90]) := fit_t.mpr ⟨fun x hx => by
    simp only [List.mem_cons, List.not_mem_nil, or_false] at hx
    rcases hx with rfl | rfl | rfl
    · exact ⟨by decide +kernel, by decide +kernel⟩
    · exact ⟨h.1, h.2.2⟩
    · exact ⟨h.1, h.2.2⟩, by
    rw [bulkAll_cons, bulkAll_cons, bulkAll_cons, bulkAll_nil]
    have := h.2.1
    have e : (PyData.str "plan").bulk = 4 := by decide +kernel
    omega⟩
  unfold oddV at hx
  rcases List.mem_cons.mp hx with rfl | hx
  · exact Tst.fit h
  rcases List.mem_cons.mp hx with rfl | hx
  · exact Tst.fit two
  simp only [List.mem_cons, List.not_mem_nil, or_false] at hx
  rcases hx with rfl | rfl | rfl | rfl | rfl | rfl | rfl | rfl | rfl | rfl | rfl | rfl | rfl | rfl | rfl | rfl | rfl | rfl | rfl | rfl <;> exact Tst.dec
theorem bulkAll_rel : ∀ {xs ys : List D}, ys.length = xs.length → (∀ (j : Nat) x y, xs[j]? = some x → ys[j]? = some y → y.bulk ≤ x.bulk) → PyData.bulkAll ys ≤ PyData.bulkAll xs
  | [], [], _, _ => Nat.le_refl _
  | x :: xs, y :: ys, hl, h => by
    rw [bulkAll_cons, bulkAll_cons]
    have := h 0 x y rfl rfl
    have := bulkAll_rel (xs := xs) (ys := ys) (by simpa using hl) fun j a b ha hb => h (j + 1) a b ha hb
    omega
def LikeP (B : Nat) (d r : D) : Prop := tame B r = true ∧ r.bulk ≤ d.bulk ∧ r.depth ≤ d.depth
theorem like_made {B : Nat} {xs ys : List D} (hl : ys.length = xs.length) (h : ∀ (j : Nat) x y, xs[j]? = some x → ys[j]? = some y → LikeP B x y) : LikeP B (.tuple xs) (.tuple ys) := by
  refine ⟨?_, ?_, ?_⟩
  · rw [tame_t]
    refine tameAll_iff.mpr fun y hy => ?_
    obtain ⟨j, hj⟩ := List.getElem?_of_mem hy
    have hj' : j < xs.length := by rw [← hl]; exact (List.getElem?_eq_some_iff.mp hj).1
    exact (h j _ y (List.getElem?_eq_getElem hj') hj).1
  · rw [bulk_t, bulk_t]
    exact bulkAll_rel hl fun j x y hx hy => (h j x y hx hy).2.1
  · rw [depth_t, depth_t, Nat.add_le_add_iff_right]
    refine depthAll_le.mpr fun y hy => ?_
    obtain ⟨j, hj⟩ := List.getElem?_of_mem hy
    have hj' : j < xs.length := by rw [← hl]; exact (List.getElem?_eq_some_iff.mp hj).1
    exact Nat.le_trans (h j _ y (List.getElem?_eq_getElem hj') hj).2.2 (depthAll_mem (List.getElem_mem hj'))
theorem LikeP.fit {n k : Nat} {d r : D} (h : LikeP Big d r) (hd : Fit n k d) : Fit n k r := ⟨h.1, Nat.le_trans h.2.1 hd.2.1, Nat.le_trans h.2.2 hd.2.2⟩
theorem listed_ok {κ : Bool} {B : Nat} : ∀ (n : Nat) (d : D) (m : Int), tame B d = true → Sz d → 0 ≤ m → m < n → DoesK κ (F__law_listed n [.d d, .d (.int m)]) (LikeP B d)
  | 0, d, m, _, _, h, h' => by omega
  | n + 1, d, m, h1, h2, h3, h4 => by
    show DoesK κ (fnD 2 3 (B__law_listed (F__law_listed n)) [.d d, .d (.int m)]) _
    refine does_fn rfl ?_
    show DoesK κ (B__law_listed (F__law_listed n) [some (.dat d), some (.dat (.int m)), none]) _
    unfold B__law_listed
    refine seq_ret (c := !d.isTuple) ?_ (fun hi => ?_) fun hi => ?_
    · try simp only [at_emp, at_dis1, at_ow0, at_ows, at_calln, isLst_ret, at_c, at_bin, at_un, at_v0, at_o0, at_vs, at_tup, at_lst, at_each0, at_eachs, at_ad, at_p0, at_ps, at_args0, at_argss, at_call, at_tofk, at_and, at_or, at_not, at_dand, at_dor, at_dnot, at_if, at_chain, at_gn, at_g2, at_g3, at_g4, at_iseq, at_r1, at_r2, turn_def, at_sasgn, at_sforr, at_nil, at_seq, at_asg, at_sown, at_sret, at_sretn, at_sif, at_sdrop, at_sbrk, at_scont, at_sfor, hide_nil, hide_cons, hide1_d, hide1_n, hide1_p, hide1_o, set_0, set_s, bnd_ret, bnd_stuck, bnd_bnd, bnd_ite, slot_d, slot_p, wipeR, List.map_cons, List.map_nil, List.cons_append, List.nil_append, List.replicate, add_ints, sub_ints, le_ints, lt_ints, ge_ints, gt_ints, neg_ints, min2_ints, max2_ints, oEq_ints, oNe_ints, oEq_bools, oNe_bools, len_tup, len_lst, revL_l, oEq_strs, oNe_strs, tuple_l, tuple_t, list_l, list_t, at_sl, at_pn, at_ps', sl_tup', sl_lst', is_T, is_L, is_I, is_B, is_S, is_N, not_N, isT_n, isT_b, isT_i, isT_s, isT_t, isT_l, isT_d, isL_n, isL_b, isL_i, isL_s, isL_t, isL_l, isL_d, isI_n, isI_b, isI_i, isI_s, isI_t, isI_l, isI_d, isB_n, isB_b, isB_i, isB_s, isB_t, isB_l, isB_d, isS_n, isS_b, isS_i, isS_s, isS_t, isS_l, isS_d, isN_n, isN_b, isN_i, isN_s, isN_t, isN_l, isN_d, decide_eq_true_eq, Bool.not_eq_true', decide_eq_false_iff_not, Bool.false_eq_true, if_true, if_false, decide_true, decide_false, Bool.not_true, Bool.not_false, not_true_eq_false, not_false_eq_true, ret_ite_o, Int.reduceLT, Int.reduceLE, Int.reduceEq, Int.reduceAdd, Int.reduceSub, Int.reduceNeg, reduceCtorEq]
      exact does_ret rfl
    · try simp only [at_emp, at_dis1, at_ow0, at_ows, at_calln, isLst_ret, at_c, at_bin, at_un, at_v0, at_o0, at_vs, at_tup, at_lst, at_each0, at_eachs, at_ad, at_p0, at_ps, at_args0, at_argss, at_call, at_tofk, at_and, at_or, at_not, at_dand, at_dor, at_dnot, at_if, at_chain, at_gn, at_g2, at_g3, at_g4, at_iseq, at_r1, at_r2, turn_def, at_sasgn, at_sforr, at_nil, at_seq, at_asg, at_sown, at_sret, at_sretn, at_sif, at_sdrop, at_sbrk, at_scont, at_sfor, hide_nil, hide_cons, hide1_d, hide1_n, hide1_p, hide1_o, set_0, set_s, bnd_ret, bnd_stuck, bnd_bnd, bnd_ite, slot_d, slot_p, wipeR, List.map_cons, List.map_nil, List.cons_append, List.nil_append, List.replicate, add_ints, sub_ints, le_ints, lt_ints, ge_ints, gt_ints, neg_ints, min2_ints, max2_ints, oEq_ints, oNe_ints, oEq_bools, oNe_bools, len_tup, len_lst, revL_l, oEq_strs, oNe_strs, tuple_l, tuple_t, list_l, list_t, at_sl, at_pn, at_ps', sl_tup', sl_lst', is_T, is_L, is_I, is_B, is_S, is_N, not_N, isT_n, isT_b, isT_i, isT_s, isT_t, isT_l, isT_d, isL_n, isL_b, isL_i, isL_s, isL_t, isL_l, isL_d, isI_n, isI_b, isI_i, isI_s, isI_t, isI_l, isI_d, isB_n, isB_b, isB_i, isB_s, isB_t, isB_l, isB_d, isS_n, isS_b, isS_i, isS_s, isS_t, isS_l, isS_d, isN_n, isN_b, isN_i, isN_s, isN_t, isN_l, isN_d, decide_eq_true_eq, Bool.not_eq_true', decide_eq_false_iff_not, Bool.false_eq_true, if_true, if_false, decide_true, decide_false, Bool.not_true, Bool.not_false, not_true_eq_false, not_false_eq_true, ret_ite_o, Int.reduceLT, Int.reduceLE, Int.reduceEq, Int.reduceAdd, Int.reduceSub, Int.reduceNeg, reduceCtorEq]
      exact does_ret ⟨h1, Nat.le_refl _, Nat.le_refl _⟩
    obtain ⟨xs, rfl⟩ : ∃ xs, d = .tuple xs := by cases d <;> first | exact ⟨_, rfl⟩ | cases hi
    refine seq_ret (c := decide (m = 0)) ?_ (fun hm => ?_) fun hm => ?_
    · try simp only [at_emp, at_dis1, at_ow0, at_ows, at_calln, isLst_ret, at_c, at_bin, at_un, at_v0, at_o0, at_vs, at_tup, at_lst, at_each0, at_eachs, at_ad, at_p0, at_ps, at_args0, at_argss, at_call, at_tofk, at_and, at_or, at_not, at_dand, at_dor, at_dnot, at_if, at_chain, at_gn, at_g2, at_g3, at_g4, at_iseq, at_r1, at_r2, turn_def, at_sasgn, at_sforr, at_nil, at_seq, at_asg, at_sown, at_sret, at_sretn, at_sif, at_sdrop, at_sbrk, at_scont, at_sfor, hide_nil, hide_cons, hide1_d, hide1_n, hide1_p, hide1_o, set_0, set_s, bnd_ret, bnd_stuck, bnd_bnd, bnd_ite, slot_d, slot_p, wipeR, List.map_cons, List.map_nil, List.cons_append, List.nil_append, List.replicate, add_ints, sub_ints, le_ints, lt_ints, ge_ints, gt_ints, neg_ints, min2_ints, max2_ints, oEq_ints, oNe_ints, oEq_bools, oNe_bools, len_tup, len_lst, revL_l, oEq_strs, oNe_strs, tuple_l, tuple_t, list_l, list_t, at_sl, at_pn, at_ps', sl_tup', sl_lst', is_T, is_L, is_I, is_B, is_S, is_N, not_N, isT_n, isT_b, isT_i, isT_s, isT_t, isT_l, isT_d, isL_n, isL_b, isL_i, isL_s, isL_t, isL_l, isL_d, isI_n, isI_b, isI_i, isI_s, isI_t, isI_l, isI_d, isB_n, isB_b, isB_i, isB_s, isB_t, isB_l, isB_d, isS_n, isS_b, isS_i, isS_s, isS_t, isS_l, isS_d, isN_n, isN_b, isN_i, isN_s, isN_t, isN_l, isN_d, decide_eq_true_eq, Bool.not_eq_true', decide_eq_false_iff_not, Bool.false_eq_true, if_true, if_false, decide_true, decide_false, Bool.not_true, Bool.not_false, not_true_eq_false, not_false_eq_true, ret_ite_o, Int.reduceLT, Int.reduceLE, Int.reduceEq, Int.reduceAdd, Int.reduceSub, Int.reduceNeg, reduceCtorEq]
      exact does_ret rfl
    · try simp only [at_emp, at_dis1, at_ow0, at_ows, at_calln, isLst_ret, at_c, at_bin, at_un, at_v0, at_o0, at_vs, at_tup, at_lst, at_each0, at_eachs, at_ad, at_p0, at_ps, at_args0, at_argss, at_call, at_tofk, at_and, at_or, at_not, at_dand, at_dor, at_dnot, at_if, at_chain, at_gn, at_g2, at_g3, at_g4, at_iseq, at_r1, at_r2, turn_def, at_sasgn, at_sforr, at_nil, at_seq, at_asg, at_sown, at_sret, at_sretn, at_sif, at_sdrop, at_sbrk, at_scont, at_sfor, hide_nil, hide_cons, hide1_d, hide1_n, hide1_p, hide1_o, set_0, set_s, bnd_ret, bnd_stuck, bnd_bnd, bnd_ite, slot_d, slot_p, wipeR, List.map_cons, List.map_nil, List.cons_append, List.nil_append, List.replicate, add_ints, sub_ints, le_ints, lt_ints, ge_ints, gt_ints, neg_ints, min2_ints, max2_ints, oEq_ints, oNe_ints, oEq_bools, oNe_bools, len_tup, len_lst, revL_l, oEq_strs, oNe_strs, tuple_l, tuple_t, list_l, list_t, at_sl, at_pn, at_ps', sl_tup', sl_lst', is_T, is_L, is_I, is_B, is_S, is_N, not_N, isT_n, isT_b, isT_i, isT_s, isT_t, isT_l, isT_d, isL_n, isL_b, isL_i, isL_s, isL_t, isL_l, isL_d, isI_n, isI_b, isI_i, isI_s, isI_t, isI_l, isI_d, isB_n, isB_b, isB_i, isB_s, isB_t, isB_l, isB_d, isS_n, isS_b, isS_i, isS_s, isS_t, isS_l, isS_d, isN_n, isN_b, isN_i, isN_s, isN_t, isN_l, isN_d, decide_eq_true_eq, Bool.not_eq_true', decide_eq_false_iff_not, Bool.false_eq_true, if_true, if_false, decide_true, decide_false, Bool.not_true, Bool.not_false, not_true_eq_false, not_false_eq_true, ret_ite_o, Int.reduceLT, Int.reduceLE, Int.reduceEq, Int.reduceAdd, Int.reduceSub, Int.reduceNeg, reduceCtorEq]
      exact does_ret ⟨by rw [tame_l]; rw [tame_t] at h1; exact h1, by rw [bulk_l, bulk_t]; exact Nat.le_refl _, by rw [depth_l, depth_t]; exact Nat.le_refl _⟩
    rw [at_sret, at_un, bnd_bnd]
    have h1' := tameAll_iff.mp (by rw [tame_t] at h1; exact h1)
    have hm' : m ≠ 0 := by simpa using hm
    refine does_bnd (lc_all (xs := xs) (Q := fun j y => ∃ x, xs[j]? = some x ∧ LikeP B x y) (P := fun r => ∃ ys, r = .list ys ∧ LikeP B (.tuple xs) (.tuple ys)) (by try simp only [at_emp, at_dis1, at_ow0, at_ows, at_calln, isLst_ret, at_c, at_bin, at_un, at_v0, at_o0, at_vs, at_tup, at_lst, at_each0, at_eachs, at_ad, at_p0, at_ps, at_args0, at_argss, at_call, at_tofk, at_and, at_or, at_not, at_dand, at_dor, at_dnot, at_if, at_chain, at_gn, at_g2, at_g3, at_g4, at_iseq, at_r1, at_r2, turn_def, at_sasgn, at_sforr, at_nil, at_seq, at_asg, at_sown, at_sret, at_sretn, at_sif, at_sdrop, at_sbrk, at_scont, at_sfor, hide_nil, hide_cons, hide1_d, hide1_n, hide1_p, hide1_o, set_0, set_s, bnd_ret, bnd_stuck, bnd_bnd, bnd_ite, slot_d, slot_p, wipeR, List.map_cons, List.map_nil, List.cons_append, List.nil_append, List.replicate, add_ints, sub_ints, le_ints, lt_ints, ge_ints, gt_ints, neg_ints, min2_ints, max2_ints, oEq_ints, oNe_ints, oEq_bools, oNe_bools, len_tup, len_lst, revL_l, oEq_strs, oNe_strs, tuple_l, tuple_t, list_l, list_t, at_sl, at_pn, at_ps', sl_tup', sl_lst', is_T, is_L, is_I, is_B, is_S, is_N, not_N, isT_n, isT_b, isT_i, isT_s, isT_t, isT_l, isT_d, isL_n, isL_b, isL_i, isL_s, isL_t, isL_l, isL_d, isI_n, isI_b, isI_i, isI_s, isI_t, isI_l, isI_d, isB_n, isB_b, isB_i, isB_s, isB_t, isB_l, isB_d, isS_n, isS_b, isS_i, isS_s, isS_t, isS_l, isS_d, isN_n, isN_b, isN_i, isN_s, isN_t, isN_l, isN_d, decide_eq_true_eq, Bool.not_eq_true', decide_eq_false_iff_not, Bool.false_eq_true, if_true, if_false, decide_true, decide_false, Bool.not_true, Bool.not_false, not_true_eq_false, not_false_eq_true, ret_ite_o, Int.reduceLT, Int.reduceLE, Int.reduceEq, Int.reduceAdd, Int.reduceSub, Int.reduceNeg, reduceCtorEq]; exact does_ret rfl) (sz18 h2.len_t) (fun j x hx => ?_) fun ys hl hq => ⟨ys, rfl, like_made hl fun j x y hx hy => by
      obtain ⟨x', h, hp⟩ := hq j y hy
      rw [hx] at h; cases h
      exact hp⟩) ?_
    · show DoesK κ (M.bnd (gN 2 x [some (.dat (.tuple xs)), some (.dat (.int m)), none]) _) _
      try simp only [at_emp, at_dis1, at_ow0, at_ows, at_calln, isLst_ret, at_c, at_bin, at_un, at_v0, at_o0, at_vs, at_tup, at_lst, at_each0, at_eachs, at_ad, at_p0, at_ps, at_args0, at_argss, at_call, at_tofk, at_and, at_or, at_not, at_dand, at_dor, at_dnot, at_if, at_chain, at_gn, at_g2, at_g3, at_g4, at_iseq, at_r1, at_r2, turn_def, at_sasgn, at_sforr, at_nil, at_seq, at_asg, at_sown, at_sret, at_sretn, at_sif, at_sdrop, at_sbrk, at_scont, at_sfor, hide_nil, hide_cons, hide1_d, hide1_n, hide1_p, hide1_o, set_0, set_s, bnd_ret, bnd_stuck, bnd_bnd, bnd_ite, slot_d, slot_p, wipeR, List.map_cons, List.map_nil, List.cons_append, List.nil_append, List.replicate, add_ints, sub_ints, le_ints, lt_ints, ge_ints, gt_ints, neg_ints, min2_ints, max2_ints, oEq_ints, oNe_ints, oEq_bools, oNe_bools, len_tup, len_lst, revL_l, oEq_strs, oNe_strs, tuple_l, tuple_t, list_l, list_t, at_sl, at_pn, at_ps', sl_tup', sl_lst', is_T, is_L, is_I, is_B, is_S, is_N, not_N, isT_n, isT_b, isT_i, isT_s, isT_t, isT_l, isT_d, isL_n, isL_b, isL_i, isL_s, isL_t, isL_l, isL_d, isI_n, isI_b, isI_i, isI_s, isI_t, isI_l, isI_d, isB_n, isB_b, isB_i, isB_s, isB_t, isB_l, isB_d, isS_n, isS_b, isS_i, isS_s, isS_t, isS_l, isS_d, isN_n, isN_b, isN_i, isN_s, isN_t, isN_l, isN_d, decide_eq_true_eq, Bool.not_eq_true', decide_eq_false_iff_not, Bool.false_eq_true, if_true, if_false, decide_true, decide_false, Bool.not_true, Bool.not_false, not_true_eq_false, not_false_eq_true, ret_ite_o, Int.reduceLT, Int.reduceLE, Int.reduceEq, Int.reduceAdd, Int.reduceSub, Int.reduceNeg, reduceCtorEq]
      exact (listed_ok n x (m - 1) (h1' x (List.mem_of_getElem? hx)) (h2.mem_t (List.mem_of_getElem? hx)) (by omega) (by omega)).imp fun r hr => ⟨x, hx, hr⟩
    · rintro _ ⟨ys, rfl, hp⟩
      try simp only [at_emp, at_dis1, at_ow0, at_ows, at_calln, isLst_ret, at_c, at_bin, at_un, at_v0, at_o0, at_vs, at_tup, at_lst, at_each0, at_eachs, at_ad, at_p0, at_ps, at_args0, at_argss, at_call, at_tofk, at_and, at_or, at_not, at_dand, at_dor, at_dnot, at_if, at_chain, at_gn, at_g2, at_g3, at_g4, at_iseq, at_r1, at_r2, turn_def, at_sasgn, at_sforr, at_nil, at_seq, at_asg, at_sown, at_sret, at_sretn, at_sif, at_sdrop, at_sbrk, at_scont, at_sfor, hide_nil, hide_cons, hide1_d, hide1_n, hide1_p, hide1_o, set_0, set_s, bnd_ret, bnd_stuck, bnd_bnd, bnd_ite, slot_d, slot_p, wipeR, List.map_cons, List.map_nil, List.cons_append, List.nil_append, List.replicate, add_ints, sub_ints, le_ints, lt_ints, ge_ints, gt_ints, neg_ints, min2_ints, max2_ints, oEq_ints, oNe_ints, oEq_bools, oNe_bools, len_tup, len_lst, revL_l, oEq_strs, oNe_strs, tuple_l, tuple_t, list_l, list_t, at_sl, at_pn, at_ps', sl_tup', sl_lst', is_T, is_L, is_I, is_B, is_S, is_N, not_N, isT_n, isT_b, isT_i, isT_s, isT_t, isT_l, isT_d, isL_n, isL_b, isL_i, isL_s, isL_t, isL_l, isL_d, isI_n, isI_b, isI_i, isI_s, isI_t, isI_l, isI_d, isB_n, isB_b, isB_i, isB_s, isB_t, isB_l, isB_d, isS_n, isS_b, isS_i, isS_s, isS_t, isS_l, isS_d, isN_n, isN_b, isN_i, isN_s, isN_t, isN_l, isN_d, decide_eq_true_eq, Bool.not_eq_true', decide_eq_false_iff_not, Bool.false_eq_true, if_true, if_false, decide_true, decide_false, Bool.not_true, Bool.not_false, not_true_eq_false, not_false_eq_true, ret_ite_o, Int.reduceLT, Int.reduceLE, Int.reduceEq, Int.reduceAdd, Int.reduceSub, Int.reduceNeg, reduceCtorEq]
      exact does_ret hp
theorem in01 (i : Int) : oIn (.int i) (.tuple [.int 0, .int 1]) = M.ret (.bool (decide (i ∈ [(0 : Int), 1]))) := in_ints_t i [0, 1]
theorem booled_ok {κ : Bool} {B : Nat} : ∀ (n : Nat) (d : D), tame B d = true → Sz d → d.depth < n → DoesK κ (F__law_booled n [.d d]) (LikeP B d)
  | 0, d, _, _, h' => by omega
  | n + 1, d, h1, h2, h4 => by
    show DoesK κ (fnD 1 2 (B__law_booled (F__law_booled n)) [.d d]) _
    refine does_fn rfl ?_
    show DoesK κ (B__law_booled (F__law_booled n) [some (.dat d), none]) _
    unfold B__law_booled
    by_cases ht : d.isTuple = true
    · obtain ⟨xs, rfl⟩ : ∃ xs, d = .tuple xs := by cases d <;> first | exact ⟨_, rfl⟩ | cases ht
      have h1' := tameAll_iff.mp (by rw [tame_t] at h1; exact h1)
      refine seq_ret (c := true) ?_ (fun _ => ?_) fun hi => by cases hi
      · try simp only [at_emp, at_dis1, at_ow0, at_ows, at_calln, isLst_ret, at_c, at_bin, at_un, at_v0, at_o0, at_vs, at_tup, at_lst, at_each0, at_eachs, at_ad, at_p0, at_ps, at_args0, at_argss, at_call, at_tofk, at_and, at_or, at_not, at_dand, at_dor, at_dnot, at_if, at_chain, at_gn, at_g2, at_g3, at_g4, at_iseq, at_r1, at_r2, turn_def, at_sasgn, at_sforr, at_nil, at_seq, at_asg, at_sown, at_sret, at_sretn, at_sif, at_sdrop, at_sbrk, at_scont, at_sfor, hide_nil, hide_cons, hide1_d, hide1_n, hide1_p, hide1_o, set_0, set_s, bnd_ret, bnd_stuck, bnd_bnd, bnd_ite, slot_d, slot_p, wipeR, List.map_cons, List.map_nil, List.cons_append, List.nil_append, List.replicate, add_ints, sub_ints, le_ints, lt_ints, ge_ints, gt_ints, neg_ints, min2_ints, max2_ints, oEq_ints, oNe_ints, oEq_bools, oNe_bools, len_tup, len_lst, revL_l, oEq_strs, oNe_strs, tuple_l, tuple_t, list_l, list_t, at_sl, at_pn, at_ps', sl_tup', sl_lst', is_T, is_L, is_I, is_B, is_S, is_N, not_N, isT_n, isT_b, isT_i, isT_s, isT_t, isT_l, isT_d, isL_n, isL_b, isL_i, isL_s, isL_t, isL_l, isL_d, isI_n, isI_b, isI_i, isI_s, isI_t, isI_l, isI_d, isB_n, isB_b, isB_i, isB_s, isB_t, isB_l, isB_d, isS_n, isS_b, isS_i, isS_s, isS_t, isS_l, isS_d, isN_n, isN_b, isN_i, isN_s, isN_t, isN_l, isN_d, decide_eq_true_eq, Bool.not_eq_true', decide_eq_false_iff_not, Bool.false_eq_true, if_true, if_false, decide_true, decide_false, Bool.not_true, Bool.not_false, not_true_eq_false, not_false_eq_true, ret_ite_o, Int.reduceLT, Int.reduceLE, Int.reduceEq, Int.reduceAdd, Int.reduceSub, Int.reduceNeg, reduceCtorEq]
        exact does_ret rfl
      rw [at_un]
      refine does_bnd (lc_all (xs := xs) (Q := fun j y => ∃ x, xs[j]? = some x ∧ LikeP B x y) (P := fun r => ∃ ys, r = .list ys ∧ LikeP B (.tuple xs) (.tuple ys)) (by try simp only [at_emp, at_dis1, at_ow0, at_ows, at_calln, isLst_ret, at_c, at_bin, at_un, at_v0, at_o0, at_vs, at_tup, at_lst, at_each0, at_eachs, at_ad, at_p0, at_ps, at_args0, at_argss, at_call, at_tofk, at_and, at_or, at_not, at_dand, at_dor, at_dnot, at_if, at_chain, at_gn, at_g2, at_g3, at_g4, at_iseq, at_r1, at_r2, turn_def, at_sasgn, at_sforr, at_nil, at_seq, at_asg, at_sown, at_sret, at_sretn, at_sif, at_sdrop, at_sbrk, at_scont, at_sfor, hide_nil, hide_cons, hide1_d, hide1_n, hide1_p, hide1_o, set_0, set_s, bnd_ret, bnd_stuck, bnd_bnd, bnd_ite, slot_d, slot_p, wipeR, List.map_cons, List.map_nil, List.cons_append, List.nil_append, List.replicate, add_ints, sub_ints, le_ints, lt_ints, ge_ints, gt_ints, neg_ints, min2_ints, max2_ints, oEq_ints, oNe_ints, oEq_bools, oNe_bools, len_tup, len_lst, revL_l, oEq_strs, oNe_strs, tuple_l, tuple_t, list_l, list_t, at_sl, at_pn, at_ps', sl_tup', sl_lst', is_T, is_L, is_I, is_B, is_S, is_N, not_N, isT_n, isT_b, isT_i, isT_s, isT_t, isT_l, isT_d, isL_n, isL_b, isL_i, isL_s, isL_t, isL_l, isL_d, isI_n, isI_b, isI_i, isI_s, isI_t, isI_l, isI_d, isB_n, isB_b, isB_i, isB_s, isB_t, isB_l, isB_d, isS_n, isS_b, isS_i, isS_s, isS_t, isS_l, isS_d, isN_n, isN_b, isN_i, isN_s, isN_t, isN_l, isN_d, decide_eq_true_eq, Bool.not_eq_true', decide_eq_false_iff_not, Bool.false_eq_true, if_true, if_false, decide_true, decide_false, Bool.not_true, Bool.not_false, not_true_eq_false, not_false_eq_true, ret_ite_o, Int.reduceLT, Int.reduceLE, Int.reduceEq, Int.reduceAdd, Int.reduceSub, Int.reduceNeg, reduceCtorEq]; exact does_ret rfl) (sz18 h2.len_t) (fun j x hx => ?_) fun ys hl hq => ⟨ys, rfl, like_made hl fun j x y hx hy => by
        obtain ⟨x', h, hp⟩ := hq j y hy
        rw [hx] at h; cases h
        exact hp⟩) ?_
      · show DoesK κ (M.bnd (gN 1 x [some (.dat (.tuple xs)), none]) _) _
        try simp only [at_emp, at_dis1, at_ow0, at_ows, at_calln, isLst_ret, at_c, at_bin, at_un, at_v0, at_o0, at_vs, at_tup, at_lst, at_each0, at_eachs, at_ad, at_p0, at_ps, at_args0, at_argss, at_call, at_tofk, at_and, at_or, at_not, at_dand, at_dor, at_dnot, at_if, at_chain, at_gn, at_g2, at_g3, at_g4, at_iseq, at_r1, at_r2, turn_def, at_sasgn, at_sforr, at_nil, at_seq, at_asg, at_sown, at_sret, at_sretn, at_sif, at_sdrop, at_sbrk, at_scont, at_sfor, hide_nil, hide_cons, hide1_d, hide1_n, hide1_p, hide1_o, set_0, set_s, bnd_ret, bnd_stuck, bnd_bnd, bnd_ite, slot_d, slot_p, wipeR, List.map_cons, List.map_nil, List.cons_append, List.nil_append, List.replicate, add_ints, sub_ints, le_ints, lt_ints, ge_ints, gt_ints, neg_ints, min2_ints, max2_ints, oEq_ints, oNe_ints, oEq_bools, oNe_bools, len_tup, len_lst, revL_l, oEq_strs, oNe_strs, tuple_l, tuple_t, list_l, list_t, at_sl, at_pn, at_ps', sl_tup', sl_lst', is_T, is_L, is_I, is_B, is_S, is_N, not_N, isT_n, isT_b, isT_i, isT_s, isT_t, isT_l, isT_d, isL_n, isL_b, isL_i, isL_s, isL_t, isL_l, isL_d, isI_n, isI_b, isI_i, isI_s, isI_t, isI_l, isI_d, isB_n, isB_b, isB_i, isB_s, isB_t, isB_l, isB_d, isS_n, isS_b, isS_i, isS_s, isS_t, isS_l, isS_d, isN_n, isN_b, isN_i, isN_s, isN_t, isN_l, isN_d, decide_eq_true_eq, Bool.not_eq_true', decide_eq_false_iff_not, Bool.false_eq_true, if_true, if_false, decide_true, decide_false, Bool.not_true, Bool.not_false, not_true_eq_false, not_false_eq_true, ret_ite_o, Int.reduceLT, Int.reduceLE, Int.reduceEq, Int.reduceAdd, Int.reduceSub, Int.reduceNeg, reduceCtorEq]
        have hd := depthAll_mem (List.mem_of_getElem? hx)
        rw [depth_t] at h4
        exact (booled_ok n x (h1' x (List.mem_of_getElem? hx)) (h2.mem_t (List.mem_of_getElem? hx)) (by omega)).imp fun r hr => ⟨x, hx, hr⟩
      · rintro _ ⟨ys, rfl, hp⟩
        try simp only [at_emp, at_dis1, at_ow0, at_ows, at_calln, isLst_ret, at_c, at_bin, at_un, at_v0, at_o0, at_vs, at_tup, at_lst, at_each0, at_eachs, at_ad, at_p0, at_ps, at_args0, at_argss, at_call, at_tofk, at_and, at_or, at_not, at_dand, at_dor, at_dnot, at_if, at_chain, at_gn, at_g2, at_g3, at_g4, at_iseq, at_r1, at_r2, turn_def, at_sasgn, at_sforr, at_nil, at_seq, at_asg, at_sown, at_sret, at_sretn, at_sif, at_sdrop, at_sbrk, at_scont, at_sfor, hide_nil, hide_cons, hide1_d, hide1_n, hide1_p, hide1_o, set_0, set_s, bnd_ret, bnd_stuck, bnd_bnd, bnd_ite, slot_d, slot_p, wipeR, List.map_cons, List.map_nil, List.cons_append, List.nil_append, List.replicate, add_ints, sub_ints, le_ints, lt_ints, ge_ints, gt_ints, neg_ints, min2_ints, max2_ints, oEq_ints, oNe_ints, oEq_bools, oNe_bools, len_tup, len_lst, revL_l, oEq_strs, oNe_strs, tuple_l, tuple_t, list_l, list_t, at_sl, at_pn, at_ps', sl_tup', sl_lst', is_T, is_L, is_I, is_B, is_S, is_N, not_N, isT_n, isT_b, isT_i, isT_s, isT_t, isT_l, isT_d, isL_n, isL_b, isL_i, isL_s, isL_t, isL_l, isL_d, isI_n, isI_b, isI_i, isI_s, isI_t, isI_l, isI_d, isB_n, isB_b, isB_i, isB_s, isB_t, isB_l, isB_d, isS_n, isS_b, isS_i, isS_s, isS_t, isS_l, isS_d, isN_n, isN_b, isN_i, isN_s, isN_t, isN_l, isN_d, decide_eq_true_eq, Bool.not_eq_true', decide_eq_false_iff_not, Bool.false_eq_true, if_true, if_false, decide_true, decide_false, Bool.not_true, Bool.not_false, not_true_eq_false, not_false_eq_true, ret_ite_o, Int.reduceLT, Int.reduceLE, Int.reduceEq, Int.reduceAdd, Int.reduceSub, Int.reduceNeg, reduceCtorEq]
        exact does_ret hp
    · refine seq_ret (c := false) ?_ (fun hi => by cases hi) fun hi => ?_
      · have : d.isTuple = false := by simpa using ht
        try simp only [at_emp, at_dis1, at_ow0, at_ows, at_calln, isLst_ret, at_c, at_bin, at_un, at_v0, at_o0, at_vs, at_tup, at_lst, at_each0, at_eachs, at_ad, at_p0, at_ps, at_args0, at_argss, at_call, at_tofk, at_and, at_or, at_not, at_dand, at_dor, at_dnot, at_if, at_chain, at_gn, at_g2, at_g3, at_g4, at_iseq, at_r1, at_r2, turn_def, at_sasgn, at_sforr, at_nil, at_seq, at_asg, at_sown, at_sret, at_sretn, at_sif, at_sdrop, at_sbrk, at_scont, at_sfor, hide_nil, hide_cons, hide1_d, hide1_n, hide1_p, hide1_o, set_0, set_s, bnd_ret, bnd_stuck, bnd_bnd, bnd_ite, slot_d, slot_p, wipeR, List.map_cons, List.map_nil, List.cons_append, List.nil_append, List.replicate, add_ints, sub_ints, le_ints, lt_ints, ge_ints, gt_ints, neg_ints, min2_ints, max2_ints, oEq_ints, oNe_ints, oEq_bools, oNe_bools, len_tup, len_lst, revL_l, oEq_strs, oNe_strs, tuple_l, tuple_t, list_l, list_t, at_sl, at_pn, at_ps', sl_tup', sl_lst', is_T, is_L, is_I, is_B, is_S, is_N, not_N, isT_n, isT_b, isT_i, isT_s, isT_t, isT_l, isT_d, isL_n, isL_b, isL_i, isL_s, isL_t, isL_l, isL_d, isI_n, isI_b, isI_i, isI_s, isI_t, isI_l, isI_d, isB_n, isB_b, isB_i, isB_s, isB_t, isB_l, isB_d, isS_n, isS_b, isS_i, isS_s, isS_t, isS_l, isS_d, isN_n, isN_b, isN_i, isN_s, isN_t, isN_l, isN_d, decide_eq_true_eq, Bool.not_eq_true', decide_eq_false_iff_not, Bool.false_eq_true, if_true, if_false, decide_true, decide_false, Bool.not_true, Bool.not_false, not_true_eq_false, not_false_eq_true, ret_ite_o, Int.reduceLT, Int.reduceLE, Int.reduceEq, Int.reduceAdd, Int.reduceSub, Int.reduceNeg, reduceCtorEq, this]
        exact does_ret rfl
      have same : LikeP B d d := ⟨h1, Nat.le_refl _, Nat.le_refl _⟩
      cases d with
      | int i =>
        by_cases hi : i ∈ [(0 : Int), 1]
        · try simp only [at_emp, at_dis1, at_ow0, at_ows, at_calln, isLst_ret, at_c, at_bin, at_un, at_v0, at_o0, at_vs, at_tup, at_lst, at_each0, at_eachs, at_ad, at_p0, at_ps, at_args0, at_argss, at_call, at_tofk, at_and, at_or, at_not, at_dand, at_dor, at_dnot, at_if, at_chain, at_gn, at_g2, at_g3, at_g4, at_iseq, at_r1, at_r2, turn_def, at_sasgn, at_sforr, at_nil, at_seq, at_asg, at_sown, at_sret, at_sretn, at_sif, at_sdrop, at_sbrk, at_scont, at_sfor, hide_nil, hide_cons, hide1_d, hide1_n, hide1_p, hide1_o, set_0, set_s, bnd_ret, bnd_stuck, bnd_bnd, bnd_ite, slot_d, slot_p, wipeR, List.map_cons, List.map_nil, List.cons_append, List.nil_append, List.replicate, add_ints, sub_ints, le_ints, lt_ints, ge_ints, gt_ints, neg_ints, min2_ints, max2_ints, oEq_ints, oNe_ints, oEq_bools, oNe_bools, len_tup, len_lst, revL_l, oEq_strs, oNe_strs, tuple_l, tuple_t, list_l, list_t, at_sl, at_pn, at_ps', sl_tup', sl_lst', is_T, is_L, is_I, is_B, is_S, is_N, not_N, isT_n, isT_b, isT_i, isT_s, isT_t, isT_l, isT_d, isL_n, isL_b, isL_i, isL_s, isL_t, isL_l, isL_d, isI_n, isI_b, isI_i, isI_s, isI_t, isI_l, isI_d, isB_n, isB_b, isB_i, isB_s, isB_t, isB_l, isB_d, isS_n, isS_b, isS_i, isS_s, isS_t, isS_l, isS_d, isN_n, isN_b, isN_i, isN_s, isN_t, isN_l, isN_d, decide_eq_true_eq, Bool.not_eq_true', decide_eq_false_iff_not, Bool.false_eq_true, if_true, if_false, decide_true, decide_false, Bool.not_true, Bool.not_false, not_true_eq_false, not_false_eq_true, ret_ite_o, Int.reduceLT, Int.reduceLE, Int.reduceEq, Int.reduceAdd, Int.reduceSub, Int.reduceNeg, reduceCtorEq, linteger_at, whl, in01, hi]
          exact does_ret ⟨by rw [tame], by rw [PyData.bulk]; exact Nat.zero_le _, by rw [PyData.depth]; exact Nat.zero_le _⟩
        · try simp only [at_emp, at_dis1, at_ow0, at_ows, at_calln, isLst_ret, at_c, at_bin, at_un, at_v0, at_o0, at_vs, at_tup, at_lst, at_each0, at_eachs, at_ad, at_p0, at_ps, at_args0, at_argss, at_call, at_tofk, at_and, at_or, at_not, at_dand, at_dor, at_dnot, at_if, at_chain, at_gn, at_g2, at_g3, at_g4, at_iseq, at_r1, at_r2, turn_def, at_sasgn, at_sforr, at_nil, at_seq, at_asg, at_sown, at_sret, at_sretn, at_sif, at_sdrop, at_sbrk, at_scont, at_sfor, hide_nil, hide_cons, hide1_d, hide1_n, hide1_p, hide1_o, set_0, set_s, bnd_ret, bnd_stuck, bnd_bnd, bnd_ite, slot_d, slot_p, wipeR, List.map_cons, List.map_nil, List.cons_append, List.nil_append, List.replicate, add_ints, sub_ints, le_ints, lt_ints, ge_ints, gt_ints, neg_ints, min2_ints, max2_ints, oEq_ints, oNe_ints, oEq_bools, oNe_bools, len_tup, len_lst, revL_l, oEq_strs, oNe_strs, tuple_l, tuple_t, list_l, list_t, at_sl, at_pn, at_ps', sl_tup', sl_lst', is_T, is_L, is_I, is_B, is_S, is_N, not_N, isT_n, isT_b, isT_i, isT_s, isT_t, isT_l, isT_d, isL_n, isL_b, isL_i, isL_s, isL_t, isL_l, isL_d, isI_n, isI_b, isI_i, isI_s, isI_t, isI_l, isI_d, isB_n, isB_b, isB_i, isB_s, isB_t, isB_l, isB_d, isS_n, isS_b, isS_i, isS_s, isS_t, isS_l, isS_d, isN_n, isN_b, isN_i, isN_s, isN_t, isN_l, isN_d, decide_eq_true_eq, Bool.not_eq_true', decide_eq_false_iff_not, Bool.false_eq_true, if_true, if_false, decide_true, decide_false, Bool.not_true, Bool.not_false, not_true_eq_false, not_false_eq_true, ret_ite_o, Int.reduceLT, Int.reduceLE, Int.reduceEq, Int.reduceAdd, Int.reduceSub, Int.reduceNeg, reduceCtorEq, linteger_at, whl, in01, hi]
          exact does_ret same
      | tuple xs => exact absurd rfl ht
      | _ =>
        try simp only [at_emp, at_dis1, at_ow0, at_ows, at_calln, isLst_ret, at_c, at_bin, at_un, at_v0, at_o0, at_vs, at_tup, at_lst, at_each0, at_eachs, at_ad, at_p0, at_ps, at_args0, at_argss, at_call, at_tofk, at_and, at_or, at_not, at_dand, at_dor, at_dnot, at_if, at_chain, at_gn, at_g2, at_g3, at_g4, at_iseq, at_r1, at_r2, turn_def, at_sasgn, at_sforr, at_nil, at_seq, at_asg, at_sown, at_sret, at_sretn, at_sif, at_sdrop, at_sbrk, at_scont, at_sfor, hide_nil, hide_cons, hide1_d, hide1_n, hide1_p, hide1_o, set_0, set_s, bnd_ret, bnd_stuck, bnd_bnd, bnd_ite, slot_d, slot_p, wipeR, List.map_cons, List.map_nil, List.cons_append, List.nil_append, List.replicate, add_ints, sub_ints, le_ints, lt_ints, ge_ints, gt_ints, neg_ints, min2_ints, max2_ints, oEq_ints, oNe_ints, oEq_bools, oNe_bools, len_tup, len_lst, revL_l, oEq_strs, oNe_strs, tuple_l, tuple_t, list_l, list_t, at_sl, at_pn, at_ps', sl_tup', sl_lst', is_T, is_L, is_I, is_B, is_S, is_N, not_N, isT_n, isT_b, isT_i, isT_s, isT_t, isT_l, isT_d, isL_n, isL_b, isL_i, isL_s, isL_t, isL_l, isL_d, isI_n, isI_b, isI_i, isI_s, isI_t, isI_l, isI_d, isB_n, isB_b, isB_i, isB_s, isB_t, isB_l, isB_d, isS_n, isS_b, isS_i, isS_s, isS_t, isS_l, isS_d, isN_n, isN_b, isN_i, isN_s, isN_t, isN_l, isN_d, decide_eq_true_eq, Bool.not_eq_true', decide_eq_false_iff_not, Bool.false_eq_true, if_true, if_false, decide_true, decide_false, Bool.not_true, Bool.not_false, not_true_eq_false, not_false_eq_true, ret_ite_o, Int.reduceLT, Int.reduceLE, Int.reduceEq, Int.reduceAdd, Int.reduceSub, Int.reduceNeg, reduceCtorEq, linteger_at, whl]
        exact does_ret same

theorem Fit.sz {n k : Nat} {d : D} (h : Fit n k d) (hn : n ≤ 2 ^ 18 := by decide +kernel) : Sz d := Nat.le_trans h.2.1 hn
theorem fit_tl {n k : Nat} {xs : List D} (h : Fit n k (.tuple xs)) : Fit n k (.list xs) := ⟨by rw [tame_l]; have := h.1; rw [tame_t] at this; exact this, by rw [bulk_l]; have := h.2.1; rw [bulk_t] at this; exact this, by rw [depth_l]; have := h.2.2; rw [depth_t] at this; exact this⟩
theorem Tst.like {d r : D} {n k : Nat} (hd : Fit n k d) (h : LikeP Big d r) (hn : n ≤ 2 ^ 18 := by decide +kernel) (hk : k ≤ 98 := by decide) : Tst r := Tst.fit (h.fit hd) hn hk
theorem Tst.bent {d r : D} {n k : Nat} (hd : Fit n k d) (h : BentP (10 ^ 20) d r) (hn : n ≤ 2 ^ 16 := by decide +kernel) (hk : k ≤ 96 := by decide) : Tst r := by
  refine Tst.fit (n := 3 * n + 3) (k := k + 2) ⟨tame_mono (by decide +kernel) _ h.1, ?_, ?_⟩ ?_ (by omega)
  · have := h.2.1
    have := hd.2.1
    omega
  · have := h.2.2
    have := hd.2.2
    omega
  · have e1 : (2 : Nat) ^ 16 = 65536 := by decide +kernel
    have e2 : (2 : Nat) ^ 18 = 262144 := by decide +kernel
    omega
theorem add_tst {xs ys : List D} (h1 : xs.length ≤ 2 ^ 18) (h2 : ys.length ≤ 2 ^ 18) : oAdd (.list xs) (.list ys) = M.ret (.list (xs ++ ys)) := add_lists (by
  have e2 : (2 : Nat) ^ 18 = 262144 := by decide +kernel
  have e3 : (2 : Nat) ^ 20 = 1048576 := by decide +kernel
  omega)
theorem mem_app {P : D → Prop} {xs ys : List D} (h1 : ∀ x ∈ xs, P x) (h2 : ∀ x ∈ ys, P x) : ∀ x ∈ xs ++ ys, P x := fun x hx => (List.mem_append.mp hx).elim (h1 x) (h2 x)
theorem bents_ok {n m : Nat} {own : List Nat} {e : DE} {g : Tgt} {ρ : Rho} {P : D → Prop} (hn : n ≤ 2 ^ 12) (h : ∀ k : Nat, k < n → Does (M.bnd (g (.int (0 + (k : Int))) (wipeR ρ own)) e) P) : Does (dComp own (iR1 (dC (.int (n : Int)))) g tTrue e ρ) fun d => ∃ xs, d = .list xs ∧ xs.length ≤ 2 ^ 12 ∧ ∀ x ∈ xs, P x := by
  have e2 : (2 : Nat) ^ 12 = 4096 := by decide +kernel
  have r : rng1 (.int (n : Int)) = M.ret (intsFrom 0 n) := by rw [rng1_of (by omega) (by omega)]; rfl
  refine lc_all (xs := intsFrom 0 n) (Q := fun _ y => P y) (by simp only [at_emp, at_dis1, at_ow0, at_ows, at_calln, isLst_ret, at_c, at_bin, at_un, at_v0, at_o0, at_vs, at_tup, at_lst, at_each0, at_eachs, at_ad, at_p0, at_ps, at_args0, at_argss, at_call, at_tofk, at_and, at_or, at_not, at_dand, at_dor, at_dnot, at_if, at_chain, at_gn, at_g2, at_g3, at_g4, at_iseq, at_r1, at_r2, turn_def, at_sasgn, at_sforr, at_nil, at_seq, at_asg, at_sown, at_sret, at_sretn, at_sif, at_sdrop, at_sbrk, at_scont, at_sfor, hide_nil, hide_cons, hide1_d, hide1_n, hide1_p, hide1_o, set_0, set_s, bnd_ret, bnd_stuck, bnd_bnd, bnd_ite, slot_d, slot_p, wipeR, List.map_cons, List.map_nil, List.cons_append, List.nil_append, List.replicate, add_ints, sub_ints, le_ints, lt_ints, ge_ints, gt_ints, neg_ints, min2_ints, max2_ints, oEq_ints, oNe_ints, oEq_bools, oNe_bools, len_tup, len_lst, revL_l, oEq_strs, oNe_strs, tuple_l, tuple_t, list_l, list_t, at_sl, at_pn, at_ps', sl_tup', sl_lst', is_T, is_L, is_I, is_B, is_S, is_N, not_N, isT_n, isT_b, isT_i, isT_s, isT_t, isT_l, isT_d, isL_n, isL_b, isL_i, isL_s, isL_t, isL_l, isL_d, isI_n, isI_b, isI_i, isI_s, isI_t, isI_l, isI_d, isB_n, isB_b, isB_i, isB_s, isB_t, isB_l, isB_d, isS_n, isS_b, isS_i, isS_s, isS_t, isS_l, isS_d, isN_n, isN_b, isN_i, isN_s, isN_t, isN_l, isN_d, decide_eq_true_eq, Bool.not_eq_true', decide_eq_false_iff_not, Bool.false_eq_true, if_true, if_false, decide_true, decide_false, Bool.not_true, Bool.not_false, not_true_eq_false, not_false_eq_true, ret_ite_o, Int.reduceLT, Int.reduceLE, Int.reduceEq, Int.reduceAdd, Int.reduceSub, Int.reduceNeg, reduceCtorEq, r]; exact does_ret rfl) (sz18 (by rw [intsFrom_len]; exact Nat.le_trans hn (by decide +kernel))) (fun j x hx => ?_) fun ys hl hq => ⟨ys, rfl, by rw [hl, intsFrom_len]; exact hn, fun y hy => ?_⟩
  · obtain ⟨rfl, hj⟩ := intsFrom_at hx
    exact h j hj
  · obtain ⟨j, hj⟩ := List.getElem?_of_mem hy
    exact hq j y hj
def FitL (n k : Nat) (xs : List D) : Prop := (∀ x ∈ xs, tame Big x = true ∧ x.depth ≤ k) ∧ PyData.bulkAll xs ≤ n
theorem fl_nil {k : Nat} : FitL 0 k [] := ⟨(fun _ h => nomatch h), Nat.le_of_eq bulkAll_nil⟩
theorem fl_cons {a b k : Nat} {x : D} {xs : List D} (h : Fit a k x) (r : FitL b k xs) : FitL (a + 1 + b) k (x :: xs) := ⟨fun y hy => (List.mem_cons.mp hy).elim (fun e => e ▸ ⟨h.1, h.2.2⟩) (r.1 y), by
  rw [bulkAll_cons]
  have := h.2.1
  have := r.2
  omega⟩
theorem fl_t {n k : Nat} {xs : List D} (h : FitL n k xs) : Fit n (k + 1) (.tuple xs) := fit_t.mpr h
theorem Fit.up {n k k' : Nat} {d : D} (h : Fit n k d) (hk : k ≤ k' := by decide) : Fit n k' d := h.mono (Nat.le_refl _) hk
theorem Fit.dec {n k : Nat} {d : D} (h : (tame Big d && (decide (d.bulk ≤ n) && decide (d.depth ≤ k))) = true := by decide +kernel) : Fit n k d := by
  rw [Bool.and_eq_true, Bool.and_eq_true, decide_eq_true_eq, decide_eq_true_eq] at h
  exact ⟨h.1, h.2.1, h.2.2⟩
theorem ints_fit {ns : List Int} {m : Nat} (h : ∀ v ∈ ns, v.natAbs < Big) (hl : ns.length ≤ m) : Fit m 1 (.tuple (ns.map .int)) := by
  refine fit_t.mpr ⟨fun x hx => ?_, ?_⟩
  · obtain ⟨v, hv, rfl⟩ := List.mem_map.mp hx
    exact ⟨tame_i (h v hv), by rw [PyData.depth]; exact Nat.le_refl _⟩
  · have : ∀ l : List Int, PyData.bulkAll (l.map PyData.int) = l.length := by
      intro l
      induction l with
      | nil => exact bulkAll_nil
      | cons a l ih => rw [List.map_cons, bulkAll_cons, ih, PyData.bulk, List.length_cons]; omega
    rw [this]
    exact hl
theorem tame_ints {B : Nat} {ns : List Int} (h : ∀ v ∈ ns, v.natAbs < B) : tame B (.tuple (ns.map .int)) = true := by
  rw [tame_t]
  refine tameAll_iff.mpr fun x hx => ?_
  obtain ⟨v, hv, rfl⟩ := List.mem_map.mp hx
  exact tame_i (h v hv)
section
variable {κ : Bool}
theorem while_does {t : DT} {B : DS} {R : Out → Prop} (I : Nat → Rho → Prop) (step : ∀ n ρ, I n ρ → ∃ c : Bool, DoesK κ (t ρ) (· = c) ∧ (c = true → DoesK κ (B ρ) fun o => ∃ ρ', o = .next ρ' ∧ ∃ m, m < n ∧ I m ρ') ∧ (c = false → R (.next ρ))) :
    ∀ (fuel n : Nat) (ρ : Rho), n < fuel → I n ρ → DoesK κ (whileGo t B fuel ρ) R
  | 0, n, ρ, h, _ => absurd h (by omega)
  | fuel + 1, n, ρ, h, hI => by
    obtain ⟨c, hc, h1, h2⟩ := step n ρ hI
    refine does_eq hc ?_
    cases c with
    | false => exact does_ret (h2 rfl)
    | true =>
      rw [if_pos rfl]
      refine does_bnd (h1 rfl) fun o ⟨ρ', e, m, hm, hI'⟩ => ?_
      subst e
      exact while_does I step fuel m ρ' (by omega) hI'
end

abbrev encT (ns : List Int) : D := .tuple (ns.map .int)
section
variable {κ : Bool}
open PySem.W in
theorem lt_tup_cons {x y : D} (h : alike x y = true) (xs ys : List D) : dataLt (.tuple (x :: xs)) (.tuple (y :: ys)) = if PyData.eqv x y = true then dataLt (.tuple xs) (.tuple ys) else dataLt x y := by
  rw [dataLt_tuple, dataLt_cons h, ← dataLt_tuple]
theorem eqv_int (i j : Int) : PyData.eqv (.int i) (.int j) = decide (i = j) := by
  simp only [PyData.eqv]
  exact Bool.beq_eq_decide_eq _ _
open PySem.W in
theorem lt_int_cons (i j : Int) (xs ys : List D) : dataLt (.tuple (.int i :: xs)) (.tuple (.int j :: ys)) = if i = j then dataLt (.tuple xs) (.tuple ys) else decide (i < j) := by
  rw [lt_tup_cons rfl, eqv_int, dataLt_int]
  by_cases h : i = j <;> simp [h]
open PySem.W in
theorem lt_nil : dataLt (.tuple []) (.tuple []) = false := by
  rw [dataLt_tuple]
  exact PyProof.Rows.lex_irrefl _
end

abbrev Pr := Int × Int
def ClosedE (es : List Pr) (S : Int → Prop) : Prop := ∀ e ∈ es, S e.1 ↔ S e.2
structure LeastL (es : List Pr) (s0 : Int) (l : List Int) : Prop where
  nd : l.Nodup
  start : s0 ∈ l
  closed : ClosedE es (· ∈ l)
  least : ∀ S : Int → Prop, S s0 → ClosedE es S → ∀ x ∈ l, S x
theorem least_len {es : List Pr} {s0 : Int} {l m : List Int} (a : LeastL es s0 l) (b : LeastL es s0 m) : l.length = m.length := by
  have h1 : l ⊆ m := fun x hx => a.least (· ∈ m) b.start b.closed x hx
  have h2 : m ⊆ l := fun x hx => b.least (· ∈ l) a.start a.closed x hx
  have := a.nd.length_le_of_subset h1
  have := b.nd.length_le_of_subset h2
  omega
structure PartL (es : List Pr) (s0 : Int) (l : List Int) : Prop where
  nd : l.Nodup
  start : s0 ∈ l
  least : ∀ S : Int → Prop, S s0 → ClosedE es S → ∀ x ∈ l, S x
theorem PartL.one (es : List Pr) (s0 : Int) : PartL es s0 [s0] := ⟨by simp, by simp, fun S h _ x hx => by rw [List.mem_singleton] at hx; rw [hx]; exact h⟩
theorem PartL.add {es : List Pr} {s0 : Int} {l : List Int} (p : PartL es s0 l) {x y : Int} (hx : x ∈ l) (hy : ¬ y ∈ l) (he : (x, y) ∈ es ∨ (y, x) ∈ es) : PartL es s0 (l ++ [y]) := by
  refine ⟨?_, List.mem_append_left _ p.start, fun S h c z hz => ?_⟩
  · rw [List.nodup_append]
    exact ⟨p.nd, by simp, fun a ha b hb => by
      rw [List.mem_singleton] at hb
      subst hb
      exact fun e => hy (e ▸ ha)⟩
  · rcases List.mem_append.mp hz with hz | hz
    · exact p.least S h c z hz
    · rw [List.mem_singleton] at hz
      subst hz
      have hS := p.least S h c x hx
      rcases he with he | he
      · exact (c _ he).1 hS
      · exact (c _ he).2 hS
def stepJ (v : Int) (l : List Int) (e : Pr) : List Int := if (v = e.1 ∨ v = e.2) ∧ ¬ e.1 + e.2 - v ∈ l then l ++ [e.1 + e.2 - v] else l
theorem stepJ_sub (v : Int) (l : List Int) (e : Pr) : ∃ t, stepJ v l e = l ++ t := by
  unfold stepJ
  split
  · exact ⟨_, rfl⟩
  · exact ⟨[], by rw [List.append_nil]⟩
theorem stepJ_part {es : List Pr} {s0 v : Int} {l : List Int} (p : PartL es s0 l) (hv : v ∈ l) {e : Pr} (he : e ∈ es) : PartL es s0 (stepJ v l e) := by
  unfold stepJ
  by_cases h : (v = e.1 ∨ v = e.2) ∧ ¬ e.1 + e.2 - v ∈ l
  · rw [if_pos h]
    obtain ⟨h1, h2⟩ := h
    refine p.add hv h2 ?_
    rcases h1 with h1 | h1
    · exact .inl (by rw [h1, show e.1 + e.2 - e.1 = e.2 by omega]; exact he)
    · exact .inr (by rw [h1, show e.1 + e.2 - e.2 = e.1 by omega]; exact he)
  · rw [if_neg h]
    exact p
theorem stepJ_has {v : Int} {l : List Int} {e : Pr} (h : v = e.1 ∨ v = e.2) : e.1 + e.2 - v ∈ stepJ v l e := by
  unfold stepJ
  by_cases hm : e.1 + e.2 - v ∈ l
  · rw [if_neg (fun z => z.2 hm)]; exact hm
  · rw [if_pos ⟨h, hm⟩]; exact List.mem_append_right _ (by simp)
theorem turnJ {es : List Pr} {s0 v : Int} : ∀ (fs : List Pr) {l : List Int}, (∀ e ∈ fs, e ∈ es) → PartL es s0 l → v ∈ l → PartL es s0 (fs.foldl (stepJ v) l) ∧ (∃ t, fs.foldl (stepJ v) l = l ++ t) ∧ ∀ e ∈ fs, v = e.1 ∨ v = e.2 → e.1 + e.2 - v ∈ fs.foldl (stepJ v) l
  | [], l, _, p, _ => ⟨p, ⟨[], by rw [List.append_nil]; rfl⟩, fun _ h => nomatch h⟩
  | f :: fs, l, h, p, hv => by
    obtain ⟨t, ht⟩ := stepJ_sub v l f
    have hv' : v ∈ stepJ v l f := by rw [ht]; exact List.mem_append_left _ hv
    obtain ⟨h1, ⟨t2, h2⟩, h3⟩ := turnJ fs (l := stepJ v l f) (fun e he => h e (List.mem_cons_of_mem _ he)) (stepJ_part p hv (h f List.mem_cons_self)) hv'
    rw [List.foldl_cons]
    refine ⟨h1, ⟨t ++ t2, by rw [h2, ht, List.append_assoc]⟩, fun e he hv2 => ?_⟩
    rcases List.mem_cons.mp he with rfl | he
    · rw [h2]
      exact List.mem_append_left _ (stepJ_has hv2)
    · exact h3 e he hv2
structure DoneJ (es : List Pr) (s0 : Int) (l : List Int) (at' : Nat) : Prop where
  part : PartL es s0 l
  le : at' ≤ l.length
  done : ∀ (k : Nat) v, k < at' → l[k]? = some v → ∀ e ∈ es, v = e.1 ∨ v = e.2 → e.1 + e.2 - v ∈ l
theorem DoneJ.zero (es : List Pr) (s0 : Int) : DoneJ es s0 [s0] 0 := ⟨.one es s0, Nat.zero_le _, fun k v h => by omega⟩
theorem DoneJ.next {es : List Pr} {s0 v : Int} {l : List Int} {n : Nat} (d : DoneJ es s0 l n) (hv : l[n]? = some v) : DoneJ es s0 (es.foldl (stepJ v) l) (n + 1) := by
  obtain ⟨h1, ⟨t, h2⟩, h3⟩ := turnJ es (fun _ h => h) d.part (List.mem_of_getElem? hv)
  have hn := (List.getElem?_eq_some_iff.mp hv).1
  refine ⟨h1, by rw [h2, List.length_append]; omega, fun k w hk hw e he hwe => ?_⟩
  have hk2 : k < l.length := by omega
  rw [h2, List.getElem?_append_left hk2] at hw
  by_cases hkn : k = n
  · subst hkn
    rw [hv] at hw
    cases hw
    exact h3 e he hwe
  · rw [h2]
    exact List.mem_append_left _ (d.done k w (by omega) hw e he hwe)
theorem DoneJ.least {es : List Pr} {s0 : Int} {l : List Int} (d : DoneJ es s0 l l.length) : LeastL es s0 l := by
  refine ⟨d.part.nd, d.part.start, fun e he => ⟨fun h => ?_, fun h => ?_⟩, d.part.least⟩
  · obtain ⟨k, hk⟩ := List.getElem?_of_mem h
    have z := d.done k _ (List.getElem?_eq_some_iff.mp hk).1 hk e he (.inl rfl)
    rw [show e.1 + e.2 - e.1 = e.2 by omega] at z
    exact z
  · obtain ⟨k, hk⟩ := List.getElem?_of_mem h
    have z := d.done k _ (List.getElem?_eq_some_iff.mp hk).1 hk e he (.inr rfl)
    rw [show e.1 + e.2 - e.2 = e.1 by omega] at z
    exact z
def stepT (s : List Int × Bool) (e : Pr) : List Int × Bool := if decide (e.1 ∈ s.1) ≠ decide (e.2 ∈ s.1) then (s.1 ++ [if e.1 ∈ s.1 then e.2 else e.1], true) else s
theorem stepT_part {es : List Pr} {s0 : Int} {s : List Int × Bool} (p : PartL es s0 s.1) {e : Pr} (he : e ∈ es) : PartL es s0 (stepT s e).1 := by
  unfold stepT
  by_cases h1 : e.1 ∈ s.1
  · by_cases h2 : e.2 ∈ s.1
    · simp only [h1, h2]; exact p
    · simp only [h1, h2, decide_true, decide_false, ne_eq, Bool.true_eq_false, not_false_eq_true, if_true]
      exact p.add h1 h2 (.inl he)
  · by_cases h2 : e.2 ∈ s.1
    · simp only [h1, h2, decide_true, decide_false, ne_eq, Bool.false_eq_true, not_false_eq_true, if_true, if_false]
      exact p.add h2 h1 (.inr he)
    · simp only [h1, h2]; exact p
theorem turnT {es : List Pr} {s0 : Int} : ∀ (fs : List Pr) {s : List Int × Bool}, (∀ e ∈ fs, e ∈ es) → PartL es s0 s.1 → PartL es s0 (fs.foldl stepT s).1 ∧
    ((fs.foldl stepT s).2 = false → s.2 = false ∧ fs.foldl stepT s = s ∧ ∀ e ∈ fs, e.1 ∈ s.1 ↔ e.2 ∈ s.1) ∧ ((fs.foldl stepT s).2 = true → s.2 = true ∨ s.1.length < (fs.foldl stepT s).1.length) ∧ s.1.length ≤ (fs.foldl stepT s).1.length
  | [], s, _, p => ⟨p, fun h => ⟨h, rfl, fun _ h => nomatch h⟩, fun h => .inl h, Nat.le_refl _⟩
  | f :: fs, s, h, p => by
    obtain ⟨h1, h2, h3, h4⟩ := turnT fs (s := stepT s f) (fun e he => h e (List.mem_cons_of_mem _ he)) (stepT_part p (h f List.mem_cons_self))
    rw [List.foldl_cons]
    by_cases hd : decide (f.1 ∈ s.1) ≠ decide (f.2 ∈ s.1)
    · have e : stepT s f = (s.1 ++ [if f.1 ∈ s.1 then f.2 else f.1], true) := if_pos hd
      have l1 : (stepT s f).1.length = s.1.length + 1 := by rw [e, List.length_append, List.length_singleton]
      refine ⟨h1, fun z => ?_, fun _ => .inr (by omega), by omega⟩
      have := (h2 z).1
      rw [e] at this
      cases this
    · have e : stepT s f = s := if_neg hd
      rw [e] at h1 h2 h3 h4
      rw [e]
      refine ⟨h1, fun z => ?_, h3, h4⟩
      obtain ⟨z1, z2, z3⟩ := h2 z
      refine ⟨z1, z2, fun g hg => ?_⟩
      rcases List.mem_cons.mp hg with rfl | hg
      · have : decide (g.1 ∈ s.1) = decide (g.2 ∈ s.1) := by simpa using hd
        exact decide_eq_decide.mp this
      · exact z3 g hg
theorem endT {es : List Pr} {s0 : Int} {l : List Int} (p : PartL es s0 l) (h : (es.foldl stepT (l, false)).2 = false) : LeastL es s0 (es.foldl stepT (l, false)).1 := by
  obtain ⟨_, h2, _, _⟩ := turnT es (s := (l, false)) (fun _ h => h) p
  obtain ⟨_, e, c⟩ := h2 h
  rw [e]
  exact ⟨p.nd, p.start, c, p.least⟩
theorem part_len {es : List Pr} {s0 : Int} {l : List Int} (p : PartL es s0 l) {n : Nat} (h0 : 0 ≤ s0 ∧ s0 < n) (he : ∀ e ∈ es, (0 ≤ e.1 ∧ e.1 < n) ∧ 0 ≤ e.2 ∧ e.2 < n) : l.length ≤ n := by
  have hr : ∀ x ∈ l, 0 ≤ x ∧ x < (n : Int) := p.least (fun x => 0 ≤ x ∧ x < (n : Int)) h0 fun e hm => ⟨fun _ => (he e hm).2, fun _ => (he e hm).1⟩
  have sub : l ⊆ (List.range n).map fun (k : Nat) => (k : Int) := fun x hx => by
    have := hr x hx
    exact List.mem_map.mpr ⟨x.toNat, List.mem_range.mpr (by omega), by omega⟩
  have := p.nd.length_le_of_subset sub
  rw [List.length_map, List.length_range] at this
  exact this

abbrev E3 := Int × Int × Int
def enc3 (e : E3) : D := .tuple [.int e.1, .int e.2.1, .int e.2.2]
structure CabOk (many : Nat) (es : List E3) : Prop where
  m1 : 1 ≤ many
  m8 : many ≤ 8
  len : es.length ≤ 64
  row : ∀ e ∈ es, (0 ≤ e.1 ∧ e.1 < e.2.1) ∧ e.2.1 < many ∧ 0 ≤ e.2.2 ∧ e.2.2 ≤ 99
abbrev encCb (many : Nat) (es : List E3) : D := .tuple [.int (many : Int), .tuple (es.map enc3)]
def prOf (es : List E3) (p : Int) : Pr := ((es.getD p.toNat (0, 0, 0)).1, (es.getD p.toNat (0, 0, 0)).2.1)
theorem foldJ_sub (v : Int) : ∀ (fs : List Pr) (l : List Int), ∃ t, fs.foldl (stepJ v) l = l ++ t
  | [], l => ⟨[], by rw [List.append_nil]; rfl⟩
  | f :: fs, l => by
    obtain ⟨t, ht⟩ := stepJ_sub v l f
    obtain ⟨t2, h2⟩ := foldJ_sub v fs (stepJ v l f)
    exact ⟨t ++ t2, by rw [List.foldl_cons, h2, ht, List.append_assoc]⟩
theorem prs_in {many : Nat} {es : List E3} (ok : CabOk many es) {ps : List Int} (hp : ∀ p ∈ ps, 0 ≤ p ∧ p < es.length) : ∀ e ∈ ps.map (prOf es), (0 ≤ e.1 ∧ e.1 < (many : Int)) ∧ 0 ≤ e.2 ∧ e.2 < (many : Int) := fun e he => by
  obtain ⟨p, hpm, rfl⟩ := List.mem_map.mp he
  have h := hp p hpm
  have hk : p.toNat < es.length := by omega
  have e1 : es.getD p.toNat (0, 0, 0) = es[p.toNat] := by rw [List.getD_eq_getElem?_getD, List.getElem?_eq_getElem hk, Option.getD_some]
  have r := ok.row _ (List.getElem_mem hk)
  unfold prOf
  rw [e1]
  dsimp only
  omega
theorem edge_ix {many : Nat} {es : List E3} {p : Int} (h : 0 ≤ p ∧ p < es.length) : ∃ c : Int, oIx (.tuple (es.map enc3)) (.int p) = M.ret (.tuple [.int (prOf es p).1, .int (prOf es p).2, .int c]) := by
  have hk : p.toNat < es.length := by omega
  have e1 : es.getD p.toNat (0, 0, 0) = es[p.toNat] := by rw [List.getD_eq_getElem?_getD, List.getElem?_eq_getElem hk, Option.getD_some]
  refine ⟨es[p.toNat].2.2, ?_⟩
  unfold prOf
  rw [e1]
  have z := oIx_t (xs := es.map enc3) (i := p.toNat) (x := enc3 es[p.toNat]) (by rw [List.getElem?_map, List.getElem?_eq_getElem hk]; rfl)
  rw [Int.toNat_of_nonneg h.1] at z
  exact z
theorem lx_ix {r : List Int} {k : Nat} {v : Int} (h : r[k]? = some v) : oIx (.list (r.map .int)) (.int (k : Int)) = M.ret (.int v) := oIx_l (by rw [List.getElem?_map, h]; rfl)
abbrev jBody : DS := sSeq (sAsg (gT [(gN 6), (gN 7), (gN 8)]) (dBin oIx (dBin oIx (dVar 0) (dC (.int 1))) (dVar 5)))
  (sIf (tAnd (tOf (dBin oIn (dBin oIx (dVar 3) (dVar 4)) (dTup [(dVar 6), (dVar 7)]))) (tOf (dBin oNotIn (dBin oSub (dBin oAdd (dVar 6) (dVar 7)) (dBin oIx (dVar 3) (dVar 4))) (dVar 3)))) (sAppF 3 (dBin oSub (dBin oAdd (dVar 6) (dVar 7)) (dBin oIx (dVar 3) (dVar 4)))) sNil)
theorem inner_j {many : Nat} {es : List E3} (ok : CabOk many es) {ps : List Int} (hp : ∀ p ∈ ps, 0 ≤ p ∧ p < es.length) {l : List Int} {n : Nat} {v : Int} (hv : l[n]? = some v) (pl : PartL (ps.map (prOf es)) 0 l) (x5 x6 x7 x8 : Option Slot) :
    ∃ x5' x6' x7' x8', forGo (gN 5) jBody (ps.map .int) [some (.dat (encCb many es)), some (.dat (encT ps)), some (.dat (.int 0)), some (.own (l.map .int)), some (.dat (.int (n : Int))), x5, x6, x7, x8] = M.ret (.next [some (.dat (encCb many es)), some (.dat (encT ps)), some (.dat (.int 0)), some (.own (((ps.map (prOf es)).foldl (stepJ v) l).map .int)), some (.dat (.int (n : Int))), x5', x6', x7', x8']) := by
  have m1 := ok.m1
  have m8 := ok.m8
  obtain ⟨r, er, x5', x6', x7', x8', _, hr⟩ := for_all (as := ps) (g := gN 5) (B := jBody) (ρ := [some (.dat (encCb many es)), some (.dat (encT ps)), some (.dat (.int 0)), some (.own (l.map .int)), some (.dat (.int (n : Int))), x5, x6, x7, x8]) PyData.int
    (fun j ρ => ∃ x5 x6 x7 x8, PartL (ps.map (prOf es)) 0 (((ps.take j).map (prOf es)).foldl (stepJ v) l) ∧ ρ = [some (.dat (encCb many es)), some (.dat (encT ps)), some (.dat (.int 0)), some (.own ((((ps.take j).map (prOf es)).foldl (stepJ v) l).map .int)), some (.dat (.int (n : Int))), x5, x6, x7, x8]) ⟨_, _, _, _, pl, rfl⟩ fun j p ρ hj ⟨x5, x6, x7, x8, pj, hI⟩ => by
      subst hI
      have hpm := List.mem_of_getElem? hj
      obtain ⟨c, ec⟩ := edge_ix (many := many) (hp p hpm)
      have et : ps.take (j + 1) = ps.take j ++ [p] := by rw [List.take_add_one, hj]; rfl
      obtain ⟨t, ht⟩ := foldJ_sub v ((ps.take j).map (prOf es)) l
      rw [et, List.map_append, List.foldl_append]
      generalize ((ps.take j).map (prOf es)).foldl (stepJ v) l = f at *
      have hf : f[n]? = some v := by
        rw [ht, List.getElem?_append_left (List.getElem?_eq_some_iff.mp hv).1]
        exact hv
      have hvf : v ∈ f := List.mem_of_getElem? hf
      have ix := lx_ix hf
      have i1 : oIx (encCb many es) (.int 1) = M.ret (.tuple (es.map enc3)) := rfl
      have hl := part_len pj (by omega) (prs_in ok hp)
      have hpart : PartL (ps.map (prOf es)) 0 ([prOf es p].foldl (stepJ v) f) := stepJ_part pj hvf (List.mem_map.mpr ⟨p, hpm, rfl⟩)
      have e20 : (2 : Nat) ^ 20 = 1048576 := by decide +kernel
      have hlm : (f.map PyData.int).length < lineMax := line_lt (by rw [List.length_map]; omega)
      generalize encCb many es = C at *
      generalize es.map enc3 = E at *
      rw [show (List.map (prOf es) [p]).foldl (stepJ v) f = stepJ v f (prOf es p) from rfl]
      have hstep : PartL (ps.map (prOf es)) 0 (stepJ v f (prOf es p)) := hpart
      generalize prOf es p = e at *
      have in2 : oIn (.int v) (.tuple [.int e.1, .int e.2]) = M.ret (.bool (decide (v ∈ [e.1, e.2]))) := in_ints_t v [e.1, e.2]
      have fl : flatD (.int (e.1 + e.2 - v)) = true := by rw [flatD]
      refine ⟨_, .inl ?_, some (.dat (.int p)), some (.dat (.int e.1)), some (.dat (.int e.2)), some (.dat (.int c)), hstep, rfl⟩
      unfold jBody stepJ
      by_cases h1 : v = e.1 ∨ v = e.2
      · have d1 : decide (v ∈ [e.1, e.2]) = true := decide_eq_true (by simpa using h1)
        by_cases h2 : e.1 + e.2 - v ∈ f
        · rw [if_neg (fun z => z.2 h2)]
          simp only [at_gn, bnd_ret, set_0, set_s, at_seq, at_asg, hide_cons, hide1_d, hide1_o, hide_nil, at_bin, at_v0, at_vs, at_o0, at_c, i1, ec, at_g3, at_sif, at_and, at_tofk, at_tup, at_eachs, at_each0, ix, in2, d1, if_true, add_ints, sub_ints, notin_ints_l, h2, decide_true, Bool.not_true, Bool.false_eq_true, if_false, at_nil]
        · rw [if_pos ⟨h1, h2⟩]
          simp only [at_gn, bnd_ret, set_0, set_s, at_seq, at_asg, hide_cons, hide1_d, hide1_o, hide_nil, at_bin, at_v0, at_vs, at_o0, at_c, i1, ec, at_g3, at_sif, at_and, at_tofk, at_tup, at_eachs, at_each0, ix, in2, d1, if_true, add_ints, sub_ints, notin_ints_l, h2, decide_false, Bool.not_false]
          rw [at_sappf (ds := f.map .int) rfl hlm]
          simp only [at_bin, at_v0, at_vs, at_o0, bnd_ret, ix, add_ints, sub_ints, fl, if_true, set_0, set_s, List.map_append, List.map_cons, List.map_nil]
      · have d1 : decide (v ∈ [e.1, e.2]) = false := decide_eq_false (by simpa using h1)
        rw [if_neg (fun z => h1 z.1)]
        simp only [at_gn, bnd_ret, set_0, set_s, at_seq, at_asg, hide_cons, hide1_d, hide1_o, hide_nil, at_bin, at_v0, at_vs, at_o0, at_c, i1, ec, at_g3, at_sif, at_and, at_tofk, at_tup, at_eachs, at_each0, ix, in2, d1, Bool.false_eq_true, if_false, at_nil]
  subst hr
  rw [List.take_length] at er
  exact ⟨x5', x6', x7', x8', er⟩

theorem joined_ok {κ : Bool} {many : Nat} {es : List E3} (ok : CabOk many es) {ps : List Int} (hp : ∀ p ∈ ps, 0 ≤ p ∧ p < es.length) :
    DoesK κ (F_joined [.d (encCb many es), .d (encT ps), .d (.int 0)]) fun d => ∃ (l : List Int) (ds : List D), d = .tuple ds ∧ ds.length = l.length ∧ LeastL (ps.map (prOf es)) 0 l := by
  have m1 := ok.m1
  have m8 := ok.m8
  have e20 : (2 : Nat) ^ 20 = 1048576 := by decide +kernel
  refine does_fn rfl ?_
  show DoesK _ (_ : M Out) _
  simp only [List.map_cons, List.map_nil, slot_d, List.cons_append, List.nil_append, List.replicate]
  refine seq_own (ds := [.int 0]) (by simp only [at_emp, at_dis1, at_ow0, at_ows, at_calln, isLst_ret, at_c, at_bin, at_un, at_v0, at_o0, at_vs, at_tup, at_lst, at_each0, at_eachs, at_ad, at_p0, at_ps, at_args0, at_argss, at_call, at_tofk, at_and, at_or, at_not, at_dand, at_dor, at_dnot, at_if, at_chain, at_gn, at_g2, at_g3, at_g4, at_iseq, at_r1, at_r2, turn_def, at_sasgn, at_sforr, at_nil, at_seq, at_asg, at_sown, at_sret, at_sretn, at_sif, at_sdrop, at_sbrk, at_scont, at_sfor, hide_nil, hide_cons, hide1_d, hide1_n, hide1_p, hide1_o, set_0, set_s, bnd_ret, bnd_stuck, bnd_bnd, bnd_ite, slot_d, slot_p, wipeR, List.map_cons, List.map_nil, List.cons_append, List.nil_append, List.replicate, add_ints, sub_ints, le_ints, lt_ints, ge_ints, gt_ints, neg_ints, min2_ints, max2_ints, oEq_ints, oNe_ints, oEq_bools, oNe_bools, len_tup, len_lst, revL_l, oEq_strs, oNe_strs, tuple_l, tuple_t, list_l, list_t, at_sl, at_pn, at_ps', sl_tup', sl_lst', is_T, is_L, is_I, is_B, is_S, is_N, not_N, isT_n, isT_b, isT_i, isT_s, isT_t, isT_l, isT_d, isL_n, isL_b, isL_i, isL_s, isL_t, isL_l, isL_d, isI_n, isI_b, isI_i, isI_s, isI_t, isI_l, isI_d, isB_n, isB_b, isB_i, isB_s, isB_t, isB_l, isB_d, isS_n, isS_b, isS_i, isS_s, isS_t, isS_l, isS_d, isN_n, isN_b, isN_i, isN_s, isN_t, isN_l, isN_d, decide_eq_true_eq, Bool.not_eq_true', decide_eq_false_iff_not, Bool.false_eq_true, if_true, if_false, decide_true, decide_false, Bool.not_true, Bool.not_false, not_true_eq_false, not_false_eq_true, ret_ite_o, Int.reduceLT, Int.reduceLE, Int.reduceEq, Int.reduceAdd, Int.reduceSub, Int.reduceNeg, reduceCtorEq]) ?_
  refine seq_asg (P := (· = .int 0)) ?_ ?_
  · simp only [at_emp, at_dis1, at_ow0, at_ows, at_calln, isLst_ret, at_c, at_bin, at_un, at_v0, at_o0, at_vs, at_tup, at_lst, at_each0, at_eachs, at_ad, at_p0, at_ps, at_args0, at_argss, at_call, at_tofk, at_and, at_or, at_not, at_dand, at_dor, at_dnot, at_if, at_chain, at_gn, at_g2, at_g3, at_g4, at_iseq, at_r1, at_r2, turn_def, at_sasgn, at_sforr, at_nil, at_seq, at_asg, at_sown, at_sret, at_sretn, at_sif, at_sdrop, at_sbrk, at_scont, at_sfor, hide_nil, hide_cons, hide1_d, hide1_n, hide1_p, hide1_o, set_0, set_s, bnd_ret, bnd_stuck, bnd_bnd, bnd_ite, slot_d, slot_p, wipeR, List.map_cons, List.map_nil, List.cons_append, List.nil_append, List.replicate, add_ints, sub_ints, le_ints, lt_ints, ge_ints, gt_ints, neg_ints, min2_ints, max2_ints, oEq_ints, oNe_ints, oEq_bools, oNe_bools, len_tup, len_lst, revL_l, oEq_strs, oNe_strs, tuple_l, tuple_t, list_l, list_t, at_sl, at_pn, at_ps', sl_tup', sl_lst', is_T, is_L, is_I, is_B, is_S, is_N, not_N, isT_n, isT_b, isT_i, isT_s, isT_t, isT_l, isT_d, isL_n, isL_b, isL_i, isL_s, isL_t, isL_l, isL_d, isI_n, isI_b, isI_i, isI_s, isI_t, isI_l, isI_d, isB_n, isB_b, isB_i, isB_s, isB_t, isB_l, isB_d, isS_n, isS_b, isS_i, isS_s, isS_t, isS_l, isS_d, isN_n, isN_b, isN_i, isN_s, isN_t, isN_l, isN_d, decide_eq_true_eq, Bool.not_eq_true', decide_eq_false_iff_not, Bool.false_eq_true, if_true, if_false, decide_true, decide_false, Bool.not_true, Bool.not_false, not_true_eq_false, not_false_eq_true, ret_ite_o, Int.reduceLT, Int.reduceLE, Int.reduceEq, Int.reduceAdd, Int.reduceSub, Int.reduceNeg, reduceCtorEq]
    exact does_ret rfl
  rintro _ rfl
  simp only [set_0, set_s]
  refine seq_next (P := fun ρ => ∃ l x5 x6 x7 x8, LeastL (ps.map (prOf es)) 0 l ∧ l.length ≤ many ∧ ρ = [some (.dat (encCb many es)), some (.dat (encT ps)), some (.dat (.int 0)), some (.own (l.map .int)), some (.dat (.int (l.length : Int))), x5, x6, x7, x8]) ?_ ?_
  · rw [at_swhile]
    refine while_does (fun n ρ => ∃ l at' x5 x6 x7 x8, DoneJ (ps.map (prOf es)) 0 l at' ∧ n = many - at' ∧ ρ = [some (.dat (encCb many es)), some (.dat (encT ps)), some (.dat (.int 0)), some (.own (l.map .int)), some (.dat (.int (at' : Int))), x5, x6, x7, x8]) (fun n ρ hI => ?_) fuelW many _ (by unfold fuelW; omega) ⟨[0], 0, _, _, _, _, .zero _ _, by omega, rfl⟩
    obtain ⟨l, at', x5, x6, x7, x8, dn, hn, rfl⟩ := hI
    have hl := part_len dn.part (by omega) (prs_in ok hp)
    have hle := dn.le
    by_cases hlt : at' < l.length
    · refine ⟨true, of_eq ?_, fun _ => ?_, fun z => nomatch z⟩
      · simp only [at_tofk, at_bin, at_un, at_v0, at_vs, at_o0, bnd_ret, len_lst, List.length_map, lt_ints]
        rw [decide_eq_true (by omega)]
      · have hv : l[at']? = some l[at'] := List.getElem?_eq_getElem hlt
        obtain ⟨x5', x6', x7', x8', e⟩ := inner_j ok hp hv dn.part x5 x6 x7 x8
        rw [at_seq, at_sfor]
        simp only [at_iseq, at_v0, at_vs, hide_cons, hide1_d, hide1_o, hide_nil, bnd_ret]
        have e' : forGo (gN 5) jBody (ps.map .int) [some (.dat (encCb many es)), some (.dat (.tuple (ps.map .int))), some (.dat (.int 0)), some (.own (l.map .int)), some (.dat (.int (at' : Int))), x5, x6, x7, x8] = _ := e
        rw [e', bnd_ret]
        refine does_of (a := .next [some (.dat (encCb many es)), some (.dat (encT ps)), some (.dat (.int 0)), some (.own (((ps.map (prOf es)).foldl (stepJ l[at']) l).map .int)), some (.dat (.int ((at' + 1 : Nat) : Int))), x5', x6', x7', x8']) ?_ ⟨_, rfl, many - (at' + 1), by omega, _, _, _, _, _, _, dn.next hv, rfl, rfl⟩
        rfl
    · have ea : at' = l.length := by omega
      subst ea
      refine ⟨false, of_eq ?_, fun z => (nomatch z), fun _ => ⟨_, rfl, l, x5, x6, x7, x8, dn.least, hl, rfl⟩⟩
      simp only [at_tofk, at_bin, at_un, at_v0, at_vs, at_o0, bnd_ret, len_lst, List.length_map, lt_ints]
      rw [decide_eq_false (by omega)]
  rintro _ ⟨l, x5, x6, x7, x8, hl, hn, rfl⟩
  have so := sorted_ints l (by omega)
  simp only [at_sret, at_un, at_v0, at_vs, at_o0, bnd_ret, so, tuple_l]
  exact does_ret ⟨l, _, rfl, by rw [List.length_map, List.length_mergeSort], hl⟩
def prE (e : E3) : Pr := (e.1, e.2.1)
abbrev tBody : DS := sIf (tOf (dBin oNe (dBin oIn (dBin oIx (dVar 5) (dC (.int 0))) (dVar 3)) (dBin oIn (dBin oIx (dVar 5) (dC (.int 1))) (dVar 3)))) (sSeq (sAppF 3 (dIf (tOf (dBin oIn (dBin oIx (dVar 5) (dC (.int 0))) (dVar 3))) (dBin oIx (dVar 5) (dC (.int 1))) (dBin oIx (dVar 5) (dC (.int 0)))))
  (sAsg (gN 4) (dC (.bool true)))) sNil
theorem inner_t {many : Nat} (m8 : many ≤ 8) (m1 : 1 ≤ many) {qs : List E3} (hin : ∀ e ∈ qs.map prE, (0 ≤ e.1 ∧ e.1 < (many : Int)) ∧ 0 ≤ e.2 ∧ e.2 < (many : Int)) {l : List Int} (pl : PartL (qs.map prE) 0 l) (M0 : D) (x5 : Option Slot) :
    ∃ x5', forGo (gN 5) tBody (qs.map enc3) [some (.dat M0), some (.dat (.list (qs.map enc3))), some (.dat (.int 0)), some (.own (l.map .int)), some (.dat (.bool false)), x5] = M.ret (.next [some (.dat M0), some (.dat (.list (qs.map enc3))), some (.dat (.int 0)), some (.own (((qs.map prE).foldl stepT (l, false)).1.map .int)), some (.dat (.bool ((qs.map prE).foldl stepT (l, false)).2)), x5']) := by
  have e20 : (2 : Nat) ^ 20 = 1048576 := by decide +kernel
  obtain ⟨r, er, x5', _, hr⟩ := for_all (as := qs) (g := gN 5) (B := tBody) (ρ := [some (.dat M0), some (.dat (.list (qs.map enc3))), some (.dat (.int 0)), some (.own (l.map .int)), some (.dat (.bool false)), x5]) enc3
    (fun j ρ => ∃ x5, PartL (qs.map prE) 0 (((qs.take j).map prE).foldl stepT (l, false)).1 ∧ ρ = [some (.dat M0), some (.dat (.list (qs.map enc3))), some (.dat (.int 0)), some (.own ((((qs.take j).map prE).foldl stepT (l, false)).1.map .int)), some (.dat (.bool (((qs.take j).map prE).foldl stepT (l, false)).2)), x5]) ⟨_, pl, rfl⟩ fun j q ρ hj ⟨x5, pj, hI⟩ => by
      subst hI
      have et : qs.take (j + 1) = qs.take j ++ [q] := by rw [List.take_add_one, hj]; rfl
      rw [et, List.map_append, List.foldl_append]
      generalize ((qs.take j).map prE).foldl stepT (l, false) = s at *
      obtain ⟨f, g⟩ := s
      rw [show (List.map prE [q]).foldl stepT (f, g) = stepT (f, g) (prE q) from rfl]
      have hpart : PartL (qs.map prE) 0 (stepT (f, g) (prE q)).1 := stepT_part pj (List.mem_map.mpr ⟨q, List.mem_of_getElem? hj, rfl⟩)
      have hl := part_len pj (by omega) hin
      dsimp only at hl
      have hlm : (f.map PyData.int).length < lineMax := line_lt (by rw [List.length_map]; omega)
      have i0 : oIx (enc3 q) (.int 0) = M.ret (.int (prE q).1) := rfl
      have i1 : oIx (enc3 q) (.int 1) = M.ret (.int (prE q).2) := rfl
      generalize prE q = e at *
      generalize enc3 q = Q at *
      have fl : ∀ n : Int, flatD (.int n) = true := fun n => by rw [flatD]
      refine ⟨[some (.dat M0), some (.dat (.list (qs.map enc3))), some (.dat (.int 0)), some (.own ((stepT (f, g) e).1.map .int)), some (.dat (.bool (stepT (f, g) e).2)), some (.dat Q)], .inl ?_, some (.dat Q), hpart, rfl⟩
      unfold tBody
      by_cases h1 : e.1 ∈ f
      · by_cases h2 : e.2 ∈ f
        · have es' : stepT (f, g) e = (f, g) := by unfold stepT; simp only [h1, h2]; rfl
          rw [es']
          simp only [at_gn, bnd_ret, set_0, set_s, at_sif, at_tofk, at_bin, at_v0, at_vs, at_o0, at_c, i0, i1, in_ints_l, oNe_bools, h1, h2, eq_self, Bool.not_true, Bool.not_false, Bool.true_eq_false, Bool.false_eq_true, if_true, decide_true, not_true_eq_false, decide_false, Bool.false_eq_true, if_false, at_nil, ne_eq]
        · have es' : stepT (f, g) e = (f ++ [e.2], true) := by unfold stepT; simp [h1, h2]
          rw [es']
          simp only [at_gn, bnd_ret, set_0, set_s, at_sif, at_tofk, at_bin, at_v0, at_vs, at_o0, at_c, i0, i1, in_ints_l, oNe_bools, h1, h2, eq_self, Bool.not_true, Bool.not_false, Bool.true_eq_false, Bool.false_eq_true, if_true, decide_true, decide_false, ne_eq, Bool.true_eq_false, not_false_eq_true, if_true, at_seq]
          rw [at_sappf (ds := f.map .int) rfl hlm]
          simp only [at_if, at_tofk, at_bin, at_v0, at_vs, at_o0, at_c, bnd_ret, i0, i1, in_ints_l, h1, decide_true, if_true, fl, set_0, set_s, List.map_append, List.map_cons, List.map_nil, at_asg, at_gn]
      · by_cases h2 : e.2 ∈ f
        · have es' : stepT (f, g) e = (f ++ [e.1], true) := by unfold stepT; simp [h1, h2]
          rw [es']
          simp only [at_gn, bnd_ret, set_0, set_s, at_sif, at_tofk, at_bin, at_v0, at_vs, at_o0, at_c, i0, i1, in_ints_l, oNe_bools, h1, h2, eq_self, Bool.not_true, Bool.not_false, Bool.true_eq_false, Bool.false_eq_true, if_true, decide_true, decide_false, ne_eq, Bool.false_eq_true, not_false_eq_true, if_true, at_seq]
          rw [at_sappf (ds := f.map .int) rfl hlm]
          simp only [at_if, at_tofk, at_bin, at_v0, at_vs, at_o0, at_c, bnd_ret, i0, i1, in_ints_l, h1, decide_false, Bool.false_eq_true, if_false, fl, if_true, set_0, set_s, List.map_append, List.map_cons, List.map_nil, at_asg, at_gn]
        · have es' : stepT (f, g) e = (f, g) := by unfold stepT; simp only [h1, h2]; rfl
          rw [es']
          simp only [at_gn, bnd_ret, set_0, set_s, at_sif, at_tofk, at_bin, at_v0, at_vs, at_o0, at_c, i0, i1, in_ints_l, oNe_bools, h1, h2, eq_self, Bool.not_true, Bool.not_false, Bool.true_eq_false, Bool.false_eq_true, if_true, decide_false, decide_true, not_true_eq_false, Bool.false_eq_true, if_false, at_nil, ne_eq]
  subst hr
  rw [List.take_length] at er
  exact ⟨x5', er⟩
theorem together_ok {κ : Bool} {many : Nat} (m8 : many ≤ 8) (m1 : 1 ≤ many) {qs : List E3} (hin : ∀ e ∈ qs.map prE, (0 ≤ e.1 ∧ e.1 < (many : Int)) ∧ 0 ≤ e.2 ∧ e.2 < (many : Int)) (M0 : D) :
    DoesK κ (F__law_together [.d M0, .d (.list (qs.map enc3)), .d (.int 0)]) fun d => ∃ (l : List Int) (ds : List D), d = .list ds ∧ ds.length = l.length ∧ LeastL (qs.map prE) 0 l := by
  have e20 : (2 : Nat) ^ 20 = 1048576 := by decide +kernel
  refine does_fn rfl ?_
  show DoesK _ (_ : M Out) _
  simp only [List.map_cons, List.map_nil, slot_d, List.cons_append, List.nil_append, List.replicate]
  refine seq_own (ds := [.int 0]) (by simp only [at_emp, at_dis1, at_ow0, at_ows, at_calln, isLst_ret, at_c, at_bin, at_un, at_v0, at_o0, at_vs, at_tup, at_lst, at_each0, at_eachs, at_ad, at_p0, at_ps, at_args0, at_argss, at_call, at_tofk, at_and, at_or, at_not, at_dand, at_dor, at_dnot, at_if, at_chain, at_gn, at_g2, at_g3, at_g4, at_iseq, at_r1, at_r2, turn_def, at_sasgn, at_sforr, at_nil, at_seq, at_asg, at_sown, at_sret, at_sretn, at_sif, at_sdrop, at_sbrk, at_scont, at_sfor, hide_nil, hide_cons, hide1_d, hide1_n, hide1_p, hide1_o, set_0, set_s, bnd_ret, bnd_stuck, bnd_bnd, bnd_ite, slot_d, slot_p, wipeR, List.map_cons, List.map_nil, List.cons_append, List.nil_append, List.replicate, add_ints, sub_ints, le_ints, lt_ints, ge_ints, gt_ints, neg_ints, min2_ints, max2_ints, oEq_ints, oNe_ints, oEq_bools, oNe_bools, len_tup, len_lst, revL_l, oEq_strs, oNe_strs, tuple_l, tuple_t, list_l, list_t, at_sl, at_pn, at_ps', sl_tup', sl_lst', is_T, is_L, is_I, is_B, is_S, is_N, not_N, isT_n, isT_b, isT_i, isT_s, isT_t, isT_l, isT_d, isL_n, isL_b, isL_i, isL_s, isL_t, isL_l, isL_d, isI_n, isI_b, isI_i, isI_s, isI_t, isI_l, isI_d, isB_n, isB_b, isB_i, isB_s, isB_t, isB_l, isB_d, isS_n, isS_b, isS_i, isS_s, isS_t, isS_l, isS_d, isN_n, isN_b, isN_i, isN_s, isN_t, isN_l, isN_d, decide_eq_true_eq, Bool.not_eq_true', decide_eq_false_iff_not, Bool.false_eq_true, if_true, if_false, decide_true, decide_false, Bool.not_true, Bool.not_false, not_true_eq_false, not_false_eq_true, ret_ite_o, Int.reduceLT, Int.reduceLE, Int.reduceEq, Int.reduceAdd, Int.reduceSub, Int.reduceNeg, reduceCtorEq]) ?_
  refine seq_asg (P := (· = .bool true)) ?_ ?_
  · simp only [at_emp, at_dis1, at_ow0, at_ows, at_calln, isLst_ret, at_c, at_bin, at_un, at_v0, at_o0, at_vs, at_tup, at_lst, at_each0, at_eachs, at_ad, at_p0, at_ps, at_args0, at_argss, at_call, at_tofk, at_and, at_or, at_not, at_dand, at_dor, at_dnot, at_if, at_chain, at_gn, at_g2, at_g3, at_g4, at_iseq, at_r1, at_r2, turn_def, at_sasgn, at_sforr, at_nil, at_seq, at_asg, at_sown, at_sret, at_sretn, at_sif, at_sdrop, at_sbrk, at_scont, at_sfor, hide_nil, hide_cons, hide1_d, hide1_n, hide1_p, hide1_o, set_0, set_s, bnd_ret, bnd_stuck, bnd_bnd, bnd_ite, slot_d, slot_p, wipeR, List.map_cons, List.map_nil, List.cons_append, List.nil_append, List.replicate, add_ints, sub_ints, le_ints, lt_ints, ge_ints, gt_ints, neg_ints, min2_ints, max2_ints, oEq_ints, oNe_ints, oEq_bools, oNe_bools, len_tup, len_lst, revL_l, oEq_strs, oNe_strs, tuple_l, tuple_t, list_l, list_t, at_sl, at_pn, at_ps', sl_tup', sl_lst', is_T, is_L, is_I, is_B, is_S, is_N, not_N, isT_n, isT_b, isT_i, isT_s, isT_t, isT_l, isT_d, isL_n, isL_b, isL_i, isL_s, isL_t, isL_l, isL_d, isI_n, isI_b, isI_i, isI_s, isI_t, isI_l, isI_d, isB_n, isB_b, isB_i, isB_s, isB_t, isB_l, isB_d, isS_n, isS_b, isS_i, isS_s, isS_t, isS_l, isS_d, isN_n, isN_b, isN_i, isN_s, isN_t, isN_l, isN_d, decide_eq_true_eq, Bool.not_eq_true', decide_eq_false_iff_not, Bool.false_eq_true, if_true, if_false, decide_true, decide_false, Bool.not_true, Bool.not_false, not_true_eq_false, not_false_eq_true, ret_ite_o, Int.reduceLT, Int.reduceLE, Int.reduceEq, Int.reduceAdd, Int.reduceSub, Int.reduceNeg, reduceCtorEq]
    exact does_ret rfl
  rintro _ rfl
  simp only [set_0, set_s]
  refine seq_next (P := fun ρ => ∃ l x4 x5, LeastL (qs.map prE) 0 l ∧ l.length ≤ many ∧ ρ = [some (.dat M0), some (.dat (.list (qs.map enc3))), some (.dat (.int 0)), some (.own (l.map .int)), x4, x5]) ?_ ?_
  · rw [at_swhile]
    refine while_does (fun n ρ => ∃ l g x5, PartL (qs.map prE) 0 l ∧ ((g = true ∧ n = many + 1 - l.length) ∨ (g = false ∧ LeastL (qs.map prE) 0 l ∧ n = 0)) ∧ ρ = [some (.dat M0), some (.dat (.list (qs.map enc3))), some (.dat (.int 0)), some (.own (l.map .int)), some (.dat (.bool g)), x5]) (fun n ρ hI => ?_) fuelW (many + 1 - 1) _ (by unfold fuelW; omega) ⟨[0], true, _, .one _ _, .inl ⟨rfl, rfl⟩, rfl⟩
    obtain ⟨l, g, x5, pl, hg, rfl⟩ := hI
    have hl := part_len pl (by omega) hin
    rcases hg with ⟨rfl, hn⟩ | ⟨rfl, hle, hn⟩
    · refine ⟨true, of_eq ?_, fun _ => ?_, fun z => nomatch z⟩
      · simp only [at_tofk, at_v0, at_vs, bnd_ret]
      · obtain ⟨x5', e⟩ := inner_t m8 m1 hin pl M0 x5
        obtain ⟨t1, _, t3, _⟩ := turnT (qs.map prE) (s := (l, false)) (fun _ h => h) pl
        have hl2 := part_len t1 (by omega) hin
        rw [at_seq, at_asg]
        simp only [at_c, bnd_ret, at_gn, set_0, set_s]
        rw [at_sfor]
        simp only [at_iseq, at_v0, at_vs, hide_cons, hide1_d, hide1_o, hide_nil, bnd_ret]
        rw [e]
        cases hb : ((qs.map prE).foldl stepT (l, false)).2 with
        | true =>
          rcases t3 hb with z | z
          · cases z
          · exact does_ret ⟨_, rfl, many + 1 - ((qs.map prE).foldl stepT (l, false)).1.length, by dsimp only at z; omega, _, true, _, t1, .inl ⟨rfl, rfl⟩, rfl⟩
        | false => exact does_ret ⟨_, rfl, 0, by omega, _, false, _, t1, .inr ⟨rfl, endT pl hb, rfl⟩, rfl⟩
    · refine ⟨false, of_eq ?_, fun z => (nomatch z), fun _ => ⟨_, rfl, l, _, x5, hle, hl, rfl⟩⟩
      simp only [at_tofk, at_v0, at_vs, bnd_ret]
  rintro _ ⟨l, x4, x5, hl, hn, rfl⟩
  have so := sorted_ints l (by omega)
  simp only [at_sret, at_un, at_v0, at_vs, at_o0, bnd_ret, so]
  exact does_ret ⟨l, _, rfl, by rw [List.length_map, List.length_mergeSort], hl⟩

def Conn (F : List Pr) (x y : Int) : Prop := ∀ S : Int → Prop, ClosedE F S → S x → S y
theorem Conn.refl (F : List Pr) (x : Int) : Conn F x x := fun _ _ h => h
theorem Conn.trans {F : List Pr} {x y z : Int} (a : Conn F x y) (b : Conn F y z) : Conn F x z := fun S c h => b S c (a S c h)
theorem Conn.symm {F : List Pr} {x y : Int} (a : Conn F x y) : Conn F y x := fun S c h => Classical.byContradiction fun n => a (fun z => ¬ S z) (fun e he => not_congr (c e he)) n h
theorem conn_edge {F : List Pr} {e : Pr} (h : e ∈ F) : Conn F e.1 e.2 := fun S c s => (c e h).1 s
theorem conn_of {F G : List Pr} (h : ∀ e ∈ F, Conn G e.1 e.2) {x y : Int} (a : Conn F x y) : Conn G x y := fun S c s => a S (fun e he => ⟨fun q => h e he S c q, fun q => (h e he).symm S c q⟩) s
theorem conn_sub {F G : List Pr} (h : ∀ e ∈ F, e ∈ G) {x y : Int} (a : Conn F x y) : Conn G x y := conn_of (fun e he => conn_edge (h e he)) a
theorem conn_cons {F : List Pr} {e : Pr} {x y : Int} (a : Conn (e :: F) x y) : Conn F x y ∨ (Conn F x e.1 ∧ Conn F e.2 y) ∨ (Conn F x e.2 ∧ Conn F e.1 y) := by
  refine a (fun z => Conn F x z ∨ (Conn F x e.1 ∧ Conn F e.2 z) ∨ (Conn F x e.2 ∧ Conn F e.1 z)) (fun g hg => ?_) (.inl (.refl F x))
  rcases List.mem_cons.mp hg with rfl | hg
  · constructor
    · rintro (h | ⟨h, _⟩ | ⟨h, _⟩)
      · exact .inr (.inl ⟨h, .refl _ _⟩)
      · exact .inr (.inl ⟨h, .refl _ _⟩)
      · exact .inl h
    · rintro (h | ⟨h, _⟩ | ⟨h, _⟩)
      · exact .inr (.inr ⟨h, .refl _ _⟩)
      · exact .inl h
      · exact .inr (.inr ⟨h, .refl _ _⟩)
  · have k := conn_edge hg
    constructor
    · rintro (h | ⟨h1, h2⟩ | ⟨h1, h2⟩)
      · exact .inl (h.trans k)
      · exact .inr (.inl ⟨h1, h2.trans k⟩)
      · exact .inr (.inr ⟨h1, h2.trans k⟩)
    · rintro (h | ⟨h1, h2⟩ | ⟨h1, h2⟩)
      · exact .inl (h.trans k.symm)
      · exact .inr (.inl ⟨h1, h2.trans k.symm⟩)
      · exact .inr (.inr ⟨h1, h2.trans k.symm⟩)
theorem least_conn {F : List Pr} {s : Int} {l : List Int} (h : LeastL F s l) (y : Int) : y ∈ l ↔ Conn F s y := ⟨fun hy S c q => h.least S q c y hy, fun a => a (· ∈ l) h.closed h.start⟩
def All (n : Nat) (F : List Pr) : Prop := ∀ x y : Int, 0 ≤ x ∧ x < n → 0 ≤ y ∧ y < n → Conn F x y
def nat0 (n : Nat) : List Int := (List.range n).map fun (k : Nat) => (k : Int)
theorem nat0_mem {n : Nat} {x : Int} : x ∈ nat0 n ↔ 0 ≤ x ∧ x < n := by
  unfold nat0
  constructor
  · intro h
    obtain ⟨k, hk, rfl⟩ := List.mem_map.mp h
    have := List.mem_range.mp hk
    omega
  · intro h
    exact List.mem_map.mpr ⟨x.toNat, List.mem_range.mpr (by omega), by omega⟩
theorem nat0_nd (n : Nat) : (nat0 n).Nodup := by
  unfold nat0
  rw [List.nodup_iff_pairwise_ne, List.pairwise_map]
  exact (List.nodup_iff_pairwise_ne.mp List.nodup_range).imp fun {a b} hab e => hab (by omega)
theorem nat0_len (n : Nat) : (nat0 n).length = n := by unfold nat0; rw [List.length_map, List.length_range]
theorem apart (n : Nat) : ∀ F : List Pr, ∃ R : List Int, R.Nodup ∧ n ≤ R.length + F.length ∧ (∀ r ∈ R, 0 ≤ r ∧ r < (n : Int)) ∧ ∀ x ∈ R, ∀ y ∈ R, Conn F x y → x = y
  | [] => ⟨nat0 n, nat0_nd n, by rw [nat0_len]; exact Nat.le_add_right _ _, fun r hr => nat0_mem.mp hr, fun x _ y _ a => (a (· = x) (fun _ h => nomatch h) rfl).symm⟩
  | e :: F => by
    obtain ⟨R, nd, hl, hr, hp⟩ := apart n F
    by_cases hex : ∃ r ∈ R, Conn F r e.1
    · obtain ⟨r, hrm, hrc⟩ := hex
      have own : ∀ x ∈ R, Conn F x e.1 → x = r := fun x hx a => hp x hx r hrm (a.trans hrc.symm)
      refine ⟨R.erase r, nd.erase r, ?_, fun x hx => hr x (List.mem_of_mem_erase hx), fun x hx y hy a => ?_⟩
      · rw [List.length_erase_of_mem hrm, List.length_cons]
        have := List.length_pos_of_mem hrm
        omega
      · have hx' := (nd.mem_erase_iff).mp hx
        have hy' := (nd.mem_erase_iff).mp hy
        rcases conn_cons a with h | ⟨h1, h2⟩ | ⟨h1, h2⟩
        · exact hp x hx'.2 y hy'.2 h
        · exact absurd (own x hx'.2 h1) hx'.1
        · exact absurd (own y hy'.2 h2.symm) hy'.1
    · have no : ∀ x ∈ R, ¬ Conn F x e.1 := fun x hx a => hex ⟨x, hx, a⟩
      refine ⟨R, nd, by rw [List.length_cons]; omega, hr, fun x hx y hy a => ?_⟩
      rcases conn_cons a with h | ⟨h1, h2⟩ | ⟨h1, h2⟩
      · exact hp x hx y hy h
      · exact absurd h1 (no x hx)
      · exact absurd h2.symm (no y hy)
theorem all_count {n : Nat} {F : List Pr} (h : All n F) : n ≤ F.length + 1 := by
  obtain ⟨R, nd, hl, hr, hp⟩ := apart n F
  cases R with
  | nil => simp only [List.length_nil] at hl; omega
  | cons x R =>
    cases R with
    | nil => simp only [List.length_cons, List.length_nil] at hl; omega
    | cons y R =>
      have e := hp x List.mem_cons_self y (List.mem_cons_of_mem _ List.mem_cons_self) (h x y (hr x List.mem_cons_self) (hr y (List.mem_cons_of_mem _ List.mem_cons_self)))
      rw [e, List.nodup_cons] at nd
      exact absurd List.mem_cons_self nd.1
def Few (n : Nat) (F : List Pr) : Prop := ∃ R : List Int, R.Nodup ∧ R.length + F.length ≤ n ∧ ∀ x : Int, 0 ≤ x ∧ x < n → ∃ r ∈ R, Conn F r x
theorem few_nil (n : Nat) : Few n [] := ⟨nat0 n, nat0_nd n, by rw [nat0_len]; exact Nat.le_refl _, fun x hx => ⟨x, nat0_mem.mpr hx, .refl _ _⟩⟩
theorem few_cons {n : Nat} {F : List Pr} {e : Pr} (h : Few n F) (h1 : 0 ≤ e.1 ∧ e.1 < (n : Int)) (h2 : 0 ≤ e.2 ∧ e.2 < (n : Int)) (hn : ¬ Conn F e.1 e.2) : Few n (e :: F) := by
  obtain ⟨R, nd, hl, hx⟩ := h
  obtain ⟨a, ha, ac⟩ := hx e.1 h1
  obtain ⟨b, hb, bc⟩ := hx e.2 h2
  have hab : b ≠ a := fun z => hn (ac.symm.trans (z ▸ bc))
  have up : ∀ {x y}, Conn F x y → Conn (e :: F) x y := fun c => conn_sub (fun g hg => List.mem_cons_of_mem _ hg) c
  refine ⟨R.erase a, nd.erase a, ?_, fun x hxb => ?_⟩
  · rw [List.length_erase_of_mem ha, List.length_cons]
    have := List.length_pos_of_mem ha
    omega
  · obtain ⟨r, hr, rc⟩ := hx x hxb
    by_cases e0 : r = a
    · subst e0
      refine ⟨b, (nd.mem_erase_iff).mpr ⟨hab, hb⟩, ?_⟩
      exact (up bc).trans ((conn_edge List.mem_cons_self).symm.trans ((up ac).symm.trans (up rc)))
    · exact ⟨r, (nd.mem_erase_iff).mpr ⟨e0, hr⟩, up rc⟩
section
variable {pr : Int → Pr} {w : Int → Int}
end

def srt (l : List Int) : List Int := l.mergeSort fun a b => decide (a ≤ b)
theorem inner_js {s0 : Int} (N : D) {many : Nat} {es : List E3} (ok : CabOk many es) (hs0 : 0 ≤ s0 ∧ s0 < (many : Int)) {ps : List Int} (hp : ∀ p ∈ ps, 0 ≤ p ∧ p < es.length) {l : List Int} {n : Nat} {v : Int} (hv : l[n]? = some v) (pl : PartL (ps.map (prOf es)) s0 l) (x5 x6 x7 x8 : Option Slot) :
    ∃ x5' x6' x7' x8', forGo (gN 5) jBody (ps.map .int) [some (.dat (encCb many es)), some (.dat N), some (.dat (.int s0)), some (.own (l.map .int)), some (.dat (.int (n : Int))), x5, x6, x7, x8] = M.ret (.next [some (.dat (encCb many es)), some (.dat N), some (.dat (.int s0)), some (.own (((ps.map (prOf es)).foldl (stepJ v) l).map .int)), some (.dat (.int (n : Int))), x5', x6', x7', x8']) := by
  have m1 := ok.m1
  have m8 := ok.m8
  obtain ⟨r, er, x5', x6', x7', x8', _, hr⟩ := for_all (as := ps) (g := gN 5) (B := jBody) (ρ := [some (.dat (encCb many es)), some (.dat N), some (.dat (.int s0)), some (.own (l.map .int)), some (.dat (.int (n : Int))), x5, x6, x7, x8]) PyData.int
    (fun j ρ => ∃ x5 x6 x7 x8, PartL (ps.map (prOf es)) s0 (((ps.take j).map (prOf es)).foldl (stepJ v) l) ∧ ρ = [some (.dat (encCb many es)), some (.dat N), some (.dat (.int s0)), some (.own ((((ps.take j).map (prOf es)).foldl (stepJ v) l).map .int)), some (.dat (.int (n : Int))), x5, x6, x7, x8]) ⟨_, _, _, _, pl, rfl⟩ fun j p ρ hj ⟨x5, x6, x7, x8, pj, hI⟩ => by
      subst hI
      have hpm := List.mem_of_getElem? hj
      obtain ⟨c, ec⟩ := edge_ix (many := many) (hp p hpm)
      have et : ps.take (j + 1) = ps.take j ++ [p] := by rw [List.take_add_one, hj]; rfl
      obtain ⟨t, ht⟩ := foldJ_sub v ((ps.take j).map (prOf es)) l
      rw [et, List.map_append, List.foldl_append]
      generalize ((ps.take j).map (prOf es)).foldl (stepJ v) l = f at *
      have hf : f[n]? = some v := by
        rw [ht, List.getElem?_append_left (List.getElem?_eq_some_iff.mp hv).1]
        exact hv
      have hvf : v ∈ f := List.mem_of_getElem? hf
      have ix := lx_ix hf
      have i1 : oIx (encCb many es) (.int 1) = M.ret (.tuple (es.map enc3)) := rfl
      have hl := part_len pj (by omega) (prs_in ok hp)
      have hpart : PartL (ps.map (prOf es)) s0 ([prOf es p].foldl (stepJ v) f) := stepJ_part pj hvf (List.mem_map.mpr ⟨p, hpm, rfl⟩)
      have e20 : (2 : Nat) ^ 20 = 1048576 := by decide +kernel
      have hlm : (f.map PyData.int).length < lineMax := line_lt (by rw [List.length_map]; omega)
      generalize encCb many es = C at *
      generalize es.map enc3 = E at *
      rw [show (List.map (prOf es) [p]).foldl (stepJ v) f = stepJ v f (prOf es p) from rfl]
      have hstep : PartL (ps.map (prOf es)) s0 (stepJ v f (prOf es p)) := hpart
      generalize prOf es p = e at *
      have in2 : oIn (.int v) (.tuple [.int e.1, .int e.2]) = M.ret (.bool (decide (v ∈ [e.1, e.2]))) := in_ints_t v [e.1, e.2]
      have fl : flatD (.int (e.1 + e.2 - v)) = true := by rw [flatD]
      refine ⟨_, .inl ?_, some (.dat (.int p)), some (.dat (.int e.1)), some (.dat (.int e.2)), some (.dat (.int c)), hstep, rfl⟩
      unfold jBody stepJ
      by_cases h1 : v = e.1 ∨ v = e.2
      · have d1 : decide (v ∈ [e.1, e.2]) = true := decide_eq_true (by simpa using h1)
        by_cases h2 : e.1 + e.2 - v ∈ f
        · rw [if_neg (fun z => z.2 h2)]
          simp only [at_gn, bnd_ret, set_0, set_s, at_seq, at_asg, hide_cons, hide1_d, hide1_o, hide_nil, at_bin, at_v0, at_vs, at_o0, at_c, i1, ec, at_g3, at_sif, at_and, at_tofk, at_tup, at_eachs, at_each0, ix, in2, d1, if_true, add_ints, sub_ints, notin_ints_l, h2, decide_true, Bool.not_true, Bool.false_eq_true, if_false, at_nil]
        · rw [if_pos ⟨h1, h2⟩]
          simp only [at_gn, bnd_ret, set_0, set_s, at_seq, at_asg, hide_cons, hide1_d, hide1_o, hide_nil, at_bin, at_v0, at_vs, at_o0, at_c, i1, ec, at_g3, at_sif, at_and, at_tofk, at_tup, at_eachs, at_each0, ix, in2, d1, if_true, add_ints, sub_ints, notin_ints_l, h2, decide_false, Bool.not_false]
          rw [at_sappf (ds := f.map .int) rfl hlm]
          simp only [at_bin, at_v0, at_vs, at_o0, bnd_ret, ix, add_ints, sub_ints, fl, if_true, set_0, set_s, List.map_append, List.map_cons, List.map_nil]
      · have d1 : decide (v ∈ [e.1, e.2]) = false := decide_eq_false (by simpa using h1)
        rw [if_neg (fun z => h1 z.1)]
        simp only [at_gn, bnd_ret, set_0, set_s, at_seq, at_asg, hide_cons, hide1_d, hide1_o, hide_nil, at_bin, at_v0, at_vs, at_o0, at_c, i1, ec, at_g3, at_sif, at_and, at_tofk, at_tup, at_eachs, at_each0, ix, in2, d1, Bool.false_eq_true, if_false, at_nil]
  subst hr
  rw [List.take_length] at er
  exact ⟨x5', x6', x7', x8', er⟩
theorem joined_t {κ : Bool} {s0 : Int} {many : Nat} {es : List E3} (ok : CabOk many es) (hs0 : 0 ≤ s0 ∧ s0 < (many : Int)) {ps : List Int} (hp : ∀ p ∈ ps, 0 ≤ p ∧ p < es.length) :
    DoesK κ (F_joined [.d (encCb many es), .d (encT ps), .d (.int s0)]) fun d => ∃ l : List Int, d = .tuple ((srt l).map .int) ∧ l.length ≤ many ∧ LeastL (ps.map (prOf es)) s0 l := by
  have m1 := ok.m1
  have m8 := ok.m8
  have e20 : (2 : Nat) ^ 20 = 1048576 := by decide +kernel
  refine does_fn rfl ?_
  show DoesK _ (_ : M Out) _
  simp only [List.map_cons, List.map_nil, slot_d, List.cons_append, List.nil_append, List.replicate]
  refine seq_own (ds := [.int s0]) (by simp only [at_emp, at_dis1, at_ow0, at_ows, at_calln, isLst_ret, at_c, at_bin, at_un, at_v0, at_o0, at_vs, at_tup, at_lst, at_each0, at_eachs, at_ad, at_p0, at_ps, at_args0, at_argss, at_call, at_tofk, at_and, at_or, at_not, at_dand, at_dor, at_dnot, at_if, at_chain, at_gn, at_g2, at_g3, at_g4, at_iseq, at_r1, at_r2, turn_def, at_sasgn, at_sforr, at_nil, at_seq, at_asg, at_sown, at_sret, at_sretn, at_sif, at_sdrop, at_sbrk, at_scont, at_sfor, hide_nil, hide_cons, hide1_d, hide1_n, hide1_p, hide1_o, set_0, set_s, bnd_ret, bnd_stuck, bnd_bnd, bnd_ite, slot_d, slot_p, wipeR, List.map_cons, List.map_nil, List.cons_append, List.nil_append, List.replicate, add_ints, sub_ints, le_ints, lt_ints, ge_ints, gt_ints, neg_ints, min2_ints, max2_ints, oEq_ints, oNe_ints, oEq_bools, oNe_bools, len_tup, len_lst, revL_l, oEq_strs, oNe_strs, tuple_l, tuple_t, list_l, list_t, at_sl, at_pn, at_ps', sl_tup', sl_lst', is_T, is_L, is_I, is_B, is_S, is_N, not_N, isT_n, isT_b, isT_i, isT_s, isT_t, isT_l, isT_d, isL_n, isL_b, isL_i, isL_s, isL_t, isL_l, isL_d, isI_n, isI_b, isI_i, isI_s, isI_t, isI_l, isI_d, isB_n, isB_b, isB_i, isB_s, isB_t, isB_l, isB_d, isS_n, isS_b, isS_i, isS_s, isS_t, isS_l, isS_d, isN_n, isN_b, isN_i, isN_s, isN_t, isN_l, isN_d, decide_eq_true_eq, Bool.not_eq_true', decide_eq_false_iff_not, Bool.false_eq_true, if_true, if_false, decide_true, decide_false, Bool.not_true, Bool.not_false, not_true_eq_false, not_false_eq_true, ret_ite_o, Int.reduceLT, Int.reduceLE, Int.reduceEq, Int.reduceAdd, Int.reduceSub, Int.reduceNeg, reduceCtorEq]) ?_
  refine seq_asg (P := (· = .int 0)) ?_ ?_
  · simp only [at_emp, at_dis1, at_ow0, at_ows, at_calln, isLst_ret, at_c, at_bin, at_un, at_v0, at_o0, at_vs, at_tup, at_lst, at_each0, at_eachs, at_ad, at_p0, at_ps, at_args0, at_argss, at_call, at_tofk, at_and, at_or, at_not, at_dand, at_dor, at_dnot, at_if, at_chain, at_gn, at_g2, at_g3, at_g4, at_iseq, at_r1, at_r2, turn_def, at_sasgn, at_sforr, at_nil, at_seq, at_asg, at_sown, at_sret, at_sretn, at_sif, at_sdrop, at_sbrk, at_scont, at_sfor, hide_nil, hide_cons, hide1_d, hide1_n, hide1_p, hide1_o, set_0, set_s, bnd_ret, bnd_stuck, bnd_bnd, bnd_ite, slot_d, slot_p, wipeR, List.map_cons, List.map_nil, List.cons_append, List.nil_append, List.replicate, add_ints, sub_ints, le_ints, lt_ints, ge_ints, gt_ints, neg_ints, min2_ints, max2_ints, oEq_ints, oNe_ints, oEq_bools, oNe_bools, len_tup, len_lst, revL_l, oEq_strs, oNe_strs, tuple_l, tuple_t, list_l, list_t, at_sl, at_pn, at_ps', sl_tup', sl_lst', is_T, is_L, is_I, is_B, is_S, is_N, not_N, isT_n, isT_b, isT_i, isT_s, isT_t, isT_l, isT_d, isL_n, isL_b, isL_i, isL_s, isL_t, isL_l, isL_d, isI_n, isI_b, isI_i, isI_s, isI_t, isI_l, isI_d, isB_n, isB_b, isB_i, isB_s, isB_t, isB_l, isB_d, isS_n, isS_b, isS_i, isS_s, isS_t, isS_l, isS_d, isN_n, isN_b, isN_i, isN_s, isN_t, isN_l, isN_d, decide_eq_true_eq, Bool.not_eq_true', decide_eq_false_iff_not, Bool.false_eq_true, if_true, if_false, decide_true, decide_false, Bool.not_true, Bool.not_false, not_true_eq_false, not_false_eq_true, ret_ite_o, Int.reduceLT, Int.reduceLE, Int.reduceEq, Int.reduceAdd, Int.reduceSub, Int.reduceNeg, reduceCtorEq]
    exact does_ret rfl
  rintro _ rfl
  simp only [set_0, set_s]
  refine seq_next (P := fun ρ => ∃ l x5 x6 x7 x8, LeastL (ps.map (prOf es)) s0 l ∧ l.length ≤ many ∧ ρ = [some (.dat (encCb many es)), some (.dat (encT ps)), some (.dat (.int s0)), some (.own (l.map .int)), some (.dat (.int (l.length : Int))), x5, x6, x7, x8]) ?_ ?_
  · rw [at_swhile]
    refine while_does (fun n ρ => ∃ l at' x5 x6 x7 x8, DoneJ (ps.map (prOf es)) s0 l at' ∧ n = many - at' ∧ ρ = [some (.dat (encCb many es)), some (.dat (encT ps)), some (.dat (.int s0)), some (.own (l.map .int)), some (.dat (.int (at' : Int))), x5, x6, x7, x8]) (fun n ρ hI => ?_) fuelW many _ (by unfold fuelW; omega) ⟨[s0], 0, _, _, _, _, .zero _ _, by omega, rfl⟩
    obtain ⟨l, at', x5, x6, x7, x8, dn, hn, rfl⟩ := hI
    have hl := part_len dn.part (by omega) (prs_in ok hp)
    have hle := dn.le
    by_cases hlt : at' < l.length
    · refine ⟨true, of_eq ?_, fun _ => ?_, fun z => nomatch z⟩
      · simp only [at_tofk, at_bin, at_un, at_v0, at_vs, at_o0, bnd_ret, len_lst, List.length_map, lt_ints]
        rw [decide_eq_true (by omega)]
      · have hv : l[at']? = some l[at'] := List.getElem?_eq_getElem hlt
        obtain ⟨x5', x6', x7', x8', e⟩ := inner_js (encT ps) ok hs0 hp hv dn.part x5 x6 x7 x8
        rw [at_seq, at_sfor]
        simp only [at_iseq, at_v0, at_vs, hide_cons, hide1_d, hide1_o, hide_nil, bnd_ret]
        have e' : forGo (gN 5) jBody (ps.map .int) [some (.dat (encCb many es)), some (.dat (.tuple (ps.map .int))), some (.dat (.int s0)), some (.own (l.map .int)), some (.dat (.int (at' : Int))), x5, x6, x7, x8] = _ := e
        rw [e', bnd_ret]
        refine does_of (a := .next [some (.dat (encCb many es)), some (.dat (encT ps)), some (.dat (.int s0)), some (.own (((ps.map (prOf es)).foldl (stepJ l[at']) l).map .int)), some (.dat (.int ((at' + 1 : Nat) : Int))), x5', x6', x7', x8']) ?_ ⟨_, rfl, many - (at' + 1), by omega, _, _, _, _, _, _, dn.next hv, rfl, rfl⟩
        rfl
    · have ea : at' = l.length := by omega
      subst ea
      refine ⟨false, of_eq ?_, fun z => (nomatch z), fun _ => ⟨_, rfl, l, x5, x6, x7, x8, dn.least, hl, rfl⟩⟩
      simp only [at_tofk, at_bin, at_un, at_v0, at_vs, at_o0, bnd_ret, len_lst, List.length_map, lt_ints]
      rw [decide_eq_false (by omega)]
  rintro _ ⟨l, x5, x6, x7, x8, hl, hn, rfl⟩
  have so := sorted_ints l (by omega)
  simp only [at_sret, at_un, at_v0, at_vs, at_o0, bnd_ret, so, tuple_l]
  exact does_ret ⟨l, rfl, hn, hl⟩
theorem joined_l {κ : Bool} {s0 : Int} {many : Nat} {es : List E3} (ok : CabOk many es) (hs0 : 0 ≤ s0 ∧ s0 < (many : Int)) {ps : List Int} (hp : ∀ p ∈ ps, 0 ≤ p ∧ p < es.length) :
    DoesK κ (F_joined [.d (encCb many es), .d (.list (ps.map .int)), .d (.int s0)]) fun d => ∃ l : List Int, d = .tuple ((srt l).map .int) ∧ l.length ≤ many ∧ LeastL (ps.map (prOf es)) s0 l := by
  have m1 := ok.m1
  have m8 := ok.m8
  have e20 : (2 : Nat) ^ 20 = 1048576 := by decide +kernel
  refine does_fn rfl ?_
  show DoesK _ (_ : M Out) _
  simp only [List.map_cons, List.map_nil, slot_d, List.cons_append, List.nil_append, List.replicate]
  refine seq_own (ds := [.int s0]) (by simp only [at_emp, at_dis1, at_ow0, at_ows, at_calln, isLst_ret, at_c, at_bin, at_un, at_v0, at_o0, at_vs, at_tup, at_lst, at_each0, at_eachs, at_ad, at_p0, at_ps, at_args0, at_argss, at_call, at_tofk, at_and, at_or, at_not, at_dand, at_dor, at_dnot, at_if, at_chain, at_gn, at_g2, at_g3, at_g4, at_iseq, at_r1, at_r2, turn_def, at_sasgn, at_sforr, at_nil, at_seq, at_asg, at_sown, at_sret, at_sretn, at_sif, at_sdrop, at_sbrk, at_scont, at_sfor, hide_nil, hide_cons, hide1_d, hide1_n, hide1_p, hide1_o, set_0, set_s, bnd_ret, bnd_stuck, bnd_bnd, bnd_ite, slot_d, slot_p, wipeR, List.map_cons, List.map_nil, List.cons_append, List.nil_append, List.replicate, add_ints, sub_ints, le_ints, lt_ints, ge_ints, gt_ints, neg_ints, min2_ints, max2_ints, oEq_ints, oNe_ints, oEq_bools, oNe_bools, len_tup, len_lst, revL_l, oEq_strs, oNe_strs, tuple_l, tuple_t, list_l, list_t, at_sl, at_pn, at_ps', sl_tup', sl_lst', is_T, is_L, is_I, is_B, is_S, is_N, not_N, isT_n, isT_b, isT_i, isT_s, isT_t, isT_l, isT_d, isL_n, isL_b, isL_i, isL_s, isL_t, isL_l, isL_d, isI_n, isI_b, isI_i, isI_s, isI_t, isI_l, isI_d, isB_n, isB_b, isB_i, isB_s, isB_t, isB_l, isB_d, isS_n, isS_b, isS_i, isS_s, isS_t, isS_l, isS_d, isN_n, isN_b, isN_i, isN_s, isN_t, isN_l, isN_d, decide_eq_true_eq, Bool.not_eq_true', decide_eq_false_iff_not, Bool.false_eq_true, if_true, if_false, decide_true, decide_false, Bool.not_true, Bool.not_false, not_true_eq_false, not_false_eq_true, ret_ite_o, Int.reduceLT, Int.reduceLE, Int.reduceEq, Int.reduceAdd, Int.reduceSub, Int.reduceNeg, reduceCtorEq]) ?_
  refine seq_asg (P := (· = .int 0)) ?_ ?_
  · simp only [at_emp, at_dis1, at_ow0, at_ows, at_calln, isLst_ret, at_c, at_bin, at_un, at_v0, at_o0, at_vs, at_tup, at_lst, at_each0, at_eachs, at_ad, at_p0, at_ps, at_args0, at_argss, at_call, at_tofk, at_and, at_or, at_not, at_dand, at_dor, at_dnot, at_if, at_chain, at_gn, at_g2, at_g3, at_g4, at_iseq, at_r1, at_r2, turn_def, at_sasgn, at_sforr, at_nil, at_seq, at_asg, at_sown, at_sret, at_sretn, at_sif, at_sdrop, at_sbrk, at_scont, at_sfor, hide_nil, hide_cons, hide1_d, hide1_n, hide1_p, hide1_o, set_0, set_s, bnd_ret, bnd_stuck, bnd_bnd, bnd_ite, slot_d, slot_p, wipeR, List.map_cons, List.map_nil, List.cons_append, List.nil_append, List.replicate, add_ints, sub_ints, le_ints, lt_ints, ge_ints, gt_ints, neg_ints, min2_ints, max2_ints, oEq_ints, oNe_ints, oEq_bools, oNe_bools, len_tup, len_lst, revL_l, oEq_strs, oNe_strs, tuple_l, tuple_t, list_l, list_t, at_sl, at_pn, at_ps', sl_tup', sl_lst', is_T, is_L, is_I, is_B, is_S, is_N, not_N, isT_n, isT_b, isT_i, isT_s, isT_t, isT_l, isT_d, isL_n, isL_b, isL_i, isL_s, isL_t, isL_l, isL_d, isI_n, isI_b, isI_i, isI_s, isI_t, isI_l, isI_d, isB_n, isB_b, isB_i, isB_s, isB_t, isB_l, isB_d, isS_n, isS_b, isS_i, isS_s, isS_t, isS_l, isS_d, isN_n, isN_b, isN_i, isN_s, isN_t, isN_l, isN_d, decide_eq_true_eq, Bool.not_eq_true', decide_eq_false_iff_not, Bool.false_eq_true, if_true, if_false, decide_true, decide_false, Bool.not_true, Bool.not_false, not_true_eq_false, not_false_eq_true, ret_ite_o, Int.reduceLT, Int.reduceLE, Int.reduceEq, Int.reduceAdd, Int.reduceSub, Int.reduceNeg, reduceCtorEq]
    exact does_ret rfl
  rintro _ rfl
  simp only [set_0, set_s]
  refine seq_next (P := fun ρ => ∃ l x5 x6 x7 x8, LeastL (ps.map (prOf es)) s0 l ∧ l.length ≤ many ∧ ρ = [some (.dat (encCb many es)), some (.dat (.list (ps.map .int))), some (.dat (.int s0)), some (.own (l.map .int)), some (.dat (.int (l.length : Int))), x5, x6, x7, x8]) ?_ ?_
  · rw [at_swhile]
    refine while_does (fun n ρ => ∃ l at' x5 x6 x7 x8, DoneJ (ps.map (prOf es)) s0 l at' ∧ n = many - at' ∧ ρ = [some (.dat (encCb many es)), some (.dat (.list (ps.map .int))), some (.dat (.int s0)), some (.own (l.map .int)), some (.dat (.int (at' : Int))), x5, x6, x7, x8]) (fun n ρ hI => ?_) fuelW many _ (by unfold fuelW; omega) ⟨[s0], 0, _, _, _, _, .zero _ _, by omega, rfl⟩
    obtain ⟨l, at', x5, x6, x7, x8, dn, hn, rfl⟩ := hI
    have hl := part_len dn.part (by omega) (prs_in ok hp)
    have hle := dn.le
    by_cases hlt : at' < l.length
    · refine ⟨true, of_eq ?_, fun _ => ?_, fun z => nomatch z⟩
      · simp only [at_tofk, at_bin, at_un, at_v0, at_vs, at_o0, bnd_ret, len_lst, List.length_map, lt_ints]
        rw [decide_eq_true (by omega)]
      · have hv : l[at']? = some l[at'] := List.getElem?_eq_getElem hlt
        obtain ⟨x5', x6', x7', x8', e⟩ := inner_js (.list (ps.map .int)) ok hs0 hp hv dn.part x5 x6 x7 x8
        rw [at_seq, at_sfor]
        simp only [at_iseq, at_v0, at_vs, hide_cons, hide1_d, hide1_o, hide_nil, bnd_ret]
        have e' : forGo (gN 5) jBody (ps.map .int) [some (.dat (encCb many es)), some (.dat (.list (ps.map .int))), some (.dat (.int s0)), some (.own (l.map .int)), some (.dat (.int (at' : Int))), x5, x6, x7, x8] = _ := e
        rw [e', bnd_ret]
        refine does_of (a := .next [some (.dat (encCb many es)), some (.dat (.list (ps.map .int))), some (.dat (.int s0)), some (.own (((ps.map (prOf es)).foldl (stepJ l[at']) l).map .int)), some (.dat (.int ((at' + 1 : Nat) : Int))), x5', x6', x7', x8']) ?_ ⟨_, rfl, many - (at' + 1), by omega, _, _, _, _, _, _, dn.next hv, rfl, rfl⟩
        rfl
    · have ea : at' = l.length := by omega
      subst ea
      refine ⟨false, of_eq ?_, fun z => (nomatch z), fun _ => ⟨_, rfl, l, x5, x6, x7, x8, dn.least, hl, rfl⟩⟩
      simp only [at_tofk, at_bin, at_un, at_v0, at_vs, at_o0, bnd_ret, len_lst, List.length_map, lt_ints]
      rw [decide_eq_false (by omega)]
  rintro _ ⟨l, x5, x6, x7, x8, hl, hn, rfl⟩
  have so := sorted_ints l (by omega)
  simp only [at_sret, at_un, at_v0, at_vs, at_o0, bnd_ret, so, tuple_l]
  exact does_ret ⟨l, rfl, hn, hl⟩
theorem inner_ts {s0 : Int} (N : D) {many : Nat} (m8 : many ≤ 8) (m1 : 1 ≤ many) (hs0 : 0 ≤ s0 ∧ s0 < (many : Int)) {qs : List E3} (hin : ∀ e ∈ qs.map prE, (0 ≤ e.1 ∧ e.1 < (many : Int)) ∧ 0 ≤ e.2 ∧ e.2 < (many : Int)) {l : List Int} (pl : PartL (qs.map prE) s0 l) (M0 : D) (x5 : Option Slot) :
    ∃ x5', forGo (gN 5) tBody (qs.map enc3) [some (.dat M0), some (.dat N), some (.dat (.int s0)), some (.own (l.map .int)), some (.dat (.bool false)), x5] = M.ret (.next [some (.dat M0), some (.dat N), some (.dat (.int s0)), some (.own (((qs.map prE).foldl stepT (l, false)).1.map .int)), some (.dat (.bool ((qs.map prE).foldl stepT (l, false)).2)), x5']) := by
  have e20 : (2 : Nat) ^ 20 = 1048576 := by decide +kernel
  obtain ⟨r, er, x5', _, hr⟩ := for_all (as := qs) (g := gN 5) (B := tBody) (ρ := [some (.dat M0), some (.dat N), some (.dat (.int s0)), some (.own (l.map .int)), some (.dat (.bool false)), x5]) enc3
    (fun j ρ => ∃ x5, PartL (qs.map prE) s0 (((qs.take j).map prE).foldl stepT (l, false)).1 ∧ ρ = [some (.dat M0), some (.dat N), some (.dat (.int s0)), some (.own ((((qs.take j).map prE).foldl stepT (l, false)).1.map .int)), some (.dat (.bool (((qs.take j).map prE).foldl stepT (l, false)).2)), x5]) ⟨_, pl, rfl⟩ fun j q ρ hj ⟨x5, pj, hI⟩ => by
      subst hI
      have et : qs.take (j + 1) = qs.take j ++ [q] := by rw [List.take_add_one, hj]; rfl
      rw [et, List.map_append, List.foldl_append]
      generalize ((qs.take j).map prE).foldl stepT (l, false) = s at *
      obtain ⟨f, g⟩ := s
      rw [show (List.map prE [q]).foldl stepT (f, g) = stepT (f, g) (prE q) from rfl]
      have hpart : PartL (qs.map prE) s0 (stepT (f, g) (prE q)).1 := stepT_part pj (List.mem_map.mpr ⟨q, List.mem_of_getElem? hj, rfl⟩)
      have hl := part_len pj (by omega) hin
      dsimp only at hl
      have hlm : (f.map PyData.int).length < lineMax := line_lt (by rw [List.length_map]; omega)
      have i0 : oIx (enc3 q) (.int 0) = M.ret (.int (prE q).1) := rfl
      have i1 : oIx (enc3 q) (.int 1) = M.ret (.int (prE q).2) := rfl
      generalize prE q = e at *
      generalize enc3 q = Q at *
      have fl : ∀ n : Int, flatD (.int n) = true := fun n => by rw [flatD]
      refine ⟨[some (.dat M0), some (.dat N), some (.dat (.int s0)), some (.own ((stepT (f, g) e).1.map .int)), some (.dat (.bool (stepT (f, g) e).2)), some (.dat Q)], .inl ?_, some (.dat Q), hpart, rfl⟩
      unfold tBody
      by_cases h1 : e.1 ∈ f
      · by_cases h2 : e.2 ∈ f
        · have es' : stepT (f, g) e = (f, g) := by unfold stepT; simp only [h1, h2]; rfl
          rw [es']
          simp only [at_gn, bnd_ret, set_0, set_s, at_sif, at_tofk, at_bin, at_v0, at_vs, at_o0, at_c, i0, i1, in_ints_l, oNe_bools, h1, h2, eq_self, Bool.not_true, Bool.not_false, Bool.true_eq_false, Bool.false_eq_true, if_true, decide_true, not_true_eq_false, decide_false, Bool.false_eq_true, if_false, at_nil, ne_eq]
        · have es' : stepT (f, g) e = (f ++ [e.2], true) := by unfold stepT; simp [h1, h2]
          rw [es']
          simp only [at_gn, bnd_ret, set_0, set_s, at_sif, at_tofk, at_bin, at_v0, at_vs, at_o0, at_c, i0, i1, in_ints_l, oNe_bools, h1, h2, eq_self, Bool.not_true, Bool.not_false, Bool.true_eq_false, Bool.false_eq_true, if_true, decide_true, decide_false, ne_eq, Bool.true_eq_false, not_false_eq_true, if_true, at_seq]
          rw [at_sappf (ds := f.map .int) rfl hlm]
          simp only [at_if, at_tofk, at_bin, at_v0, at_vs, at_o0, at_c, bnd_ret, i0, i1, in_ints_l, h1, decide_true, if_true, fl, set_0, set_s, List.map_append, List.map_cons, List.map_nil, at_asg, at_gn]
      · by_cases h2 : e.2 ∈ f
        · have es' : stepT (f, g) e = (f ++ [e.1], true) := by unfold stepT; simp [h1, h2]
          rw [es']
          simp only [at_gn, bnd_ret, set_0, set_s, at_sif, at_tofk, at_bin, at_v0, at_vs, at_o0, at_c, i0, i1, in_ints_l, oNe_bools, h1, h2, eq_self, Bool.not_true, Bool.not_false, Bool.true_eq_false, Bool.false_eq_true, if_true, decide_true, decide_false, ne_eq, Bool.false_eq_true, not_false_eq_true, if_true, at_seq]
          rw [at_sappf (ds := f.map .int) rfl hlm]
          simp only [at_if, at_tofk, at_bin, at_v0, at_vs, at_o0, at_c, bnd_ret, i0, i1, in_ints_l, h1, decide_false, Bool.false_eq_true, if_false, fl, if_true, set_0, set_s, List.map_append, List.map_cons, List.map_nil, at_asg, at_gn]
        · have es' : stepT (f, g) e = (f, g) := by unfold stepT; simp only [h1, h2]; rfl
          rw [es']
          simp only [at_gn, bnd_ret, set_0, set_s, at_sif, at_tofk, at_bin, at_v0, at_vs, at_o0, at_c, i0, i1, in_ints_l, oNe_bools, h1, h2, eq_self, Bool.not_true, Bool.not_false, Bool.true_eq_false, Bool.false_eq_true, if_true, decide_false, decide_true, not_true_eq_false, Bool.false_eq_true, if_false, at_nil, ne_eq]
  subst hr
  rw [List.take_length] at er
  exact ⟨x5', er⟩
theorem together_l {κ : Bool} {s0 : Int} {many : Nat} (m8 : many ≤ 8) (m1 : 1 ≤ many) (hs0 : 0 ≤ s0 ∧ s0 < (many : Int)) {qs : List E3} (hin : ∀ e ∈ qs.map prE, (0 ≤ e.1 ∧ e.1 < (many : Int)) ∧ 0 ≤ e.2 ∧ e.2 < (many : Int)) (M0 : D) :
    DoesK κ (F__law_together [.d M0, .d (.list (qs.map enc3)), .d (.int s0)]) fun d => ∃ l : List Int, d = .list ((srt l).map .int) ∧ l.length ≤ many ∧ LeastL (qs.map prE) s0 l := by
  have e20 : (2 : Nat) ^ 20 = 1048576 := by decide +kernel
  refine does_fn rfl ?_
  show DoesK _ (_ : M Out) _
  simp only [List.map_cons, List.map_nil, slot_d, List.cons_append, List.nil_append, List.replicate]
  refine seq_own (ds := [.int s0]) (by simp only [at_emp, at_dis1, at_ow0, at_ows, at_calln, isLst_ret, at_c, at_bin, at_un, at_v0, at_o0, at_vs, at_tup, at_lst, at_each0, at_eachs, at_ad, at_p0, at_ps, at_args0, at_argss, at_call, at_tofk, at_and, at_or, at_not, at_dand, at_dor, at_dnot, at_if, at_chain, at_gn, at_g2, at_g3, at_g4, at_iseq, at_r1, at_r2, turn_def, at_sasgn, at_sforr, at_nil, at_seq, at_asg, at_sown, at_sret, at_sretn, at_sif, at_sdrop, at_sbrk, at_scont, at_sfor, hide_nil, hide_cons, hide1_d, hide1_n, hide1_p, hide1_o, set_0, set_s, bnd_ret, bnd_stuck, bnd_bnd, bnd_ite, slot_d, slot_p, wipeR, List.map_cons, List.map_nil, List.cons_append, List.nil_append, List.replicate, add_ints, sub_ints, le_ints, lt_ints, ge_ints, gt_ints, neg_ints, min2_ints, max2_ints, oEq_ints, oNe_ints, oEq_bools, oNe_bools, len_tup, len_lst, revL_l, oEq_strs, oNe_strs, tuple_l, tuple_t, list_l, list_t, at_sl, at_pn, at_ps', sl_tup', sl_lst', is_T, is_L, is_I, is_B, is_S, is_N, not_N, isT_n, isT_b, isT_i, isT_s, isT_t, isT_l, isT_d, isL_n, isL_b, isL_i, isL_s, isL_t, isL_l, isL_d, isI_n, isI_b, isI_i, isI_s, isI_t, isI_l, isI_d, isB_n, isB_b, isB_i, isB_s, isB_t, isB_l, isB_d, isS_n, isS_b, isS_i, isS_s, isS_t, isS_l, isS_d, isN_n, isN_b, isN_i, isN_s, isN_t, isN_l, isN_d, decide_eq_true_eq, Bool.not_eq_true', decide_eq_false_iff_not, Bool.false_eq_true, if_true, if_false, decide_true, decide_false, Bool.not_true, Bool.not_false, not_true_eq_false, not_false_eq_true, ret_ite_o, Int.reduceLT, Int.reduceLE, Int.reduceEq, Int.reduceAdd, Int.reduceSub, Int.reduceNeg, reduceCtorEq]) ?_
  refine seq_asg (P := (· = .bool true)) ?_ ?_
  · simp only [at_emp, at_dis1, at_ow0, at_ows, at_calln, isLst_ret, at_c, at_bin, at_un, at_v0, at_o0, at_vs, at_tup, at_lst, at_each0, at_eachs, at_ad, at_p0, at_ps, at_args0, at_argss, at_call, at_tofk, at_and, at_or, at_not, at_dand, at_dor, at_dnot, at_if, at_chain, at_gn, at_g2, at_g3, at_g4, at_iseq, at_r1, at_r2, turn_def, at_sasgn, at_sforr, at_nil, at_seq, at_asg, at_sown, at_sret, at_sretn, at_sif, at_sdrop, at_sbrk, at_scont, at_sfor, hide_nil, hide_cons, hide1_d, hide1_n, hide1_p, hide1_o, set_0, set_s, bnd_ret, bnd_stuck, bnd_bnd, bnd_ite, slot_d, slot_p, wipeR, List.map_cons, List.map_nil, List.cons_append, List.nil_append, List.replicate, add_ints, sub_ints, le_ints, lt_ints, ge_ints, gt_ints, neg_ints, min2_ints, max2_ints, oEq_ints, oNe_ints, oEq_bools, oNe_bools, len_tup, len_lst, revL_l, oEq_strs, oNe_strs, tuple_l, tuple_t, list_l, list_t, at_sl, at_pn, at_ps', sl_tup', sl_lst', is_T, is_L, is_I, is_B, is_S, is_N, not_N, isT_n, isT_b, isT_i, isT_s, isT_t, isT_l, isT_d, isL_n, isL_b, isL_i, isL_s, isL_t, isL_l, isL_d, isI_n, isI_b, isI_i, isI_s, isI_t, isI_l, isI_d, isB_n, isB_b, isB_i, isB_s, isB_t, isB_l, isB_d, isS_n, isS_b, isS_i, isS_s, isS_t, isS_l, isS_d, isN_n, isN_b, isN_i, isN_s, isN_t, isN_l, isN_d, decide_eq_true_eq, Bool.not_eq_true', decide_eq_false_iff_not, Bool.false_eq_true, if_true, if_false, decide_true, decide_false, Bool.not_true, Bool.not_false, not_true_eq_false, not_false_eq_true, ret_ite_o, Int.reduceLT, Int.reduceLE, Int.reduceEq, Int.reduceAdd, Int.reduceSub, Int.reduceNeg, reduceCtorEq]
    exact does_ret rfl
  rintro _ rfl
  simp only [set_0, set_s]
  refine seq_next (P := fun ρ => ∃ l x4 x5, LeastL (qs.map prE) s0 l ∧ l.length ≤ many ∧ ρ = [some (.dat M0), some (.dat (.list (qs.map enc3))), some (.dat (.int s0)), some (.own (l.map .int)), x4, x5]) ?_ ?_
  · rw [at_swhile]
    refine while_does (fun n ρ => ∃ l g x5, PartL (qs.map prE) s0 l ∧ ((g = true ∧ n = many + 1 - l.length) ∨ (g = false ∧ LeastL (qs.map prE) s0 l ∧ n = 0)) ∧ ρ = [some (.dat M0), some (.dat (.list (qs.map enc3))), some (.dat (.int s0)), some (.own (l.map .int)), some (.dat (.bool g)), x5]) (fun n ρ hI => ?_) fuelW (many + 1 - 1) _ (by unfold fuelW; omega) ⟨[s0], true, _, .one _ _, .inl ⟨rfl, rfl⟩, rfl⟩
    obtain ⟨l, g, x5, pl, hg, rfl⟩ := hI
    have hl := part_len pl (by omega) hin
    rcases hg with ⟨rfl, hn⟩ | ⟨rfl, hle, hn⟩
    · refine ⟨true, of_eq ?_, fun _ => ?_, fun z => nomatch z⟩
      · simp only [at_tofk, at_v0, at_vs, bnd_ret]
      · obtain ⟨x5', e⟩ := inner_ts (.list (qs.map enc3)) m8 m1 hs0 hin pl M0 x5
        obtain ⟨t1, _, t3, _⟩ := turnT (qs.map prE) (s := (l, false)) (fun _ h => h) pl
        have hl2 := part_len t1 (by omega) hin
        rw [at_seq, at_asg]
        simp only [at_c, bnd_ret, at_gn, set_0, set_s]
        rw [at_sfor]
        simp only [at_iseq, at_v0, at_vs, hide_cons, hide1_d, hide1_o, hide_nil, bnd_ret]
        rw [e]
        cases hb : ((qs.map prE).foldl stepT (l, false)).2 with
        | true =>
          rcases t3 hb with z | z
          · cases z
          · exact does_ret ⟨_, rfl, many + 1 - ((qs.map prE).foldl stepT (l, false)).1.length, by dsimp only at z; omega, _, true, _, t1, .inl ⟨rfl, rfl⟩, rfl⟩
        | false => exact does_ret ⟨_, rfl, 0, by omega, _, false, _, t1, .inr ⟨rfl, endT pl hb, rfl⟩, rfl⟩
    · refine ⟨false, of_eq ?_, fun z => (nomatch z), fun _ => ⟨_, rfl, l, _, x5, hle, hl, rfl⟩⟩
      simp only [at_tofk, at_v0, at_vs, bnd_ret]
  rintro _ ⟨l, x4, x5, hl, hn, rfl⟩
  have so := sorted_ints l (by omega)
  simp only [at_sret, at_un, at_v0, at_vs, at_o0, bnd_ret, so]
  exact does_ret ⟨l, rfl, hn, hl⟩
theorem together_t {κ : Bool} {s0 : Int} {many : Nat} (m8 : many ≤ 8) (m1 : 1 ≤ many) (hs0 : 0 ≤ s0 ∧ s0 < (many : Int)) {qs : List E3} (hin : ∀ e ∈ qs.map prE, (0 ≤ e.1 ∧ e.1 < (many : Int)) ∧ 0 ≤ e.2 ∧ e.2 < (many : Int)) (M0 : D) :
    DoesK κ (F__law_together [.d M0, .d (.tuple (qs.map enc3)), .d (.int s0)]) fun d => ∃ l : List Int, d = .list ((srt l).map .int) ∧ l.length ≤ many ∧ LeastL (qs.map prE) s0 l := by
  have e20 : (2 : Nat) ^ 20 = 1048576 := by decide +kernel
  refine does_fn rfl ?_
  show DoesK _ (_ : M Out) _
  simp only [List.map_cons, List.map_nil, slot_d, List.cons_append, List.nil_append, List.replicate]
  refine seq_own (ds := [.int s0]) (by simp only [at_emp, at_dis1, at_ow0, at_ows, at_calln, isLst_ret, at_c, at_bin, at_un, at_v0, at_o0, at_vs, at_tup, at_lst, at_each0, at_eachs, at_ad, at_p0, at_ps, at_args0, at_argss, at_call, at_tofk, at_and, at_or, at_not, at_dand, at_dor, at_dnot, at_if, at_chain, at_gn, at_g2, at_g3, at_g4, at_iseq, at_r1, at_r2, turn_def, at_sasgn, at_sforr, at_nil, at_seq, at_asg, at_sown, at_sret, at_sretn, at_sif, at_sdrop, at_sbrk, at_scont, at_sfor, hide_nil, hide_cons, hide1_d, hide1_n, hide1_p, hide1_o, set_0, set_s, bnd_ret, bnd_stuck, bnd_bnd, bnd_ite, slot_d, slot_p, wipeR, List.map_cons, List.map_nil, List.cons_append, List.nil_append, List.replicate, add_ints, sub_ints, le_ints, lt_ints, ge_ints, gt_ints, neg_ints, min2_ints, max2_ints, oEq_ints, oNe_ints, oEq_bools, oNe_bools, len_tup, len_lst, revL_l, oEq_strs, oNe_strs, tuple_l, tuple_t, list_l, list_t, at_sl, at_pn, at_ps', sl_tup', sl_lst', is_T, is_L, is_I, is_B, is_S, is_N, not_N, isT_n, isT_b, isT_i, isT_s, isT_t, isT_l, isT_d, isL_n, isL_b, isL_i, isL_s, isL_t, isL_l, isL_d, isI_n, isI_b, isI_i, isI_s, isI_t, isI_l, isI_d, isB_n, isB_b, isB_i, isB_s, isB_t, isB_l, isB_d, isS_n, isS_b, isS_i, isS_s, isS_t, isS_l, isS_d, isN_n, isN_b, isN_i, isN_s, isN_t, isN_l, isN_d, decide_eq_true_eq, Bool.not_eq_true', decide_eq_false_iff_not, Bool.false_eq_true, if_true, if_false, decide_true, decide_false, Bool.not_true, Bool.not_false, not_true_eq_false, not_false_eq_true, ret_ite_o, Int.reduceLT, Int.reduceLE, Int.reduceEq, Int.reduceAdd, Int.reduceSub, Int.reduceNeg, reduceCtorEq]) ?_
  refine seq_asg (P := (· = .bool true)) ?_ ?_
  · simp only [at_emp, at_dis1, at_ow0, at_ows, at_calln, isLst_ret, at_c, at_bin, at_un, at_v0, at_o0, at_vs, at_tup, at_lst, at_each0, at_eachs, at_ad, at_p0, at_ps, at_args0, at_argss, at_call, at_tofk, at_and, at_or, at_not, at_dand, at_dor, at_dnot, at_if, at_chain, at_gn, at_g2, at_g3, at_g4, at_iseq, at_r1, at_r2, turn_def, at_sasgn, at_sforr, at_nil, at_seq, at_asg, at_sown, at_sret, at_sretn, at_sif, at_sdrop, at_sbrk, at_scont, at_sfor, hide_nil, hide_cons, hide1_d, hide1_n, hide1_p, hide1_o, set_0, set_s, bnd_ret, bnd_stuck, bnd_bnd, bnd_ite, slot_d, slot_p, wipeR, List.map_cons, List.map_nil, List.cons_append, List.nil_append, List.replicate, add_ints, sub_ints, le_ints, lt_ints, ge_ints, gt_ints, neg_ints, min2_ints, max2_ints, oEq_ints, oNe_ints, oEq_bools, oNe_bools, len_tup, len_lst, revL_l, oEq_strs, oNe_strs, tuple_l, tuple_t, list_l, list_t, at_sl, at_pn, at_ps', sl_tup', sl_lst', is_T, is_L, is_I, is_B, is_S, is_N, not_N, isT_n, isT_b, isT_i, isT_s, isT_t, isT_l, isT_d, isL_n, isL_b, isL_i, isL_s, isL_t, isL_l, isL_d, isI_n, isI_b, isI_i, isI_s, isI_t, isI_l, isI_d, isB_n, isB_b, isB_i, isB_s, isB_t, isB_l, isB_d, isS_n, isS_b, isS_i, isS_s, isS_t, isS_l, isS_d, isN_n, isN_b, isN_i, isN_s, isN_t, isN_l, isN_d, decide_eq_true_eq, Bool.not_eq_true', decide_eq_false_iff_not, Bool.false_eq_true, if_true, if_false, decide_true, decide_false, Bool.not_true, Bool.not_false, not_true_eq_false, not_false_eq_true, ret_ite_o, Int.reduceLT, Int.reduceLE, Int.reduceEq, Int.reduceAdd, Int.reduceSub, Int.reduceNeg, reduceCtorEq]
    exact does_ret rfl
  rintro _ rfl
  simp only [set_0, set_s]
  refine seq_next (P := fun ρ => ∃ l x4 x5, LeastL (qs.map prE) s0 l ∧ l.length ≤ many ∧ ρ = [some (.dat M0), some (.dat (.tuple (qs.map enc3))), some (.dat (.int s0)), some (.own (l.map .int)), x4, x5]) ?_ ?_
  · rw [at_swhile]
    refine while_does (fun n ρ => ∃ l g x5, PartL (qs.map prE) s0 l ∧ ((g = true ∧ n = many + 1 - l.length) ∨ (g = false ∧ LeastL (qs.map prE) s0 l ∧ n = 0)) ∧ ρ = [some (.dat M0), some (.dat (.tuple (qs.map enc3))), some (.dat (.int s0)), some (.own (l.map .int)), some (.dat (.bool g)), x5]) (fun n ρ hI => ?_) fuelW (many + 1 - 1) _ (by unfold fuelW; omega) ⟨[s0], true, _, .one _ _, .inl ⟨rfl, rfl⟩, rfl⟩
    obtain ⟨l, g, x5, pl, hg, rfl⟩ := hI
    have hl := part_len pl (by omega) hin
    rcases hg with ⟨rfl, hn⟩ | ⟨rfl, hle, hn⟩
    · refine ⟨true, of_eq ?_, fun _ => ?_, fun z => nomatch z⟩
      · simp only [at_tofk, at_v0, at_vs, bnd_ret]
      · obtain ⟨x5', e⟩ := inner_ts (.tuple (qs.map enc3)) m8 m1 hs0 hin pl M0 x5
        obtain ⟨t1, _, t3, _⟩ := turnT (qs.map prE) (s := (l, false)) (fun _ h => h) pl
        have hl2 := part_len t1 (by omega) hin
        rw [at_seq, at_asg]
        simp only [at_c, bnd_ret, at_gn, set_0, set_s]
        rw [at_sfor]
        simp only [at_iseq, at_v0, at_vs, hide_cons, hide1_d, hide1_o, hide_nil, bnd_ret]
        rw [e]
        cases hb : ((qs.map prE).foldl stepT (l, false)).2 with
        | true =>
          rcases t3 hb with z | z
          · cases z
          · exact does_ret ⟨_, rfl, many + 1 - ((qs.map prE).foldl stepT (l, false)).1.length, by dsimp only at z; omega, _, true, _, t1, .inl ⟨rfl, rfl⟩, rfl⟩
        | false => exact does_ret ⟨_, rfl, 0, by omega, _, false, _, t1, .inr ⟨rfl, endT pl hb, rfl⟩, rfl⟩
    · refine ⟨false, of_eq ?_, fun z => (nomatch z), fun _ => ⟨_, rfl, l, _, x5, hle, hl, rfl⟩⟩
      simp only [at_tofk, at_v0, at_vs, bnd_ret]
  rintro _ ⟨l, x4, x5, hl, hn, rfl⟩
  have so := sorted_ints l (by omega)
  simp only [at_sret, at_un, at_v0, at_vs, at_o0, bnd_ret, so]
  exact does_ret ⟨l, rfl, hn, hl⟩

theorem srt_mem {l : List Int} {x : Int} : x ∈ srt l ↔ x ∈ l := (List.mergeSort_perm _ _).mem_iff
theorem srt_len (l : List Int) : (srt l).length = l.length := List.length_mergeSort _
theorem srt_asc {l : List Int} (nd : l.Nodup) : (srt l).Pairwise (· < ·) := by
  have h1 : (srt l).Pairwise fun a b => decide (a ≤ b) = true := List.pairwise_mergeSort (fun a b c h1 h2 => by
    have := of_decide_eq_true h1
    have := of_decide_eq_true h2
    exact decide_eq_true (by omega)) (fun a b => by
    by_cases h : a ≤ b
    · rw [decide_eq_true h]; rfl
    · rw [decide_eq_true (show b ≤ a by omega), Bool.or_true]) l
  have h2 : (srt l).Nodup := (List.mergeSort_perm _ _).nodup_iff.mpr nd
  exact (h1.and (List.nodup_iff_pairwise_ne.mp h2)).imp fun {a b} h => by
    have := of_decide_eq_true h.1
    have := h.2
    omega
theorem asc_ext : ∀ {a b : List Int}, a.Pairwise (· < ·) → b.Pairwise (· < ·) → (∀ x, x ∈ a ↔ x ∈ b) → a = b
  | [], [], _, _, _ => rfl
  | [], y :: b, _, _, h => absurd ((h y).mpr List.mem_cons_self) List.not_mem_nil
  | x :: a, [], _, _, h => absurd ((h x).mp List.mem_cons_self) List.not_mem_nil
  | x :: a, y :: b, pa, pb, h => by
    rw [List.pairwise_cons] at pa pb
    have e : x = y := by
      rcases List.mem_cons.mp ((h x).mp List.mem_cons_self) with z | z
      · exact z
      · rcases List.mem_cons.mp ((h y).mpr List.mem_cons_self) with v | v
        · exact v.symm
        · have := pb.1 x z
          have := pa.1 y v
          omega
    subst e
    rw [asc_ext pa.2 pb.2 fun z => ?_]
    constructor
    · intro hz
      rcases List.mem_cons.mp ((h z).mp (List.mem_cons_of_mem _ hz)) with v | v
      · have := pa.1 z hz
        omega
      · exact v
    · intro hz
      rcases List.mem_cons.mp ((h z).mpr (List.mem_cons_of_mem _ hz)) with v | v
      · have := pb.1 z hz
        omega
      · exact v
structure Reach (n : Nat) (F : List Pr) (s0 : Int) (L : List Int) : Prop where
  asc : L.Pairwise (· < ·)
  mem : ∀ y, y ∈ L ↔ Conn F s0 y
  rng : ∀ y ∈ L, 0 ≤ y ∧ y < (n : Int)
  len : L.length ≤ n
theorem reach_of {n : Nat} {F : List Pr} {s0 : Int} {l : List Int} (h : LeastL F s0 l) (hs : 0 ≤ s0 ∧ s0 < (n : Int)) (he : ∀ e ∈ F, (0 ≤ e.1 ∧ e.1 < (n : Int)) ∧ 0 ≤ e.2 ∧ e.2 < (n : Int)) (hl : l.length ≤ n) : Reach n F s0 (srt l) :=
  ⟨srt_asc h.nd, fun y => srt_mem.trans (least_conn h y), fun y hy => h.least (fun x => 0 ≤ x ∧ x < (n : Int)) hs (fun e hm => ⟨fun _ => (he e hm).2, fun _ => (he e hm).1⟩) y (srt_mem.mp hy), by rw [srt_len]; exact hl⟩
theorem reach_eq {n : Nat} {F : List Pr} {s0 : Int} {L M : List Int} (a : Reach n F s0 L) (b : Reach n F s0 M) : L = M := asc_ext a.asc b.asc fun x => (a.mem x).trans (b.mem x).symm
theorem reach_all {n : Nat} (h1 : 1 ≤ n) {F : List Pr} {L : List Int} (a : Reach n F 0 L) : L.length = n ↔ All n F := by
  have nd : L.Nodup := a.asc.imp fun h => by omega
  constructor
  · intro hl
    have key : ∀ x : Int, 0 ≤ x ∧ x < n → Conn F 0 x := fun x hx => (a.mem x).mp (Classical.byContradiction fun z => by
      have nd2 : (x :: L).Nodup := List.nodup_cons.mpr ⟨z, nd⟩
      have := nd2.length_le_of_subset (l₂ := nat0 n) fun y hy => by
        rcases List.mem_cons.mp hy with rfl | hy
        · exact nat0_mem.mpr hx
        · exact nat0_mem.mpr (a.rng y hy)
      rw [nat0_len, List.length_cons] at this
      omega)
    exact fun x y hx hy => (key x hx).symm.trans (key y hy)
  · intro h
    have := (nat0_nd n).length_le_of_subset (l₂ := L) fun x hx => (a.mem x).mpr (h 0 x (by omega) (nat0_mem.mp hx))
    rw [nat0_len] at this
    have := a.len
    omega
def pool0 : Pool := ⟨[], 0, 0, 0, 0⟩
theorem joined_tq {many : Nat} {es : List E3} (ok : CabOk many es) {s0 : Int} (hs0 : 0 ≤ s0 ∧ s0 < (many : Int)) {ps : List Int} (hp : ∀ p ∈ ps, 0 ≤ p ∧ p < es.length) : ∃ L, Reach many (ps.map (prOf es)) s0 L ∧ F_joined [.d (encCb many es), .d (encT ps), .d (.int s0)] = M.ret (.tuple (L.map .int)) := by
  have j := joined_t (κ := true) ok hs0 hp
  obtain ⟨_, _, _, ⟨l0, _, hn, hl⟩, _⟩ := j pool0
  have r0 := reach_of hl hs0 (prs_in ok hp) hn
  exact ⟨_, r0, eq_of (j.imp fun d ⟨l, e, hn, hl⟩ => by rw [e, reach_eq (reach_of hl hs0 (prs_in ok hp) hn) r0])⟩
theorem joined_lq {many : Nat} {es : List E3} (ok : CabOk many es) {s0 : Int} (hs0 : 0 ≤ s0 ∧ s0 < (many : Int)) {ps : List Int} (hp : ∀ p ∈ ps, 0 ≤ p ∧ p < es.length) : ∃ L, Reach many (ps.map (prOf es)) s0 L ∧ F_joined [.d (encCb many es), .d (.list (ps.map .int)), .d (.int s0)] = M.ret (.tuple (L.map .int)) := by
  have j := joined_l (κ := true) ok hs0 hp
  obtain ⟨_, _, _, ⟨l0, _, hn, hl⟩, _⟩ := j pool0
  have r0 := reach_of hl hs0 (prs_in ok hp) hn
  exact ⟨_, r0, eq_of (j.imp fun d ⟨l, e, hn, hl⟩ => by rw [e, reach_eq (reach_of hl hs0 (prs_in ok hp) hn) r0])⟩
theorem together_lq {many : Nat} (m8 : many ≤ 8) (m1 : 1 ≤ many) {s0 : Int} (hs0 : 0 ≤ s0 ∧ s0 < (many : Int)) {qs : List E3} (hin : ∀ e ∈ qs.map prE, (0 ≤ e.1 ∧ e.1 < (many : Int)) ∧ 0 ≤ e.2 ∧ e.2 < (many : Int)) : ∃ L, Reach many (qs.map prE) s0 L ∧ ∀ M0, F__law_together [.d M0, .d (.list (qs.map enc3)), .d (.int s0)] = M.ret (.list (L.map .int)) := by
  have j := fun M0 => together_l (κ := true) m8 m1 hs0 hin M0
  obtain ⟨_, _, _, ⟨l0, _, hn, hl⟩, _⟩ := j .none pool0
  have r0 := reach_of hl hs0 hin hn
  exact ⟨_, r0, fun M0 => eq_of ((j M0).imp fun d ⟨l, e, hn, hl⟩ => by rw [e, reach_eq (reach_of hl hs0 hin hn) r0])⟩
theorem together_tq {many : Nat} (m8 : many ≤ 8) (m1 : 1 ≤ many) {s0 : Int} (hs0 : 0 ≤ s0 ∧ s0 < (many : Int)) {qs : List E3} (hin : ∀ e ∈ qs.map prE, (0 ≤ e.1 ∧ e.1 < (many : Int)) ∧ 0 ≤ e.2 ∧ e.2 < (many : Int)) : ∃ L, Reach many (qs.map prE) s0 L ∧ ∀ M0, F__law_together [.d M0, .d (.tuple (qs.map enc3)), .d (.int s0)] = M.ret (.list (L.map .int)) := by
  have j := fun M0 => together_t (κ := true) m8 m1 hs0 hin M0
  obtain ⟨_, _, _, ⟨l0, _, hn, hl⟩, _⟩ := j .none pool0
  have r0 := reach_of hl hs0 hin hn
  exact ⟨_, r0, fun M0 => eq_of ((j M0).imp fun d ⟨l, e, hn, hl⟩ => by rw [e, reach_eq (reach_of hl hs0 hin hn) r0])⟩
def wE (es : List E3) (p : Int) : Int := (es.getD p.toNat (0, 0, 0)).2.2
def encO (es : List E3) (p : Int) : D := .tuple [.int (wE es p), .int p]
def leW (es : List E3) (a b : Int) : Bool := decide (wE es a < wE es b ∨ (wE es a = wE es b ∧ a ≤ b))
def ordE (es : List E3) : List Int := (nat0 es.length).mergeSort (leW es)
theorem ord_mem {es : List E3} {p : Int} : p ∈ ordE es ↔ 0 ≤ p ∧ p < es.length := ((List.mergeSort_perm _ _).mem_iff).trans nat0_mem
theorem ord_nd (es : List E3) : (ordE es).Nodup := (List.mergeSort_perm _ _).nodup_iff.mpr (nat0_nd _)
theorem ord_asc (es : List E3) : (ordE es).Pairwise fun a b => wE es a ≤ wE es b := by
  have h : (ordE es).Pairwise fun a b => leW es a b = true := List.pairwise_mergeSort (fun a b c h1 h2 => by
    have h1 := of_decide_eq_true h1
    have h2 := of_decide_eq_true h2
    exact decide_eq_true (by omega)) (fun a b => by
    unfold leW
    rw [← Bool.decide_or, decide_eq_true_eq]
    omega) (nat0 es.length)
  exact h.imp fun {a b} h => by
    have := of_decide_eq_true h
    omega
theorem ord_sorted (es : List E3) (hl : es.length ≤ 64) : bSorted (.list ((nat0 es.length).map (encO es))) = M.ret (.list ((ordE es).map (encO es))) := by
  have hc : CanSort ((nat0 es.length).map (encO es)) := by
    refine ⟨fun d hd d' hd' => ?_, .inl (.inl fun d hd => ?_), small20 (by rw [List.length_map, nat0_len]; omega), fun d hd => ?_⟩
    · obtain ⟨a, _, rfl⟩ := List.mem_map.mp hd
      obtain ⟨b, _, rfl⟩ := List.mem_map.mp hd'
      show PySem.W.alikeAll [.int _, .int _] [.int _, .int _] = true
      simp only [PySem.W.alikeAll, PySem.W.alike, Bool.and_self]
    · obtain ⟨a, _, rfl⟩ := List.mem_map.mp hd
      exact ⟨_, _, rfl⟩
    · obtain ⟨a, _, rfl⟩ := List.mem_map.mp hd
      simp only [encO, PyData.depth, PyData.depthAll]
      decide
  unfold bSorted
  dsimp only
  rw [if_pos hc]
  congr 2
  have z := List.map_mergeSort (r := leW es) (s := leD) (f := encO es) (l := nat0 es.length) (fun a _ b _ => by
    unfold leD leW
    rw [PySem.W.dataLe_eq]
    show _ = (!PySem.W.dataLt (encO es b) (encO es a))
    unfold encO
    rw [lt_int_cons, lt_int_cons, lt_nil]
    by_cases h1 : wE es b = wE es a
    · rw [if_pos h1]
      by_cases h2 : b = a
      · rw [if_pos h2]
        exact decide_eq_true (by omega)
      · rw [if_neg h2]
        by_cases h3 : b < a
        · rw [decide_eq_true h3]
          exact decide_eq_false (by omega)
        · rw [decide_eq_false h3]
          exact decide_eq_true (by omega)
    · rw [if_neg h1]
      by_cases h3 : wE es b < wE es a
      · rw [decide_eq_true h3]
        exact decide_eq_false (by omega)
      · rw [decide_eq_false h3]
        exact decide_eq_true (by omega))
  exact z.symm

structure NetOk (many : Nat) (es : List E3) (P K : List Int) : Prop where
  nd : K.Nodup
  sub : ∀ p ∈ K, p ∈ P
  few : Few many (K.map (prOf es))
  joins : ∀ p ∈ P, Conn ((K.filter fun j => decide (wE es j ≤ wE es p)).map (prOf es)) (prOf es p).1 (prOf es p).2
theorem few_snoc {n : Nat} {F : List Pr} {e : Pr} (h : Few n F) (h1 : 0 ≤ e.1 ∧ e.1 < (n : Int)) (h2 : 0 ≤ e.2 ∧ e.2 < (n : Int)) (hn : ¬ Conn F e.1 e.2) : Few n (F ++ [e]) := by
  obtain ⟨R, nd, hl, hx⟩ := few_cons h h1 h2 hn
  refine ⟨R, nd, by rw [List.length_append, List.length_singleton]; rw [List.length_cons] at hl; omega, fun x hx2 => ?_⟩
  obtain ⟨r, hr, c⟩ := hx x hx2
  exact ⟨r, hr, conn_sub (fun g hg => by
    rcases List.mem_cons.mp hg with rfl | hg
    · exact List.mem_append_right _ (List.mem_singleton.mpr rfl)
    · exact List.mem_append_left _ hg) c⟩
theorem pr_in {many : Nat} {es : List E3} (ok : CabOk many es) {p : Int} (hp : 0 ≤ p ∧ p < es.length) : (0 ≤ (prOf es p).1 ∧ (prOf es p).1 < (many : Int)) ∧ 0 ≤ (prOf es p).2 ∧ (prOf es p).2 < (many : Int) :=
  prs_in ok (ps := [p]) (fun q hq => by rw [List.mem_singleton.mp hq]; exact hp) _ (by simp)
theorem net_step {many : Nat} {es : List E3} (ok : CabOk many es) {P K : List Int} (h : NetOk many es P K) {p : Int} (hp : 0 ≤ p ∧ p < es.length) (hpP : p ∉ P) (hw : ∀ q ∈ P, wE es q ≤ wE es p) :
    (Conn (K.map (prOf es)) (prOf es p).1 (prOf es p).2 → NetOk many es (P ++ [p]) K) ∧ (¬ Conn (K.map (prOf es)) (prOf es p).1 (prOf es p).2 → NetOk many es (P ++ [p]) (K ++ [p])) := by
  have b := pr_in ok hp
  have fk : (K.filter fun j => decide (wE es j ≤ wE es p)) = K := List.filter_eq_self.mpr fun j hj => decide_eq_true (hw j (h.sub j hj))
  refine ⟨fun c => ⟨h.nd, fun q hq => List.mem_append_left _ (h.sub q hq), h.few, fun q hq => ?_⟩, fun c => ⟨?_, fun q hq => ?_, ?_, fun q hq => ?_⟩⟩
  · rcases List.mem_append.mp hq with hq | hq
    · exact h.joins q hq
    · rw [List.mem_singleton.mp hq, fk]
      exact c
  · rw [List.nodup_append]
    exact ⟨h.nd, by simp, fun a ha d hd => by
      rw [List.mem_singleton.mp hd]
      exact fun e => hpP (e ▸ h.sub a ha)⟩
  · rcases List.mem_append.mp hq with hq | hq
    · exact List.mem_append_left _ (h.sub q hq)
    · exact List.mem_append_right _ hq
  · rw [List.map_append]
    exact few_snoc h.few b.1 b.2 c
  · rcases List.mem_append.mp hq with hq | hq
    · refine conn_sub (fun g hg => ?_) (h.joins q hq)
      obtain ⟨j, hj, rfl⟩ := List.mem_map.mp hg
      obtain ⟨j1, j2⟩ := List.mem_filter.mp hj
      exact List.mem_map.mpr ⟨j, List.mem_filter.mpr ⟨List.mem_append_left _ j1, j2⟩, rfl⟩
    · rw [List.mem_singleton.mp hq]
      exact conn_edge (List.mem_map.mpr ⟨p, List.mem_filter.mpr ⟨List.mem_append_right _ (List.mem_singleton.mpr rfl), decide_eq_true (Int.le_refl _)⟩, rfl⟩)
structure NetF (many : Nat) (es : List E3) (K : List Int) : Prop where
  asc : K.Pairwise (· < ·)
  rng : ∀ p ∈ K, 0 ≤ p ∧ p < (es.length : Int)
  few : Few many (K.map (prOf es))
  joins : ∀ p : Int, 0 ≤ p ∧ p < es.length → Conn ((K.filter fun j => decide (wE es j ≤ wE es p)).map (prOf es)) (prOf es p).1 (prOf es p).2
theorem net_fin {many : Nat} {es : List E3} {K : List Int} (h : NetOk many es (ordE es) K) : NetF many es (srt K) := by
  refine ⟨srt_asc h.nd, fun p hp => ord_mem.mp (h.sub p (srt_mem.mp hp)), ?_, fun p hp => ?_⟩
  · obtain ⟨R, nd, hl, hx⟩ := h.few
    refine ⟨R, nd, by rw [List.length_map, srt_len]; rw [List.length_map] at hl; exact hl, fun x hx2 => ?_⟩
    obtain ⟨r, hr, c⟩ := hx x hx2
    exact ⟨r, hr, conn_sub (fun g hg => by
      obtain ⟨j, hj, rfl⟩ := List.mem_map.mp hg
      exact List.mem_map.mpr ⟨j, srt_mem.mpr hj, rfl⟩) c⟩
  · refine conn_sub (fun g hg => ?_) (h.joins p (ord_mem.mpr hp))
    obtain ⟨j, hj, rfl⟩ := List.mem_map.mp hg
    obtain ⟨j1, j2⟩ := List.mem_filter.mp hj
    exact List.mem_map.mpr ⟨j, List.mem_filter.mpr ⟨srt_mem.mpr j1, j2⟩, rfl⟩
theorem edge_w {es : List E3} {p : Int} (h : 0 ≤ p ∧ p < es.length) : oIx (.tuple (es.map enc3)) (.int p) = M.ret (.tuple [.int (prOf es p).1, .int (prOf es p).2, .int (wE es p)]) := by
  have hk : p.toNat < es.length := by omega
  have e1 : es.getD p.toNat (0, 0, 0) = es[p.toNat] := by rw [List.getD_eq_getElem?_getD, List.getElem?_eq_getElem hk, Option.getD_some]
  unfold prOf wE
  rw [e1]
  have z := oIx_t (xs := es.map enc3) (i := p.toNat) (x := enc3 es[p.toNat]) (by rw [List.getElem?_map, List.getElem?_eq_getElem hk]; rfl)
  rw [Int.toNat_of_nonneg h.1] at z
  exact z
theorem pairs_len {many : Nat} {es : List E3} {K : List Int} (h : Few many (List.map (prOf es) K)) : K.length ≤ many := by
  obtain ⟨R, nd, hl, hx⟩ := h
  rw [List.length_map] at hl
  omega
theorem least_net_ok {many : Nat} {es : List E3} (ok : CabOk many es) : ∃ K, NetF many es K ∧ F_least_net [.d (encCb many es)] = M.ret (encT K) := by
  have m1 := ok.m1
  have m8 := ok.m8
  have hel := ok.len
  have i1 : oIx (encCb many es) (.int 1) = M.ret (.tuple (es.map enc3)) := rfl
  have rl : rng1 (.int (es.length : Int)) = M.ret (intsFrom 0 es.length) := by rw [rng1_of (by omega) (by omega)]; rfl
  have comp : ∀ y2 y3 y4 y5 y6 y1 : Option Slot, dComp [4] (iR1 (dUn bLen (dBin oIx (dVar 0) (dC (.int 1))))) (gN 4) tTrue (dTup [(dBin oIx (dBin oIx (dBin oIx (dVar 0) (dC (.int 1))) (dVar 4)) (dC (.int 2))), (dVar 4)]) [some (.dat (encCb many es)), y1, y2, y3, y4, y5, y6] = M.ret (.list ((nat0 es.length).map (encO es))) := fun y2 y3 y4 y5 y6 y1 => by
    rw [comp_rng 0 es.length (fun k => encO es (k : Int)) (by simp only [at_r1, at_un, at_bin, at_v0, at_c, bnd_ret, i1, len_tup, List.length_map, rl]) (small20 (by omega)) (fun k hk => by
      have ew := edge_w (es := es) (p := (k : Int)) (by omega)
      have i2 : oIx (.tuple [.int (prOf es (k : Int)).1, .int (prOf es (k : Int)).2, .int (wE es (k : Int))]) (.int 2) = M.ret (.int (wE es (k : Int))) := oIx_t (i := 2) rfl
      rw [Int.zero_add]
      generalize encCb many es = C at *
      simp only [at_gn, wipeR, set_0, set_s, bnd_ret, at_tup, at_eachs, at_each0, at_bin, at_vs, at_v0, at_c, i1, ew, i2]
      rfl)]
    unfold nat0
    rw [List.map_map]
    rfl
  have srtd := ord_sorted es hel
  obtain ⟨r, er, K, x3, x4, x5, x6, hK, hr⟩ := for_all (as := ordE es) (g := gT [gN 3, gN 4]) (B := sSeq (sAsg (gT [(gN 5), (gN 6), (gN 3)]) (dBin oIx (dBin oIx (dVar 0) (dC (.int 1))) (dVar 4)))
  (sIf (tOf (dBin oNotIn (dVar 6) (dCall F_joined [(aD (dVar 0)), (aD (dVar 1)), (aD (dVar 5))]))) (sApp 1 (dVar 4)) sNil))
    (ρ := [some (.dat (encCb many es)), some (.own []), some (.dat (.list ((ordE es).map (encO es)))), none, none, none, none]) (encO es)
    (fun j ρ => ∃ (K : List Int) (x3 x4 x5 x6 : Option Slot), NetOk many es ((ordE es).take j) K ∧ ρ = [some (.dat (encCb many es)), some (.own (K.map .int)), some (.dat (.list ((ordE es).map (encO es)))), x3, x4, x5, x6])
    ⟨[], _, _, _, _, ⟨List.nodup_nil, (fun _ h => nomatch h), few_nil many, (fun _ h => nomatch h)⟩, rfl⟩ (fun j p ρ hj hI => by
      obtain ⟨K, x3, x4, x5, x6, hN, rfl⟩ := hI
      have hpm := List.mem_of_getElem? hj
      have hp := ord_mem.mp hpm
      have hjl := (List.getElem?_eq_some_iff.mp hj).1
      have hpe := (List.getElem?_eq_some_iff.mp hj).2
      have e : (ordE es).take (j + 1) = (ordE es).take j ++ [p] := by rw [List.take_add_one, hj]; rfl
      have hnot : p ∉ (ordE es).take j := fun z => by
        obtain ⟨i, hi, ei⟩ := List.getElem_of_mem z
        rw [List.length_take] at hi
        rw [List.getElem_take] at ei
        have := (List.getElem_inj (ord_nd es) (i := i) (j := j) (h₀ := by omega) (h₁ := hjl)).mp (ei.trans hpe.symm)
        omega
      have hwq : ∀ q ∈ (ordE es).take j, wE es q ≤ wE es p := fun q z => by
        obtain ⟨i, hi, ei⟩ := List.getElem_of_mem z
        rw [List.length_take] at hi
        rw [List.getElem_take] at ei
        have := List.pairwise_iff_getElem.mp (ord_asc es) i j (by omega) hjl (by omega)
        rw [ei, hpe] at this
        exact this
      have step := net_step ok hN hp hnot hwq
      have hKr : ∀ q ∈ K, 0 ≤ q ∧ q < (es.length : Int) := fun q hq => ord_mem.mp (List.mem_of_mem_take (hN.sub q hq))
      have hKl : K.length ≤ many := pairs_len hN.few
      have b := pr_in ok hp
      obtain ⟨L, hL, ej⟩ := joined_lq ok b.1 hKr
      have ni : oNotIn (.int (prOf es p).2) (.tuple (L.map .int)) = M.ret (.bool (!decide ((prOf es p).2 ∈ L))) := notin_ints_t _ _
      have ew := edge_w hp
      have tl : (K.map PyData.int).length < lineMax := line_lt (by rw [List.length_map]; omega)
      rw [e]
      have body : ∀ (K' : List Int), (if (prOf es p).2 ∈ L then K' = K else K' = K ++ [p]) → NetOk many es ((ordE es).take j ++ [p]) K' → ∃ r, (M.bnd (gT [gN 3, gN 4] (encO es p) [some (.dat (encCb many es)), some (.own (K.map .int)), some (.dat (.list ((ordE es).map (encO es)))), x3, x4, x5, x6]) (sSeq (sAsg (gT [(gN 5), (gN 6), (gN 3)]) (dBin oIx (dBin oIx (dVar 0) (dC (.int 1))) (dVar 4)))
  (sIf (tOf (dBin oNotIn (dVar 6) (dCall F_joined [(aD (dVar 0)), (aD (dVar 1)), (aD (dVar 5))]))) (sApp 1 (dVar 4)) sNil)) = M.ret (.next r)) ∧ ∃ (K : List Int) (x3 x4 x5 x6 : Option Slot), NetOk many es ((ordE es).take j ++ [p]) K ∧ r = [some (.dat (encCb many es)), some (.own (K.map .int)), some (.dat (.list ((ordE es).map (encO es)))), x3, x4, x5, x6] := fun K' hK' hN' => by
        refine ⟨[some (.dat (encCb many es)), some (.own (K'.map .int)), some (.dat (.list ((ordE es).map (encO es)))), some (.dat (.int (wE es p))), some (.dat (.int p)), some (.dat (.int (prOf es p).1)), some (.dat (.int (prOf es p).2))], ?_, K', _, _, _, _, hN', rfl⟩
        unfold encO
        generalize encCb many es = C at *
        generalize (PyData.list (List.map (fun p => PyData.tuple [.int (wE es p), .int p]) (ordE es))) = O at *
        by_cases hm : (prOf es p).2 ∈ L
        · rw [if_pos hm] at hK'
          subst hK'
          rw [decide_eq_true hm] at ni
          simp only [at_g2, at_gn, bnd_ret, set_0, set_s, at_seq, at_asg, hide_cons, hide1_d, hide1_o, hide_nil, at_bin, at_vs, at_v0, at_o0, at_c, i1, ew, at_g3, at_sif, at_tofk, at_call, at_argss, at_args0, at_ad, ej, ni, Bool.not_true, Bool.false_eq_true, if_false, at_nil]
        · rw [if_neg hm] at hK'
          subst hK'
          rw [decide_eq_false hm] at ni
          simp only [at_g2, at_gn, bnd_ret, set_0, set_s, at_seq, at_asg, hide_cons, hide1_d, hide1_o, hide_nil, at_bin, at_vs, at_v0, at_o0, at_c, i1, ew, at_g3, at_sif, at_tofk, at_call, at_argss, at_args0, at_ad, ej, ni, Bool.not_false, if_true]
          rw [at_sapp 1 _ _ (ds := K.map .int) rfl tl]
          simp only [hide_cons, hide1_d, hide1_o, at_vs, at_v0, bnd_ret, set_0, set_s, List.map_append, List.map_cons, List.map_nil]
      by_cases hm : (prOf es p).2 ∈ L
      · obtain ⟨r, e1, e2⟩ := body K (by rw [if_pos hm]) (step.1 ((hL.mem _).mp hm))
        exact ⟨r, .inl e1, e2⟩
      · obtain ⟨r, e1, e2⟩ := body (K ++ [p]) (by rw [if_neg hm]) (step.2 fun c => hm ((hL.mem _).mpr c))
        exact ⟨r, .inl e1, e2⟩)
  rw [List.take_length] at hK
  subst hr
  have hKl : K.length ≤ many := pairs_len hK.few
  have so : bSorted (.list (K.map .int)) = M.ret (.list ((srt K).map .int)) := sorted_ints K (by omega)
  refine ⟨srt K, net_fin hK, ?_⟩
  unfold F_least_net
  rw [fn_eq]
  simp only [List.map_cons, List.map_nil, slot_d, List.cons_append, List.nil_append, List.replicate]
  rw [at_seq, at_sown]
  simp only [at_lst, at_each0, bnd_ret, set_0, set_s]
  rw [at_seq, at_asg]
  simp only [hide_cons, hide1_d, hide1_o, hide1_n, hide_nil, at_un, comp, srtd, bnd_ret, at_gn, set_0, set_s]
  rw [at_seq, at_sfor]
  simp only [hide_cons, hide1_d, hide1_o, hide1_n, hide_nil, at_iseq, at_vs, at_v0, bnd_ret]
  rw [er]
  simp only [bnd_ret, at_sret, at_un, at_vs, at_o0, so, tuple_l]

theorem prOf_get {es : List E3} {i : Nat} (h : i < es.length) : prOf es (i : Int) = prE es[i] := by
  unfold prOf prE
  rw [Int.toNat_natCast, List.getD_eq_getElem?_getD, List.getElem?_eq_getElem h, Option.getD_some]
theorem all_pairs (es : List E3) : es.map prE = (nat0 es.length).map (prOf es) := by
  unfold nat0
  rw [List.map_map]
  refine List.ext_getElem (by rw [List.length_map, List.length_map, List.length_range]) fun i h1 h2 => ?_
  rw [List.getElem_map, List.getElem_map, List.getElem_range]
  rw [List.length_map] at h1
  exact (prOf_get h1).symm
theorem paper_net {many : Nat} {es : List E3} (ok : CabOk many es) {K : List Int} (hk : F_least_net [.d (encCb many es)] = M.ret (encT K)) (hl : K.length + 1 = many) : F_cable_paper [.d (encCb many es)] = M.ret (.tuple [.str "net", encT K]) := by
  have i0 : oIx (encCb many es) (.int 0) = M.ret (.int (many : Int)) := rfl
  have lk : bLen (encT K) = M.ret (.int (K.length : Int)) := by show M.ret _ = _; rw [List.length_map]
  have e : (K.length : Int) = (many : Int) - 1 := by omega
  refine Eq.trans fn_eq ?_
  generalize encCb many es = C at *
  generalize encT K = T at *
  simp only [at_seq, at_asg, at_emp, at_dis1, at_ow0, at_ows, at_calln, isLst_ret, at_c, at_bin, at_un, at_v0, at_o0, at_vs, at_tup, at_lst, at_each0, at_eachs, at_ad, at_p0, at_ps, at_args0, at_argss, at_call, at_tofk, at_and, at_or, at_not, at_dand, at_dor, at_dnot, at_if, at_chain, at_gn, at_g2, at_g3, at_g4, at_iseq, at_r1, at_r2, turn_def, at_sasgn, at_sforr, at_nil, at_seq, at_asg, at_sown, at_sret, at_sretn, at_sif, at_sdrop, at_sbrk, at_scont, at_sfor, hide_nil, hide_cons, hide1_d, hide1_n, hide1_p, hide1_o, set_0, set_s, bnd_ret, bnd_stuck, bnd_bnd, bnd_ite, slot_d, slot_p, wipeR, List.map_cons, List.map_nil, List.cons_append, List.nil_append, List.replicate, add_ints, sub_ints, le_ints, lt_ints, ge_ints, gt_ints, neg_ints, min2_ints, max2_ints, oEq_ints, oNe_ints, oEq_bools, oNe_bools, len_tup, len_lst, revL_l, oEq_strs, oNe_strs, tuple_l, tuple_t, list_l, list_t, at_sl, at_pn, at_ps', sl_tup', sl_lst', is_T, is_L, is_I, is_B, is_S, is_N, not_N, isT_n, isT_b, isT_i, isT_s, isT_t, isT_l, isT_d, isL_n, isL_b, isL_i, isL_s, isL_t, isL_l, isL_d, isI_n, isI_b, isI_i, isI_s, isI_t, isI_l, isI_d, isB_n, isB_b, isB_i, isB_s, isB_t, isB_l, isB_d, isS_n, isS_b, isS_i, isS_s, isS_t, isS_l, isS_d, isN_n, isN_b, isN_i, isN_s, isN_t, isN_l, isN_d, decide_eq_true_eq, Bool.not_eq_true', decide_eq_false_iff_not, Bool.false_eq_true, if_true, if_false, decide_true, decide_false, Bool.not_true, Bool.not_false, not_true_eq_false, not_false_eq_true, ret_ite_o, Int.reduceLT, Int.reduceLE, Int.reduceEq, Int.reduceAdd, Int.reduceSub, Int.reduceNeg, reduceCtorEq, hk, lk, i0, e]
theorem paper_apart {many : Nat} {es : List E3} (ok : CabOk many es) {K : List Int} (hN : NetF many es K) (hk : F_least_net [.d (encCb many es)] = M.ret (encT K)) (hl : ¬ K.length + 1 = many) : ∃ L, Reach many (K.map (prOf es)) 0 L ∧ F_cable_paper [.d (encCb many es)] = M.ret (.tuple [.str "apart", encT L]) := by
  have m1 := ok.m1
  obtain ⟨L, hL, ej⟩ := joined_tq ok (s0 := 0) (by omega) hN.rng
  refine ⟨L, hL, ?_⟩
  have i0 : oIx (encCb many es) (.int 0) = M.ret (.int (many : Int)) := rfl
  have lk : bLen (encT K) = M.ret (.int (K.length : Int)) := by show M.ret _ = _; rw [List.length_map]
  have e : ¬ (K.length : Int) = (many : Int) - 1 := by omega
  refine Eq.trans fn_eq ?_
  generalize encCb many es = C at *
  have ej' : F_joined [.d C, .d (encT K), .d (.int 0)] = M.ret (encT L) := ej
  generalize encT K = T at *
  simp only [at_seq, at_asg, at_emp, at_dis1, at_ow0, at_ows, at_calln, isLst_ret, at_c, at_bin, at_un, at_v0, at_o0, at_vs, at_tup, at_lst, at_each0, at_eachs, at_ad, at_p0, at_ps, at_args0, at_argss, at_call, at_tofk, at_and, at_or, at_not, at_dand, at_dor, at_dnot, at_if, at_chain, at_gn, at_g2, at_g3, at_g4, at_iseq, at_r1, at_r2, turn_def, at_sasgn, at_sforr, at_nil, at_seq, at_asg, at_sown, at_sret, at_sretn, at_sif, at_sdrop, at_sbrk, at_scont, at_sfor, hide_nil, hide_cons, hide1_d, hide1_n, hide1_p, hide1_o, set_0, set_s, bnd_ret, bnd_stuck, bnd_bnd, bnd_ite, slot_d, slot_p, wipeR, List.map_cons, List.map_nil, List.cons_append, List.nil_append, List.replicate, add_ints, sub_ints, le_ints, lt_ints, ge_ints, gt_ints, neg_ints, min2_ints, max2_ints, oEq_ints, oNe_ints, oEq_bools, oNe_bools, len_tup, len_lst, revL_l, oEq_strs, oNe_strs, tuple_l, tuple_t, list_l, list_t, at_sl, at_pn, at_ps', sl_tup', sl_lst', is_T, is_L, is_I, is_B, is_S, is_N, not_N, isT_n, isT_b, isT_i, isT_s, isT_t, isT_l, isT_d, isL_n, isL_b, isL_i, isL_s, isL_t, isL_l, isL_d, isI_n, isI_b, isI_i, isI_s, isI_t, isI_l, isI_d, isB_n, isB_b, isB_i, isB_s, isB_t, isB_l, isB_d, isS_n, isS_b, isS_i, isS_s, isS_t, isS_l, isS_d, isN_n, isN_b, isN_i, isN_s, isN_t, isN_l, isN_d, decide_eq_true_eq, Bool.not_eq_true', decide_eq_false_iff_not, Bool.false_eq_true, if_true, if_false, decide_true, decide_false, Bool.not_true, Bool.not_false, not_true_eq_false, not_false_eq_true, ret_ite_o, Int.reduceLT, Int.reduceLE, Int.reduceEq, Int.reduceAdd, Int.reduceSub, Int.reduceNeg, reduceCtorEq, hk, lk, i0, e, ej']
def eAt (es : List E3) (p : Int) : E3 := es.getD p.toNat (0, 0, 0)
theorem eAt_pr (es : List E3) (ps : List Int) : (ps.map (eAt es)).map prE = ps.map (prOf es) := by rw [List.map_map]; rfl
theorem rowB_ints {many lo hi : Int} {d : D} (h : rowB many lo hi d = true) : ∃ ns : List Int, d = encT ns ∧ (ns.length : Int) = many ∧ ∀ v ∈ ns, lo ≤ v ∧ v ≤ hi := by
  cases d with
  | tuple xs =>
    rw [rowB, Bool.and_eq_true, decide_eq_true_eq] at h
    obtain ⟨h1, h2⟩ := h
    have go : ∀ xs : List D, xs.all (frm lo hi) = true → ∃ ns : List Int, xs = ns.map .int ∧ ∀ v ∈ ns, lo ≤ v ∧ v ≤ hi := by
      intro xs
      induction xs with
      | nil => exact fun _ => ⟨[], rfl, fun _ h => nomatch h⟩
      | cons x xs ih =>
        intro h
        rw [List.all_cons, Bool.and_eq_true] at h
        obtain ⟨i, rfl, hi⟩ := frm_int h.1
        obtain ⟨ns, rfl, hn⟩ := ih h.2
        exact ⟨i :: ns, rfl, fun v hv => (List.mem_cons.mp hv).elim (fun e => e ▸ hi) (hn v)⟩
    obtain ⟨ns, rfl, hn⟩ := go xs h2
    exact ⟨ns, rfl, by rw [← h1, List.length_map], hn⟩
  | _ => cases h
theorem sorted_t {ns : List Int} (h : ns.length < 64) : bSortedSetT (encT ns) = M.ret (.list ((sortU ns).map .int)) := by
  unfold bSortedSetT
  dsimp only
  rw [ints?_map]
  dsimp only
  rw [if_pos (by rw [List.length_map]; exact h)]
theorem rising_at {d : D} (hz : Sz d) (lo hi : Int) : F_is_rising_row [.d d, .d (.int lo), .d (.int hi)] = M.ret (.bool (rowAny lo hi d && upD (its d))) := by
  unfold F_is_rising_row
  rw [fn_eq]
  cases d with
  | tuple xs =>
    have a := all_at (own := [3]) (it := iSeq (dVar 0)) (g := gN 3) (e := dCall F_is_from [(aD (dVar 3)), (aD (dVar 1)), (aD (dVar 2))]) (ρ := [some (.dat (.tuple xs)), some (.dat (.int lo)), some (.dat (.int hi)), none]) (xs := xs) (frm lo hi)
      (by simp only [at_emp, at_dis1, at_ow0, at_ows, at_calln, isLst_ret, at_c, at_bin, at_un, at_v0, at_o0, at_vs, at_tup, at_lst, at_each0, at_eachs, at_ad, at_p0, at_ps, at_args0, at_argss, at_call, at_tofk, at_and, at_or, at_not, at_dand, at_dor, at_dnot, at_if, at_chain, at_gn, at_g2, at_g3, at_g4, at_iseq, at_r1, at_r2, turn_def, at_sasgn, at_sforr, at_nil, at_seq, at_asg, at_sown, at_sret, at_sretn, at_sif, at_sdrop, at_sbrk, at_scont, at_sfor, hide_nil, hide_cons, hide1_d, hide1_n, hide1_p, hide1_o, set_0, set_s, bnd_ret, bnd_stuck, bnd_bnd, bnd_ite, slot_d, slot_p, wipeR, List.map_cons, List.map_nil, List.cons_append, List.nil_append, List.replicate, add_ints, sub_ints, le_ints, lt_ints, ge_ints, gt_ints, neg_ints, min2_ints, max2_ints, oEq_ints, oNe_ints, oEq_bools, oNe_bools, len_tup, len_lst, revL_l, oEq_strs, oNe_strs, tuple_l, tuple_t, list_l, list_t, at_sl, at_pn, at_ps', sl_tup', sl_lst', is_T, is_L, is_I, is_B, is_S, is_N, not_N, isT_n, isT_b, isT_i, isT_s, isT_t, isT_l, isT_d, isL_n, isL_b, isL_i, isL_s, isL_t, isL_l, isL_d, isI_n, isI_b, isI_i, isI_s, isI_t, isI_l, isI_d, isB_n, isB_b, isB_i, isB_s, isB_t, isB_l, isB_d, isS_n, isS_b, isS_i, isS_s, isS_t, isS_l, isS_d, isN_n, isN_b, isN_i, isN_s, isN_t, isN_l, isN_d, decide_eq_true_eq, Bool.not_eq_true', decide_eq_false_iff_not, Bool.false_eq_true, if_true, if_false, decide_true, decide_false, Bool.not_true, Bool.not_false, not_true_eq_false, not_false_eq_true, ret_ite_o, Int.reduceLT, Int.reduceLE, Int.reduceEq, Int.reduceAdd, Int.reduceSub, Int.reduceNeg, reduceCtorEq]) hz.len_t (fun x hx => by simp only [at_emp, at_dis1, at_ow0, at_ows, at_calln, isLst_ret, at_c, at_bin, at_un, at_v0, at_o0, at_vs, at_tup, at_lst, at_each0, at_eachs, at_ad, at_p0, at_ps, at_args0, at_argss, at_call, at_tofk, at_and, at_or, at_not, at_dand, at_dor, at_dnot, at_if, at_chain, at_gn, at_g2, at_g3, at_g4, at_iseq, at_r1, at_r2, turn_def, at_sasgn, at_sforr, at_nil, at_seq, at_asg, at_sown, at_sret, at_sretn, at_sif, at_sdrop, at_sbrk, at_scont, at_sfor, hide_nil, hide_cons, hide1_d, hide1_n, hide1_p, hide1_o, set_0, set_s, bnd_ret, bnd_stuck, bnd_bnd, bnd_ite, slot_d, slot_p, wipeR, List.map_cons, List.map_nil, List.cons_append, List.nil_append, List.replicate, add_ints, sub_ints, le_ints, lt_ints, ge_ints, gt_ints, neg_ints, min2_ints, max2_ints, oEq_ints, oNe_ints, oEq_bools, oNe_bools, len_tup, len_lst, revL_l, oEq_strs, oNe_strs, tuple_l, tuple_t, list_l, list_t, at_sl, at_pn, at_ps', sl_tup', sl_lst', is_T, is_L, is_I, is_B, is_S, is_N, not_N, isT_n, isT_b, isT_i, isT_s, isT_t, isT_l, isT_d, isL_n, isL_b, isL_i, isL_s, isL_t, isL_l, isL_d, isI_n, isI_b, isI_i, isI_s, isI_t, isI_l, isI_d, isB_n, isB_b, isB_i, isB_s, isB_t, isB_l, isB_d, isS_n, isS_b, isS_i, isS_s, isS_t, isS_l, isS_d, isN_n, isN_b, isN_i, isN_s, isN_t, isN_l, isN_d, decide_eq_true_eq, Bool.not_eq_true', decide_eq_false_iff_not, Bool.false_eq_true, if_true, if_false, decide_true, decide_false, Bool.not_true, Bool.not_false, not_true_eq_false, not_false_eq_true, ret_ite_o, Int.reduceLT, Int.reduceLE, Int.reduceEq, Int.reduceAdd, Int.reduceSub, Int.reduceNeg, reduceCtorEq, is_from_at])
    cases hb : xs.all (frm lo hi) with
    | false =>
      simp only [at_emp, at_dis1, at_ow0, at_ows, at_calln, isLst_ret, at_c, at_bin, at_un, at_v0, at_o0, at_vs, at_tup, at_lst, at_each0, at_eachs, at_ad, at_p0, at_ps, at_args0, at_argss, at_call, at_tofk, at_and, at_or, at_not, at_dand, at_dor, at_dnot, at_if, at_chain, at_gn, at_g2, at_g3, at_g4, at_iseq, at_r1, at_r2, turn_def, at_sasgn, at_sforr, at_nil, at_seq, at_asg, at_sown, at_sret, at_sretn, at_sif, at_sdrop, at_sbrk, at_scont, at_sfor, hide_nil, hide_cons, hide1_d, hide1_n, hide1_p, hide1_o, set_0, set_s, bnd_ret, bnd_stuck, bnd_bnd, bnd_ite, slot_d, slot_p, wipeR, List.map_cons, List.map_nil, List.cons_append, List.nil_append, List.replicate, add_ints, sub_ints, le_ints, lt_ints, ge_ints, gt_ints, neg_ints, min2_ints, max2_ints, oEq_ints, oNe_ints, oEq_bools, oNe_bools, len_tup, len_lst, revL_l, oEq_strs, oNe_strs, tuple_l, tuple_t, list_l, list_t, at_sl, at_pn, at_ps', sl_tup', sl_lst', is_T, is_L, is_I, is_B, is_S, is_N, not_N, isT_n, isT_b, isT_i, isT_s, isT_t, isT_l, isT_d, isL_n, isL_b, isL_i, isL_s, isL_t, isL_l, isL_d, isI_n, isI_b, isI_i, isI_s, isI_t, isI_l, isI_d, isB_n, isB_b, isB_i, isB_s, isB_t, isB_l, isB_d, isS_n, isS_b, isS_i, isS_s, isS_t, isS_l, isS_d, isN_n, isN_b, isN_i, isN_s, isN_t, isN_l, isN_d, decide_eq_true_eq, Bool.not_eq_true', decide_eq_false_iff_not, Bool.false_eq_true, if_true, if_false, decide_true, decide_false, Bool.not_true, Bool.not_false, not_true_eq_false, not_false_eq_true, ret_ite_o, Int.reduceLT, Int.reduceLE, Int.reduceEq, Int.reduceAdd, Int.reduceSub, Int.reduceNeg, reduceCtorEq, a, all_bools, rowAny, hb, Bool.false_and]
    | true =>
      obtain ⟨ns, hn, _⟩ := rowB_ints (many := (xs.length : Int)) (lo := lo) (hi := hi) (d := .tuple xs) (by rw [rowB, hb, decide_eq_true rfl]; rfl)
      have hx : xs = ns.map .int := by injection hn
      have r := rises_gen (seqd_t xs) hz.len_t (by rw [hx]; exact lt_ints_map)
      simp only [at_emp, at_dis1, at_ow0, at_ows, at_calln, isLst_ret, at_c, at_bin, at_un, at_v0, at_o0, at_vs, at_tup, at_lst, at_each0, at_eachs, at_ad, at_p0, at_ps, at_args0, at_argss, at_call, at_tofk, at_and, at_or, at_not, at_dand, at_dor, at_dnot, at_if, at_chain, at_gn, at_g2, at_g3, at_g4, at_iseq, at_r1, at_r2, turn_def, at_sasgn, at_sforr, at_nil, at_seq, at_asg, at_sown, at_sret, at_sretn, at_sif, at_sdrop, at_sbrk, at_scont, at_sfor, hide_nil, hide_cons, hide1_d, hide1_n, hide1_p, hide1_o, set_0, set_s, bnd_ret, bnd_stuck, bnd_bnd, bnd_ite, slot_d, slot_p, wipeR, List.map_cons, List.map_nil, List.cons_append, List.nil_append, List.replicate, add_ints, sub_ints, le_ints, lt_ints, ge_ints, gt_ints, neg_ints, min2_ints, max2_ints, oEq_ints, oNe_ints, oEq_bools, oNe_bools, len_tup, len_lst, revL_l, oEq_strs, oNe_strs, tuple_l, tuple_t, list_l, list_t, at_sl, at_pn, at_ps', sl_tup', sl_lst', is_T, is_L, is_I, is_B, is_S, is_N, not_N, isT_n, isT_b, isT_i, isT_s, isT_t, isT_l, isT_d, isL_n, isL_b, isL_i, isL_s, isL_t, isL_l, isL_d, isI_n, isI_b, isI_i, isI_s, isI_t, isI_l, isI_d, isB_n, isB_b, isB_i, isB_s, isB_t, isB_l, isB_d, isS_n, isS_b, isS_i, isS_s, isS_t, isS_l, isS_d, isN_n, isN_b, isN_i, isN_s, isN_t, isN_l, isN_d, decide_eq_true_eq, Bool.not_eq_true', decide_eq_false_iff_not, Bool.false_eq_true, if_true, if_false, decide_true, decide_false, Bool.not_true, Bool.not_false, not_true_eq_false, not_false_eq_true, ret_ite_o, Int.reduceLT, Int.reduceLE, Int.reduceEq, Int.reduceAdd, Int.reduceSub, Int.reduceNeg, reduceCtorEq, a, all_bools, rowAny, hb, Bool.true_and, r, its]
  | _ => simp only [at_emp, at_dis1, at_ow0, at_ows, at_calln, isLst_ret, at_c, at_bin, at_un, at_v0, at_o0, at_vs, at_tup, at_lst, at_each0, at_eachs, at_ad, at_p0, at_ps, at_args0, at_argss, at_call, at_tofk, at_and, at_or, at_not, at_dand, at_dor, at_dnot, at_if, at_chain, at_gn, at_g2, at_g3, at_g4, at_iseq, at_r1, at_r2, turn_def, at_sasgn, at_sforr, at_nil, at_seq, at_asg, at_sown, at_sret, at_sretn, at_sif, at_sdrop, at_sbrk, at_scont, at_sfor, hide_nil, hide_cons, hide1_d, hide1_n, hide1_p, hide1_o, set_0, set_s, bnd_ret, bnd_stuck, bnd_bnd, bnd_ite, slot_d, slot_p, wipeR, List.map_cons, List.map_nil, List.cons_append, List.nil_append, List.replicate, add_ints, sub_ints, le_ints, lt_ints, ge_ints, gt_ints, neg_ints, min2_ints, max2_ints, oEq_ints, oNe_ints, oEq_bools, oNe_bools, len_tup, len_lst, revL_l, oEq_strs, oNe_strs, tuple_l, tuple_t, list_l, list_t, at_sl, at_pn, at_ps', sl_tup', sl_lst', is_T, is_L, is_I, is_B, is_S, is_N, not_N, isT_n, isT_b, isT_i, isT_s, isT_t, isT_l, isT_d, isL_n, isL_b, isL_i, isL_s, isL_t, isL_l, isL_d, isI_n, isI_b, isI_i, isI_s, isI_t, isI_l, isI_d, isB_n, isB_b, isB_i, isB_s, isB_t, isB_l, isB_d, isS_n, isS_b, isS_i, isS_s, isS_t, isS_l, isS_d, isN_n, isN_b, isN_i, isN_s, isN_t, isN_l, isN_d, decide_eq_true_eq, Bool.not_eq_true', decide_eq_false_iff_not, Bool.false_eq_true, if_true, if_false, decide_true, decide_false, Bool.not_true, Bool.not_false, not_true_eq_false, not_false_eq_true, ret_ite_o, Int.reduceLT, Int.reduceLE, Int.reduceEq, Int.reduceAdd, Int.reduceSub, Int.reduceNeg, reduceCtorEq, rowAny, Bool.false_and]
theorem net_agree {many : Nat} {es : List E3} (ok : CabOk many es) {d : D} (hz : Sz d) : ∃ b : Bool, F_is_net [.d (encCb many es), .d d] = M.ret (.bool b) ∧ F__law_is_cable_net [.d (encCb many es), .d d] = M.ret (.bool b) := by
  have m1 := ok.m1
  have m8 := ok.m8
  have e18 : (2 : Nat) ^ 18 = 262144 := by decide +kernel
  have i0 : oIx (encCb many es) (.int 0) = M.ret (.int (many : Int)) := rfl
  have i1 : oIx (encCb many es) (.int 1) = M.ret (.tuple (es.map enc3)) := rfl
  have lE : bLen (.tuple (es.map enc3)) = M.ret (.int (es.length : Int)) := by
    show M.ret _ = _
    rw [List.length_map]
  have ra := rising_at hz 0 ((es.length : Int) - 1)
  have la := lrow_any hz 0 ((es.length : Int) - 1)
  cases hr : rowAny 0 ((es.length : Int) - 1) d with
  | false =>
    rw [hr, Bool.false_and] at ra
    rw [hr] at la
    refine ⟨false, ?_, ?_⟩
    · unfold F_is_net
      rw [fn_eq]
      generalize encCb many es = C at *
      try simp only [at_emp, at_dis1, at_ow0, at_ows, at_calln, isLst_ret, at_c, at_bin, at_un, at_v0, at_o0, at_vs, at_tup, at_lst, at_each0, at_eachs, at_ad, at_p0, at_ps, at_args0, at_argss, at_call, at_tofk, at_and, at_or, at_not, at_dand, at_dor, at_dnot, at_if, at_chain, at_gn, at_g2, at_g3, at_g4, at_iseq, at_r1, at_r2, turn_def, at_sasgn, at_sforr, at_nil, at_seq, at_asg, at_sown, at_sret, at_sretn, at_sif, at_sdrop, at_sbrk, at_scont, at_sfor, hide_nil, hide_cons, hide1_d, hide1_n, hide1_p, hide1_o, set_0, set_s, bnd_ret, bnd_stuck, bnd_bnd, bnd_ite, slot_d, slot_p, wipeR, List.map_cons, List.map_nil, List.cons_append, List.nil_append, List.replicate, add_ints, sub_ints, le_ints, lt_ints, ge_ints, gt_ints, neg_ints, min2_ints, max2_ints, oEq_ints, oNe_ints, oEq_bools, oNe_bools, len_tup, len_lst, revL_l, oEq_strs, oNe_strs, tuple_l, tuple_t, list_l, list_t, at_sl, at_pn, at_ps', sl_tup', sl_lst', is_T, is_L, is_I, is_B, is_S, is_N, not_N, isT_n, isT_b, isT_i, isT_s, isT_t, isT_l, isT_d, isL_n, isL_b, isL_i, isL_s, isL_t, isL_l, isL_d, isI_n, isI_b, isI_i, isI_s, isI_t, isI_l, isI_d, isB_n, isB_b, isB_i, isB_s, isB_t, isB_l, isB_d, isS_n, isS_b, isS_i, isS_s, isS_t, isS_l, isS_d, isN_n, isN_b, isN_i, isN_s, isN_t, isN_l, isN_d, decide_eq_true_eq, Bool.not_eq_true', decide_eq_false_iff_not, Bool.false_eq_true, if_true, if_false, decide_true, decide_false, Bool.not_true, Bool.not_false, not_true_eq_false, not_false_eq_true, ret_ite_o, Int.reduceLT, Int.reduceLE, Int.reduceEq, Int.reduceAdd, Int.reduceSub, Int.reduceNeg, reduceCtorEq, i1, lE, ra]
    · unfold F__law_is_cable_net
      rw [fn_eq]
      generalize encCb many es = C at *
      try simp only [at_emp, at_dis1, at_ow0, at_ows, at_calln, isLst_ret, at_c, at_bin, at_un, at_v0, at_o0, at_vs, at_tup, at_lst, at_each0, at_eachs, at_ad, at_p0, at_ps, at_args0, at_argss, at_call, at_tofk, at_and, at_or, at_not, at_dand, at_dor, at_dnot, at_if, at_chain, at_gn, at_g2, at_g3, at_g4, at_iseq, at_r1, at_r2, turn_def, at_sasgn, at_sforr, at_nil, at_seq, at_asg, at_sown, at_sret, at_sretn, at_sif, at_sdrop, at_sbrk, at_scont, at_sfor, hide_nil, hide_cons, hide1_d, hide1_n, hide1_p, hide1_o, set_0, set_s, bnd_ret, bnd_stuck, bnd_bnd, bnd_ite, slot_d, slot_p, wipeR, List.map_cons, List.map_nil, List.cons_append, List.nil_append, List.replicate, add_ints, sub_ints, le_ints, lt_ints, ge_ints, gt_ints, neg_ints, min2_ints, max2_ints, oEq_ints, oNe_ints, oEq_bools, oNe_bools, len_tup, len_lst, revL_l, oEq_strs, oNe_strs, tuple_l, tuple_t, list_l, list_t, at_sl, at_pn, at_ps', sl_tup', sl_lst', is_T, is_L, is_I, is_B, is_S, is_N, not_N, isT_n, isT_b, isT_i, isT_s, isT_t, isT_l, isT_d, isL_n, isL_b, isL_i, isL_s, isL_t, isL_l, isL_d, isI_n, isI_b, isI_i, isI_s, isI_t, isI_l, isI_d, isB_n, isB_b, isB_i, isB_s, isB_t, isB_l, isB_d, isS_n, isS_b, isS_i, isS_s, isS_t, isS_l, isS_d, isN_n, isN_b, isN_i, isN_s, isN_t, isN_l, isN_d, decide_eq_true_eq, Bool.not_eq_true', decide_eq_false_iff_not, Bool.false_eq_true, if_true, if_false, decide_true, decide_false, Bool.not_true, Bool.not_false, not_true_eq_false, not_false_eq_true, ret_ite_o, Int.reduceLT, Int.reduceLE, Int.reduceEq, Int.reduceAdd, Int.reduceSub, Int.reduceNeg, reduceCtorEq, i1, lE, la]
  | true =>
  obtain ⟨xs, rfl⟩ : ∃ xs, d = .tuple xs := by cases d <;> first | exact ⟨_, rfl⟩ | cases hr
  obtain ⟨ps, hn, _, hpr⟩ := rowB_ints (many := (xs.length : Int)) (lo := 0) (hi := (es.length : Int) - 1) (d := .tuple xs) (by rw [rowB, decide_eq_true rfl]; exact hr)
  have hx : xs = ps.map .int := by injection hn
  subst hx
  have lu := lup_gen (seqd_t (ps.map .int)) hz.len_t lt_ints_map
  rw [hr, Bool.true_and] at ra
  rw [hr] at la
  have ei : its (.tuple (ps.map .int)) = ps.map .int := rfl
  rw [ei] at ra
  have ln : bLen (.tuple (ps.map .int)) = M.ret (.int (ps.length : Int)) := by
    show M.ret _ = _
    rw [List.length_map]
  have hp : ∀ p ∈ ps, 0 ≤ p ∧ p < (es.length : Int) := fun p h => by have := hpr p h; omega
  cases hu : upD (ps.map PyData.int) with
  | false =>
    rw [hu] at ra lu
    refine ⟨false, ?_, ?_⟩
    · unfold F_is_net
      rw [fn_eq]
      generalize encCb many es = C at *
      try simp only [at_emp, at_dis1, at_ow0, at_ows, at_calln, isLst_ret, at_c, at_bin, at_un, at_v0, at_o0, at_vs, at_tup, at_lst, at_each0, at_eachs, at_ad, at_p0, at_ps, at_args0, at_argss, at_call, at_tofk, at_and, at_or, at_not, at_dand, at_dor, at_dnot, at_if, at_chain, at_gn, at_g2, at_g3, at_g4, at_iseq, at_r1, at_r2, turn_def, at_sasgn, at_sforr, at_nil, at_seq, at_asg, at_sown, at_sret, at_sretn, at_sif, at_sdrop, at_sbrk, at_scont, at_sfor, hide_nil, hide_cons, hide1_d, hide1_n, hide1_p, hide1_o, set_0, set_s, bnd_ret, bnd_stuck, bnd_bnd, bnd_ite, slot_d, slot_p, wipeR, List.map_cons, List.map_nil, List.cons_append, List.nil_append, List.replicate, add_ints, sub_ints, le_ints, lt_ints, ge_ints, gt_ints, neg_ints, min2_ints, max2_ints, oEq_ints, oNe_ints, oEq_bools, oNe_bools, len_tup, len_lst, revL_l, oEq_strs, oNe_strs, tuple_l, tuple_t, list_l, list_t, at_sl, at_pn, at_ps', sl_tup', sl_lst', is_T, is_L, is_I, is_B, is_S, is_N, not_N, isT_n, isT_b, isT_i, isT_s, isT_t, isT_l, isT_d, isL_n, isL_b, isL_i, isL_s, isL_t, isL_l, isL_d, isI_n, isI_b, isI_i, isI_s, isI_t, isI_l, isI_d, isB_n, isB_b, isB_i, isB_s, isB_t, isB_l, isB_d, isS_n, isS_b, isS_i, isS_s, isS_t, isS_l, isS_d, isN_n, isN_b, isN_i, isN_s, isN_t, isN_l, isN_d, decide_eq_true_eq, Bool.not_eq_true', decide_eq_false_iff_not, Bool.false_eq_true, if_true, if_false, decide_true, decide_false, Bool.not_true, Bool.not_false, not_true_eq_false, not_false_eq_true, ret_ite_o, Int.reduceLT, Int.reduceLE, Int.reduceEq, Int.reduceAdd, Int.reduceSub, Int.reduceNeg, reduceCtorEq, i1, lE, ra]
    · unfold F__law_is_cable_net
      rw [fn_eq]
      generalize encCb many es = C at *
      try simp only [at_emp, at_dis1, at_ow0, at_ows, at_calln, isLst_ret, at_c, at_bin, at_un, at_v0, at_o0, at_vs, at_tup, at_lst, at_each0, at_eachs, at_ad, at_p0, at_ps, at_args0, at_argss, at_call, at_tofk, at_and, at_or, at_not, at_dand, at_dor, at_dnot, at_if, at_chain, at_gn, at_g2, at_g3, at_g4, at_iseq, at_r1, at_r2, turn_def, at_sasgn, at_sforr, at_nil, at_seq, at_asg, at_sown, at_sret, at_sretn, at_sif, at_sdrop, at_sbrk, at_scont, at_sfor, hide_nil, hide_cons, hide1_d, hide1_n, hide1_p, hide1_o, set_0, set_s, bnd_ret, bnd_stuck, bnd_bnd, bnd_ite, slot_d, slot_p, wipeR, List.map_cons, List.map_nil, List.cons_append, List.nil_append, List.replicate, add_ints, sub_ints, le_ints, lt_ints, ge_ints, gt_ints, neg_ints, min2_ints, max2_ints, oEq_ints, oNe_ints, oEq_bools, oNe_bools, len_tup, len_lst, revL_l, oEq_strs, oNe_strs, tuple_l, tuple_t, list_l, list_t, at_sl, at_pn, at_ps', sl_tup', sl_lst', is_T, is_L, is_I, is_B, is_S, is_N, not_N, isT_n, isT_b, isT_i, isT_s, isT_t, isT_l, isT_d, isL_n, isL_b, isL_i, isL_s, isL_t, isL_l, isL_d, isI_n, isI_b, isI_i, isI_s, isI_t, isI_l, isI_d, isB_n, isB_b, isB_i, isB_s, isB_t, isB_l, isB_d, isS_n, isS_b, isS_i, isS_s, isS_t, isS_l, isS_d, isN_n, isN_b, isN_i, isN_s, isN_t, isN_l, isN_d, decide_eq_true_eq, Bool.not_eq_true', decide_eq_false_iff_not, Bool.false_eq_true, if_true, if_false, decide_true, decide_false, Bool.not_true, Bool.not_false, not_true_eq_false, not_false_eq_true, ret_ite_o, Int.reduceLT, Int.reduceLE, Int.reduceEq, Int.reduceAdd, Int.reduceSub, Int.reduceNeg, reduceCtorEq, i1, lE, la, lu]
  | true =>
  rw [hu] at ra lu
  by_cases hl : (ps.length : Int) = (many : Int) - 1
  case neg =>
    refine ⟨false, ?_, ?_⟩
    · unfold F_is_net
      rw [fn_eq]
      generalize encCb many es = C at *
      try simp only [at_emp, at_dis1, at_ow0, at_ows, at_calln, isLst_ret, at_c, at_bin, at_un, at_v0, at_o0, at_vs, at_tup, at_lst, at_each0, at_eachs, at_ad, at_p0, at_ps, at_args0, at_argss, at_call, at_tofk, at_and, at_or, at_not, at_dand, at_dor, at_dnot, at_if, at_chain, at_gn, at_g2, at_g3, at_g4, at_iseq, at_r1, at_r2, turn_def, at_sasgn, at_sforr, at_nil, at_seq, at_asg, at_sown, at_sret, at_sretn, at_sif, at_sdrop, at_sbrk, at_scont, at_sfor, hide_nil, hide_cons, hide1_d, hide1_n, hide1_p, hide1_o, set_0, set_s, bnd_ret, bnd_stuck, bnd_bnd, bnd_ite, slot_d, slot_p, wipeR, List.map_cons, List.map_nil, List.cons_append, List.nil_append, List.replicate, add_ints, sub_ints, le_ints, lt_ints, ge_ints, gt_ints, neg_ints, min2_ints, max2_ints, oEq_ints, oNe_ints, oEq_bools, oNe_bools, len_tup, len_lst, revL_l, oEq_strs, oNe_strs, tuple_l, tuple_t, list_l, list_t, at_sl, at_pn, at_ps', sl_tup', sl_lst', is_T, is_L, is_I, is_B, is_S, is_N, not_N, isT_n, isT_b, isT_i, isT_s, isT_t, isT_l, isT_d, isL_n, isL_b, isL_i, isL_s, isL_t, isL_l, isL_d, isI_n, isI_b, isI_i, isI_s, isI_t, isI_l, isI_d, isB_n, isB_b, isB_i, isB_s, isB_t, isB_l, isB_d, isS_n, isS_b, isS_i, isS_s, isS_t, isS_l, isS_d, isN_n, isN_b, isN_i, isN_s, isN_t, isN_l, isN_d, decide_eq_true_eq, Bool.not_eq_true', decide_eq_false_iff_not, Bool.false_eq_true, if_true, if_false, decide_true, decide_false, Bool.not_true, Bool.not_false, not_true_eq_false, not_false_eq_true, ret_ite_o, Int.reduceLT, Int.reduceLE, Int.reduceEq, Int.reduceAdd, Int.reduceSub, Int.reduceNeg, reduceCtorEq, i0, i1, lE, ra, ln, hl]
    · unfold F__law_is_cable_net
      rw [fn_eq]
      generalize encCb many es = C at *
      try simp only [at_emp, at_dis1, at_ow0, at_ows, at_calln, isLst_ret, at_c, at_bin, at_un, at_v0, at_o0, at_vs, at_tup, at_lst, at_each0, at_eachs, at_ad, at_p0, at_ps, at_args0, at_argss, at_call, at_tofk, at_and, at_or, at_not, at_dand, at_dor, at_dnot, at_if, at_chain, at_gn, at_g2, at_g3, at_g4, at_iseq, at_r1, at_r2, turn_def, at_sasgn, at_sforr, at_nil, at_seq, at_asg, at_sown, at_sret, at_sretn, at_sif, at_sdrop, at_sbrk, at_scont, at_sfor, hide_nil, hide_cons, hide1_d, hide1_n, hide1_p, hide1_o, set_0, set_s, bnd_ret, bnd_stuck, bnd_bnd, bnd_ite, slot_d, slot_p, wipeR, List.map_cons, List.map_nil, List.cons_append, List.nil_append, List.replicate, add_ints, sub_ints, le_ints, lt_ints, ge_ints, gt_ints, neg_ints, min2_ints, max2_ints, oEq_ints, oNe_ints, oEq_bools, oNe_bools, len_tup, len_lst, revL_l, oEq_strs, oNe_strs, tuple_l, tuple_t, list_l, list_t, at_sl, at_pn, at_ps', sl_tup', sl_lst', is_T, is_L, is_I, is_B, is_S, is_N, not_N, isT_n, isT_b, isT_i, isT_s, isT_t, isT_l, isT_d, isL_n, isL_b, isL_i, isL_s, isL_t, isL_l, isL_d, isI_n, isI_b, isI_i, isI_s, isI_t, isI_l, isI_d, isB_n, isB_b, isB_i, isB_s, isB_t, isB_l, isB_d, isS_n, isS_b, isS_i, isS_s, isS_t, isS_l, isS_d, isN_n, isN_b, isN_i, isN_s, isN_t, isN_l, isN_d, decide_eq_true_eq, Bool.not_eq_true', decide_eq_false_iff_not, Bool.false_eq_true, if_true, if_false, decide_true, decide_false, Bool.not_true, Bool.not_false, not_true_eq_false, not_false_eq_true, ret_ite_o, Int.reduceLT, Int.reduceLE, Int.reduceEq, Int.reduceAdd, Int.reduceSub, Int.reduceNeg, reduceCtorEq, i0, i1, lE, la, lu, ln, hl]
  -- what is joined
  have jo := joined_ok (κ := true) ok hp
  obtain ⟨_, _, _, ⟨l0, _, _, _, hl0⟩, _⟩ := jo ⟨[], 0, 0, 0, 0⟩
  let qs : List E3 := ps.map fun p => es.getD p.toNat (0, 0, 0)
  have eq1 : qs.map prE = ps.map (prOf es) := by
    show (ps.map _).map prE = _
    rw [List.map_map]
    rfl
  have hin := prs_in ok hp
  rw [← eq1] at hin
  have jl : DoesK true (M.bnd (F_joined [.d (encCb many es), .d (encT ps), .d (.int 0)]) bLen) (· = .int (l0.length : Int)) := does_bnd jo fun d ⟨l, ds, e, h1, h2⟩ => by
    subst e
    refine does_ret ?_
    rw [h1, least_len h2 hl0]
  have tl : ∀ M0, DoesK true (M.bnd (F__law_together [.d M0, .d (.list (qs.map enc3)), .d (.int 0)]) bLen) (· = .int (l0.length : Int)) := fun M0 => does_bnd (together_ok m8 m1 hin M0) fun d ⟨l, ds, e, h1, h2⟩ => by
    subst e
    rw [eq1] at h2
    refine does_ret ?_
    rw [h1, least_len h2 hl0]
  have jl' := eq_of jl
  have tl' := fun M0 => eq_of (tl M0)
  have cm : dComp [2] (iSeq (dVar 1)) (gN 2) tTrue (dBin oIx (dBin oIx (dVar 0) (dC (.int 1))) (dVar 2)) [some (.dat (encCb many es)), some (.dat (.tuple (ps.map .int))), none] = M.ret (.list (qs.map enc3)) := by
    have hpl : ps.length ≤ 7 := by omega
    have z := comp_map (own := [2]) (it := iSeq (dVar 1)) (g := gN 2) (e := dBin oIx (dBin oIx (dVar 0) (dC (.int 1))) (dVar 2)) (ρ := [some (.dat (encCb many es)), some (.dat (.tuple (ps.map .int))), none]) ps PyData.int (fun p => enc3 (es.getD p.toNat (0, 0, 0))) (by simp only [at_emp, at_dis1, at_ow0, at_ows, at_calln, isLst_ret, at_c, at_bin, at_un, at_v0, at_o0, at_vs, at_tup, at_lst, at_each0, at_eachs, at_ad, at_p0, at_ps, at_args0, at_argss, at_call, at_tofk, at_and, at_or, at_not, at_dand, at_dor, at_dnot, at_if, at_chain, at_gn, at_g2, at_g3, at_g4, at_iseq, at_r1, at_r2, turn_def, at_sasgn, at_sforr, at_nil, at_seq, at_asg, at_sown, at_sret, at_sretn, at_sif, at_sdrop, at_sbrk, at_scont, at_sfor, hide_nil, hide_cons, hide1_d, hide1_n, hide1_p, hide1_o, set_0, set_s, bnd_ret, bnd_stuck, bnd_bnd, bnd_ite, slot_d, slot_p, wipeR, List.map_cons, List.map_nil, List.cons_append, List.nil_append, List.replicate, add_ints, sub_ints, le_ints, lt_ints, ge_ints, gt_ints, neg_ints, min2_ints, max2_ints, oEq_ints, oNe_ints, oEq_bools, oNe_bools, len_tup, len_lst, revL_l, oEq_strs, oNe_strs, tuple_l, tuple_t, list_l, list_t, at_sl, at_pn, at_ps', sl_tup', sl_lst', is_T, is_L, is_I, is_B, is_S, is_N, not_N, isT_n, isT_b, isT_i, isT_s, isT_t, isT_l, isT_d, isL_n, isL_b, isL_i, isL_s, isL_t, isL_l, isL_d, isI_n, isI_b, isI_i, isI_s, isI_t, isI_l, isI_d, isB_n, isB_b, isB_i, isB_s, isB_t, isB_l, isB_d, isS_n, isS_b, isS_i, isS_s, isS_t, isS_l, isS_d, isN_n, isN_b, isN_i, isN_s, isN_t, isN_l, isN_d, decide_eq_true_eq, Bool.not_eq_true', decide_eq_false_iff_not, Bool.false_eq_true, if_true, if_false, decide_true, decide_false, Bool.not_true, Bool.not_false, not_true_eq_false, not_false_eq_true, ret_ite_o, Int.reduceLT, Int.reduceLE, Int.reduceEq, Int.reduceAdd, Int.reduceSub, Int.reduceNeg, reduceCtorEq]) (sz18 (by omega)) fun p hpm => by
      have h := hp p hpm
      have hk : p.toNat < es.length := by omega
      have e1 : es.getD p.toNat (0, 0, 0) = es[p.toNat] := by rw [List.getD_eq_getElem?_getD, List.getElem?_eq_getElem hk, Option.getD_some]
      have z := oIx_t (xs := es.map enc3) (i := p.toNat) (x := enc3 es[p.toNat]) (by rw [List.getElem?_map, List.getElem?_eq_getElem hk]; rfl)
      rw [Int.toNat_of_nonneg h.1] at z
      show M.bnd (gN 2 _ [some (.dat (encCb many es)), some (.dat (.tuple (ps.map .int))), none]) _ = _
      rw [e1]
      simp only [at_gn, set_0, set_s, bnd_ret, at_bin, at_v0, at_vs, at_c, i1, z]
    rw [z]
    show _ = M.ret (PyData.list ((ps.map _).map enc3))
    rw [List.map_map]
    rfl
  have jl2 : M.bnd (F_joined [.d (encCb many es), .d (.tuple (ps.map .int)), .d (.int 0)]) bLen = M.ret (.int (l0.length : Int)) := jl'
  generalize qs.map enc3 = QS at *
  clear jl tl jo hin
  refine ⟨decide ((l0.length : Int) = (many : Int)), ?_, ?_⟩
  · unfold F_is_net
    rw [fn_eq]
    generalize encCb many es = C at *
    have jl3 : ∀ k : D → M D, M.bnd (F_joined [.d C, .d (.tuple (ps.map .int)), .d (.int 0)]) (fun x => M.bnd (bLen x) k) = k (.int (l0.length : Int)) := fun k => by rw [← bnd_bnd, jl2, bnd_ret]
    try simp only [at_emp, at_dis1, at_ow0, at_ows, at_calln, isLst_ret, at_c, at_bin, at_un, at_v0, at_o0, at_vs, at_tup, at_lst, at_each0, at_eachs, at_ad, at_p0, at_ps, at_args0, at_argss, at_call, at_tofk, at_and, at_or, at_not, at_dand, at_dor, at_dnot, at_if, at_chain, at_gn, at_g2, at_g3, at_g4, at_iseq, at_r1, at_r2, turn_def, at_sasgn, at_sforr, at_nil, at_seq, at_asg, at_sown, at_sret, at_sretn, at_sif, at_sdrop, at_sbrk, at_scont, at_sfor, hide_nil, hide_cons, hide1_d, hide1_n, hide1_p, hide1_o, set_0, set_s, bnd_ret, bnd_stuck, bnd_bnd, bnd_ite, slot_d, slot_p, wipeR, List.map_cons, List.map_nil, List.cons_append, List.nil_append, List.replicate, add_ints, sub_ints, le_ints, lt_ints, ge_ints, gt_ints, neg_ints, min2_ints, max2_ints, oEq_ints, oNe_ints, oEq_bools, oNe_bools, len_tup, len_lst, revL_l, oEq_strs, oNe_strs, tuple_l, tuple_t, list_l, list_t, at_sl, at_pn, at_ps', sl_tup', sl_lst', is_T, is_L, is_I, is_B, is_S, is_N, not_N, isT_n, isT_b, isT_i, isT_s, isT_t, isT_l, isT_d, isL_n, isL_b, isL_i, isL_s, isL_t, isL_l, isL_d, isI_n, isI_b, isI_i, isI_s, isI_t, isI_l, isI_d, isB_n, isB_b, isB_i, isB_s, isB_t, isB_l, isB_d, isS_n, isS_b, isS_i, isS_s, isS_t, isS_l, isS_d, isN_n, isN_b, isN_i, isN_s, isN_t, isN_l, isN_d, decide_eq_true_eq, Bool.not_eq_true', decide_eq_false_iff_not, Bool.false_eq_true, if_true, if_false, decide_true, decide_false, Bool.not_true, Bool.not_false, not_true_eq_false, not_false_eq_true, ret_ite_o, Int.reduceLT, Int.reduceLE, Int.reduceEq, Int.reduceAdd, Int.reduceSub, Int.reduceNeg, reduceCtorEq, i0, i1, lE, ra, ln, hl, jl3]
  · unfold F__law_is_cable_net
    rw [fn_eq]
    have tl3 : ∀ M0, ∀ k : D → M D, M.bnd (F__law_together [.d M0, .d (.list QS), .d (.int 0)]) (fun x => M.bnd (bLen x) k) = k (.int (l0.length : Int)) := fun M0 k => by rw [← bnd_bnd, tl', bnd_ret]
    generalize encCb many es = C at *
    try simp only [at_emp, at_dis1, at_ow0, at_ows, at_calln, isLst_ret, at_c, at_bin, at_un, at_v0, at_o0, at_vs, at_tup, at_lst, at_each0, at_eachs, at_ad, at_p0, at_ps, at_args0, at_argss, at_call, at_tofk, at_and, at_or, at_not, at_dand, at_dor, at_dnot, at_if, at_chain, at_gn, at_g2, at_g3, at_g4, at_iseq, at_r1, at_r2, turn_def, at_sasgn, at_sforr, at_nil, at_seq, at_asg, at_sown, at_sret, at_sretn, at_sif, at_sdrop, at_sbrk, at_scont, at_sfor, hide_nil, hide_cons, hide1_d, hide1_n, hide1_p, hide1_o, set_0, set_s, bnd_ret, bnd_stuck, bnd_bnd, bnd_ite, slot_d, slot_p, wipeR, List.map_cons, List.map_nil, List.cons_append, List.nil_append, List.replicate, add_ints, sub_ints, le_ints, lt_ints, ge_ints, gt_ints, neg_ints, min2_ints, max2_ints, oEq_ints, oNe_ints, oEq_bools, oNe_bools, len_tup, len_lst, revL_l, oEq_strs, oNe_strs, tuple_l, tuple_t, list_l, list_t, at_sl, at_pn, at_ps', sl_tup', sl_lst', is_T, is_L, is_I, is_B, is_S, is_N, not_N, isT_n, isT_b, isT_i, isT_s, isT_t, isT_l, isT_d, isL_n, isL_b, isL_i, isL_s, isL_t, isL_l, isL_d, isI_n, isI_b, isI_i, isI_s, isI_t, isI_l, isI_d, isB_n, isB_b, isB_i, isB_s, isB_t, isB_l, isB_d, isS_n, isS_b, isS_i, isS_s, isS_t, isS_l, isS_d, isN_n, isN_b, isN_i, isN_s, isN_t, isN_l, isN_d, decide_eq_true_eq, Bool.not_eq_true', decide_eq_false_iff_not, Bool.false_eq_true, if_true, if_false, decide_true, decide_false, Bool.not_true, Bool.not_false, not_true_eq_false, not_false_eq_true, ret_ite_o, Int.reduceLT, Int.reduceLE, Int.reduceEq, Int.reduceAdd, Int.reduceSub, Int.reduceNeg, reduceCtorEq, i0, i1, lE, la, lu, ln, hl, cm, tl3]

theorem cables_drawn : Does (F__law_cables [.pool, .d (.int 8)]) fun d => ∃ many es, d = encCb many es ∧ CabOk many es := by
  have e18 : (2 : Nat) ^ 18 = 262144 := by decide +kernel
  have e20 : (2 : Nat) ^ 20 = 1048576 := by decide +kernel
  refine does_fn rfl ?_
  show Does (_ : M Out) _
  simp only [List.map_cons, List.map_nil, slot_p, slot_d, List.cons_append, List.nil_append, List.replicate]
  refine seq_asg (P := fun d => ∃ n : Nat, d = .int (n : Int) ∧ 1 ≤ n ∧ n ≤ 8) ?_ ?_
  · simp only [at_emp, at_dis1, at_ow0, at_ows, at_calln, isLst_ret, at_c, at_bin, at_un, at_v0, at_o0, at_vs, at_tup, at_lst, at_each0, at_eachs, at_ad, at_p0, at_ps, at_args0, at_argss, at_call, at_tofk, at_and, at_or, at_not, at_dand, at_dor, at_dnot, at_if, at_chain, at_gn, at_g2, at_g3, at_g4, at_iseq, at_r1, at_r2, turn_def, at_sasgn, at_sforr, at_nil, at_seq, at_asg, at_sown, at_sret, at_sretn, at_sif, at_sdrop, at_sbrk, at_scont, at_sfor, hide_nil, hide_cons, hide1_d, hide1_n, hide1_p, hide1_o, set_0, set_s, bnd_ret, bnd_stuck, bnd_bnd, bnd_ite, slot_d, slot_p, wipeR, List.map_cons, List.map_nil, List.cons_append, List.nil_append, List.replicate, add_ints, sub_ints, le_ints, lt_ints, ge_ints, gt_ints, neg_ints, min2_ints, max2_ints, oEq_ints, oNe_ints, oEq_bools, oNe_bools, len_tup, len_lst, revL_l, oEq_strs, oNe_strs, tuple_l, tuple_t, list_l, list_t, at_sl, at_pn, at_ps', sl_tup', sl_lst', is_T, is_L, is_I, is_B, is_S, is_N, not_N, isT_n, isT_b, isT_i, isT_s, isT_t, isT_l, isT_d, isL_n, isL_b, isL_i, isL_s, isL_t, isL_l, isL_d, isI_n, isI_b, isI_i, isI_s, isI_t, isI_l, isI_d, isB_n, isB_b, isB_i, isB_s, isB_t, isB_l, isB_d, isS_n, isS_b, isS_i, isS_s, isS_t, isS_l, isS_d, isN_n, isN_b, isN_i, isN_s, isN_t, isN_l, isN_d, decide_eq_true_eq, Bool.not_eq_true', decide_eq_false_iff_not, Bool.false_eq_true, if_true, if_false, decide_true, decide_false, Bool.not_true, Bool.not_false, not_true_eq_false, not_false_eq_true, ret_ite_o, Int.reduceLT, Int.reduceLE, Int.reduceEq, Int.reduceAdd, Int.reduceSub, Int.reduceNeg, reduceCtorEq]
    refine does_bnd (does_draw' (by omega) (by omega)) ?_
    rintro _ ⟨v, rfl, v0, v6⟩
    rw [add_ints]
    exact does_ret ⟨(1 + v).toNat, by rw [Int.toNat_of_nonneg (by omega)], by omega, by omega⟩
  rintro _ ⟨many, rfl, m1, m8⟩
  refine seq_own (ds := []) (by simp only [at_emp, at_dis1, at_ow0, at_ows, at_calln, isLst_ret, at_c, at_bin, at_un, at_v0, at_o0, at_vs, at_tup, at_lst, at_each0, at_eachs, at_ad, at_p0, at_ps, at_args0, at_argss, at_call, at_tofk, at_and, at_or, at_not, at_dand, at_dor, at_dnot, at_if, at_chain, at_gn, at_g2, at_g3, at_g4, at_iseq, at_r1, at_r2, turn_def, at_sasgn, at_sforr, at_nil, at_seq, at_asg, at_sown, at_sret, at_sretn, at_sif, at_sdrop, at_sbrk, at_scont, at_sfor, hide_nil, hide_cons, hide1_d, hide1_n, hide1_p, hide1_o, set_0, set_s, bnd_ret, bnd_stuck, bnd_bnd, bnd_ite, slot_d, slot_p, wipeR, List.map_cons, List.map_nil, List.cons_append, List.nil_append, List.replicate, add_ints, sub_ints, le_ints, lt_ints, ge_ints, gt_ints, neg_ints, min2_ints, max2_ints, oEq_ints, oNe_ints, oEq_bools, oNe_bools, len_tup, len_lst, revL_l, oEq_strs, oNe_strs, tuple_l, tuple_t, list_l, list_t, at_sl, at_pn, at_ps', sl_tup', sl_lst', is_T, is_L, is_I, is_B, is_S, is_N, not_N, isT_n, isT_b, isT_i, isT_s, isT_t, isT_l, isT_d, isL_n, isL_b, isL_i, isL_s, isL_t, isL_l, isL_d, isI_n, isI_b, isI_i, isI_s, isI_t, isI_l, isI_d, isB_n, isB_b, isB_i, isB_s, isB_t, isB_l, isB_d, isS_n, isS_b, isS_i, isS_s, isS_t, isS_l, isS_d, isN_n, isN_b, isN_i, isN_s, isN_t, isN_l, isN_d, decide_eq_true_eq, Bool.not_eq_true', decide_eq_false_iff_not, Bool.false_eq_true, if_true, if_false, decide_true, decide_false, Bool.not_true, Bool.not_false, not_true_eq_false, not_false_eq_true, ret_ite_o, Int.reduceLT, Int.reduceLE, Int.reduceEq, Int.reduceAdd, Int.reduceSub, Int.reduceNeg, reduceCtorEq]) ?_
  refine seq_asg (P := fun d => ∃ i : Int, d = .int i ∧ 1 ≤ i ∧ i ≤ 3) ?_ ?_
  · simp only [at_emp, at_dis1, at_ow0, at_ows, at_calln, isLst_ret, at_c, at_bin, at_un, at_v0, at_o0, at_vs, at_tup, at_lst, at_each0, at_eachs, at_ad, at_p0, at_ps, at_args0, at_argss, at_call, at_tofk, at_and, at_or, at_not, at_dand, at_dor, at_dnot, at_if, at_chain, at_gn, at_g2, at_g3, at_g4, at_iseq, at_r1, at_r2, turn_def, at_sasgn, at_sforr, at_nil, at_seq, at_asg, at_sown, at_sret, at_sretn, at_sif, at_sdrop, at_sbrk, at_scont, at_sfor, hide_nil, hide_cons, hide1_d, hide1_n, hide1_p, hide1_o, set_0, set_s, bnd_ret, bnd_stuck, bnd_bnd, bnd_ite, slot_d, slot_p, wipeR, List.map_cons, List.map_nil, List.cons_append, List.nil_append, List.replicate, add_ints, sub_ints, le_ints, lt_ints, ge_ints, gt_ints, neg_ints, min2_ints, max2_ints, oEq_ints, oNe_ints, oEq_bools, oNe_bools, len_tup, len_lst, revL_l, oEq_strs, oNe_strs, tuple_l, tuple_t, list_l, list_t, at_sl, at_pn, at_ps', sl_tup', sl_lst', is_T, is_L, is_I, is_B, is_S, is_N, not_N, isT_n, isT_b, isT_i, isT_s, isT_t, isT_l, isT_d, isL_n, isL_b, isL_i, isL_s, isL_t, isL_l, isL_d, isI_n, isI_b, isI_i, isI_s, isI_t, isI_l, isI_d, isB_n, isB_b, isB_i, isB_s, isB_t, isB_l, isB_d, isS_n, isS_b, isS_i, isS_s, isS_t, isS_l, isS_d, isN_n, isN_b, isN_i, isN_s, isN_t, isN_l, isN_d, decide_eq_true_eq, Bool.not_eq_true', decide_eq_false_iff_not, Bool.false_eq_true, if_true, if_false, decide_true, decide_false, Bool.not_true, Bool.not_false, not_true_eq_false, not_false_eq_true, ret_ite_o, Int.reduceLT, Int.reduceLE, Int.reduceEq, Int.reduceAdd, Int.reduceSub, Int.reduceNeg, reduceCtorEq]
    refine does_bnd (does_draw' (by omega) (by omega)) ?_
    rintro _ ⟨v, rfl, v0, v4⟩
    obtain ⟨x, hx, i, rfl, hi⟩ := pick_of (xs := [.int 1, .int 2, .int 3]) (n := v) (P := fun d => ∃ i : Int, d = .int i ∧ 1 ≤ i ∧ i ≤ 3) v0 (by simp only [List.length_cons, List.length_nil]; omega) (fun x hx => by
      simp only [List.mem_cons, List.not_mem_nil, or_false] at hx
      rcases hx with rfl | rfl | rfl <;> exact ⟨_, rfl, by omega, by omega⟩)
    rw [hx]
    exact does_ret ⟨i, rfl, hi⟩
  rintro _ ⟨dense, rfl, hd⟩
  refine seq_asg (P := fun d => ∃ i : Int, d = .int i ∧ 1 ≤ i ∧ i ≤ 100) ?_ ?_
  · simp only [at_emp, at_dis1, at_ow0, at_ows, at_calln, isLst_ret, at_c, at_bin, at_un, at_v0, at_o0, at_vs, at_tup, at_lst, at_each0, at_eachs, at_ad, at_p0, at_ps, at_args0, at_argss, at_call, at_tofk, at_and, at_or, at_not, at_dand, at_dor, at_dnot, at_if, at_chain, at_gn, at_g2, at_g3, at_g4, at_iseq, at_r1, at_r2, turn_def, at_sasgn, at_sforr, at_nil, at_seq, at_asg, at_sown, at_sret, at_sretn, at_sif, at_sdrop, at_sbrk, at_scont, at_sfor, hide_nil, hide_cons, hide1_d, hide1_n, hide1_p, hide1_o, set_0, set_s, bnd_ret, bnd_stuck, bnd_bnd, bnd_ite, slot_d, slot_p, wipeR, List.map_cons, List.map_nil, List.cons_append, List.nil_append, List.replicate, add_ints, sub_ints, le_ints, lt_ints, ge_ints, gt_ints, neg_ints, min2_ints, max2_ints, oEq_ints, oNe_ints, oEq_bools, oNe_bools, len_tup, len_lst, revL_l, oEq_strs, oNe_strs, tuple_l, tuple_t, list_l, list_t, at_sl, at_pn, at_ps', sl_tup', sl_lst', is_T, is_L, is_I, is_B, is_S, is_N, not_N, isT_n, isT_b, isT_i, isT_s, isT_t, isT_l, isT_d, isL_n, isL_b, isL_i, isL_s, isL_t, isL_l, isL_d, isI_n, isI_b, isI_i, isI_s, isI_t, isI_l, isI_d, isB_n, isB_b, isB_i, isB_s, isB_t, isB_l, isB_d, isS_n, isS_b, isS_i, isS_s, isS_t, isS_l, isS_d, isN_n, isN_b, isN_i, isN_s, isN_t, isN_l, isN_d, decide_eq_true_eq, Bool.not_eq_true', decide_eq_false_iff_not, Bool.false_eq_true, if_true, if_false, decide_true, decide_false, Bool.not_true, Bool.not_false, not_true_eq_false, not_false_eq_true, ret_ite_o, Int.reduceLT, Int.reduceLE, Int.reduceEq, Int.reduceAdd, Int.reduceSub, Int.reduceNeg, reduceCtorEq]
    refine does_bnd (does_draw' (by omega) (by omega)) ?_
    rintro _ ⟨v, rfl, v0, v4⟩
    obtain ⟨x, hx, i, rfl, hi⟩ := pick_of (xs := [.int 2, .int 6, .int 100]) (n := v) (P := fun d => ∃ i : Int, d = .int i ∧ 1 ≤ i ∧ i ≤ 100) v0 (by simp only [List.length_cons, List.length_nil]; omega) (fun x hx => by
      simp only [List.mem_cons, List.not_mem_nil, or_false] at hx
      rcases hx with rfl | rfl | rfl <;> exact ⟨_, rfl, by omega, by omega⟩)
    rw [hx]
    exact does_ret ⟨i, rfl, hi⟩
  rintro _ ⟨far, rfl, hf⟩
  simp only [set_0, set_s]
  have rm : rng1 (.int (many : Int)) = M.ret (intsFrom 0 many) := by rw [rng1_of (by omega) (by omega)]; rfl
  let Rw : List E3 → Prop := fun es => ∀ e ∈ es, (0 ≤ e.1 ∧ e.1 < e.2.1) ∧ e.2.1 < (many : Int) ∧ 0 ≤ e.2.2 ∧ e.2.2 ≤ 99
  refine seq_next (P := fun ρ => ∃ es x6 x7, es.length ≤ 64 ∧ Rw es ∧ ρ = [some .pool, some (.dat (.int 8)), some (.dat (.int (many : Int))), some (.own (es.map enc3)), some (.dat (.int dense)), some (.dat (.int far)), x6, x7]) ?_ ?_
  · rw [at_sfor]
    simp only [at_r1, at_v0, at_vs, hide_cons, hide1_p, hide1_d, hide1_o, hide_nil, bnd_ret, rm]
    refine for_rng (n := many) (fun j ρ => ∃ es x6 x7, es.length ≤ 8 * j ∧ Rw es ∧ ρ = [some .pool, some (.dat (.int 8)), some (.dat (.int (many : Int))), some (.own (es.map enc3)), some (.dat (.int dense)), some (.dat (.int far)), x6, x7]) ⟨[], _, _, Nat.zero_le _, (fun _ h => nomatch h), rfl⟩ (fun j ρ hj hI => ?_) (fun ρ hI => by
      obtain ⟨es, x6, x7, h1, h2, rfl⟩ := hI
      exact ⟨_, rfl, es, x6, x7, by omega, h2, rfl⟩)
    obtain ⟨es, x6, x7, h1, h2, rfl⟩ := hI
    simp only [at_gn, bnd_ret, set_0, set_s]
    rw [at_sfor]
    have r2 : rng2 (.int (0 + (j : Int) + 1)) (.int (many : Int)) = M.ret (intsFrom (0 + (j : Int) + 1) (many - (j + 1))) := by
      rw [rng2_of (by omega) (by omega) (by omega) (by omega), show ((many : Int) - (0 + (j : Int) + 1)).toNat = many - (j + 1) from by omega]
    simp only [at_r2, at_bin, at_c, at_v0, at_vs, hide_cons, hide1_p, hide1_d, hide1_o, hide_nil, bnd_ret, add_ints, r2]
    refine (for_rng (n := many - (j + 1)) (fun i ρ => ∃ es x7, es.length ≤ 8 * j + i ∧ Rw es ∧ ρ = [some .pool, some (.dat (.int 8)), some (.dat (.int (many : Int))), some (.own (es.map enc3)), some (.dat (.int dense)), some (.dat (.int far)), some (.dat (.int (0 + (j : Int)))), x7]) ⟨es, x7, by omega, h2, rfl⟩ (fun i ρ hi hI => ?_) (R := fun o => ∃ ρ', o = .next ρ' ∧ ∃ es x6 x7, es.length ≤ 8 * (j + 1) ∧ Rw es ∧ ρ' = [some .pool, some (.dat (.int 8)), some (.dat (.int (many : Int))), some (.own (es.map enc3)), some (.dat (.int dense)), some (.dat (.int far)), x6, x7]) (fun ρ hI => by
      obtain ⟨es, x7, h1, h2, rfl⟩ := hI
      exact ⟨_, rfl, es, _, x7, by omega, h2, rfl⟩)).imp fun o ⟨ρ', e, h⟩ => by subst e; exact h
    obtain ⟨es, x7, h1, h2, rfl⟩ := hI
    simp only [at_gn, bnd_ret, set_0, set_s]
    rw [at_sif]
    simp only [at_tofk, at_bin, at_call, at_argss, at_args0, at_p0, at_ad, at_c, at_v0, at_vs, bnd_ret, bnd_bnd]
    refine does_bnd (does_draw' (by omega) (by omega)) ?_
    rintro _ ⟨v, rfl, v0, v2⟩
    by_cases hv : v = 0
    · simp only [oEq_ints, bnd_ret, hv, decide_true, if_true]
      rw [at_sapp 3 _ _ rfl (line_lt (by rw [List.length_map]; omega))]
      simp only [at_tup, at_eachs, at_each0, at_call, at_argss, at_args0, at_p0, at_ad, at_v0, at_vs, hide_cons, hide1_p, hide1_d, hide1_o, hide_nil, bnd_ret, bnd_bnd]
      refine does_bnd (does_draw' (by omega) (by omega)) ?_
      rintro _ ⟨w, rfl, w0, w2⟩
      simp only [bnd_ret, set_0, set_s]
      refine does_ret ⟨es ++ [(0 + (j : Int), 0 + (j : Int) + 1 + (i : Int), w)], _, by rw [List.length_append, List.length_singleton]; omega, fun e he => ?_, by rw [List.map_append]; rfl⟩
      rcases List.mem_append.mp he with he | he
      · exact h2 e he
      · rw [List.mem_singleton.mp he]
        dsimp only
        omega
    · simp only [oEq_ints, bnd_ret, decide_eq_false hv, Bool.false_eq_true, if_false, at_nil]
      exact does_ret ⟨es, _, by omega, h2, rfl⟩
  rintro _ ⟨es, x6, x7, h1, h2, rfl⟩
  simp only [at_sret, at_tup, at_eachs, at_each0, at_un, at_v0, at_vs, at_o0, bnd_ret, tuple_l]
  exact does_ret ⟨many, es, rfl, m1, m8, h1, h2⟩

section
variable {κ : Bool}
section
variable {pr : Int → Pr} {T : List Int} {a : Int}
inductive WayT (pr : Int → Pr) (T : List Int) (a : Int) : Int → List Int → Prop where
  | nil : WayT pr T a a []
  | snoc {u v : Int} {W : List Int} {p : Int} : WayT pr T a u W → p ∈ T → p ∉ W → (pr p = (u, v) ∨ pr p = (v, u)) → WayT pr T a v (W ++ [p])
theorem step_conn {F : List Pr} {u v : Int} {e : Pr} (he : e ∈ F) (h : e = (u, v) ∨ e = (v, u)) : Conn F u v := by
  have c := conn_edge he
  rcases h with rfl | rfl
  · exact c
  · exact c.symm
theorem WayT.conn {C : List Int} {v : Int} {W : List Int} (h : WayT pr T a v W) : (∀ p ∈ W, p ∈ C) → Conn (C.map pr) a v := by
  induction h with
  | nil => exact fun _ => .refl _ _
  | @snoc u v W p _ _ _ e ih =>
    intro hc
    exact (ih fun q hq => hc q (List.mem_append_left _ hq)).trans (step_conn (List.mem_map.mpr ⟨p, hc p (List.mem_append_right _ (List.mem_singleton.mpr rfl)), rfl⟩) e)
theorem WayT.sub {v : Int} {W : List Int} (h : WayT pr T a v W) : ∀ p ∈ W, p ∈ T := by
  induction h with
  | nil => exact fun _ h => nomatch h
  | snoc _ hp _ _ ih =>
    intro q hq
    rcases List.mem_append.mp hq with h | h
    · exact ih q h
    · rw [List.mem_singleton.mp h]; exact hp
def cutT (T : List Int) (t : Int) : List Int := T.filter fun q => decide (q ≠ t)
theorem cutT_mem {t q : Int} (h : q ∈ T) (n : q ≠ t) : q ∈ cutT T t := List.mem_filter.mpr ⟨h, decide_eq_true n⟩
theorem WayT.split {v : Int} {W : List Int} (h : WayT pr T a v W) {t : Int} : t ∈ W → (Conn ((cutT T t).map pr) a (pr t).1 ∧ Conn ((cutT T t).map pr) (pr t).2 v) ∨ (Conn ((cutT T t).map pr) a (pr t).2 ∧ Conn ((cutT T t).map pr) (pr t).1 v) := by
  induction h with
  | nil => exact fun h => nomatch h
  | @snoc u v W p hw hp hn e ih =>
    intro ht
    rcases List.mem_append.mp ht with ht | ht
    · have st : Conn ((cutT T t).map pr) u v := step_conn (List.mem_map.mpr ⟨p, cutT_mem hp (fun z => hn (z ▸ ht)), rfl⟩) e
      rcases ih ht with ⟨h1, h2⟩ | ⟨h1, h2⟩
      · exact .inl ⟨h1, h2.trans st⟩
      · exact .inr ⟨h1, h2.trans st⟩
    · have et := List.mem_singleton.mp ht
      subst et
      have c := hw.conn (C := cutT T t) fun q hq => cutT_mem (hw.sub q hq) fun z => hn (z ▸ hq)
      rcases e with e | e
      · rw [e]; exact .inl ⟨c, .refl _ _⟩
      · rw [e]; exact .inr ⟨c, .refl _ _⟩
theorem tree_cut {n : Nat} (hl : T.length + 1 = n) (hA : All n (T.map pr)) {t : Int} (ht : t ∈ T) : ¬ Conn ((cutT T t).map pr) (pr t).1 (pr t).2 := fun c => by
  have h : All n ((cutT T t).map pr) := fun x y hx hy => conn_of (F := T.map pr) (fun e he => by
    obtain ⟨q, hq, rfl⟩ := List.mem_map.mp he
    by_cases hqt : q = t
    · subst hqt; exact c
    · exact conn_edge (List.mem_map.mpr ⟨q, cutT_mem hq hqt, rfl⟩)) (hA x y hx hy)
  have z := all_count h
  rw [List.length_map] at z
  have lt : (cutT T t).length < T.length := by
    unfold cutT
    rw [List.length_filter_lt_length_iff_exists]
    exact ⟨t, ht, by simp⟩
  omega
theorem way_dear {n : Nat} (hl : T.length + 1 = n) (hA : All n (T.map pr)) {b : Int} {W : List Int} (h : WayT pr T a b W) (w : Int → Int) (c : Int) : (W.any fun p => decide (c < w p)) = true ↔ ¬ Conn ((T.filter fun q => decide (w q ≤ c)).map pr) a b := by
  constructor
  · intro hany z
    obtain ⟨t, ht, hc⟩ := List.any_eq_true.mp hany
    have hc := of_decide_eq_true hc
    have zc : Conn ((cutT T t).map pr) a b := conn_sub (fun e he => by
      obtain ⟨q, hq, rfl⟩ := List.mem_map.mp he
      obtain ⟨q1, q2⟩ := List.mem_filter.mp hq
      have q2 := of_decide_eq_true q2
      exact List.mem_map.mpr ⟨q, cutT_mem q1 (fun z => by subst z; omega), rfl⟩) z
    have tc := tree_cut hl hA (h.sub t ht)
    rcases h.split ht with ⟨h1, h2⟩ | ⟨h1, h2⟩
    · exact tc ((h1.symm.trans zc).trans h2.symm)
    · exact tc ((h2.trans zc.symm).trans h1)
  · intro z
    refine Classical.byContradiction fun na => z (h.conn fun p hp => List.mem_filter.mpr ⟨h.sub p hp, decide_eq_true ?_⟩)
    refine Classical.byContradiction fun nl => na (List.any_eq_true.mpr ⟨p, hp, decide_eq_true (by omega)⟩)
end
abbrev WD := List (Int × List Int)
def keysW (D : WD) : List Int := D.map (·.1)
def getW (D : WD) (v : Int) : List Int := match D.find? fun y => decide (y.1 = v) with
  | some y => y.2
  | none => []
theorem getW_mem {D : WD} {v : Int} (h : v ∈ keysW D) : (v, getW D v) ∈ D := by
  unfold getW
  cases e : D.find? fun y => decide (y.1 = v) with
  | none =>
    obtain ⟨y, hy, rfl⟩ := List.mem_map.mp h
    have := List.find?_eq_none.mp e y hy
    simp at this
  | some y =>
    have h1 := List.find?_some e
    have h2 := List.mem_of_find?_eq_some e
    have h1 : y.1 = v := of_decide_eq_true h1
    subst h1
    exact h2
section
variable (pr : Int → Pr) (T : List Int) (n : Nat) (a : Int)
structure WB (here : Int) (D : WD) (Wt : List Int) : Prop where
  nd : (keysW D).Nodup
  way : ∀ y ∈ D, WayT pr T a y.1 y.2
  ends : ∀ y ∈ D, ∀ p ∈ y.2, (pr p).1 ∈ keysW D ∧ (pr p).2 ∈ keysW D
  start : a ∈ keysW D
  wt : ∀ v ∈ Wt, v ∈ keysW D
  rng : ∀ v ∈ keysW D, 0 ≤ v ∧ v < (n : Int)
  done : ∀ v ∈ keysW D, v ∉ Wt → v ≠ here → ∀ p ∈ T, (v = (pr p).1 → (pr p).2 ∈ keysW D) ∧ (v = (pr p).2 → (pr p).1 ∈ keysW D)
def othW (here p : Int) : Int := (pr p).1 + (pr p).2 - here
def stepW (here : Int) (s : WD × List Int) (p : Int) : WD × List Int := if (here = (pr p).1 ∨ here = (pr p).2) ∧ othW pr here p ∉ keysW s.1 then (s.1 ++ [(othW pr here p, getW s.1 here ++ [p])], s.2 ++ [othW pr here p]) else s
end
section
variable {pr : Int → Pr} {T : List Int} {n : Nat} {a here : Int}
theorem keysW_app (D : WD) (v : Int) (W : List Int) : keysW (D ++ [(v, W)]) = keysW D ++ [v] := by unfold keysW; rw [List.map_append]; rfl
theorem WB.len {D : WD} {Wt : List Int} (h : WB pr T n a here D Wt) : D.length ≤ n := by
  have z := h.nd
  have e : (keysW D).length = D.length := List.length_map _
  have s : ∀ x ∈ keysW D, x ∈ nat0 n := fun x hx => nat0_mem.mpr (h.rng x hx)
  have := z.length_le_of_subset s
  rw [nat0_len] at this
  omega
theorem stepW_ok {D : WD} {Wt : List Int} (h : WB pr T n a here D Wt) (hh : here ∈ keysW D) {p : Int} (hp : p ∈ T) (hr : (0 ≤ (pr p).1 ∧ (pr p).1 < (n : Int)) ∧ 0 ≤ (pr p).2 ∧ (pr p).2 < (n : Int)) :
    WB pr T n a here (stepW pr here (D, Wt) p).1 (stepW pr here (D, Wt) p).2 ∧ (∃ t, keysW (stepW pr here (D, Wt) p).1 = keysW D ++ t ∧ (stepW pr here (D, Wt) p).2 = Wt ++ t) ∧ ((here = (pr p).1 → (pr p).2 ∈ keysW (stepW pr here (D, Wt) p).1) ∧ (here = (pr p).2 → (pr p).1 ∈ keysW (stepW pr here (D, Wt) p).1)) := by
  unfold stepW
  by_cases c : (here = (pr p).1 ∨ here = (pr p).2) ∧ othW pr here p ∉ keysW D
  · rw [if_pos c]
    dsimp only
    obtain ⟨c1, c2⟩ := c
    generalize ho : othW pr here p = o at *
    have ho' : (pr p).1 + (pr p).2 - here = o := ho
    have e : pr p = (here, o) ∨ pr p = (o, here) := by
      rcases c1 with c1 | c1
      · exact .inl (Prod.ext c1.symm (show (pr p).2 = o by omega))
      · exact .inr (Prod.ext (show (pr p).1 = o by omega) c1.symm)
    have or' : 0 ≤ o ∧ o < (n : Int) := by
      rcases e with e | e
      · rw [e] at hr
        exact hr.2
      · rw [e] at hr
        exact hr.1
    have gm := getW_mem hh
    have hw := h.way _ gm
    have he := h.ends _ gm
    have pn : p ∉ getW D here := fun z => by
      have := he p z
      rcases e with e | e
      · rw [e] at this
        exact c2 this.2
      · rw [e] at this
        exact c2 this.1
    have kk := keysW_app D o (getW D here ++ [p])
    refine ⟨⟨?_, fun y hy => ?_, fun y hy q hq => ?_, ?_, fun v hv => ?_, fun v hv => ?_, fun v hv hn hne q hq => ?_⟩, ⟨[o], kk, rfl⟩, ?_⟩
    · rw [kk]
      exact List.nodup_append.mpr ⟨h.nd, by simp, fun x hx y hy => by rw [List.mem_singleton.mp hy]; exact fun z => c2 (z ▸ hx)⟩
    · rcases List.mem_append.mp hy with hy | hy
      · exact h.way y hy
      · rw [List.mem_singleton.mp hy]
        exact .snoc hw hp pn e
    · rw [kk]
      rcases List.mem_append.mp hy with hy | hy
      · exact ⟨List.mem_append_left _ (h.ends y hy q hq).1, List.mem_append_left _ (h.ends y hy q hq).2⟩
      · rw [List.mem_singleton.mp hy] at hq
        rcases List.mem_append.mp hq with hq | hq
        · exact ⟨List.mem_append_left _ (he q hq).1, List.mem_append_left _ (he q hq).2⟩
        · rw [List.mem_singleton.mp hq]
          have h1 : here ∈ keysW D ++ [o] := List.mem_append_left _ hh
          have h2 : o ∈ keysW D ++ [o] := List.mem_append_right _ (List.mem_singleton.mpr rfl)
          rcases e with e | e <;> rw [e]
          · exact ⟨h1, h2⟩
          · exact ⟨h2, h1⟩
    · rw [kk]; exact List.mem_append_left _ h.start
    · rw [kk]
      rcases List.mem_append.mp hv with hv | hv
      · exact List.mem_append_left _ (h.wt v hv)
      · exact List.mem_append_right _ hv
    · rw [kk] at hv
      rcases List.mem_append.mp hv with hv | hv
      · exact h.rng v hv
      · rw [List.mem_singleton.mp hv]; exact or'
    · rw [kk] at hv ⊢
      rcases List.mem_append.mp hv with hv | hv
      · have z := h.done v hv (fun y => hn (List.mem_append_left _ y)) hne q hq
        exact ⟨fun y => List.mem_append_left _ (z.1 y), fun y => List.mem_append_left _ (z.2 y)⟩
      · exact absurd (List.mem_append_right _ hv) hn
    · rw [kk]
      have h1 : here ∈ keysW D ++ [o] := List.mem_append_left _ hh
      have h2 : o ∈ keysW D ++ [o] := List.mem_append_right _ (List.mem_singleton.mpr rfl)
      rcases e with e | e <;> rw [e]
      · exact ⟨fun _ => h2, fun _ => h1⟩
      · exact ⟨fun _ => h1, fun _ => h2⟩
  · rw [if_neg c]
    refine ⟨h, ⟨[], by rw [List.append_nil], by rw [List.append_nil]⟩, fun z => ?_, fun z => ?_⟩
    · refine Classical.byContradiction fun y => c ⟨.inl z, ?_⟩
      unfold othW
      rw [show (pr p).1 + (pr p).2 - here = (pr p).2 by omega]
      exact y
    · refine Classical.byContradiction fun y => c ⟨.inr z, ?_⟩
      unfold othW
      rw [show (pr p).1 + (pr p).2 - here = (pr p).1 by omega]
      exact y
theorem turnW (hr : ∀ p ∈ T, (0 ≤ (pr p).1 ∧ (pr p).1 < (n : Int)) ∧ 0 ≤ (pr p).2 ∧ (pr p).2 < (n : Int)) : ∀ (fs : List Int) {D : WD} {Wt : List Int}, (∀ p ∈ fs, p ∈ T) → WB pr T n a here D Wt → here ∈ keysW D →
    WB pr T n a here (fs.foldl (stepW pr here) (D, Wt)).1 (fs.foldl (stepW pr here) (D, Wt)).2 ∧ (∃ t, keysW (fs.foldl (stepW pr here) (D, Wt)).1 = keysW D ++ t ∧ (fs.foldl (stepW pr here) (D, Wt)).2 = Wt ++ t) ∧ ∀ p ∈ fs, (here = (pr p).1 → (pr p).2 ∈ keysW (fs.foldl (stepW pr here) (D, Wt)).1) ∧ (here = (pr p).2 → (pr p).1 ∈ keysW (fs.foldl (stepW pr here) (D, Wt)).1)
  | [], D, Wt, _, h, _ => ⟨h, ⟨[], by rw [List.append_nil]; rfl, by rw [List.append_nil]; rfl⟩, fun _ h => nomatch h⟩
  | p :: fs, D, Wt, hf, h, hh => by
    rw [List.foldl_cons]
    obtain ⟨s1, ⟨t, s2, s3⟩, s4⟩ := stepW_ok h hh (hf p List.mem_cons_self) (hr p (hf p List.mem_cons_self))
    generalize stepW pr here (D, Wt) p = S at *
    obtain ⟨D', Wt'⟩ := S
    dsimp only at s1 s2 s3 s4
    obtain ⟨r1, ⟨t2, r2, r3⟩, r4⟩ := turnW hr fs (fun q hq => hf q (List.mem_cons_of_mem _ hq)) s1 (by rw [s2]; exact List.mem_append_left _ hh)
    refine ⟨r1, ⟨t ++ t2, by rw [r2, s2, List.append_assoc], by rw [r3, s3, List.append_assoc]⟩, fun q hq => ?_⟩
    rcases List.mem_cons.mp hq with rfl | hq
    · rw [r2]
      exact ⟨fun z => List.mem_append_left _ (s4.1 z), fun z => List.mem_append_left _ (s4.2 z)⟩
    · exact r4 q hq
end
end

section
variable {κ : Bool}
theorem WayT.nodup {pr : Int → Pr} {T : List Int} {a v : Int} {W : List Int} (h : WayT pr T a v W) : W.Nodup := by
  induction h with
  | nil => exact List.nodup_nil
  | snoc _ _ hn _ ih => exact List.nodup_append.mpr ⟨ih, by simp, fun x hx y hy => by rw [List.mem_singleton.mp hy]; exact fun z => hn (z ▸ hx)⟩
def encW (D : WD) : List (PyData × PyData) := D.map fun y => (PyData.int y.1, PyData.list (y.2.map .int))
theorem at_od0 (ds : List (D × D)) (ρ : Rho) : dVar 0 (some (.odic ds) :: ρ) = M.ret (.dict ds) := nr rfl
theorem hide1_k (ds : List (D × D)) : hide1 (some (.odic ds)) = none := nr rfl
theorem find_enc (v : Int) : ∀ D : WD, findI v (encW D) = if v ∈ keysW D then some (.list ((getW D v).map .int)) else none
  | [] => rfl
  | y :: D => by
    have ih := find_enc v D
    show (if y.1 = v then _ else findI v (encW D)) = _
    unfold keysW getW at *
    rw [List.map_cons, List.find?_cons]
    by_cases h : y.1 = v
    · rw [if_pos h, if_pos (List.mem_cons.mpr (.inl h.symm)), decide_eq_true h]
    · rw [if_neg h, ih, decide_eq_false h]
      by_cases h2 : v ∈ D.map (·.1)
      · rw [if_pos h2, if_pos (List.mem_cons_of_mem _ h2)]
      · rw [if_neg h2, if_neg (fun z => (List.mem_cons.mp z).elim (fun e => h e.symm) h2)]
theorem tup_enc (D : WD) : tupKd (encW D) = false := by cases D <;> rfl
theorem put_enc {D : WD} {o : Int} (h : o ∉ keysW D) (d : PyData) : putD (encW D) (.inl o) d = encW D ++ [(.int o, d)] := by
  have e : (encW D).any (fun q => isK (.inl o) q.1) = false := by
    rw [List.any_eq_false]
    intro q hq
    obtain ⟨y, hy, rfl⟩ := List.mem_map.mp hq
    show ¬ decide (y.1 = o) = true
    rw [decide_eq_true_eq]
    exact fun z => h (z ▸ List.mem_map.mpr ⟨y, hy, rfl⟩)
  unfold putD
  rw [e, if_neg Bool.false_ne_true]
  rfl
theorem flat_is : ∀ W : List Int, flatAll (W.map PyData.int) = true
  | [] => by rw [List.map_nil, flatAll]
  | x :: W => by rw [List.map_cons, flatAll, flat_is W, flatD]; rfl
abbrev wBody : DS := sSeq (sAsg (gT [(gN 8), (gN 9), (gN 10)]) (dBin oIx (dBin oIx (dVar 0) (dC (.int 1))) (dVar 7)))
  (sIf (tAnd (tOf (dBin oIn (dVar 6) (dTup [(dVar 8), (dVar 9)]))) (tOf (dBin oNotInD (dBin oSub (dBin oAdd (dVar 8) (dVar 9)) (dVar 6)) (dVar 4)))) (sSeq (sDPutN 4 (dBin oSub (dBin oAdd (dVar 8) (dVar 9)) (dVar 6)) (dBin oCat (dBin oDGet (dVar 4) (dVar 6)) (dLst [(dVar 7)])))
  (sApp 5 (dBin oSub (dBin oAdd (dVar 8) (dVar 9)) (dVar 6)))) sNil)
section
variable {many : Nat} {es : List E3} {ps : List Int} {a b here : Int}
theorem body_w (ok : CabOk many es) (hl : ps.length ≤ 100) {p : Int} (hp : 0 ≤ p ∧ p < es.length) {D : WD} {Wt : List Int} (h : WB (prOf es) ps many a here D Wt) (hh : here ∈ keysW D) (hw : Wt.length ≤ 100) (x7 x8 x9 x10 : Option Slot) :
    ∃ y8 y9 y10, M.bnd (gN 7 (.int p) [some (.dat (encCb many es)), some (.dat (encT ps)), some (.dat (.int a)), some (.dat (.int b)), some (.odic (encW D)), some (.own ((Wt).map .int)), some (.dat (.int here)), x7, x8, x9, x10]) wBody = M.ret (.next [some (.dat (encCb many es)), some (.dat (encT ps)), some (.dat (.int a)), some (.dat (.int b)), some (.odic (encW (stepW (prOf es) here (D, Wt) p).1)), some (.own (((stepW (prOf es) here (D, Wt) p).2).map .int)), some (.dat (.int here)), some (.dat (.int p)), y8, y9, y10]) := by
  have m8 := ok.m8
  obtain ⟨c, ec⟩ := edge_ix (many := many) hp
  have i1 : oIx (encCb many es) (.int 1) = M.ret (.tuple (es.map enc3)) := rfl
  have dl := h.len
  have wl : (getW D here).length ≤ ps.length := ((h.way _ (getW_mem hh)).nodup.length_le_of_subset (l₂ := ps) fun x hx => (h.way _ (getW_mem hh)).sub x hx)
  have e20 : (2 : Nat) ^ 20 = 1048576 := by decide +kernel
  have g1 : oDGet (.dict (encW D)) (.int here) = M.ret (.list ((getW D here).map .int)) := by
    unfold oDGet
    dsimp only
    rw [find_enc, if_pos hh]
  refine ⟨some (.dat (.int (prOf es p).1)), some (.dat (.int (prOf es p).2)), some (.dat (.int c)), ?_⟩
  unfold stepW othW
  have in2 : oIn (.int here) (.tuple [.int (prOf es p).1, .int (prOf es p).2]) = M.ret (.bool (decide (here ∈ [(prOf es p).1, (prOf es p).2]))) := in_ints_t here [(prOf es p).1, (prOf es p).2]
  have hn : ∀ o : Int, oNotInD (.int o) (.dict (encW D)) = M.ret (.bool (!decide (o ∈ keysW D))) := fun o => by
    unfold oNotInD hasD
    dsimp only
    rw [tup_enc, if_neg Bool.false_ne_true, find_enc]
    by_cases z : o ∈ keysW D
    · rw [if_pos z, decide_eq_true z]; rfl
    · rw [if_neg z, decide_eq_false z]; rfl
  have oct : oCat (.list ((getW D here).map .int)) (.list [.int p]) = M.ret (.list ((getW D here ++ [p]).map .int)) := by
    unfold oCat
    dsimp only
    rw [if_pos (Nat.le_of_lt (line_lt (by rw [List.length_map, List.length_singleton]; omega))), List.map_append]
    rfl
  have fl := flat_is (getW D here ++ [p])
  generalize hW : getW D here ++ [p] = W at *
  generalize prOf es p = e at *
  generalize encCb many es = C at *
  by_cases h1 : here = e.1 ∨ here = e.2
  · have d1 : decide (here ∈ [e.1, e.2]) = true := decide_eq_true (by simpa using h1)
    by_cases h2 : e.1 + e.2 - here ∈ keysW D
    · rw [if_neg (fun z => z.2 h2)]
      simp only [at_emp, at_dis1, at_ow0, at_ows, at_calln, isLst_ret, at_c, at_bin, at_un, at_v0, at_o0, at_vs, at_tup, at_lst, at_each0, at_eachs, at_ad, at_p0, at_ps, at_args0, at_argss, at_call, at_tofk, at_and, at_or, at_not, at_dand, at_dor, at_dnot, at_if, at_chain, at_gn, at_g2, at_g3, at_g4, at_iseq, at_r1, at_r2, turn_def, at_sasgn, at_sforr, at_nil, at_seq, at_asg, at_sown, at_sret, at_sretn, at_sif, at_sdrop, at_sbrk, at_scont, at_sfor, hide_nil, hide_cons, hide1_d, hide1_n, hide1_p, hide1_o, set_0, set_s, bnd_ret, bnd_stuck, bnd_bnd, bnd_ite, slot_d, slot_p, wipeR, List.map_cons, List.map_nil, List.cons_append, List.nil_append, List.replicate, add_ints, sub_ints, le_ints, lt_ints, ge_ints, gt_ints, neg_ints, min2_ints, max2_ints, oEq_ints, oNe_ints, oEq_bools, oNe_bools, len_tup, len_lst, revL_l, oEq_strs, oNe_strs, tuple_l, tuple_t, list_l, list_t, at_sl, at_pn, at_ps', sl_tup', sl_lst', is_T, is_L, is_I, is_B, is_S, is_N, not_N, isT_n, isT_b, isT_i, isT_s, isT_t, isT_l, isT_d, isL_n, isL_b, isL_i, isL_s, isL_t, isL_l, isL_d, isI_n, isI_b, isI_i, isI_s, isI_t, isI_l, isI_d, isB_n, isB_b, isB_i, isB_s, isB_t, isB_l, isB_d, isS_n, isS_b, isS_i, isS_s, isS_t, isS_l, isS_d, isN_n, isN_b, isN_i, isN_s, isN_t, isN_l, isN_d, decide_eq_true_eq, Bool.not_eq_true', decide_eq_false_iff_not, Bool.false_eq_true, if_true, if_false, decide_true, decide_false, Bool.not_true, Bool.not_false, not_true_eq_false, not_false_eq_true, ret_ite_o, Int.reduceLT, Int.reduceLE, Int.reduceEq, Int.reduceAdd, Int.reduceSub, Int.reduceNeg, reduceCtorEq, hide1_k, at_od0, i1, ec, in2, d1, hn, h2]
    · rw [if_pos ⟨h1, h2⟩]
      have pe := put_enc h2 (.list (W.map .int))
      have ea : encW (D ++ [(e.1 + e.2 - here, W)]) = encW D ++ [(.int (e.1 + e.2 - here), .list (W.map .int))] := by unfold encW; rw [List.map_append]; rfl
      simp only [at_emp, at_dis1, at_ow0, at_ows, at_calln, isLst_ret, at_c, at_bin, at_un, at_v0, at_o0, at_vs, at_tup, at_lst, at_each0, at_eachs, at_ad, at_p0, at_ps, at_args0, at_argss, at_call, at_tofk, at_and, at_or, at_not, at_dand, at_dor, at_dnot, at_if, at_chain, at_gn, at_g2, at_g3, at_g4, at_iseq, at_r1, at_r2, turn_def, at_sasgn, at_sforr, at_nil, at_seq, at_asg, at_sown, at_sret, at_sretn, at_sif, at_sdrop, at_sbrk, at_scont, at_sfor, hide_nil, hide_cons, hide1_d, hide1_n, hide1_p, hide1_o, set_0, set_s, bnd_ret, bnd_stuck, bnd_bnd, bnd_ite, slot_d, slot_p, wipeR, List.map_cons, List.map_nil, List.cons_append, List.nil_append, List.replicate, add_ints, sub_ints, le_ints, lt_ints, ge_ints, gt_ints, neg_ints, min2_ints, max2_ints, oEq_ints, oNe_ints, oEq_bools, oNe_bools, len_tup, len_lst, revL_l, oEq_strs, oNe_strs, tuple_l, tuple_t, list_l, list_t, at_sl, at_pn, at_ps', sl_tup', sl_lst', is_T, is_L, is_I, is_B, is_S, is_N, not_N, isT_n, isT_b, isT_i, isT_s, isT_t, isT_l, isT_d, isL_n, isL_b, isL_i, isL_s, isL_t, isL_l, isL_d, isI_n, isI_b, isI_i, isI_s, isI_t, isI_l, isI_d, isB_n, isB_b, isB_i, isB_s, isB_t, isB_l, isB_d, isS_n, isS_b, isS_i, isS_s, isS_t, isS_l, isS_d, isN_n, isN_b, isN_i, isN_s, isN_t, isN_l, isN_d, decide_eq_true_eq, Bool.not_eq_true', decide_eq_false_iff_not, Bool.false_eq_true, if_true, if_false, decide_true, decide_false, Bool.not_true, Bool.not_false, not_true_eq_false, not_false_eq_true, ret_ite_o, Int.reduceLT, Int.reduceLE, Int.reduceEq, Int.reduceAdd, Int.reduceSub, Int.reduceNeg, reduceCtorEq, hide1_k, at_od0, i1, ec, in2, d1, hn, h2]
      rw [at_dputn (ds := encW D) rfl]
      have ld : (encW D).length < lineMax := line_lt (by unfold encW; rw [List.length_map]; omega)
      have kO : ∀ i : Int, keyOf (.int i) = some (.inl i) := fun _ => rfl
      simp only [at_emp, at_dis1, at_ow0, at_ows, at_calln, isLst_ret, at_c, at_bin, at_un, at_v0, at_o0, at_vs, at_tup, at_lst, at_each0, at_eachs, at_ad, at_p0, at_ps, at_args0, at_argss, at_call, at_tofk, at_and, at_or, at_not, at_dand, at_dor, at_dnot, at_if, at_chain, at_gn, at_g2, at_g3, at_g4, at_iseq, at_r1, at_r2, turn_def, at_sasgn, at_sforr, at_nil, at_seq, at_asg, at_sown, at_sret, at_sretn, at_sif, at_sdrop, at_sbrk, at_scont, at_sfor, hide_nil, hide_cons, hide1_d, hide1_n, hide1_p, hide1_o, set_0, set_s, bnd_ret, bnd_stuck, bnd_bnd, bnd_ite, slot_d, slot_p, wipeR, List.map_cons, List.map_nil, List.cons_append, List.nil_append, List.replicate, add_ints, sub_ints, le_ints, lt_ints, ge_ints, gt_ints, neg_ints, min2_ints, max2_ints, oEq_ints, oNe_ints, oEq_bools, oNe_bools, len_tup, len_lst, revL_l, oEq_strs, oNe_strs, tuple_l, tuple_t, list_l, list_t, at_sl, at_pn, at_ps', sl_tup', sl_lst', is_T, is_L, is_I, is_B, is_S, is_N, not_N, isT_n, isT_b, isT_i, isT_s, isT_t, isT_l, isT_d, isL_n, isL_b, isL_i, isL_s, isL_t, isL_l, isL_d, isI_n, isI_b, isI_i, isI_s, isI_t, isI_l, isI_d, isB_n, isB_b, isB_i, isB_s, isB_t, isB_l, isB_d, isS_n, isS_b, isS_i, isS_s, isS_t, isS_l, isS_d, isN_n, isN_b, isN_i, isN_s, isN_t, isN_l, isN_d, decide_eq_true_eq, Bool.not_eq_true', decide_eq_false_iff_not, Bool.false_eq_true, if_true, if_false, decide_true, decide_false, Bool.not_true, Bool.not_false, not_true_eq_false, not_false_eq_true, ret_ite_o, Int.reduceLT, Int.reduceLE, Int.reduceEq, Int.reduceAdd, Int.reduceSub, Int.reduceNeg, reduceCtorEq, at_od0, g1, oct, fl, kO, ld, pe]
      rw [at_sapp 5 _ _ (ds := Wt.map .int) rfl (line_lt (by rw [List.length_map]; omega))]
      simp only [at_emp, at_dis1, at_ow0, at_ows, at_calln, isLst_ret, at_c, at_bin, at_un, at_v0, at_o0, at_vs, at_tup, at_lst, at_each0, at_eachs, at_ad, at_p0, at_ps, at_args0, at_argss, at_call, at_tofk, at_and, at_or, at_not, at_dand, at_dor, at_dnot, at_if, at_chain, at_gn, at_g2, at_g3, at_g4, at_iseq, at_r1, at_r2, turn_def, at_sasgn, at_sforr, at_nil, at_seq, at_asg, at_sown, at_sret, at_sretn, at_sif, at_sdrop, at_sbrk, at_scont, at_sfor, hide_nil, hide_cons, hide1_d, hide1_n, hide1_p, hide1_o, set_0, set_s, bnd_ret, bnd_stuck, bnd_bnd, bnd_ite, slot_d, slot_p, wipeR, List.map_cons, List.map_nil, List.cons_append, List.nil_append, List.replicate, add_ints, sub_ints, le_ints, lt_ints, ge_ints, gt_ints, neg_ints, min2_ints, max2_ints, oEq_ints, oNe_ints, oEq_bools, oNe_bools, len_tup, len_lst, revL_l, oEq_strs, oNe_strs, tuple_l, tuple_t, list_l, list_t, at_sl, at_pn, at_ps', sl_tup', sl_lst', is_T, is_L, is_I, is_B, is_S, is_N, not_N, isT_n, isT_b, isT_i, isT_s, isT_t, isT_l, isT_d, isL_n, isL_b, isL_i, isL_s, isL_t, isL_l, isL_d, isI_n, isI_b, isI_i, isI_s, isI_t, isI_l, isI_d, isB_n, isB_b, isB_i, isB_s, isB_t, isB_l, isB_d, isS_n, isS_b, isS_i, isS_s, isS_t, isS_l, isS_d, isN_n, isN_b, isN_i, isN_s, isN_t, isN_l, isN_d, decide_eq_true_eq, Bool.not_eq_true', decide_eq_false_iff_not, Bool.false_eq_true, if_true, if_false, decide_true, decide_false, Bool.not_true, Bool.not_false, not_true_eq_false, not_false_eq_true, ret_ite_o, Int.reduceLT, Int.reduceLE, Int.reduceEq, Int.reduceAdd, Int.reduceSub, Int.reduceNeg, reduceCtorEq, hide1_k, ea, List.map_append]
  · have d1 : decide (here ∈ [e.1, e.2]) = false := decide_eq_false (by simpa using h1)
    rw [if_neg (fun z => h1 z.1)]
    simp only [at_emp, at_dis1, at_ow0, at_ows, at_calln, isLst_ret, at_c, at_bin, at_un, at_v0, at_o0, at_vs, at_tup, at_lst, at_each0, at_eachs, at_ad, at_p0, at_ps, at_args0, at_argss, at_call, at_tofk, at_and, at_or, at_not, at_dand, at_dor, at_dnot, at_if, at_chain, at_gn, at_g2, at_g3, at_g4, at_iseq, at_r1, at_r2, turn_def, at_sasgn, at_sforr, at_nil, at_seq, at_asg, at_sown, at_sret, at_sretn, at_sif, at_sdrop, at_sbrk, at_scont, at_sfor, hide_nil, hide_cons, hide1_d, hide1_n, hide1_p, hide1_o, set_0, set_s, bnd_ret, bnd_stuck, bnd_bnd, bnd_ite, slot_d, slot_p, wipeR, List.map_cons, List.map_nil, List.cons_append, List.nil_append, List.replicate, add_ints, sub_ints, le_ints, lt_ints, ge_ints, gt_ints, neg_ints, min2_ints, max2_ints, oEq_ints, oNe_ints, oEq_bools, oNe_bools, len_tup, len_lst, revL_l, oEq_strs, oNe_strs, tuple_l, tuple_t, list_l, list_t, at_sl, at_pn, at_ps', sl_tup', sl_lst', is_T, is_L, is_I, is_B, is_S, is_N, not_N, isT_n, isT_b, isT_i, isT_s, isT_t, isT_l, isT_d, isL_n, isL_b, isL_i, isL_s, isL_t, isL_l, isL_d, isI_n, isI_b, isI_i, isI_s, isI_t, isI_l, isI_d, isB_n, isB_b, isB_i, isB_s, isB_t, isB_l, isB_d, isS_n, isS_b, isS_i, isS_s, isS_t, isS_l, isS_d, isN_n, isN_b, isN_i, isN_s, isN_t, isN_l, isN_d, decide_eq_true_eq, Bool.not_eq_true', decide_eq_false_iff_not, Bool.false_eq_true, if_true, if_false, decide_true, decide_false, Bool.not_true, Bool.not_false, not_true_eq_false, not_false_eq_true, ret_ite_o, Int.reduceLT, Int.reduceLE, Int.reduceEq, Int.reduceAdd, Int.reduceSub, Int.reduceNeg, reduceCtorEq, hide1_k, at_od0, i1, ec, in2, d1]
end
end

section
variable {κ : Bool}
section
variable {many : Nat} {es : List E3} {ps : List Int} {a b : Int}
theorem pr_rng (ok : CabOk many es) (hp : ∀ p ∈ ps, 0 ≤ p ∧ p < (es.length : Int)) : ∀ p ∈ ps, (0 ≤ (prOf es p).1 ∧ (prOf es p).1 < (many : Int)) ∧ 0 ≤ (prOf es p).2 ∧ (prOf es p).2 < (many : Int) := fun p h => pr_in ok (hp p h)
theorem loop_w (ok : CabOk many es) (hl : ps.length ≤ 90) (hp : ∀ p ∈ ps, 0 ≤ p ∧ p < (es.length : Int)) {here : Int} {D : WD} {Wt : List Int} (h : WB (prOf es) ps many a here D Wt) (hh : here ∈ keysW D) (hw : Wt.length ≤ 50) (x7 x8 x9 x10 : Option Slot) :
    ∃ y7 y8 y9 y10, forGo (gN 7) wBody (ps.map .int) [some (.dat (encCb many es)), some (.dat (encT ps)), some (.dat (.int a)), some (.dat (.int b)), some (.odic (encW D)), some (.own ((Wt).map .int)), some (.dat (.int here)), x7, x8, x9, x10] = M.ret (.next [some (.dat (encCb many es)), some (.dat (encT ps)), some (.dat (.int a)), some (.dat (.int b)), some (.odic (encW (ps.foldl (stepW (prOf es) here) (D, Wt)).1)), some (.own (((ps.foldl (stepW (prOf es) here) (D, Wt)).2).map .int)), some (.dat (.int here)), y7, y8, y9, y10]) := by
  have m8 := ok.m8
  obtain ⟨r, er, y7, y8, y9, y10, hr⟩ := for_all (as := ps) (g := gN 7) (B := wBody) (ρ := [some (.dat (encCb many es)), some (.dat (encT ps)), some (.dat (.int a)), some (.dat (.int b)), some (.odic (encW D)), some (.own ((Wt).map .int)), some (.dat (.int here)), x7, x8, x9, x10]) PyData.int
    (fun j ρ => ∃ x7 x8 x9 x10, ρ = [some (.dat (encCb many es)), some (.dat (encT ps)), some (.dat (.int a)), some (.dat (.int b)), some (.odic (encW ((ps.take j).foldl (stepW (prOf es) here) (D, Wt)).1)), some (.own ((((ps.take j).foldl (stepW (prOf es) here) (D, Wt)).2).map .int)), some (.dat (.int here)), x7, x8, x9, x10]) ⟨_, _, _, _, rfl⟩ (fun j p ρ hj hI => by
      obtain ⟨x7, x8, x9, x10, rfl⟩ := hI
      have hpm := List.mem_of_getElem? hj
      obtain ⟨w1, ⟨t, w2, w3⟩, _⟩ := turnW (pr_rng ok hp) (ps.take j) (fun p h => List.mem_of_mem_take h) h hh
      have et : ps.take (j + 1) = ps.take j ++ [p] := by rw [List.take_add_one, hj]; rfl
      rw [et, List.foldl_append]
      generalize (ps.take j).foldl (stepW (prOf es) here) (D, Wt) = St at *
      obtain ⟨D1, Wt1⟩ := St
      dsimp only at w1 w2 w3
      have d1 := w1.len
      have k1 : (keysW D1).length = D1.length := List.length_map _
      have k2 := congrArg List.length w2
      rw [List.length_append] at k2
      have k3 := congrArg List.length w3
      rw [List.length_append] at k3
      obtain ⟨y8, y9, y10, e⟩ := body_w (b := b) ok (by omega) (hp p hpm) w1 (by rw [w2]; exact List.mem_append_left _ hh) (by omega) x7 x8 x9 x10
      exact ⟨_, .inl e, _, _, _, _, rfl⟩)
  subst hr
  rw [List.take_length] at er
  exact ⟨y7, y8, y9, y10, er⟩
theorem way_ok (ok : CabOk many es) (hl : ps.length ≤ 90) (hp : ∀ p ∈ ps, 0 ≤ p ∧ p < (es.length : Int)) (hA : All many (ps.map (prOf es))) (ha : 0 ≤ a ∧ a < (many : Int)) (hb : 0 ≤ b ∧ b < (many : Int)) :
    DoesK κ (F_way_between [.d (encCb many es), .d (encT ps), .d (.int a), .d (.int b)]) fun d => ∃ W, d = .list (W.map .int) ∧ WayT (prOf es) ps a b W := by
  have m1 := ok.m1
  have m8 := ok.m8
  refine does_fn rfl ?_
  show DoesK _ (_ : M Out) _
  simp only [List.map_cons, List.map_nil, slot_d, List.cons_append, List.nil_append, List.replicate]
  refine seq_next (P := (· = [some (.dat (encCb many es)), some (.dat (encT ps)), some (.dat (.int a)), some (.dat (.int b)), some (.odic (encW [(a, [])])), none, none, none, none, none, none])) ?_ ?_
  · refine does_of (a := .next [some (.dat (encCb many es)), some (.dat (encT ps)), some (.dat (.int a)), some (.dat (.int b)), some (.odic (encW [(a, [])])), none, none, none, none, none, none]) ?_ ⟨_, rfl, rfl⟩
    unfold sOwnD
    simp only [at_emp, at_dis1, at_ow0, at_ows, at_calln, isLst_ret, at_c, at_bin, at_un, at_v0, at_o0, at_vs, at_tup, at_lst, at_each0, at_eachs, at_ad, at_p0, at_ps, at_args0, at_argss, at_call, at_tofk, at_and, at_or, at_not, at_dand, at_dor, at_dnot, at_if, at_chain, at_gn, at_g2, at_g3, at_g4, at_iseq, at_r1, at_r2, turn_def, at_sasgn, at_sforr, at_nil, at_seq, at_asg, at_sown, at_sret, at_sretn, at_sif, at_sdrop, at_sbrk, at_scont, at_sfor, hide_nil, hide_cons, hide1_d, hide1_n, hide1_p, hide1_o, set_0, set_s, bnd_ret, bnd_stuck, bnd_bnd, bnd_ite, slot_d, slot_p, wipeR, List.map_cons, List.map_nil, List.cons_append, List.nil_append, List.replicate, add_ints, sub_ints, le_ints, lt_ints, ge_ints, gt_ints, neg_ints, min2_ints, max2_ints, oEq_ints, oNe_ints, oEq_bools, oNe_bools, len_tup, len_lst, revL_l, oEq_strs, oNe_strs, tuple_l, tuple_t, list_l, list_t, at_sl, at_pn, at_ps', sl_tup', sl_lst', is_T, is_L, is_I, is_B, is_S, is_N, not_N, isT_n, isT_b, isT_i, isT_s, isT_t, isT_l, isT_d, isL_n, isL_b, isL_i, isL_s, isL_t, isL_l, isL_d, isI_n, isI_b, isI_i, isI_s, isI_t, isI_l, isI_d, isB_n, isB_b, isB_i, isB_s, isB_t, isB_l, isB_d, isS_n, isS_b, isS_i, isS_s, isS_t, isS_l, isS_d, isN_n, isN_b, isN_i, isN_s, isN_t, isN_l, isN_d, decide_eq_true_eq, Bool.not_eq_true', decide_eq_false_iff_not, Bool.false_eq_true, if_true, if_false, decide_true, decide_false, Bool.not_true, Bool.not_false, not_true_eq_false, not_false_eq_true, ret_ite_o, Int.reduceLT, Int.reduceLE, Int.reduceEq, Int.reduceAdd, Int.reduceSub, Int.reduceNeg, reduceCtorEq, at_dis1]
    rfl
  rintro _ rfl
  refine seq_own (ds := [.int a]) (by simp only [at_emp, at_dis1, at_ow0, at_ows, at_calln, isLst_ret, at_c, at_bin, at_un, at_v0, at_o0, at_vs, at_tup, at_lst, at_each0, at_eachs, at_ad, at_p0, at_ps, at_args0, at_argss, at_call, at_tofk, at_and, at_or, at_not, at_dand, at_dor, at_dnot, at_if, at_chain, at_gn, at_g2, at_g3, at_g4, at_iseq, at_r1, at_r2, turn_def, at_sasgn, at_sforr, at_nil, at_seq, at_asg, at_sown, at_sret, at_sretn, at_sif, at_sdrop, at_sbrk, at_scont, at_sfor, hide_nil, hide_cons, hide1_d, hide1_n, hide1_p, hide1_o, set_0, set_s, bnd_ret, bnd_stuck, bnd_bnd, bnd_ite, slot_d, slot_p, wipeR, List.map_cons, List.map_nil, List.cons_append, List.nil_append, List.replicate, add_ints, sub_ints, le_ints, lt_ints, ge_ints, gt_ints, neg_ints, min2_ints, max2_ints, oEq_ints, oNe_ints, oEq_bools, oNe_bools, len_tup, len_lst, revL_l, oEq_strs, oNe_strs, tuple_l, tuple_t, list_l, list_t, at_sl, at_pn, at_ps', sl_tup', sl_lst', is_T, is_L, is_I, is_B, is_S, is_N, not_N, isT_n, isT_b, isT_i, isT_s, isT_t, isT_l, isT_d, isL_n, isL_b, isL_i, isL_s, isL_t, isL_l, isL_d, isI_n, isI_b, isI_i, isI_s, isI_t, isI_l, isI_d, isB_n, isB_b, isB_i, isB_s, isB_t, isB_l, isB_d, isS_n, isS_b, isS_i, isS_s, isS_t, isS_l, isS_d, isN_n, isN_b, isN_i, isN_s, isN_t, isN_l, isN_d, decide_eq_true_eq, Bool.not_eq_true', decide_eq_false_iff_not, Bool.false_eq_true, if_true, if_false, decide_true, decide_false, Bool.not_true, Bool.not_false, not_true_eq_false, not_false_eq_true, ret_ite_o, Int.reduceLT, Int.reduceLE, Int.reduceEq, Int.reduceAdd, Int.reduceSub, Int.reduceNeg, reduceCtorEq, hide1_k]) ?_
  simp only [set_0, set_s]
  refine seq_next (P := fun ρ => ∃ D h x7 x8 x9 x10, WB (prOf es) ps many a (-1) D [] ∧ ρ = [some (.dat (encCb many es)), some (.dat (encT ps)), some (.dat (.int a)), some (.dat (.int b)), some (.odic (encW D)), some (.own (([]).map .int)), h, x7, x8, x9, x10]) ?_ ?_
  · rw [at_swhile]
    refine while_does (fun n ρ => ∃ D Wt h x7 x8 x9 x10, WB (prOf es) ps many a (-1) D Wt ∧ Wt.length ≤ D.length ∧ n = 2 * (many - D.length) + Wt.length ∧ ρ = [some (.dat (encCb many es)), some (.dat (encT ps)), some (.dat (.int a)), some (.dat (.int b)), some (.odic (encW D)), some (.own ((Wt).map .int)), h, x7, x8, x9, x10]) (fun n ρ hI => ?_) fuelW (2 * (many - 1) + 1) _ (by unfold fuelW; omega) ⟨[(a, [])], [a], none, none, none, none, none, ⟨by unfold keysW; simp, (fun y hy => by rw [List.mem_singleton.mp hy]; exact .nil), (fun y hy p hq => by rw [List.mem_singleton.mp hy] at hq; exact absurd hq List.not_mem_nil), List.mem_cons_self, fun v hv => hv, (fun v hv => by rw [List.mem_singleton.mp hv]; exact ha), fun v hv hn => absurd hv hn⟩, Nat.le_refl _, rfl, rfl⟩
    obtain ⟨D, Wt, h, x7, x8, x9, x10, wb, wl, hn, rfl⟩ := hI
    have dl := wb.len
    rcases List.eq_nil_or_concat Wt with rfl | ⟨W0, here, rfl⟩
    · refine ⟨false, of_eq ?_, fun z => (nomatch z), fun _ => ⟨_, rfl, D, h, x7, x8, x9, x10, wb, rfl⟩⟩
      simp only [at_tofk, at_bin, at_un, at_v0, at_vs, at_o0, at_c, bnd_ret, len_lst, List.map_nil, List.length_nil, gt_ints]
      rfl
    · have hh : here ∈ keysW D := wb.wt here (by simp)
      rw [List.concat_eq_append, List.length_append, List.length_singleton] at wl hn
      rw [List.concat_eq_append]
      have wb' : WB (prOf es) ps many a here D W0 := ⟨wb.nd, wb.way, wb.ends, wb.start, fun v hv => wb.wt v (by simp [hv]), wb.rng, fun v hv h1 h2 => wb.done v hv (by simp [h1, h2]) (by have := wb.rng v hv; omega)⟩
      refine ⟨true, of_eq ?_, fun _ => ?_, fun z => nomatch z⟩
      · simp only [at_tofk, at_bin, at_un, at_v0, at_vs, at_o0, at_c, bnd_ret, len_lst, List.length_map, List.length_append, List.length_singleton, gt_ints]
        rw [decide_eq_true (by omega)]
      · obtain ⟨y7, y8, y9, y10, e⟩ := loop_w (b := b) ok hl hp wb' hh (by omega) x7 x8 x9 x10
        obtain ⟨w1, ⟨t, w2, w3⟩, w4⟩ := turnW (pr_rng ok hp) ps (fun p h => h) wb' hh
        rw [at_seq, at_spop (es := W0.map .int) (d := .int here) (by rw [List.map_append]; rfl), bnd_ret]
        simp only [set_0, set_s]
        rw [at_sfor]
        simp only [at_iseq, at_v0, at_vs, hide_cons, hide1_d, hide1_o, hide1_k, hide_nil, bnd_ret]
        have e' : forGo (gN 7) wBody (ps.map .int) [some (.dat (encCb many es)), some (.dat (.tuple (ps.map .int))), some (.dat (.int a)), some (.dat (.int b)), some (.odic (encW D)), some (.own (W0.map .int)), some (.dat (.int here)), x7, x8, x9, x10] = _ := e
        rw [e']
        generalize ps.foldl (stepW (prOf es) here) (D, W0) = St at *
        obtain ⟨D1, Wt1⟩ := St
        dsimp only at w1 w2 w3 w4
        have d1 := w1.len
        have k1 : (keysW D1).length = D1.length := List.length_map _
        have k0 : (keysW D).length = D.length := List.length_map _
        have k2 := congrArg List.length w2
        rw [List.length_append] at k2
        have k3 := congrArg List.length w3
        rw [List.length_append] at k3
        refine does_ret ⟨_, rfl, 2 * (many - D1.length) + Wt1.length, by omega, D1, Wt1, _, _, _, _, _, ⟨w1.nd, w1.way, w1.ends, w1.start, w1.wt, w1.rng, fun v hv h1 _ p hpm => ?_⟩, by omega, rfl, rfl⟩
        by_cases hv2 : v = here
        · subst hv2
          exact w4 p hpm
        · exact w1.done v hv h1 hv2 p hpm
  rintro _ ⟨D, h, x7, x8, x9, x10, wb, rfl⟩
  have hbk : b ∈ keysW D := hA a b ha hb (· ∈ keysW D) (fun e he => by
    obtain ⟨p, hpm, rfl⟩ := List.mem_map.mp he
    have nn : ∀ v ∈ keysW D, v ≠ -1 := fun v hv => by have := wb.rng v hv; omega
    exact ⟨fun z => (wb.done _ z (fun z => nomatch z) (nn _ z) p hpm).1 rfl, fun z => (wb.done _ z (fun z => nomatch z) (nn _ z) p hpm).2 rfl⟩) wb.start
  have g1 : oDGet (.dict (encW D)) (.int b) = M.ret (.list ((getW D b).map .int)) := by
    unfold oDGet
    dsimp only
    rw [find_enc, if_pos hbk]
  simp only [at_sret, at_bin, at_v0, at_vs, at_od0, bnd_ret, g1]
  exact does_ret ⟨_, rfl, wb.way _ (getW_mem hbk)⟩
end
end

section
variable {κ : Bool}
theorem for_checkK {g : Tgt} {B : DS} (p : Nat → Bool) (I : Rho → Prop) (n : Nat) (ρ : Rho) (h0 : I ρ) (s : ∀ k : Nat, k < n → ∀ ρ, I ρ → (p k = true → ∃ r, M.bnd (g (.int (k : Int)) ρ) B = M.ret (.next r) ∧ I r) ∧ (p k = false → M.bnd (g (.int (k : Int)) ρ) B = M.ret (.ret (.bool false)))) :
    ∃ r, I r ∧ forGo g B (intsFrom 0 n) ρ = M.ret (if (List.range n).all p = true then .next r else .ret (.bool false)) := by
  obtain ⟨r, hr, e⟩ := for_check (g := g) (B := B) (fun d => p (intOf d).toNat) I (intsFrom 0 n) ρ h0 (fun x hx ρ hI => by
    obtain ⟨k, hk, rfl⟩ := List.mem_map.mp hx
    have z := s k (List.mem_range.mp hk) ρ hI
    rw [show (0 : Int) + (k : Int) = (k : Int) by omega]
    exact z)
  refine ⟨r, hr, ?_⟩
  rw [e]
  have e2 : (intsFrom 0 n).all (fun d => p (intOf d).toNat) = (List.range n).all p := by
    unfold intsFrom
    rw [List.all_map]
    congr 1
    funext k
    show p (0 + (k : Int)).toNat = p k
    rw [show (0 : Int) + (k : Int) = (k : Int) by omega, Int.toNat_natCast]
  rw [e2]
theorem jnamed_no {d : D} (w : Str) (m : Int) (h : ∀ xs, d = .tuple xs → ¬ (xs.length : Int) = m) : F_is_named [.d d, .d (.str w), .d (.int m)] = M.ret (.bool false) := by
  unfold F_is_named
  rw [fn_eq]
  cases d with
  | tuple xs => simp only [at_emp, at_dis1, at_ow0, at_ows, at_calln, isLst_ret, at_c, at_bin, at_un, at_v0, at_o0, at_vs, at_tup, at_lst, at_each0, at_eachs, at_ad, at_p0, at_ps, at_args0, at_argss, at_call, at_tofk, at_and, at_or, at_not, at_dand, at_dor, at_dnot, at_if, at_chain, at_gn, at_g2, at_g3, at_g4, at_iseq, at_r1, at_r2, turn_def, at_sasgn, at_sforr, at_nil, at_seq, at_asg, at_sown, at_sret, at_sretn, at_sif, at_sdrop, at_sbrk, at_scont, at_sfor, hide_nil, hide_cons, hide1_d, hide1_n, hide1_p, hide1_o, set_0, set_s, bnd_ret, bnd_stuck, bnd_bnd, bnd_ite, slot_d, slot_p, wipeR, List.map_cons, List.map_nil, List.cons_append, List.nil_append, List.replicate, add_ints, sub_ints, le_ints, lt_ints, ge_ints, gt_ints, neg_ints, min2_ints, max2_ints, oEq_ints, oNe_ints, oEq_bools, oNe_bools, len_tup, len_lst, revL_l, oEq_strs, oNe_strs, tuple_l, tuple_t, list_l, list_t, at_sl, at_pn, at_ps', sl_tup', sl_lst', is_T, is_L, is_I, is_B, is_S, is_N, not_N, isT_n, isT_b, isT_i, isT_s, isT_t, isT_l, isT_d, isL_n, isL_b, isL_i, isL_s, isL_t, isL_l, isL_d, isI_n, isI_b, isI_i, isI_s, isI_t, isI_l, isI_d, isB_n, isB_b, isB_i, isB_s, isB_t, isB_l, isB_d, isS_n, isS_b, isS_i, isS_s, isS_t, isS_l, isS_d, isN_n, isN_b, isN_i, isN_s, isN_t, isN_l, isN_d, decide_eq_true_eq, Bool.not_eq_true', decide_eq_false_iff_not, Bool.false_eq_true, if_true, if_false, decide_true, decide_false, Bool.not_true, Bool.not_false, not_true_eq_false, not_false_eq_true, ret_ite_o, Int.reduceLT, Int.reduceLE, Int.reduceEq, Int.reduceAdd, Int.reduceSub, Int.reduceNeg, reduceCtorEq, h xs rfl]
  | _ => simp only [at_emp, at_dis1, at_ow0, at_ows, at_calln, isLst_ret, at_c, at_bin, at_un, at_v0, at_o0, at_vs, at_tup, at_lst, at_each0, at_eachs, at_ad, at_p0, at_ps, at_args0, at_argss, at_call, at_tofk, at_and, at_or, at_not, at_dand, at_dor, at_dnot, at_if, at_chain, at_gn, at_g2, at_g3, at_g4, at_iseq, at_r1, at_r2, turn_def, at_sasgn, at_sforr, at_nil, at_seq, at_asg, at_sown, at_sret, at_sretn, at_sif, at_sdrop, at_sbrk, at_scont, at_sfor, hide_nil, hide_cons, hide1_d, hide1_n, hide1_p, hide1_o, set_0, set_s, bnd_ret, bnd_stuck, bnd_bnd, bnd_ite, slot_d, slot_p, wipeR, List.map_cons, List.map_nil, List.cons_append, List.nil_append, List.replicate, add_ints, sub_ints, le_ints, lt_ints, ge_ints, gt_ints, neg_ints, min2_ints, max2_ints, oEq_ints, oNe_ints, oEq_bools, oNe_bools, len_tup, len_lst, revL_l, oEq_strs, oNe_strs, tuple_l, tuple_t, list_l, list_t, at_sl, at_pn, at_ps', sl_tup', sl_lst', is_T, is_L, is_I, is_B, is_S, is_N, not_N, isT_n, isT_b, isT_i, isT_s, isT_t, isT_l, isT_d, isL_n, isL_b, isL_i, isL_s, isL_t, isL_l, isL_d, isI_n, isI_b, isI_i, isI_s, isI_t, isI_l, isI_d, isB_n, isB_b, isB_i, isB_s, isB_t, isB_l, isB_d, isS_n, isS_b, isS_i, isS_s, isS_t, isS_l, isS_d, isN_n, isN_b, isN_i, isN_s, isN_t, isN_l, isN_d, decide_eq_true_eq, Bool.not_eq_true', decide_eq_false_iff_not, Bool.false_eq_true, if_true, if_false, decide_true, decide_false, Bool.not_true, Bool.not_false, not_true_eq_false, not_false_eq_true, ret_ite_o, Int.reduceLT, Int.reduceLE, Int.reduceEq, Int.reduceAdd, Int.reduceSub, Int.reduceNeg, reduceCtorEq]
theorem jnamed2 {x y : D} (w : Str) : F_is_named [.d (.tuple [x, y]), .d (.str w), .d (.int 2)] = M.ret (.bool (match x with
    | .str s => decide (s = w)
    | _ => false)) := by
  unfold F_is_named
  rw [fn_eq]
  have i0 : oIx (.tuple [x, y]) (.int 0) = M.ret x := oIx_t (i := 0) rfl
  have l2 : ((([x, y] : List D).length : Nat) : Int) = 2 := rfl
  cases x <;> simp only [at_emp, at_dis1, at_ow0, at_ows, at_calln, isLst_ret, at_c, at_bin, at_un, at_v0, at_o0, at_vs, at_tup, at_lst, at_each0, at_eachs, at_ad, at_p0, at_ps, at_args0, at_argss, at_call, at_tofk, at_and, at_or, at_not, at_dand, at_dor, at_dnot, at_if, at_chain, at_gn, at_g2, at_g3, at_g4, at_iseq, at_r1, at_r2, turn_def, at_sasgn, at_sforr, at_nil, at_seq, at_asg, at_sown, at_sret, at_sretn, at_sif, at_sdrop, at_sbrk, at_scont, at_sfor, hide_nil, hide_cons, hide1_d, hide1_n, hide1_p, hide1_o, set_0, set_s, bnd_ret, bnd_stuck, bnd_bnd, bnd_ite, slot_d, slot_p, wipeR, List.map_cons, List.map_nil, List.cons_append, List.nil_append, List.replicate, add_ints, sub_ints, le_ints, lt_ints, ge_ints, gt_ints, neg_ints, min2_ints, max2_ints, oEq_ints, oNe_ints, oEq_bools, oNe_bools, len_tup, len_lst, revL_l, oEq_strs, oNe_strs, tuple_l, tuple_t, list_l, list_t, at_sl, at_pn, at_ps', sl_tup', sl_lst', is_T, is_L, is_I, is_B, is_S, is_N, not_N, isT_n, isT_b, isT_i, isT_s, isT_t, isT_l, isT_d, isL_n, isL_b, isL_i, isL_s, isL_t, isL_l, isL_d, isI_n, isI_b, isI_i, isI_s, isI_t, isI_l, isI_d, isB_n, isB_b, isB_i, isB_s, isB_t, isB_l, isB_d, isS_n, isS_b, isS_i, isS_s, isS_t, isS_l, isS_d, isN_n, isN_b, isN_i, isN_s, isN_t, isN_l, isN_d, decide_eq_true_eq, Bool.not_eq_true', decide_eq_false_iff_not, Bool.false_eq_true, if_true, if_false, decide_true, decide_false, Bool.not_true, Bool.not_false, not_true_eq_false, not_false_eq_true, ret_ite_o, Int.reduceLT, Int.reduceLE, Int.reduceEq, Int.reduceAdd, Int.reduceSub, Int.reduceNeg, reduceCtorEq, i0, l2]
theorem ret_bool {a b : Bool} (h : (M.ret (PyData.bool a) : M D) = M.ret (.bool b)) : a = b := by
  have z := congrFun h pool0
  injection z with z1
  injection z1
theorem net_true {many : Nat} {es : List E3} (ok : CabOk many es) {d : D} (hz : Sz d) (h : F_is_net [.d (encCb many es), .d d] = M.ret (.bool true)) : ∃ T : List Int, d = encT T ∧ (∀ p ∈ T, 0 ≤ p ∧ p < (es.length : Int)) ∧ T.length + 1 = many ∧ All many (T.map (prOf es)) := by
  have m1 := ok.m1
  have m8 := ok.m8
  have i0 : oIx (encCb many es) (.int 0) = M.ret (.int (many : Int)) := rfl
  have i1 : oIx (encCb many es) (.int 1) = M.ret (.tuple (es.map enc3)) := rfl
  have lE : bLen (.tuple (es.map enc3)) = M.ret (.int (es.length : Int)) := by
    show M.ret _ = _
    rw [List.length_map]
  have ra := rising_at hz 0 ((es.length : Int) - 1)
  cases hr : rowAny 0 ((es.length : Int) - 1) d && upD (its d) with
  | false =>
    rw [hr] at ra
    exfalso
    have z : F_is_net [.d (encCb many es), .d d] = M.ret (.bool false) := by
      unfold F_is_net
      rw [fn_eq]
      generalize encCb many es = C at *
      simp only [at_emp, at_dis1, at_ow0, at_ows, at_calln, isLst_ret, at_c, at_bin, at_un, at_v0, at_o0, at_vs, at_tup, at_lst, at_each0, at_eachs, at_ad, at_p0, at_ps, at_args0, at_argss, at_call, at_tofk, at_and, at_or, at_not, at_dand, at_dor, at_dnot, at_if, at_chain, at_gn, at_g2, at_g3, at_g4, at_iseq, at_r1, at_r2, turn_def, at_sasgn, at_sforr, at_nil, at_seq, at_asg, at_sown, at_sret, at_sretn, at_sif, at_sdrop, at_sbrk, at_scont, at_sfor, hide_nil, hide_cons, hide1_d, hide1_n, hide1_p, hide1_o, set_0, set_s, bnd_ret, bnd_stuck, bnd_bnd, bnd_ite, slot_d, slot_p, wipeR, List.map_cons, List.map_nil, List.cons_append, List.nil_append, List.replicate, add_ints, sub_ints, le_ints, lt_ints, ge_ints, gt_ints, neg_ints, min2_ints, max2_ints, oEq_ints, oNe_ints, oEq_bools, oNe_bools, len_tup, len_lst, revL_l, oEq_strs, oNe_strs, tuple_l, tuple_t, list_l, list_t, at_sl, at_pn, at_ps', sl_tup', sl_lst', is_T, is_L, is_I, is_B, is_S, is_N, not_N, isT_n, isT_b, isT_i, isT_s, isT_t, isT_l, isT_d, isL_n, isL_b, isL_i, isL_s, isL_t, isL_l, isL_d, isI_n, isI_b, isI_i, isI_s, isI_t, isI_l, isI_d, isB_n, isB_b, isB_i, isB_s, isB_t, isB_l, isB_d, isS_n, isS_b, isS_i, isS_s, isS_t, isS_l, isS_d, isN_n, isN_b, isN_i, isN_s, isN_t, isN_l, isN_d, decide_eq_true_eq, Bool.not_eq_true', decide_eq_false_iff_not, Bool.false_eq_true, if_true, if_false, decide_true, decide_false, Bool.not_true, Bool.not_false, not_true_eq_false, not_false_eq_true, ret_ite_o, Int.reduceLT, Int.reduceLE, Int.reduceEq, Int.reduceAdd, Int.reduceSub, Int.reduceNeg, reduceCtorEq, i1, lE, ra]
    rw [z] at h
    cases ret_bool h
  | true =>
    rw [hr] at ra
    rw [Bool.and_eq_true] at hr
    obtain ⟨hr1, _⟩ := hr
    obtain ⟨xs, rfl⟩ : ∃ xs, d = .tuple xs := by cases d <;> first | exact ⟨_, rfl⟩ | cases hr1
    obtain ⟨ps, hn, _, hpr⟩ := rowB_ints (many := (xs.length : Int)) (lo := 0) (hi := (es.length : Int) - 1) (d := .tuple xs) (by rw [rowB, decide_eq_true rfl]; exact hr1)
    have hp : ∀ p ∈ ps, 0 ≤ p ∧ p < (es.length : Int) := fun p h => by have := hpr p h; omega
    refine ⟨ps, hn, hp, ?_⟩
    rw [hn] at h ra
    obtain ⟨L, rL, jL⟩ := joined_tq ok (s0 := 0) (by omega) hp
    have lp : bLen (encT ps) = M.ret (.int (ps.length : Int)) := by show M.ret _ = _; rw [List.length_map]
    have lL : bLen (.tuple (L.map .int)) = M.ret (.int (L.length : Int)) := by show M.ret _ = _; rw [List.length_map]
    have jL' : F_joined [.d (encCb many es), .d (.tuple (ps.map .int)), .d (.int 0)] = M.ret (.tuple (L.map .int)) := jL
    have hn' : F_is_net [.d (encCb many es), .d (.tuple (ps.map .int))] = M.ret (.bool (decide ((ps.length : Int) = (many : Int) - 1) && decide ((L.length : Int) = (many : Int)))) := by
      have ra' : F_is_rising_row [.d (.tuple (ps.map .int)), .d (.int 0), .d (.int ((es.length : Int) - 1))] = M.ret (.bool true) := ra
      unfold F_is_net
      rw [fn_eq]
      generalize encCb many es = C at *
      by_cases c : (ps.length : Int) = (many : Int) - 1
      · simp only [at_emp, at_dis1, at_ow0, at_ows, at_calln, isLst_ret, at_c, at_bin, at_un, at_v0, at_o0, at_vs, at_tup, at_lst, at_each0, at_eachs, at_ad, at_p0, at_ps, at_args0, at_argss, at_call, at_tofk, at_and, at_or, at_not, at_dand, at_dor, at_dnot, at_if, at_chain, at_gn, at_g2, at_g3, at_g4, at_iseq, at_r1, at_r2, turn_def, at_sasgn, at_sforr, at_nil, at_seq, at_asg, at_sown, at_sret, at_sretn, at_sif, at_sdrop, at_sbrk, at_scont, at_sfor, hide_nil, hide_cons, hide1_d, hide1_n, hide1_p, hide1_o, set_0, set_s, bnd_ret, bnd_stuck, bnd_bnd, bnd_ite, slot_d, slot_p, wipeR, List.map_cons, List.map_nil, List.cons_append, List.nil_append, List.replicate, add_ints, sub_ints, le_ints, lt_ints, ge_ints, gt_ints, neg_ints, min2_ints, max2_ints, oEq_ints, oNe_ints, oEq_bools, oNe_bools, len_tup, len_lst, revL_l, oEq_strs, oNe_strs, tuple_l, tuple_t, list_l, list_t, at_sl, at_pn, at_ps', sl_tup', sl_lst', is_T, is_L, is_I, is_B, is_S, is_N, not_N, isT_n, isT_b, isT_i, isT_s, isT_t, isT_l, isT_d, isL_n, isL_b, isL_i, isL_s, isL_t, isL_l, isL_d, isI_n, isI_b, isI_i, isI_s, isI_t, isI_l, isI_d, isB_n, isB_b, isB_i, isB_s, isB_t, isB_l, isB_d, isS_n, isS_b, isS_i, isS_s, isS_t, isS_l, isS_d, isN_n, isN_b, isN_i, isN_s, isN_t, isN_l, isN_d, decide_eq_true_eq, Bool.not_eq_true', decide_eq_false_iff_not, Bool.false_eq_true, if_true, if_false, decide_true, decide_false, Bool.not_true, Bool.not_false, not_true_eq_false, not_false_eq_true, ret_ite_o, Int.reduceLT, Int.reduceLE, Int.reduceEq, Int.reduceAdd, Int.reduceSub, Int.reduceNeg, reduceCtorEq, i0, i1, lE, ra', List.length_map, c, jL', Bool.true_and]
      · simp only [at_emp, at_dis1, at_ow0, at_ows, at_calln, isLst_ret, at_c, at_bin, at_un, at_v0, at_o0, at_vs, at_tup, at_lst, at_each0, at_eachs, at_ad, at_p0, at_ps, at_args0, at_argss, at_call, at_tofk, at_and, at_or, at_not, at_dand, at_dor, at_dnot, at_if, at_chain, at_gn, at_g2, at_g3, at_g4, at_iseq, at_r1, at_r2, turn_def, at_sasgn, at_sforr, at_nil, at_seq, at_asg, at_sown, at_sret, at_sretn, at_sif, at_sdrop, at_sbrk, at_scont, at_sfor, hide_nil, hide_cons, hide1_d, hide1_n, hide1_p, hide1_o, set_0, set_s, bnd_ret, bnd_stuck, bnd_bnd, bnd_ite, slot_d, slot_p, wipeR, List.map_cons, List.map_nil, List.cons_append, List.nil_append, List.replicate, add_ints, sub_ints, le_ints, lt_ints, ge_ints, gt_ints, neg_ints, min2_ints, max2_ints, oEq_ints, oNe_ints, oEq_bools, oNe_bools, len_tup, len_lst, revL_l, oEq_strs, oNe_strs, tuple_l, tuple_t, list_l, list_t, at_sl, at_pn, at_ps', sl_tup', sl_lst', is_T, is_L, is_I, is_B, is_S, is_N, not_N, isT_n, isT_b, isT_i, isT_s, isT_t, isT_l, isT_d, isL_n, isL_b, isL_i, isL_s, isL_t, isL_l, isL_d, isI_n, isI_b, isI_i, isI_s, isI_t, isI_l, isI_d, isB_n, isB_b, isB_i, isB_s, isB_t, isB_l, isB_d, isS_n, isS_b, isS_i, isS_s, isS_t, isS_l, isS_d, isN_n, isN_b, isN_i, isN_s, isN_t, isN_l, isN_d, decide_eq_true_eq, Bool.not_eq_true', decide_eq_false_iff_not, Bool.false_eq_true, if_true, if_false, decide_true, decide_false, Bool.not_true, Bool.not_false, not_true_eq_false, not_false_eq_true, ret_ite_o, Int.reduceLT, Int.reduceLE, Int.reduceEq, Int.reduceAdd, Int.reduceSub, Int.reduceNeg, reduceCtorEq, i0, i1, lE, ra', List.length_map, c, Bool.false_and]
    have z := ret_bool (hn'.symm.trans h)
    rw [Bool.and_eq_true, decide_eq_true_eq, decide_eq_true_eq] at z
    exact ⟨by omega, (reach_all m1 rL).mp (by omega)⟩
noncomputable def connB (F : List Pr) (x y : Int) : Bool := @decide (Conn F x y) (Classical.propDecidable _)
theorem connB_iff {F : List Pr} {x y : Int} : connB F x y = true ↔ Conn F x y := ⟨fun h => @of_decide_eq_true _ (Classical.propDecidable _) h, fun h => @decide_eq_true _ (Classical.propDecidable _) h⟩
def cheapT (es : List E3) (T : List Int) (k : Int) : List Int := T.filter fun q => decide (wE es q ≤ wE es k)
noncomputable def okT (es : List E3) (T : List Int) (k : Nat) : Bool := decide ((k : Int) ∈ T) || connB ((cheapT es T k).map (prOf es)) (prOf es k).1 (prOf es k).2
end

section
variable {κ : Bool}
section
variable {many : Nat} {es : List E3} {T : List Int}
theorem nin_T (n : Int) (ns : List Int) : oNotIn (.int n) (encT ns) = M.ret (.bool (!decide (n ∈ ns))) := notin_ints_l n ns
theorem comp_src (own : List Nat) (it : DI) (g : Tgt) (t : DT) (e : DE) (ρ : Rho) : dComp own it g t e ρ = M.bnd (it ρ) fun xs => dComp own (fun _ => M.ret xs) g t e ρ := by
  unfold dComp
  simp only [bnd_ret]
theorem dear_at (ok : CabOk many es) (hT : ∀ p ∈ T, 0 ≤ p ∧ p < (es.length : Int)) (hl : T.length + 1 = many) (hA : All many (T.map (prOf es))) {k : Nat} (hk : k < es.length) (x4 : Option Slot) :
    dUn bAny (dComp [9] (iSeq (dCall F_way_between [(aD (dVar 0)), (aD (dBin oIx (dVar 1) (dC (.int 1)))), (aD (dVar 5)), (aD (dVar 6))])) (gN 9) tTrue (dBin oGt (dBin oIx (dBin oIx (dVar 3) (dVar 9)) (dC (.int 2))) (dVar 7))) [some (.dat (encCb many es)), some (.dat (.tuple [.str "net", encT T])), some (.dat (.int (many : Int))), some (.dat (.tuple (es.map enc3))), x4, some (.dat (.int (prOf es k).1)), some (.dat (.int (prOf es k).2)), some (.dat (.int (wE es k))), none, none] = M.ret (.bool (!connB ((cheapT es T k).map (prOf es)) (prOf es k).1 (prOf es k).2)) := by
  have m8 := ok.m8
  have pk := pr_in ok (p := (k : Int)) (by omega)
  have v1 : oIx (.tuple [.str "net", encT T]) (.int 1) = M.ret (encT T) := rfl
  have way := way_ok (κ := true) ok (by omega) hT hA pk.1 pk.2
  generalize encCb many es = C at *
  refine eq_of ?_
  rw [at_un, comp_src, bnd_bnd]
  refine does_bnd (P := fun xs => ∃ W, xs = W.map PyData.int ∧ WayT (prOf es) T (prOf es k).1 (prOf es k).2 W) ?_ ?_
  · rw [at_iseq]
    simp only [at_call, at_argss, at_args0, at_ad, at_bin, at_vs, at_v0, at_c, bnd_ret, v1]
    refine does_bnd way fun d ⟨W, e, h⟩ => ?_
    subst e
    exact does_ret ⟨W, rfl, h⟩
  · rintro _ ⟨W, rfl, h⟩
    have wl : W.length ≤ T.length := h.nodup.length_le_of_subset fun x hx => h.sub x hx
    rw [comp_map W PyData.int (fun p => .bool (decide (wE es k < wE es p))) rfl (sz18 (by rw [show (2 : Nat) ^ 18 = 262144 by decide +kernel]; omega)) (fun p hp => by
      have ew := edge_w (hT p (h.sub p hp))
      have i2 : oIx (.tuple [.int (prOf es p).1, .int (prOf es p).2, .int (wE es p)]) (.int 2) = M.ret (.int (wE es p)) := rfl
      simp only [at_emp, at_dis1, at_ow0, at_ows, at_calln, isLst_ret, at_c, at_bin, at_un, at_v0, at_o0, at_vs, at_tup, at_lst, at_each0, at_eachs, at_ad, at_p0, at_ps, at_args0, at_argss, at_call, at_tofk, at_and, at_or, at_not, at_dand, at_dor, at_dnot, at_if, at_chain, at_gn, at_g2, at_g3, at_g4, at_iseq, at_r1, at_r2, turn_def, at_sasgn, at_sforr, at_nil, at_seq, at_asg, at_sown, at_sret, at_sretn, at_sif, at_sdrop, at_sbrk, at_scont, at_sfor, hide_nil, hide_cons, hide1_d, hide1_n, hide1_p, hide1_o, set_0, set_s, bnd_ret, bnd_stuck, bnd_bnd, bnd_ite, slot_d, slot_p, wipeR, List.map_cons, List.map_nil, List.cons_append, List.nil_append, List.replicate, add_ints, sub_ints, le_ints, lt_ints, ge_ints, gt_ints, neg_ints, min2_ints, max2_ints, oEq_ints, oNe_ints, oEq_bools, oNe_bools, len_tup, len_lst, revL_l, oEq_strs, oNe_strs, tuple_l, tuple_t, list_l, list_t, at_sl, at_pn, at_ps', sl_tup', sl_lst', is_T, is_L, is_I, is_B, is_S, is_N, not_N, isT_n, isT_b, isT_i, isT_s, isT_t, isT_l, isT_d, isL_n, isL_b, isL_i, isL_s, isL_t, isL_l, isL_d, isI_n, isI_b, isI_i, isI_s, isI_t, isI_l, isI_d, isB_n, isB_b, isB_i, isB_s, isB_t, isB_l, isB_d, isS_n, isS_b, isS_i, isS_s, isS_t, isS_l, isS_d, isN_n, isN_b, isN_i, isN_s, isN_t, isN_l, isN_d, decide_eq_true_eq, Bool.not_eq_true', decide_eq_false_iff_not, Bool.false_eq_true, if_true, if_false, decide_true, decide_false, Bool.not_true, Bool.not_false, not_true_eq_false, not_false_eq_true, ret_ite_o, Int.reduceLT, Int.reduceLE, Int.reduceEq, Int.reduceAdd, Int.reduceSub, Int.reduceNeg, reduceCtorEq, ew, i2])]
    rw [bnd_ret, any_bools]
    refine does_ret (congrArg PyData.bool ?_)
    have z := way_dear hl hA h (wE es) (wE es k)
    rw [Bool.eq_iff_iff, z, Bool.not_eq_true', ← Bool.not_eq_true, connB_iff]
    rfl
theorem check_loop (ok : CabOk many es) (hT : ∀ p ∈ T, 0 ≤ p ∧ p < (es.length : Int)) (hl : T.length + 1 = many) (hA : All many (T.map (prOf es))) : ∃ x4 x5 x6 x7, forGo (gN 4) (sSeq (sAsg (gT [(gN 5), (gN 6), (gN 7)]) (dBin oIx (dVar 3) (dVar 4)))
  (sIf (tOf (dBin oNotIn (dVar 4) (dBin oIx (dVar 1) (dC (.int 1))))) (sIf (tOf (dUn bAny (dComp [9] (iSeq (dCall F_way_between [(aD (dVar 0)), (aD (dBin oIx (dVar 1) (dC (.int 1)))), (aD (dVar 5)), (aD (dVar 6))])) (gN 9) tTrue (dBin oGt (dBin oIx (dBin oIx (dVar 3) (dVar 9)) (dC (.int 2))) (dVar 7))))) (sRet (dC (.bool false))) sNil) sNil)) (intsFrom 0 es.length) [some (.dat (encCb many es)), some (.dat (.tuple [.str "net", encT T])), some (.dat (.int (many : Int))), some (.dat (.tuple (es.map enc3))), none, none, none, none, none, none] = M.ret (if (List.range es.length).all (okT es T) = true then .next [some (.dat (encCb many es)), some (.dat (.tuple [.str "net", encT T])), some (.dat (.int (many : Int))), some (.dat (.tuple (es.map enc3))), x4, x5, x6, x7, none, none] else .ret (.bool false)) := by
  have v1 : oIx (.tuple [.str "net", encT T]) (.int 1) = M.ret (encT T) := rfl
  obtain ⟨r, ⟨x4, x5, x6, x7, rfl⟩, e⟩ := for_checkK (g := gN 4) (B := (sSeq (sAsg (gT [(gN 5), (gN 6), (gN 7)]) (dBin oIx (dVar 3) (dVar 4)))
  (sIf (tOf (dBin oNotIn (dVar 4) (dBin oIx (dVar 1) (dC (.int 1))))) (sIf (tOf (dUn bAny (dComp [9] (iSeq (dCall F_way_between [(aD (dVar 0)), (aD (dBin oIx (dVar 1) (dC (.int 1)))), (aD (dVar 5)), (aD (dVar 6))])) (gN 9) tTrue (dBin oGt (dBin oIx (dBin oIx (dVar 3) (dVar 9)) (dC (.int 2))) (dVar 7))))) (sRet (dC (.bool false))) sNil) sNil)))
    (okT es T) (fun ρ => ∃ x4 x5 x6 x7, ρ = [some (.dat (encCb many es)), some (.dat (.tuple [.str "net", encT T])), some (.dat (.int (many : Int))), some (.dat (.tuple (es.map enc3))), x4, x5, x6, x7, none, none]) es.length [some (.dat (encCb many es)), some (.dat (.tuple [.str "net", encT T])), some (.dat (.int (many : Int))), some (.dat (.tuple (es.map enc3))), none, none, none, none, none, none] ⟨_, _, _, _, rfl⟩ (fun k hk ρ hI => by
      obtain ⟨x4, x5, x6, x7, rfl⟩ := hI
      have ek := edge_w (es := es) (p := (k : Int)) (by omega)
      have da := dear_at ok hT hl hA hk (some (.dat (.int (k : Int))))
      have nT := nin_T (k : Int) T
      have hok : okT es T k = (decide ((k : Int) ∈ T) || connB ((cheapT es T k).map (prOf es)) (prOf es k).1 (prOf es k).2) := rfl
      rw [hok]
      generalize encCb many es = C at *
      generalize hE : es.map enc3 = E at *
      generalize hQ : PyData.tuple [.str "net", encT T] = Q at *
      have da' := da
      rw [at_un] at da'
      by_cases c : (k : Int) ∈ T
      · refine ⟨fun _ => ⟨[some (.dat C), some (.dat Q), some (.dat (.int (many : Int))), some (.dat (.tuple E)), some (.dat (.int (k : Int))), some (.dat (.int (prOf es k).1)), some (.dat (.int (prOf es k).2)), some (.dat (.int (wE es k))), none, none], ?_, _, _, _, _, rfl⟩, fun z => by rw [decide_eq_true c] at z; cases z⟩
        simp only [at_gn, bnd_ret, set_0, set_s, at_seq, at_asg, hide_cons, hide1_d, hide1_n, hide_nil, at_bin, at_v0, at_vs, at_c, ek, at_g3, at_sif, at_tofk, v1, nT, c, decide_true, Bool.not_true, Bool.false_eq_true, if_false, at_nil]
      · cases hc : connB ((cheapT es T k).map (prOf es)) (prOf es k).1 (prOf es k).2 with
        | true =>
          rw [hc] at da'
          refine ⟨fun _ => ⟨[some (.dat C), some (.dat Q), some (.dat (.int (many : Int))), some (.dat (.tuple E)), some (.dat (.int (k : Int))), some (.dat (.int (prOf es k).1)), some (.dat (.int (prOf es k).2)), some (.dat (.int (wE es k))), none, none], ?_, _, _, _, _, rfl⟩, fun z => by rw [decide_eq_false c] at z; cases z⟩
          simp only [at_gn, bnd_ret, set_0, set_s, at_seq, at_asg, hide_cons, hide1_d, hide1_n, hide_nil, at_bin, at_v0, at_vs, at_c, ek, at_g3, at_sif, at_tofk, v1, nT, c, decide_false, Bool.not_false, if_true, at_un, da', Bool.not_true, Bool.false_eq_true, if_false, at_nil]
        | false =>
          rw [hc] at da'
          refine ⟨(fun z => by rw [decide_eq_false c] at z; cases z), fun _ => ?_⟩
          simp only [at_gn, bnd_ret, set_0, set_s, at_seq, at_asg, hide_cons, hide1_d, hide1_n, hide_nil, at_bin, at_v0, at_vs, at_c, ek, at_g3, at_sif, at_tofk, v1, nT, c, decide_false, Bool.not_false, if_true, at_un, da', at_sret])
  exact ⟨x4, x5, x6, x7, e⟩
theorem law_loop (ok : CabOk many es) (hT : ∀ p ∈ T, 0 ≤ p ∧ p < (es.length : Int)) (hl : T.length + 1 = many) : ∃ x4 x5, forGo (gN 4) (sIf (tOf (dBin oNotIn (dVar 4) (dBin oIx (dVar 1) (dC (.int 1))))) (sSeq (sAsg (gN 5) (dComp [7] (iSeq (dBin oIx (dVar 1) (dC (.int 1)))) (gN 7) (tOf (dBin oLe (dBin oIx (dBin oIx (dVar 3) (dVar 7)) (dC (.int 2))) (dBin oIx (dBin oIx (dVar 3) (dVar 4)) (dC (.int 2))))) (dBin oIx (dVar 3) (dVar 7))))
  (sIf (tOf (dBin oNotIn (dBin oIx (dBin oIx (dVar 3) (dVar 4)) (dC (.int 1))) (dCall F__law_together [(aD (dVar 2)), (aD (dVar 5)), (aD (dBin oIx (dBin oIx (dVar 3) (dVar 4)) (dC (.int 0))))]))) (sRet (dC (.bool false))) sNil)) sNil) (intsFrom 0 es.length) [some (.dat (encCb many es)), some (.dat (.tuple [.str "net", encT T])), some (.dat (.int (many : Int))), some (.dat (.tuple (es.map enc3))), none, none, none, none] = M.ret (if (List.range es.length).all (okT es T) = true then .next [some (.dat (encCb many es)), some (.dat (.tuple [.str "net", encT T])), some (.dat (.int (many : Int))), some (.dat (.tuple (es.map enc3))), x4, x5, none, none] else .ret (.bool false)) := by
  have m1 := ok.m1
  have m8 := ok.m8
  have v1 : oIx (.tuple [.str "net", encT T]) (.int 1) = M.ret (encT T) := rfl
  obtain ⟨r, ⟨x4, x5, rfl⟩, e⟩ := for_checkK (g := gN 4) (B := (sIf (tOf (dBin oNotIn (dVar 4) (dBin oIx (dVar 1) (dC (.int 1))))) (sSeq (sAsg (gN 5) (dComp [7] (iSeq (dBin oIx (dVar 1) (dC (.int 1)))) (gN 7) (tOf (dBin oLe (dBin oIx (dBin oIx (dVar 3) (dVar 7)) (dC (.int 2))) (dBin oIx (dBin oIx (dVar 3) (dVar 4)) (dC (.int 2))))) (dBin oIx (dVar 3) (dVar 7))))
  (sIf (tOf (dBin oNotIn (dBin oIx (dBin oIx (dVar 3) (dVar 4)) (dC (.int 1))) (dCall F__law_together [(aD (dVar 2)), (aD (dVar 5)), (aD (dBin oIx (dBin oIx (dVar 3) (dVar 4)) (dC (.int 0))))]))) (sRet (dC (.bool false))) sNil)) sNil))
    (okT es T) (fun ρ => ∃ x4 x5, ρ = [some (.dat (encCb many es)), some (.dat (.tuple [.str "net", encT T])), some (.dat (.int (many : Int))), some (.dat (.tuple (es.map enc3))), x4, x5, none, none]) es.length [some (.dat (encCb many es)), some (.dat (.tuple [.str "net", encT T])), some (.dat (.int (many : Int))), some (.dat (.tuple (es.map enc3))), none, none, none, none] ⟨_, _, rfl⟩ (fun k hk ρ hI => by
      obtain ⟨x4, x5, rfl⟩ := hI
      have ek := edge_w (es := es) (p := (k : Int)) (by omega)
      have pk := pr_in ok (p := (k : Int)) (by omega)
      have j0 : ∀ p : Int, oIx (.tuple [.int (prOf es p).1, .int (prOf es p).2, .int (wE es p)]) (.int 0) = M.ret (.int (prOf es p).1) := fun _ => rfl
      have j1 : ∀ p : Int, oIx (.tuple [.int (prOf es p).1, .int (prOf es p).2, .int (wE es p)]) (.int 1) = M.ret (.int (prOf es p).2) := fun _ => rfl
      have j2 : ∀ p : Int, oIx (.tuple [.int (prOf es p).1, .int (prOf es p).2, .int (wE es p)]) (.int 2) = M.ret (.int (wE es p)) := fun _ => rfl
      have nT := nin_T (k : Int) T
      obtain ⟨L, rL, tg⟩ := together_lq m8 m1 (s0 := (prOf es k).1) pk.1 (qs := (cheapT es T k).map (eAt es)) (by
        rw [eAt_pr]
        exact prs_in ok fun p hp => hT p (List.mem_filter.mp hp).1)
      rw [eAt_pr] at rL
      have tg := tg (.int (many : Int))
      have nL := notin_ints_l (prOf es k).2 L
      have dL : decide ((prOf es k).2 ∈ L) = connB ((cheapT es T k).map (prOf es)) (prOf es k).1 (prOf es k).2 := by
        rw [Bool.eq_iff_iff, decide_eq_true_eq, connB_iff, rL.mem]
      rw [dL] at nL
      have cp : ∀ y5 : Option Slot, dComp [7] (iSeq (dBin oIx (dVar 1) (dC (.int 1)))) (gN 7) (tOf (dBin oLe (dBin oIx (dBin oIx (dVar 3) (dVar 7)) (dC (.int 2))) (dBin oIx (dBin oIx (dVar 3) (dVar 4)) (dC (.int 2))))) (dBin oIx (dVar 3) (dVar 7)) [some (.dat (encCb many es)), some (.dat (.tuple [.str "net", encT T])), some (.dat (.int (many : Int))), some (.dat (.tuple (es.map enc3))), some (.dat (.int (k : Int))), y5, none, none] = M.ret (.list (((cheapT es T k).map (eAt es)).map enc3)) := fun y5 => by
        rw [comp_typed T PyData.int (fun q => decide (wE es q ≤ wE es k)) (fun q => enc3 (eAt es q)) (by simp only [at_iseq, at_bin, at_vs, at_v0, at_c, bnd_ret, v1]) (sz18 (by rw [show (2 : Nat) ^ 18 = 262144 by decide +kernel]; omega)) (fun q hq => by
          have eq := edge_w (hT q hq)
          have ea : enc3 (eAt es q) = .tuple [.int (prOf es q).1, .int (prOf es q).2, .int (wE es q)] := rfl
          rw [ea, turn_def]
          generalize encCb many es = C at *
          generalize es.map enc3 = E at *
          simp only [at_gn, wipeR, set_0, set_s, bnd_ret, at_tofk, at_bin, at_vs, at_v0, at_c, eq, ek, j2, le_ints]
          split <;> rfl)]
        rw [List.map_map]
        rfl
      have hok : okT es T k = (decide ((k : Int) ∈ T) || connB ((cheapT es T k).map (prOf es)) (prOf es k).1 (prOf es k).2) := rfl
      rw [hok]
      generalize encCb many es = C at *
      generalize hE : es.map enc3 = E at *
      generalize hQ : PyData.tuple [.str "net", encT T] = Q at *
      generalize ((cheapT es T k).map (eAt es)).map enc3 = CH at *
      by_cases c : (k : Int) ∈ T
      · refine ⟨fun _ => ⟨[some (.dat C), some (.dat Q), some (.dat (.int (many : Int))), some (.dat (.tuple E)), some (.dat (.int (k : Int))), x5, none, none], ?_, _, _, rfl⟩, fun z => by rw [decide_eq_true c] at z; cases z⟩
        simp only [at_gn, bnd_ret, set_0, set_s, at_bin, at_v0, at_vs, at_c, at_sif, at_tofk, v1, nT, c, decide_true, Bool.not_true, Bool.false_eq_true, if_false, at_nil]
      · cases hc : connB ((cheapT es T k).map (prOf es)) (prOf es k).1 (prOf es k).2 with
        | true =>
          rw [hc] at nL
          refine ⟨fun _ => ⟨[some (.dat C), some (.dat Q), some (.dat (.int (many : Int))), some (.dat (.tuple E)), some (.dat (.int (k : Int))), some (.dat (.list CH)), none, none], ?_, _, _, rfl⟩, fun z => by rw [decide_eq_false c] at z; cases z⟩
          simp only [at_gn, bnd_ret, set_0, set_s, at_seq, at_asg, hide_cons, hide1_d, hide1_n, hide_nil, at_bin, at_v0, at_vs, at_c, at_sif, at_tofk, v1, nT, c, decide_false, Bool.not_false, if_true, cp, at_call, at_argss, at_args0, at_ad, ek, j0, j1, tg, nL, Bool.not_true, Bool.false_eq_true, if_false, at_nil]
        | false =>
          rw [hc] at nL
          refine ⟨(fun z => by rw [decide_eq_false c] at z; cases z), fun _ => ?_⟩
          simp only [at_gn, bnd_ret, set_0, set_s, at_seq, at_asg, hide_cons, hide1_d, hide1_n, hide_nil, at_bin, at_v0, at_vs, at_c, at_sif, at_tofk, v1, nT, c, decide_false, Bool.not_false, if_true, cp, at_call, at_argss, at_args0, at_ad, ek, j0, j1, tg, nL, at_sret])
  exact ⟨x4, x5, e⟩
end
end

section
variable {κ : Bool}
section
variable {many : Nat} {es : List E3}
def crossB (L : List Int) (e : E3) : Bool := !decide (decide (e.1 ∈ L) = decide (e.2.1 ∈ L))
theorem len_zero {α : Type} (l : List α) (p : α → Bool) (F : α → D) : decide ((((l.filter p).map F).length : Int) = 0) = !l.any p := by
  rw [List.length_map, Bool.eq_iff_iff, decide_eq_true_eq, Bool.not_eq_true', ← Bool.not_eq_true, List.any_eq_true]
  constructor
  · rintro h ⟨x, h1, h2⟩
    have := List.length_pos_of_mem (List.mem_filter.mpr ⟨h1, h2⟩)
    omega
  · intro h
    refine Classical.byContradiction fun z => h ?_
    obtain ⟨x, hx⟩ := List.exists_mem_of_length_pos (l := l.filter p) (by omega)
    exact ⟨x, (List.mem_filter.mp hx).1, (List.mem_filter.mp hx).2⟩
theorem cagree (ok : CabOk many es) {x : D} (hz : Sz x) :
    ∃ c : Bool, F_check_cables [.d (encCb many es), .d x] = M.ret (.bool c) ∧ F__law_right_cables [.d (encCb many es), .d x] = M.ret (.bool c) := by
  have m1 := ok.m1
  have m8 := ok.m8
  have hel := ok.len
  have e18 : (2 : Nat) ^ 18 = 262144 := by decide +kernel
  have an : ¬ ("apart" : Str) = ("net" : Str) := by decide +kernel
  have na : ¬ ("net" : Str) = ("apart" : Str) := by decide +kernel
  have nt : ∀ (d : D) (s : Str), d.isTuple = false → F_is_named [.d d, .d (.str s), .d (.int 2)] = M.ret (.bool false) := fun d s h => jnamed_no s 2 fun xs e => by rw [e] at h; cases h
  have rgN : rng1 (.int (es.length : Int)) = M.ret (intsFrom 0 es.length) := by rw [rng1_of (by omega) (by omega)]; rfl
  have g23 : ∀ ρ : Rho, gT [gN 2, gN 3] (encCb many es) ρ = M.ret ((ρ.set 2 (some (.dat (.int (many : Int))))).set 3 (some (.dat (.tuple (es.map enc3))))) := fun ρ => by rw [at_g2, at_gn, bnd_ret, at_gn]
  by_cases hT : x.isTuple = false
  · have nx := fun s => nt x s hT
    refine ⟨false, ?_, ?_⟩
    · unfold F_check_cables
      rw [fn_eq]
      generalize encCb many es = C at *
      simp only [at_emp, at_dis1, at_ow0, at_ows, at_calln, isLst_ret, at_c, at_bin, at_un, at_v0, at_o0, at_vs, at_tup, at_lst, at_each0, at_eachs, at_ad, at_p0, at_ps, at_args0, at_argss, at_call, at_tofk, at_and, at_or, at_not, at_dand, at_dor, at_dnot, at_if, at_chain, at_gn, at_g2, at_g3, at_g4, at_iseq, at_r1, at_r2, turn_def, at_sasgn, at_sforr, at_nil, at_seq, at_asg, at_sown, at_sret, at_sretn, at_sif, at_sdrop, at_sbrk, at_scont, at_sfor, hide_nil, hide_cons, hide1_d, hide1_n, hide1_p, hide1_o, set_0, set_s, bnd_ret, bnd_stuck, bnd_bnd, bnd_ite, slot_d, slot_p, wipeR, List.map_cons, List.map_nil, List.cons_append, List.nil_append, List.replicate, add_ints, sub_ints, le_ints, lt_ints, ge_ints, gt_ints, neg_ints, min2_ints, max2_ints, oEq_ints, oNe_ints, oEq_bools, oNe_bools, len_tup, len_lst, revL_l, oEq_strs, oNe_strs, tuple_l, tuple_t, list_l, list_t, at_sl, at_pn, at_ps', sl_tup', sl_lst', is_T, is_L, is_I, is_B, is_S, is_N, not_N, isT_n, isT_b, isT_i, isT_s, isT_t, isT_l, isT_d, isL_n, isL_b, isL_i, isL_s, isL_t, isL_l, isL_d, isI_n, isI_b, isI_i, isI_s, isI_t, isI_l, isI_d, isB_n, isB_b, isB_i, isB_s, isB_t, isB_l, isB_d, isS_n, isS_b, isS_i, isS_s, isS_t, isS_l, isS_d, isN_n, isN_b, isN_i, isN_s, isN_t, isN_l, isN_d, decide_eq_true_eq, Bool.not_eq_true', decide_eq_false_iff_not, Bool.false_eq_true, if_true, if_false, decide_true, decide_false, Bool.not_true, Bool.not_false, not_true_eq_false, not_false_eq_true, ret_ite_o, Int.reduceLT, Int.reduceLE, Int.reduceEq, Int.reduceAdd, Int.reduceSub, Int.reduceNeg, reduceCtorEq, g23, nx]
    · unfold F__law_right_cables
      rw [fn_eq]
      generalize encCb many es = C at *
      simp only [at_emp, at_dis1, at_ow0, at_ows, at_calln, isLst_ret, at_c, at_bin, at_un, at_v0, at_o0, at_vs, at_tup, at_lst, at_each0, at_eachs, at_ad, at_p0, at_ps, at_args0, at_argss, at_call, at_tofk, at_and, at_or, at_not, at_dand, at_dor, at_dnot, at_if, at_chain, at_gn, at_g2, at_g3, at_g4, at_iseq, at_r1, at_r2, turn_def, at_sasgn, at_sforr, at_nil, at_seq, at_asg, at_sown, at_sret, at_sretn, at_sif, at_sdrop, at_sbrk, at_scont, at_sfor, hide_nil, hide_cons, hide1_d, hide1_n, hide1_p, hide1_o, set_0, set_s, bnd_ret, bnd_stuck, bnd_bnd, bnd_ite, slot_d, slot_p, wipeR, List.map_cons, List.map_nil, List.cons_append, List.nil_append, List.replicate, add_ints, sub_ints, le_ints, lt_ints, ge_ints, gt_ints, neg_ints, min2_ints, max2_ints, oEq_ints, oNe_ints, oEq_bools, oNe_bools, len_tup, len_lst, revL_l, oEq_strs, oNe_strs, tuple_l, tuple_t, list_l, list_t, at_sl, at_pn, at_ps', sl_tup', sl_lst', is_T, is_L, is_I, is_B, is_S, is_N, not_N, isT_n, isT_b, isT_i, isT_s, isT_t, isT_l, isT_d, isL_n, isL_b, isL_i, isL_s, isL_t, isL_l, isL_d, isI_n, isI_b, isI_i, isI_s, isI_t, isI_l, isI_d, isB_n, isB_b, isB_i, isB_s, isB_t, isB_l, isB_d, isS_n, isS_b, isS_i, isS_s, isS_t, isS_l, isS_d, isN_n, isN_b, isN_i, isN_s, isN_t, isN_l, isN_d, decide_eq_true_eq, Bool.not_eq_true', decide_eq_false_iff_not, Bool.false_eq_true, if_true, if_false, decide_true, decide_false, Bool.not_true, Bool.not_false, not_true_eq_false, not_false_eq_true, ret_ite_o, Int.reduceLT, Int.reduceLE, Int.reduceEq, Int.reduceAdd, Int.reduceSub, Int.reduceNeg, reduceCtorEq, g23, hT]
  cases x with
  | tuple xs =>
    match xs, hz with
    | [], hz =>
      refine ⟨false, ?_, ?_⟩
      · have nx := fun s => jnamed_no (d := .tuple []) s 2 fun xs e => by cases e; decide
        unfold F_check_cables
        rw [fn_eq]
        generalize encCb many es = C at *
        simp only [at_emp, at_dis1, at_ow0, at_ows, at_calln, isLst_ret, at_c, at_bin, at_un, at_v0, at_o0, at_vs, at_tup, at_lst, at_each0, at_eachs, at_ad, at_p0, at_ps, at_args0, at_argss, at_call, at_tofk, at_and, at_or, at_not, at_dand, at_dor, at_dnot, at_if, at_chain, at_gn, at_g2, at_g3, at_g4, at_iseq, at_r1, at_r2, turn_def, at_sasgn, at_sforr, at_nil, at_seq, at_asg, at_sown, at_sret, at_sretn, at_sif, at_sdrop, at_sbrk, at_scont, at_sfor, hide_nil, hide_cons, hide1_d, hide1_n, hide1_p, hide1_o, set_0, set_s, bnd_ret, bnd_stuck, bnd_bnd, bnd_ite, slot_d, slot_p, wipeR, List.map_cons, List.map_nil, List.cons_append, List.nil_append, List.replicate, add_ints, sub_ints, le_ints, lt_ints, ge_ints, gt_ints, neg_ints, min2_ints, max2_ints, oEq_ints, oNe_ints, oEq_bools, oNe_bools, len_tup, len_lst, revL_l, oEq_strs, oNe_strs, tuple_l, tuple_t, list_l, list_t, at_sl, at_pn, at_ps', sl_tup', sl_lst', is_T, is_L, is_I, is_B, is_S, is_N, not_N, isT_n, isT_b, isT_i, isT_s, isT_t, isT_l, isT_d, isL_n, isL_b, isL_i, isL_s, isL_t, isL_l, isL_d, isI_n, isI_b, isI_i, isI_s, isI_t, isI_l, isI_d, isB_n, isB_b, isB_i, isB_s, isB_t, isB_l, isB_d, isS_n, isS_b, isS_i, isS_s, isS_t, isS_l, isS_d, isN_n, isN_b, isN_i, isN_s, isN_t, isN_l, isN_d, decide_eq_true_eq, Bool.not_eq_true', decide_eq_false_iff_not, Bool.false_eq_true, if_true, if_false, decide_true, decide_false, Bool.not_true, Bool.not_false, not_true_eq_false, not_false_eq_true, ret_ite_o, Int.reduceLT, Int.reduceLE, Int.reduceEq, Int.reduceAdd, Int.reduceSub, Int.reduceNeg, reduceCtorEq, g23, nx]
      · unfold F__law_right_cables
        rw [fn_eq]
        generalize encCb many es = C at *
        simp only [at_emp, at_dis1, at_ow0, at_ows, at_calln, isLst_ret, at_c, at_bin, at_un, at_v0, at_o0, at_vs, at_tup, at_lst, at_each0, at_eachs, at_ad, at_p0, at_ps, at_args0, at_argss, at_call, at_tofk, at_and, at_or, at_not, at_dand, at_dor, at_dnot, at_if, at_chain, at_gn, at_g2, at_g3, at_g4, at_iseq, at_r1, at_r2, turn_def, at_sasgn, at_sforr, at_nil, at_seq, at_asg, at_sown, at_sret, at_sretn, at_sif, at_sdrop, at_sbrk, at_scont, at_sfor, hide_nil, hide_cons, hide1_d, hide1_n, hide1_p, hide1_o, set_0, set_s, bnd_ret, bnd_stuck, bnd_bnd, bnd_ite, slot_d, slot_p, wipeR, List.map_cons, List.map_nil, List.cons_append, List.nil_append, List.replicate, add_ints, sub_ints, le_ints, lt_ints, ge_ints, gt_ints, neg_ints, min2_ints, max2_ints, oEq_ints, oNe_ints, oEq_bools, oNe_bools, len_tup, len_lst, revL_l, oEq_strs, oNe_strs, tuple_l, tuple_t, list_l, list_t, at_sl, at_pn, at_ps', sl_tup', sl_lst', is_T, is_L, is_I, is_B, is_S, is_N, not_N, isT_n, isT_b, isT_i, isT_s, isT_t, isT_l, isT_d, isL_n, isL_b, isL_i, isL_s, isL_t, isL_l, isL_d, isI_n, isI_b, isI_i, isI_s, isI_t, isI_l, isI_d, isB_n, isB_b, isB_i, isB_s, isB_t, isB_l, isB_d, isS_n, isS_b, isS_i, isS_s, isS_t, isS_l, isS_d, isN_n, isN_b, isN_i, isN_s, isN_t, isN_l, isN_d, decide_eq_true_eq, Bool.not_eq_true', decide_eq_false_iff_not, Bool.false_eq_true, if_true, if_false, decide_true, decide_false, Bool.not_true, Bool.not_false, not_true_eq_false, not_false_eq_true, ret_ite_o, Int.reduceLT, Int.reduceLE, Int.reduceEq, Int.reduceAdd, Int.reduceSub, Int.reduceNeg, reduceCtorEq, g23]
        rfl
    | [a], hz =>
      refine ⟨false, ?_, ?_⟩
      · have nx := fun s => jnamed_no (d := .tuple [a]) s 2 fun xs e => by cases e; exact (show ¬ (1 : Int) = 2 by decide)
        unfold F_check_cables
        rw [fn_eq]
        generalize encCb many es = C at *
        simp only [at_emp, at_dis1, at_ow0, at_ows, at_calln, isLst_ret, at_c, at_bin, at_un, at_v0, at_o0, at_vs, at_tup, at_lst, at_each0, at_eachs, at_ad, at_p0, at_ps, at_args0, at_argss, at_call, at_tofk, at_and, at_or, at_not, at_dand, at_dor, at_dnot, at_if, at_chain, at_gn, at_g2, at_g3, at_g4, at_iseq, at_r1, at_r2, turn_def, at_sasgn, at_sforr, at_nil, at_seq, at_asg, at_sown, at_sret, at_sretn, at_sif, at_sdrop, at_sbrk, at_scont, at_sfor, hide_nil, hide_cons, hide1_d, hide1_n, hide1_p, hide1_o, set_0, set_s, bnd_ret, bnd_stuck, bnd_bnd, bnd_ite, slot_d, slot_p, wipeR, List.map_cons, List.map_nil, List.cons_append, List.nil_append, List.replicate, add_ints, sub_ints, le_ints, lt_ints, ge_ints, gt_ints, neg_ints, min2_ints, max2_ints, oEq_ints, oNe_ints, oEq_bools, oNe_bools, len_tup, len_lst, revL_l, oEq_strs, oNe_strs, tuple_l, tuple_t, list_l, list_t, at_sl, at_pn, at_ps', sl_tup', sl_lst', is_T, is_L, is_I, is_B, is_S, is_N, not_N, isT_n, isT_b, isT_i, isT_s, isT_t, isT_l, isT_d, isL_n, isL_b, isL_i, isL_s, isL_t, isL_l, isL_d, isI_n, isI_b, isI_i, isI_s, isI_t, isI_l, isI_d, isB_n, isB_b, isB_i, isB_s, isB_t, isB_l, isB_d, isS_n, isS_b, isS_i, isS_s, isS_t, isS_l, isS_d, isN_n, isN_b, isN_i, isN_s, isN_t, isN_l, isN_d, decide_eq_true_eq, Bool.not_eq_true', decide_eq_false_iff_not, Bool.false_eq_true, if_true, if_false, decide_true, decide_false, Bool.not_true, Bool.not_false, not_true_eq_false, not_false_eq_true, ret_ite_o, Int.reduceLT, Int.reduceLE, Int.reduceEq, Int.reduceAdd, Int.reduceSub, Int.reduceNeg, reduceCtorEq, g23, nx]
      · unfold F__law_right_cables
        rw [fn_eq]
        generalize encCb many es = C at *
        simp only [at_emp, at_dis1, at_ow0, at_ows, at_calln, isLst_ret, at_c, at_bin, at_un, at_v0, at_o0, at_vs, at_tup, at_lst, at_each0, at_eachs, at_ad, at_p0, at_ps, at_args0, at_argss, at_call, at_tofk, at_and, at_or, at_not, at_dand, at_dor, at_dnot, at_if, at_chain, at_gn, at_g2, at_g3, at_g4, at_iseq, at_r1, at_r2, turn_def, at_sasgn, at_sforr, at_nil, at_seq, at_asg, at_sown, at_sret, at_sretn, at_sif, at_sdrop, at_sbrk, at_scont, at_sfor, hide_nil, hide_cons, hide1_d, hide1_n, hide1_p, hide1_o, set_0, set_s, bnd_ret, bnd_stuck, bnd_bnd, bnd_ite, slot_d, slot_p, wipeR, List.map_cons, List.map_nil, List.cons_append, List.nil_append, List.replicate, add_ints, sub_ints, le_ints, lt_ints, ge_ints, gt_ints, neg_ints, min2_ints, max2_ints, oEq_ints, oNe_ints, oEq_bools, oNe_bools, len_tup, len_lst, revL_l, oEq_strs, oNe_strs, tuple_l, tuple_t, list_l, list_t, at_sl, at_pn, at_ps', sl_tup', sl_lst', is_T, is_L, is_I, is_B, is_S, is_N, not_N, isT_n, isT_b, isT_i, isT_s, isT_t, isT_l, isT_d, isL_n, isL_b, isL_i, isL_s, isL_t, isL_l, isL_d, isI_n, isI_b, isI_i, isI_s, isI_t, isI_l, isI_d, isB_n, isB_b, isB_i, isB_s, isB_t, isB_l, isB_d, isS_n, isS_b, isS_i, isS_s, isS_t, isS_l, isS_d, isN_n, isN_b, isN_i, isN_s, isN_t, isN_l, isN_d, decide_eq_true_eq, Bool.not_eq_true', decide_eq_false_iff_not, Bool.false_eq_true, if_true, if_false, decide_true, decide_false, Bool.not_true, Bool.not_false, not_true_eq_false, not_false_eq_true, ret_ite_o, Int.reduceLT, Int.reduceLE, Int.reduceEq, Int.reduceAdd, Int.reduceSub, Int.reduceNeg, reduceCtorEq, g23]
        rfl
    | a :: y :: z :: r, hz =>
      have h2 : ¬ ((a :: y :: z :: r).length : Int) = 2 := by simp only [List.length_cons]; omega
      refine ⟨false, ?_, ?_⟩
      · have nx := fun s => jnamed_no (d := .tuple (a :: y :: z :: r)) s 2 fun xs e => by cases e; exact h2
        unfold F_check_cables
        rw [fn_eq]
        generalize encCb many es = C at *
        simp only [at_emp, at_dis1, at_ow0, at_ows, at_calln, isLst_ret, at_c, at_bin, at_un, at_v0, at_o0, at_vs, at_tup, at_lst, at_each0, at_eachs, at_ad, at_p0, at_ps, at_args0, at_argss, at_call, at_tofk, at_and, at_or, at_not, at_dand, at_dor, at_dnot, at_if, at_chain, at_gn, at_g2, at_g3, at_g4, at_iseq, at_r1, at_r2, turn_def, at_sasgn, at_sforr, at_nil, at_seq, at_asg, at_sown, at_sret, at_sretn, at_sif, at_sdrop, at_sbrk, at_scont, at_sfor, hide_nil, hide_cons, hide1_d, hide1_n, hide1_p, hide1_o, set_0, set_s, bnd_ret, bnd_stuck, bnd_bnd, bnd_ite, slot_d, slot_p, wipeR, List.map_cons, List.map_nil, List.cons_append, List.nil_append, List.replicate, add_ints, sub_ints, le_ints, lt_ints, ge_ints, gt_ints, neg_ints, min2_ints, max2_ints, oEq_ints, oNe_ints, oEq_bools, oNe_bools, len_tup, len_lst, revL_l, oEq_strs, oNe_strs, tuple_l, tuple_t, list_l, list_t, at_sl, at_pn, at_ps', sl_tup', sl_lst', is_T, is_L, is_I, is_B, is_S, is_N, not_N, isT_n, isT_b, isT_i, isT_s, isT_t, isT_l, isT_d, isL_n, isL_b, isL_i, isL_s, isL_t, isL_l, isL_d, isI_n, isI_b, isI_i, isI_s, isI_t, isI_l, isI_d, isB_n, isB_b, isB_i, isB_s, isB_t, isB_l, isB_d, isS_n, isS_b, isS_i, isS_s, isS_t, isS_l, isS_d, isN_n, isN_b, isN_i, isN_s, isN_t, isN_l, isN_d, decide_eq_true_eq, Bool.not_eq_true', decide_eq_false_iff_not, Bool.false_eq_true, if_true, if_false, decide_true, decide_false, Bool.not_true, Bool.not_false, not_true_eq_false, not_false_eq_true, ret_ite_o, Int.reduceLT, Int.reduceLE, Int.reduceEq, Int.reduceAdd, Int.reduceSub, Int.reduceNeg, reduceCtorEq, g23, nx]
      · unfold F__law_right_cables
        rw [fn_eq]
        generalize encCb many es = C at *
        simp only [at_emp, at_dis1, at_ow0, at_ows, at_calln, isLst_ret, at_c, at_bin, at_un, at_v0, at_o0, at_vs, at_tup, at_lst, at_each0, at_eachs, at_ad, at_p0, at_ps, at_args0, at_argss, at_call, at_tofk, at_and, at_or, at_not, at_dand, at_dor, at_dnot, at_if, at_chain, at_gn, at_g2, at_g3, at_g4, at_iseq, at_r1, at_r2, turn_def, at_sasgn, at_sforr, at_nil, at_seq, at_asg, at_sown, at_sret, at_sretn, at_sif, at_sdrop, at_sbrk, at_scont, at_sfor, hide_nil, hide_cons, hide1_d, hide1_n, hide1_p, hide1_o, set_0, set_s, bnd_ret, bnd_stuck, bnd_bnd, bnd_ite, slot_d, slot_p, wipeR, List.map_cons, List.map_nil, List.cons_append, List.nil_append, List.replicate, add_ints, sub_ints, le_ints, lt_ints, ge_ints, gt_ints, neg_ints, min2_ints, max2_ints, oEq_ints, oNe_ints, oEq_bools, oNe_bools, len_tup, len_lst, revL_l, oEq_strs, oNe_strs, tuple_l, tuple_t, list_l, list_t, at_sl, at_pn, at_ps', sl_tup', sl_lst', is_T, is_L, is_I, is_B, is_S, is_N, not_N, isT_n, isT_b, isT_i, isT_s, isT_t, isT_l, isT_d, isL_n, isL_b, isL_i, isL_s, isL_t, isL_l, isL_d, isI_n, isI_b, isI_i, isI_s, isI_t, isI_l, isI_d, isB_n, isB_b, isB_i, isB_s, isB_t, isB_l, isB_d, isS_n, isS_b, isS_i, isS_s, isS_t, isS_l, isS_d, isN_n, isN_b, isN_i, isN_s, isN_t, isN_l, isN_d, decide_eq_true_eq, Bool.not_eq_true', decide_eq_false_iff_not, Bool.false_eq_true, if_true, if_false, decide_true, decide_false, Bool.not_true, Bool.not_false, not_true_eq_false, not_false_eq_true, ret_ite_o, Int.reduceLT, Int.reduceLE, Int.reduceEq, Int.reduceAdd, Int.reduceSub, Int.reduceNeg, reduceCtorEq, g23, h2]
    | [a, y], hz =>
      have i0 : oIx (.tuple [a, y]) (.int 0) = M.ret a := oIx_t (i := 0) rfl
      have i1 : oIx (.tuple [a, y]) (.int 1) = M.ret y := oIx_t (i := 1) rfl
      have l2 : ((([a, y] : List D).length : Nat) : Int) = 2 := rfl
      have zy : Sz y := hz.mem_t (by simp)
      have ca := fun s : Str => jnamed2 (x := a) (y := y) s
      cases a with
      | str s =>
        dsimp only at ca
        by_cases hs : s = ("apart" : Str)
        · subst hs
          have n1 := ca "apart"
          rw [decide_eq_true rfl] at n1
          have ra := rising_at zy 0 ((many : Int) - 1)
          have la := lrow_any zy 0 ((many : Int) - 1)
          cases hr : rowAny 0 ((many : Int) - 1) y with
          | false =>
            rw [hr, Bool.false_and] at ra
            rw [hr] at la
            refine ⟨false, ?_, ?_⟩
            · unfold F_check_cables
              rw [fn_eq]
              generalize encCb many es = C at *
              simp only [at_emp, at_dis1, at_ow0, at_ows, at_calln, isLst_ret, at_c, at_bin, at_un, at_v0, at_o0, at_vs, at_tup, at_lst, at_each0, at_eachs, at_ad, at_p0, at_ps, at_args0, at_argss, at_call, at_tofk, at_and, at_or, at_not, at_dand, at_dor, at_dnot, at_if, at_chain, at_gn, at_g2, at_g3, at_g4, at_iseq, at_r1, at_r2, turn_def, at_sasgn, at_sforr, at_nil, at_seq, at_asg, at_sown, at_sret, at_sretn, at_sif, at_sdrop, at_sbrk, at_scont, at_sfor, hide_nil, hide_cons, hide1_d, hide1_n, hide1_p, hide1_o, set_0, set_s, bnd_ret, bnd_stuck, bnd_bnd, bnd_ite, slot_d, slot_p, wipeR, List.map_cons, List.map_nil, List.cons_append, List.nil_append, List.replicate, add_ints, sub_ints, le_ints, lt_ints, ge_ints, gt_ints, neg_ints, min2_ints, max2_ints, oEq_ints, oNe_ints, oEq_bools, oNe_bools, len_tup, len_lst, revL_l, oEq_strs, oNe_strs, tuple_l, tuple_t, list_l, list_t, at_sl, at_pn, at_ps', sl_tup', sl_lst', is_T, is_L, is_I, is_B, is_S, is_N, not_N, isT_n, isT_b, isT_i, isT_s, isT_t, isT_l, isT_d, isL_n, isL_b, isL_i, isL_s, isL_t, isL_l, isL_d, isI_n, isI_b, isI_i, isI_s, isI_t, isI_l, isI_d, isB_n, isB_b, isB_i, isB_s, isB_t, isB_l, isB_d, isS_n, isS_b, isS_i, isS_s, isS_t, isS_l, isS_d, isN_n, isN_b, isN_i, isN_s, isN_t, isN_l, isN_d, decide_eq_true_eq, Bool.not_eq_true', decide_eq_false_iff_not, Bool.false_eq_true, if_true, if_false, decide_true, decide_false, Bool.not_true, Bool.not_false, not_true_eq_false, not_false_eq_true, ret_ite_o, Int.reduceLT, Int.reduceLE, Int.reduceEq, Int.reduceAdd, Int.reduceSub, Int.reduceNeg, reduceCtorEq, g23, n1, i1, ra]
            · unfold F__law_right_cables
              rw [fn_eq]
              generalize encCb many es = C at *
              simp only [at_emp, at_dis1, at_ow0, at_ows, at_calln, isLst_ret, at_c, at_bin, at_un, at_v0, at_o0, at_vs, at_tup, at_lst, at_each0, at_eachs, at_ad, at_p0, at_ps, at_args0, at_argss, at_call, at_tofk, at_and, at_or, at_not, at_dand, at_dor, at_dnot, at_if, at_chain, at_gn, at_g2, at_g3, at_g4, at_iseq, at_r1, at_r2, turn_def, at_sasgn, at_sforr, at_nil, at_seq, at_asg, at_sown, at_sret, at_sretn, at_sif, at_sdrop, at_sbrk, at_scont, at_sfor, hide_nil, hide_cons, hide1_d, hide1_n, hide1_p, hide1_o, set_0, set_s, bnd_ret, bnd_stuck, bnd_bnd, bnd_ite, slot_d, slot_p, wipeR, List.map_cons, List.map_nil, List.cons_append, List.nil_append, List.replicate, add_ints, sub_ints, le_ints, lt_ints, ge_ints, gt_ints, neg_ints, min2_ints, max2_ints, oEq_ints, oNe_ints, oEq_bools, oNe_bools, len_tup, len_lst, revL_l, oEq_strs, oNe_strs, tuple_l, tuple_t, list_l, list_t, at_sl, at_pn, at_ps', sl_tup', sl_lst', is_T, is_L, is_I, is_B, is_S, is_N, not_N, isT_n, isT_b, isT_i, isT_s, isT_t, isT_l, isT_d, isL_n, isL_b, isL_i, isL_s, isL_t, isL_l, isL_d, isI_n, isI_b, isI_i, isI_s, isI_t, isI_l, isI_d, isB_n, isB_b, isB_i, isB_s, isB_t, isB_l, isB_d, isS_n, isS_b, isS_i, isS_s, isS_t, isS_l, isS_d, isN_n, isN_b, isN_i, isN_s, isN_t, isN_l, isN_d, decide_eq_true_eq, Bool.not_eq_true', decide_eq_false_iff_not, Bool.false_eq_true, if_true, if_false, decide_true, decide_false, Bool.not_true, Bool.not_false, not_true_eq_false, not_false_eq_true, ret_ite_o, Int.reduceLT, Int.reduceLE, Int.reduceEq, Int.reduceAdd, Int.reduceSub, Int.reduceNeg, reduceCtorEq, g23, i0, i1, l2, la]
          | true =>
            obtain ⟨xs, rfl⟩ : ∃ xs, y = .tuple xs := by cases y <;> first | exact ⟨_, rfl⟩ | cases hr
            obtain ⟨L, hn, _, hpr⟩ := rowB_ints (many := (xs.length : Int)) (lo := 0) (hi := (many : Int) - 1) (d := .tuple xs) (by rw [rowB, decide_eq_true rfl]; exact hr)
            have hx : xs = L.map .int := by injection hn
            subst hx
            have lu := lup_gen (seqd_t (L.map .int)) zy.len_t lt_ints_map
            rw [hr, Bool.true_and] at ra
            have ei : its (.tuple (L.map .int)) = L.map .int := rfl
            rw [ei] at ra
            rw [hr] at la
            have lL : bLen (.tuple (L.map .int)) = M.ret (.int (L.length : Int)) := by rw [len_tup, List.length_map]
            cases hu : upD (L.map PyData.int) with
            | false =>
              rw [hu] at ra lu
              refine ⟨false, ?_, ?_⟩
              · unfold F_check_cables
                rw [fn_eq]
                generalize encCb many es = C at *
                simp only [at_emp, at_dis1, at_ow0, at_ows, at_calln, isLst_ret, at_c, at_bin, at_un, at_v0, at_o0, at_vs, at_tup, at_lst, at_each0, at_eachs, at_ad, at_p0, at_ps, at_args0, at_argss, at_call, at_tofk, at_and, at_or, at_not, at_dand, at_dor, at_dnot, at_if, at_chain, at_gn, at_g2, at_g3, at_g4, at_iseq, at_r1, at_r2, turn_def, at_sasgn, at_sforr, at_nil, at_seq, at_asg, at_sown, at_sret, at_sretn, at_sif, at_sdrop, at_sbrk, at_scont, at_sfor, hide_nil, hide_cons, hide1_d, hide1_n, hide1_p, hide1_o, set_0, set_s, bnd_ret, bnd_stuck, bnd_bnd, bnd_ite, slot_d, slot_p, wipeR, List.map_cons, List.map_nil, List.cons_append, List.nil_append, List.replicate, add_ints, sub_ints, le_ints, lt_ints, ge_ints, gt_ints, neg_ints, min2_ints, max2_ints, oEq_ints, oNe_ints, oEq_bools, oNe_bools, len_tup, len_lst, revL_l, oEq_strs, oNe_strs, tuple_l, tuple_t, list_l, list_t, at_sl, at_pn, at_ps', sl_tup', sl_lst', is_T, is_L, is_I, is_B, is_S, is_N, not_N, isT_n, isT_b, isT_i, isT_s, isT_t, isT_l, isT_d, isL_n, isL_b, isL_i, isL_s, isL_t, isL_l, isL_d, isI_n, isI_b, isI_i, isI_s, isI_t, isI_l, isI_d, isB_n, isB_b, isB_i, isB_s, isB_t, isB_l, isB_d, isS_n, isS_b, isS_i, isS_s, isS_t, isS_l, isS_d, isN_n, isN_b, isN_i, isN_s, isN_t, isN_l, isN_d, decide_eq_true_eq, Bool.not_eq_true', decide_eq_false_iff_not, Bool.false_eq_true, if_true, if_false, decide_true, decide_false, Bool.not_true, Bool.not_false, not_true_eq_false, not_false_eq_true, ret_ite_o, Int.reduceLT, Int.reduceLE, Int.reduceEq, Int.reduceAdd, Int.reduceSub, Int.reduceNeg, reduceCtorEq, g23, n1, i1, ra]
              · unfold F__law_right_cables
                rw [fn_eq]
                generalize encCb many es = C at *
                simp only [at_emp, at_dis1, at_ow0, at_ows, at_calln, isLst_ret, at_c, at_bin, at_un, at_v0, at_o0, at_vs, at_tup, at_lst, at_each0, at_eachs, at_ad, at_p0, at_ps, at_args0, at_argss, at_call, at_tofk, at_and, at_or, at_not, at_dand, at_dor, at_dnot, at_if, at_chain, at_gn, at_g2, at_g3, at_g4, at_iseq, at_r1, at_r2, turn_def, at_sasgn, at_sforr, at_nil, at_seq, at_asg, at_sown, at_sret, at_sretn, at_sif, at_sdrop, at_sbrk, at_scont, at_sfor, hide_nil, hide_cons, hide1_d, hide1_n, hide1_p, hide1_o, set_0, set_s, bnd_ret, bnd_stuck, bnd_bnd, bnd_ite, slot_d, slot_p, wipeR, List.map_cons, List.map_nil, List.cons_append, List.nil_append, List.replicate, add_ints, sub_ints, le_ints, lt_ints, ge_ints, gt_ints, neg_ints, min2_ints, max2_ints, oEq_ints, oNe_ints, oEq_bools, oNe_bools, len_tup, len_lst, revL_l, oEq_strs, oNe_strs, tuple_l, tuple_t, list_l, list_t, at_sl, at_pn, at_ps', sl_tup', sl_lst', is_T, is_L, is_I, is_B, is_S, is_N, not_N, isT_n, isT_b, isT_i, isT_s, isT_t, isT_l, isT_d, isL_n, isL_b, isL_i, isL_s, isL_t, isL_l, isL_d, isI_n, isI_b, isI_i, isI_s, isI_t, isI_l, isI_d, isB_n, isB_b, isB_i, isB_s, isB_t, isB_l, isB_d, isS_n, isS_b, isS_i, isS_s, isS_t, isS_l, isS_d, isN_n, isN_b, isN_i, isN_s, isN_t, isN_l, isN_d, decide_eq_true_eq, Bool.not_eq_true', decide_eq_false_iff_not, Bool.false_eq_true, if_true, if_false, decide_true, decide_false, Bool.not_true, Bool.not_false, not_true_eq_false, not_false_eq_true, ret_ite_o, Int.reduceLT, Int.reduceLE, Int.reduceEq, Int.reduceAdd, Int.reduceSub, Int.reduceNeg, reduceCtorEq, g23, i0, i1, l2, la, lu]
            | true =>
              rw [hu] at ra lu
              have pc : ∀ y4 y5 y6 y7 y9 : Option Slot, dComp [8] (iSeq (dVar 3)) (gN 8) tTrue (dBin oNe (dBin oIn (dBin oIx (dVar 8) (dC (.int 0))) (dBin oIx (dVar 1) (dC (.int 1)))) (dBin oIn (dBin oIx (dVar 8) (dC (.int 1))) (dBin oIx (dVar 1) (dC (.int 1))))) [some (.dat (encCb many es)), some (.dat (.tuple [.str "apart", .tuple (L.map .int)])), some (.dat (.int (many : Int))), some (.dat (.tuple (es.map enc3))), y4, y5, y6, y7, none, y9] = M.ret (.list (es.map fun e => .bool (crossB L e))) := fun y4 y5 y6 y7 y9 => by
                rw [comp_map es enc3 (fun e => .bool (crossB L e)) (by simp only [at_iseq, at_vs, at_v0, bnd_ret]) (sz18 (by rw [e18]; omega)) (fun e he => by
                  have j0 : oIx (enc3 e) (.int 0) = M.ret (.int e.1) := rfl
                  have j1 : oIx (enc3 e) (.int 1) = M.ret (.int e.2.1) := rfl
                  have q0 := in_ints_t e.1 L
                  have q1 := in_ints_t e.2.1 L
                  generalize encCb many es = C at *
                  generalize enc3 e = Q at *
                  simp only [at_gn, wipeR, set_0, set_s, bnd_ret, at_bin, at_vs, at_v0, at_c, j0, j1, i1, q0, q1, oNe_bools]
                  rfl)]
              have lc : ∀ y4 y5 y7 : Option Slot, dComp [6] (iSeq (dVar 3)) (gN 6) (tOf (dBin oNe (dBin oIn (dBin oIx (dVar 6) (dC (.int 0))) (dBin oIx (dVar 1) (dC (.int 1)))) (dBin oIn (dBin oIx (dVar 6) (dC (.int 1))) (dBin oIx (dVar 1) (dC (.int 1)))))) (dVar 6) [some (.dat (encCb many es)), some (.dat (.tuple [.str "apart", .tuple (L.map .int)])), some (.dat (.int (many : Int))), some (.dat (.tuple (es.map enc3))), y4, y5, none, y7] = M.ret (.list ((es.filter (crossB L)).map enc3)) := fun y4 y5 y7 => by
                rw [comp_typed es enc3 (crossB L) enc3 (by simp only [at_iseq, at_vs, at_v0, bnd_ret]) (sz18 (by rw [e18]; omega)) (fun e he => by
                  have j0 : oIx (enc3 e) (.int 0) = M.ret (.int e.1) := rfl
                  have j1 : oIx (enc3 e) (.int 1) = M.ret (.int e.2.1) := rfl
                  have q0 := in_ints_t e.1 L
                  have q1 := in_ints_t e.2.1 L
                  rw [turn_def]
                  generalize encCb many es = C at *
                  generalize enc3 e = Q at *
                  simp only [at_gn, wipeR, set_0, set_s, bnd_ret, at_tofk, at_bin, at_vs, at_v0, at_c, j0, j1, i1, q0, q1, oNe_bools]
                  show (if crossB L e = true then _ else _) = _
                  split <;> rfl)]
              have z0 := len_zero es (crossB L) enc3
              by_cases c1 : (1 : Int) ≤ (L.length : Int)
              · by_cases c2 : (L.length : Int) < (many : Int)
                · refine ⟨!es.any (crossB L), ?_, ?_⟩
                  · unfold F_check_cables
                    rw [fn_eq]
                    generalize encCb many es = C at *
                    simp only [at_emp, at_dis1, at_ow0, at_ows, at_calln, isLst_ret, at_c, at_bin, at_un, at_v0, at_o0, at_vs, at_tup, at_lst, at_each0, at_eachs, at_ad, at_p0, at_ps, at_args0, at_argss, at_call, at_tofk, at_and, at_or, at_not, at_dand, at_dor, at_dnot, at_if, at_chain, at_gn, at_g2, at_g3, at_g4, at_iseq, at_r1, at_r2, turn_def, at_sasgn, at_sforr, at_nil, at_seq, at_asg, at_sown, at_sret, at_sretn, at_sif, at_sdrop, at_sbrk, at_scont, at_sfor, hide_nil, hide_cons, hide1_d, hide1_n, hide1_p, hide1_o, set_0, set_s, bnd_ret, bnd_stuck, bnd_bnd, bnd_ite, slot_d, slot_p, wipeR, List.map_cons, List.map_nil, List.cons_append, List.nil_append, List.replicate, add_ints, sub_ints, le_ints, lt_ints, ge_ints, gt_ints, neg_ints, min2_ints, max2_ints, oEq_ints, oNe_ints, oEq_bools, oNe_bools, len_tup, len_lst, revL_l, oEq_strs, oNe_strs, tuple_l, tuple_t, list_l, list_t, at_sl, at_pn, at_ps', sl_tup', sl_lst', is_T, is_L, is_I, is_B, is_S, is_N, not_N, isT_n, isT_b, isT_i, isT_s, isT_t, isT_l, isT_d, isL_n, isL_b, isL_i, isL_s, isL_t, isL_l, isL_d, isI_n, isI_b, isI_i, isI_s, isI_t, isI_l, isI_d, isB_n, isB_b, isB_i, isB_s, isB_t, isB_l, isB_d, isS_n, isS_b, isS_i, isS_s, isS_t, isS_l, isS_d, isN_n, isN_b, isN_i, isN_s, isN_t, isN_l, isN_d, decide_eq_true_eq, Bool.not_eq_true', decide_eq_false_iff_not, Bool.false_eq_true, if_true, if_false, decide_true, decide_false, Bool.not_true, Bool.not_false, not_true_eq_false, not_false_eq_true, ret_ite_o, Int.reduceLT, Int.reduceLE, Int.reduceEq, Int.reduceAdd, Int.reduceSub, Int.reduceNeg, reduceCtorEq, g23, n1, i1, ra, lL, List.length_map, c1, c2, pc, any_bools]
                  · have d1 : ((L.length : Int) < 1) = False := eq_false (by omega)
                    have d2 : ((many : Int) ≤ (L.length : Int)) = False := eq_false (by omega)
                    unfold F__law_right_cables
                    rw [fn_eq]
                    generalize encCb many es = C at *
                    simp only [at_emp, at_dis1, at_ow0, at_ows, at_calln, isLst_ret, at_c, at_bin, at_un, at_v0, at_o0, at_vs, at_tup, at_lst, at_each0, at_eachs, at_ad, at_p0, at_ps, at_args0, at_argss, at_call, at_tofk, at_and, at_or, at_not, at_dand, at_dor, at_dnot, at_if, at_chain, at_gn, at_g2, at_g3, at_g4, at_iseq, at_r1, at_r2, turn_def, at_sasgn, at_sforr, at_nil, at_seq, at_asg, at_sown, at_sret, at_sretn, at_sif, at_sdrop, at_sbrk, at_scont, at_sfor, hide_nil, hide_cons, hide1_d, hide1_n, hide1_p, hide1_o, set_0, set_s, bnd_ret, bnd_stuck, bnd_bnd, bnd_ite, slot_d, slot_p, wipeR, List.map_cons, List.map_nil, List.cons_append, List.nil_append, List.replicate, add_ints, sub_ints, le_ints, lt_ints, ge_ints, gt_ints, neg_ints, min2_ints, max2_ints, oEq_ints, oNe_ints, oEq_bools, oNe_bools, len_tup, len_lst, revL_l, oEq_strs, oNe_strs, tuple_l, tuple_t, list_l, list_t, at_sl, at_pn, at_ps', sl_tup', sl_lst', is_T, is_L, is_I, is_B, is_S, is_N, not_N, isT_n, isT_b, isT_i, isT_s, isT_t, isT_l, isT_d, isL_n, isL_b, isL_i, isL_s, isL_t, isL_l, isL_d, isI_n, isI_b, isI_i, isI_s, isI_t, isI_l, isI_d, isB_n, isB_b, isB_i, isB_s, isB_t, isB_l, isB_d, isS_n, isS_b, isS_i, isS_s, isS_t, isS_l, isS_d, isN_n, isN_b, isN_i, isN_s, isN_t, isN_l, isN_d, decide_eq_true_eq, Bool.not_eq_true', decide_eq_false_iff_not, Bool.false_eq_true, if_true, if_false, decide_true, decide_false, Bool.not_true, Bool.not_false, not_true_eq_false, not_false_eq_true, ret_ite_o, Int.reduceLT, Int.reduceLE, Int.reduceEq, Int.reduceAdd, Int.reduceSub, Int.reduceNeg, reduceCtorEq, g23, i0, i1, l2, la, lu, lL, List.length_map, d1, d2]
                    rw [lc]
                    simp only [bnd_ret, len_lst, oEq_ints, z0]
                · have d1 : ((L.length : Int) < 1) = False := eq_false (by omega)
                  have d2 : ((many : Int) ≤ (L.length : Int)) = True := eq_true (by omega)
                  refine ⟨false, ?_, ?_⟩
                  · unfold F_check_cables
                    rw [fn_eq]
                    generalize encCb many es = C at *
                    simp only [at_emp, at_dis1, at_ow0, at_ows, at_calln, isLst_ret, at_c, at_bin, at_un, at_v0, at_o0, at_vs, at_tup, at_lst, at_each0, at_eachs, at_ad, at_p0, at_ps, at_args0, at_argss, at_call, at_tofk, at_and, at_or, at_not, at_dand, at_dor, at_dnot, at_if, at_chain, at_gn, at_g2, at_g3, at_g4, at_iseq, at_r1, at_r2, turn_def, at_sasgn, at_sforr, at_nil, at_seq, at_asg, at_sown, at_sret, at_sretn, at_sif, at_sdrop, at_sbrk, at_scont, at_sfor, hide_nil, hide_cons, hide1_d, hide1_n, hide1_p, hide1_o, set_0, set_s, bnd_ret, bnd_stuck, bnd_bnd, bnd_ite, slot_d, slot_p, wipeR, List.map_cons, List.map_nil, List.cons_append, List.nil_append, List.replicate, add_ints, sub_ints, le_ints, lt_ints, ge_ints, gt_ints, neg_ints, min2_ints, max2_ints, oEq_ints, oNe_ints, oEq_bools, oNe_bools, len_tup, len_lst, revL_l, oEq_strs, oNe_strs, tuple_l, tuple_t, list_l, list_t, at_sl, at_pn, at_ps', sl_tup', sl_lst', is_T, is_L, is_I, is_B, is_S, is_N, not_N, isT_n, isT_b, isT_i, isT_s, isT_t, isT_l, isT_d, isL_n, isL_b, isL_i, isL_s, isL_t, isL_l, isL_d, isI_n, isI_b, isI_i, isI_s, isI_t, isI_l, isI_d, isB_n, isB_b, isB_i, isB_s, isB_t, isB_l, isB_d, isS_n, isS_b, isS_i, isS_s, isS_t, isS_l, isS_d, isN_n, isN_b, isN_i, isN_s, isN_t, isN_l, isN_d, decide_eq_true_eq, Bool.not_eq_true', decide_eq_false_iff_not, Bool.false_eq_true, if_true, if_false, decide_true, decide_false, Bool.not_true, Bool.not_false, not_true_eq_false, not_false_eq_true, ret_ite_o, Int.reduceLT, Int.reduceLE, Int.reduceEq, Int.reduceAdd, Int.reduceSub, Int.reduceNeg, reduceCtorEq, g23, n1, i1, ra, lL, List.length_map, c1, c2]
                  · unfold F__law_right_cables
                    rw [fn_eq]
                    generalize encCb many es = C at *
                    simp only [at_emp, at_dis1, at_ow0, at_ows, at_calln, isLst_ret, at_c, at_bin, at_un, at_v0, at_o0, at_vs, at_tup, at_lst, at_each0, at_eachs, at_ad, at_p0, at_ps, at_args0, at_argss, at_call, at_tofk, at_and, at_or, at_not, at_dand, at_dor, at_dnot, at_if, at_chain, at_gn, at_g2, at_g3, at_g4, at_iseq, at_r1, at_r2, turn_def, at_sasgn, at_sforr, at_nil, at_seq, at_asg, at_sown, at_sret, at_sretn, at_sif, at_sdrop, at_sbrk, at_scont, at_sfor, hide_nil, hide_cons, hide1_d, hide1_n, hide1_p, hide1_o, set_0, set_s, bnd_ret, bnd_stuck, bnd_bnd, bnd_ite, slot_d, slot_p, wipeR, List.map_cons, List.map_nil, List.cons_append, List.nil_append, List.replicate, add_ints, sub_ints, le_ints, lt_ints, ge_ints, gt_ints, neg_ints, min2_ints, max2_ints, oEq_ints, oNe_ints, oEq_bools, oNe_bools, len_tup, len_lst, revL_l, oEq_strs, oNe_strs, tuple_l, tuple_t, list_l, list_t, at_sl, at_pn, at_ps', sl_tup', sl_lst', is_T, is_L, is_I, is_B, is_S, is_N, not_N, isT_n, isT_b, isT_i, isT_s, isT_t, isT_l, isT_d, isL_n, isL_b, isL_i, isL_s, isL_t, isL_l, isL_d, isI_n, isI_b, isI_i, isI_s, isI_t, isI_l, isI_d, isB_n, isB_b, isB_i, isB_s, isB_t, isB_l, isB_d, isS_n, isS_b, isS_i, isS_s, isS_t, isS_l, isS_d, isN_n, isN_b, isN_i, isN_s, isN_t, isN_l, isN_d, decide_eq_true_eq, Bool.not_eq_true', decide_eq_false_iff_not, Bool.false_eq_true, if_true, if_false, decide_true, decide_false, Bool.not_true, Bool.not_false, not_true_eq_false, not_false_eq_true, ret_ite_o, Int.reduceLT, Int.reduceLE, Int.reduceEq, Int.reduceAdd, Int.reduceSub, Int.reduceNeg, reduceCtorEq, g23, i0, i1, l2, la, lu, lL, List.length_map, d1, d2]
              · have d1 : ((L.length : Int) < 1) = True := eq_true (by omega)
                refine ⟨false, ?_, ?_⟩
                · unfold F_check_cables
                  rw [fn_eq]
                  generalize encCb many es = C at *
                  simp only [at_emp, at_dis1, at_ow0, at_ows, at_calln, isLst_ret, at_c, at_bin, at_un, at_v0, at_o0, at_vs, at_tup, at_lst, at_each0, at_eachs, at_ad, at_p0, at_ps, at_args0, at_argss, at_call, at_tofk, at_and, at_or, at_not, at_dand, at_dor, at_dnot, at_if, at_chain, at_gn, at_g2, at_g3, at_g4, at_iseq, at_r1, at_r2, turn_def, at_sasgn, at_sforr, at_nil, at_seq, at_asg, at_sown, at_sret, at_sretn, at_sif, at_sdrop, at_sbrk, at_scont, at_sfor, hide_nil, hide_cons, hide1_d, hide1_n, hide1_p, hide1_o, set_0, set_s, bnd_ret, bnd_stuck, bnd_bnd, bnd_ite, slot_d, slot_p, wipeR, List.map_cons, List.map_nil, List.cons_append, List.nil_append, List.replicate, add_ints, sub_ints, le_ints, lt_ints, ge_ints, gt_ints, neg_ints, min2_ints, max2_ints, oEq_ints, oNe_ints, oEq_bools, oNe_bools, len_tup, len_lst, revL_l, oEq_strs, oNe_strs, tuple_l, tuple_t, list_l, list_t, at_sl, at_pn, at_ps', sl_tup', sl_lst', is_T, is_L, is_I, is_B, is_S, is_N, not_N, isT_n, isT_b, isT_i, isT_s, isT_t, isT_l, isT_d, isL_n, isL_b, isL_i, isL_s, isL_t, isL_l, isL_d, isI_n, isI_b, isI_i, isI_s, isI_t, isI_l, isI_d, isB_n, isB_b, isB_i, isB_s, isB_t, isB_l, isB_d, isS_n, isS_b, isS_i, isS_s, isS_t, isS_l, isS_d, isN_n, isN_b, isN_i, isN_s, isN_t, isN_l, isN_d, decide_eq_true_eq, Bool.not_eq_true', decide_eq_false_iff_not, Bool.false_eq_true, if_true, if_false, decide_true, decide_false, Bool.not_true, Bool.not_false, not_true_eq_false, not_false_eq_true, ret_ite_o, Int.reduceLT, Int.reduceLE, Int.reduceEq, Int.reduceAdd, Int.reduceSub, Int.reduceNeg, reduceCtorEq, g23, n1, i1, ra, lL, List.length_map, c1]
                · unfold F__law_right_cables
                  rw [fn_eq]
                  generalize encCb many es = C at *
                  simp only [at_emp, at_dis1, at_ow0, at_ows, at_calln, isLst_ret, at_c, at_bin, at_un, at_v0, at_o0, at_vs, at_tup, at_lst, at_each0, at_eachs, at_ad, at_p0, at_ps, at_args0, at_argss, at_call, at_tofk, at_and, at_or, at_not, at_dand, at_dor, at_dnot, at_if, at_chain, at_gn, at_g2, at_g3, at_g4, at_iseq, at_r1, at_r2, turn_def, at_sasgn, at_sforr, at_nil, at_seq, at_asg, at_sown, at_sret, at_sretn, at_sif, at_sdrop, at_sbrk, at_scont, at_sfor, hide_nil, hide_cons, hide1_d, hide1_n, hide1_p, hide1_o, set_0, set_s, bnd_ret, bnd_stuck, bnd_bnd, bnd_ite, slot_d, slot_p, wipeR, List.map_cons, List.map_nil, List.cons_append, List.nil_append, List.replicate, add_ints, sub_ints, le_ints, lt_ints, ge_ints, gt_ints, neg_ints, min2_ints, max2_ints, oEq_ints, oNe_ints, oEq_bools, oNe_bools, len_tup, len_lst, revL_l, oEq_strs, oNe_strs, tuple_l, tuple_t, list_l, list_t, at_sl, at_pn, at_ps', sl_tup', sl_lst', is_T, is_L, is_I, is_B, is_S, is_N, not_N, isT_n, isT_b, isT_i, isT_s, isT_t, isT_l, isT_d, isL_n, isL_b, isL_i, isL_s, isL_t, isL_l, isL_d, isI_n, isI_b, isI_i, isI_s, isI_t, isI_l, isI_d, isB_n, isB_b, isB_i, isB_s, isB_t, isB_l, isB_d, isS_n, isS_b, isS_i, isS_s, isS_t, isS_l, isS_d, isN_n, isN_b, isN_i, isN_s, isN_t, isN_l, isN_d, decide_eq_true_eq, Bool.not_eq_true', decide_eq_false_iff_not, Bool.false_eq_true, if_true, if_false, decide_true, decide_false, Bool.not_true, Bool.not_false, not_true_eq_false, not_false_eq_true, ret_ite_o, Int.reduceLT, Int.reduceLE, Int.reduceEq, Int.reduceAdd, Int.reduceSub, Int.reduceNeg, reduceCtorEq, g23, i0, i1, l2, la, lu, lL, List.length_map, d1]
        · have n1 := ca "apart"
          rw [decide_eq_false hs] at n1
          by_cases hs2 : s = ("net" : Str)
          · subst hs2
            have n2 := ca "net"
            rw [decide_eq_true rfl] at n2
            obtain ⟨bb, b1, b2⟩ := net_agree ok zy
            cases bb with
            | false =>
              refine ⟨false, ?_, ?_⟩
              · unfold F_check_cables
                rw [fn_eq]
                generalize encCb many es = C at *
                simp only [at_emp, at_dis1, at_ow0, at_ows, at_calln, isLst_ret, at_c, at_bin, at_un, at_v0, at_o0, at_vs, at_tup, at_lst, at_each0, at_eachs, at_ad, at_p0, at_ps, at_args0, at_argss, at_call, at_tofk, at_and, at_or, at_not, at_dand, at_dor, at_dnot, at_if, at_chain, at_gn, at_g2, at_g3, at_g4, at_iseq, at_r1, at_r2, turn_def, at_sasgn, at_sforr, at_nil, at_seq, at_asg, at_sown, at_sret, at_sretn, at_sif, at_sdrop, at_sbrk, at_scont, at_sfor, hide_nil, hide_cons, hide1_d, hide1_n, hide1_p, hide1_o, set_0, set_s, bnd_ret, bnd_stuck, bnd_bnd, bnd_ite, slot_d, slot_p, wipeR, List.map_cons, List.map_nil, List.cons_append, List.nil_append, List.replicate, add_ints, sub_ints, le_ints, lt_ints, ge_ints, gt_ints, neg_ints, min2_ints, max2_ints, oEq_ints, oNe_ints, oEq_bools, oNe_bools, len_tup, len_lst, revL_l, oEq_strs, oNe_strs, tuple_l, tuple_t, list_l, list_t, at_sl, at_pn, at_ps', sl_tup', sl_lst', is_T, is_L, is_I, is_B, is_S, is_N, not_N, isT_n, isT_b, isT_i, isT_s, isT_t, isT_l, isT_d, isL_n, isL_b, isL_i, isL_s, isL_t, isL_l, isL_d, isI_n, isI_b, isI_i, isI_s, isI_t, isI_l, isI_d, isB_n, isB_b, isB_i, isB_s, isB_t, isB_l, isB_d, isS_n, isS_b, isS_i, isS_s, isS_t, isS_l, isS_d, isN_n, isN_b, isN_i, isN_s, isN_t, isN_l, isN_d, decide_eq_true_eq, Bool.not_eq_true', decide_eq_false_iff_not, Bool.false_eq_true, if_true, if_false, decide_true, decide_false, Bool.not_true, Bool.not_false, not_true_eq_false, not_false_eq_true, ret_ite_o, Int.reduceLT, Int.reduceLE, Int.reduceEq, Int.reduceAdd, Int.reduceSub, Int.reduceNeg, reduceCtorEq, g23, n1, n2, i1, b1]
              · unfold F__law_right_cables
                rw [fn_eq]
                generalize encCb many es = C at *
                simp only [at_emp, at_dis1, at_ow0, at_ows, at_calln, isLst_ret, at_c, at_bin, at_un, at_v0, at_o0, at_vs, at_tup, at_lst, at_each0, at_eachs, at_ad, at_p0, at_ps, at_args0, at_argss, at_call, at_tofk, at_and, at_or, at_not, at_dand, at_dor, at_dnot, at_if, at_chain, at_gn, at_g2, at_g3, at_g4, at_iseq, at_r1, at_r2, turn_def, at_sasgn, at_sforr, at_nil, at_seq, at_asg, at_sown, at_sret, at_sretn, at_sif, at_sdrop, at_sbrk, at_scont, at_sfor, hide_nil, hide_cons, hide1_d, hide1_n, hide1_p, hide1_o, set_0, set_s, bnd_ret, bnd_stuck, bnd_bnd, bnd_ite, slot_d, slot_p, wipeR, List.map_cons, List.map_nil, List.cons_append, List.nil_append, List.replicate, add_ints, sub_ints, le_ints, lt_ints, ge_ints, gt_ints, neg_ints, min2_ints, max2_ints, oEq_ints, oNe_ints, oEq_bools, oNe_bools, len_tup, len_lst, revL_l, oEq_strs, oNe_strs, tuple_l, tuple_t, list_l, list_t, at_sl, at_pn, at_ps', sl_tup', sl_lst', is_T, is_L, is_I, is_B, is_S, is_N, not_N, isT_n, isT_b, isT_i, isT_s, isT_t, isT_l, isT_d, isL_n, isL_b, isL_i, isL_s, isL_t, isL_l, isL_d, isI_n, isI_b, isI_i, isI_s, isI_t, isI_l, isI_d, isB_n, isB_b, isB_i, isB_s, isB_t, isB_l, isB_d, isS_n, isS_b, isS_i, isS_s, isS_t, isS_l, isS_d, isN_n, isN_b, isN_i, isN_s, isN_t, isN_l, isN_d, decide_eq_true_eq, Bool.not_eq_true', decide_eq_false_iff_not, Bool.false_eq_true, if_true, if_false, decide_true, decide_false, Bool.not_true, Bool.not_false, not_true_eq_false, not_false_eq_true, ret_ite_o, Int.reduceLT, Int.reduceLE, Int.reduceEq, Int.reduceAdd, Int.reduceSub, Int.reduceNeg, reduceCtorEq, g23, i0, i1, l2, na, b2]
            | true =>
              obtain ⟨T, rfl, hT2, hl, hA⟩ := net_true ok zy b1
              obtain ⟨x4, x5, x6, x7, e1⟩ := check_loop ok hT2 hl hA
              obtain ⟨z4, z5, e2⟩ := law_loop ok hT2 hl
              have lE : bLen (.tuple (es.map enc3)) = M.ret (.int (es.length : Int)) := by rw [len_tup, List.length_map]
              refine ⟨(List.range es.length).all (okT es T), ?_, ?_⟩
              · unfold F_check_cables
                rw [fn_eq]
                generalize encCb many es = C at *
                simp only [at_emp, at_dis1, at_ow0, at_ows, at_calln, isLst_ret, at_c, at_bin, at_un, at_v0, at_o0, at_vs, at_tup, at_lst, at_each0, at_eachs, at_ad, at_p0, at_ps, at_args0, at_argss, at_call, at_tofk, at_and, at_or, at_not, at_dand, at_dor, at_dnot, at_if, at_chain, at_gn, at_g2, at_g3, at_g4, at_iseq, at_r1, at_r2, turn_def, at_sasgn, at_sforr, at_nil, at_seq, at_asg, at_sown, at_sret, at_sretn, at_sif, at_sdrop, at_sbrk, at_scont, at_sfor, hide_nil, hide_cons, hide1_d, hide1_n, hide1_p, hide1_o, set_0, set_s, bnd_ret, bnd_stuck, bnd_bnd, bnd_ite, slot_d, slot_p, wipeR, List.map_cons, List.map_nil, List.cons_append, List.nil_append, List.replicate, add_ints, sub_ints, le_ints, lt_ints, ge_ints, gt_ints, neg_ints, min2_ints, max2_ints, oEq_ints, oNe_ints, oEq_bools, oNe_bools, len_tup, len_lst, revL_l, oEq_strs, oNe_strs, tuple_l, tuple_t, list_l, list_t, at_sl, at_pn, at_ps', sl_tup', sl_lst', is_T, is_L, is_I, is_B, is_S, is_N, not_N, isT_n, isT_b, isT_i, isT_s, isT_t, isT_l, isT_d, isL_n, isL_b, isL_i, isL_s, isL_t, isL_l, isL_d, isI_n, isI_b, isI_i, isI_s, isI_t, isI_l, isI_d, isB_n, isB_b, isB_i, isB_s, isB_t, isB_l, isB_d, isS_n, isS_b, isS_i, isS_s, isS_t, isS_l, isS_d, isN_n, isN_b, isN_i, isN_s, isN_t, isN_l, isN_d, decide_eq_true_eq, Bool.not_eq_true', decide_eq_false_iff_not, Bool.false_eq_true, if_true, if_false, decide_true, decide_false, Bool.not_true, Bool.not_false, not_true_eq_false, not_false_eq_true, ret_ite_o, Int.reduceLT, Int.reduceLE, Int.reduceEq, Int.reduceAdd, Int.reduceSub, Int.reduceNeg, reduceCtorEq, g23, n1, n2, i1, b1, List.length_map, rgN, e1]
                cases (List.range es.length).all (okT es T) <;> simp only [at_emp, at_dis1, at_ow0, at_ows, at_calln, isLst_ret, at_c, at_bin, at_un, at_v0, at_o0, at_vs, at_tup, at_lst, at_each0, at_eachs, at_ad, at_p0, at_ps, at_args0, at_argss, at_call, at_tofk, at_and, at_or, at_not, at_dand, at_dor, at_dnot, at_if, at_chain, at_gn, at_g2, at_g3, at_g4, at_iseq, at_r1, at_r2, turn_def, at_sasgn, at_sforr, at_nil, at_seq, at_asg, at_sown, at_sret, at_sretn, at_sif, at_sdrop, at_sbrk, at_scont, at_sfor, hide_nil, hide_cons, hide1_d, hide1_n, hide1_p, hide1_o, set_0, set_s, bnd_ret, bnd_stuck, bnd_bnd, bnd_ite, slot_d, slot_p, wipeR, List.map_cons, List.map_nil, List.cons_append, List.nil_append, List.replicate, add_ints, sub_ints, le_ints, lt_ints, ge_ints, gt_ints, neg_ints, min2_ints, max2_ints, oEq_ints, oNe_ints, oEq_bools, oNe_bools, len_tup, len_lst, revL_l, oEq_strs, oNe_strs, tuple_l, tuple_t, list_l, list_t, at_sl, at_pn, at_ps', sl_tup', sl_lst', is_T, is_L, is_I, is_B, is_S, is_N, not_N, isT_n, isT_b, isT_i, isT_s, isT_t, isT_l, isT_d, isL_n, isL_b, isL_i, isL_s, isL_t, isL_l, isL_d, isI_n, isI_b, isI_i, isI_s, isI_t, isI_l, isI_d, isB_n, isB_b, isB_i, isB_s, isB_t, isB_l, isB_d, isS_n, isS_b, isS_i, isS_s, isS_t, isS_l, isS_d, isN_n, isN_b, isN_i, isN_s, isN_t, isN_l, isN_d, decide_eq_true_eq, Bool.not_eq_true', decide_eq_false_iff_not, Bool.false_eq_true, if_true, if_false, decide_true, decide_false, Bool.not_true, Bool.not_false, not_true_eq_false, not_false_eq_true, ret_ite_o, Int.reduceLT, Int.reduceLE, Int.reduceEq, Int.reduceAdd, Int.reduceSub, Int.reduceNeg, reduceCtorEq]
              · unfold F__law_right_cables
                rw [fn_eq]
                generalize encCb many es = C at *
                simp only [at_emp, at_dis1, at_ow0, at_ows, at_calln, isLst_ret, at_c, at_bin, at_un, at_v0, at_o0, at_vs, at_tup, at_lst, at_each0, at_eachs, at_ad, at_p0, at_ps, at_args0, at_argss, at_call, at_tofk, at_and, at_or, at_not, at_dand, at_dor, at_dnot, at_if, at_chain, at_gn, at_g2, at_g3, at_g4, at_iseq, at_r1, at_r2, turn_def, at_sasgn, at_sforr, at_nil, at_seq, at_asg, at_sown, at_sret, at_sretn, at_sif, at_sdrop, at_sbrk, at_scont, at_sfor, hide_nil, hide_cons, hide1_d, hide1_n, hide1_p, hide1_o, set_0, set_s, bnd_ret, bnd_stuck, bnd_bnd, bnd_ite, slot_d, slot_p, wipeR, List.map_cons, List.map_nil, List.cons_append, List.nil_append, List.replicate, add_ints, sub_ints, le_ints, lt_ints, ge_ints, gt_ints, neg_ints, min2_ints, max2_ints, oEq_ints, oNe_ints, oEq_bools, oNe_bools, len_tup, len_lst, revL_l, oEq_strs, oNe_strs, tuple_l, tuple_t, list_l, list_t, at_sl, at_pn, at_ps', sl_tup', sl_lst', is_T, is_L, is_I, is_B, is_S, is_N, not_N, isT_n, isT_b, isT_i, isT_s, isT_t, isT_l, isT_d, isL_n, isL_b, isL_i, isL_s, isL_t, isL_l, isL_d, isI_n, isI_b, isI_i, isI_s, isI_t, isI_l, isI_d, isB_n, isB_b, isB_i, isB_s, isB_t, isB_l, isB_d, isS_n, isS_b, isS_i, isS_s, isS_t, isS_l, isS_d, isN_n, isN_b, isN_i, isN_s, isN_t, isN_l, isN_d, decide_eq_true_eq, Bool.not_eq_true', decide_eq_false_iff_not, Bool.false_eq_true, if_true, if_false, decide_true, decide_false, Bool.not_true, Bool.not_false, not_true_eq_false, not_false_eq_true, ret_ite_o, Int.reduceLT, Int.reduceLE, Int.reduceEq, Int.reduceAdd, Int.reduceSub, Int.reduceNeg, reduceCtorEq, g23, i0, i1, l2, na, b2, List.length_map, rgN, e2]
                cases (List.range es.length).all (okT es T) <;> simp only [at_emp, at_dis1, at_ow0, at_ows, at_calln, isLst_ret, at_c, at_bin, at_un, at_v0, at_o0, at_vs, at_tup, at_lst, at_each0, at_eachs, at_ad, at_p0, at_ps, at_args0, at_argss, at_call, at_tofk, at_and, at_or, at_not, at_dand, at_dor, at_dnot, at_if, at_chain, at_gn, at_g2, at_g3, at_g4, at_iseq, at_r1, at_r2, turn_def, at_sasgn, at_sforr, at_nil, at_seq, at_asg, at_sown, at_sret, at_sretn, at_sif, at_sdrop, at_sbrk, at_scont, at_sfor, hide_nil, hide_cons, hide1_d, hide1_n, hide1_p, hide1_o, set_0, set_s, bnd_ret, bnd_stuck, bnd_bnd, bnd_ite, slot_d, slot_p, wipeR, List.map_cons, List.map_nil, List.cons_append, List.nil_append, List.replicate, add_ints, sub_ints, le_ints, lt_ints, ge_ints, gt_ints, neg_ints, min2_ints, max2_ints, oEq_ints, oNe_ints, oEq_bools, oNe_bools, len_tup, len_lst, revL_l, oEq_strs, oNe_strs, tuple_l, tuple_t, list_l, list_t, at_sl, at_pn, at_ps', sl_tup', sl_lst', is_T, is_L, is_I, is_B, is_S, is_N, not_N, isT_n, isT_b, isT_i, isT_s, isT_t, isT_l, isT_d, isL_n, isL_b, isL_i, isL_s, isL_t, isL_l, isL_d, isI_n, isI_b, isI_i, isI_s, isI_t, isI_l, isI_d, isB_n, isB_b, isB_i, isB_s, isB_t, isB_l, isB_d, isS_n, isS_b, isS_i, isS_s, isS_t, isS_l, isS_d, isN_n, isN_b, isN_i, isN_s, isN_t, isN_l, isN_d, decide_eq_true_eq, Bool.not_eq_true', decide_eq_false_iff_not, Bool.false_eq_true, if_true, if_false, decide_true, decide_false, Bool.not_true, Bool.not_false, not_true_eq_false, not_false_eq_true, ret_ite_o, Int.reduceLT, Int.reduceLE, Int.reduceEq, Int.reduceAdd, Int.reduceSub, Int.reduceNeg, reduceCtorEq]
          · have n2 := ca "net"
            rw [decide_eq_false hs2] at n2
            refine ⟨false, ?_, ?_⟩
            · unfold F_check_cables
              rw [fn_eq]
              generalize encCb many es = C at *
              simp only [at_emp, at_dis1, at_ow0, at_ows, at_calln, isLst_ret, at_c, at_bin, at_un, at_v0, at_o0, at_vs, at_tup, at_lst, at_each0, at_eachs, at_ad, at_p0, at_ps, at_args0, at_argss, at_call, at_tofk, at_and, at_or, at_not, at_dand, at_dor, at_dnot, at_if, at_chain, at_gn, at_g2, at_g3, at_g4, at_iseq, at_r1, at_r2, turn_def, at_sasgn, at_sforr, at_nil, at_seq, at_asg, at_sown, at_sret, at_sretn, at_sif, at_sdrop, at_sbrk, at_scont, at_sfor, hide_nil, hide_cons, hide1_d, hide1_n, hide1_p, hide1_o, set_0, set_s, bnd_ret, bnd_stuck, bnd_bnd, bnd_ite, slot_d, slot_p, wipeR, List.map_cons, List.map_nil, List.cons_append, List.nil_append, List.replicate, add_ints, sub_ints, le_ints, lt_ints, ge_ints, gt_ints, neg_ints, min2_ints, max2_ints, oEq_ints, oNe_ints, oEq_bools, oNe_bools, len_tup, len_lst, revL_l, oEq_strs, oNe_strs, tuple_l, tuple_t, list_l, list_t, at_sl, at_pn, at_ps', sl_tup', sl_lst', is_T, is_L, is_I, is_B, is_S, is_N, not_N, isT_n, isT_b, isT_i, isT_s, isT_t, isT_l, isT_d, isL_n, isL_b, isL_i, isL_s, isL_t, isL_l, isL_d, isI_n, isI_b, isI_i, isI_s, isI_t, isI_l, isI_d, isB_n, isB_b, isB_i, isB_s, isB_t, isB_l, isB_d, isS_n, isS_b, isS_i, isS_s, isS_t, isS_l, isS_d, isN_n, isN_b, isN_i, isN_s, isN_t, isN_l, isN_d, decide_eq_true_eq, Bool.not_eq_true', decide_eq_false_iff_not, Bool.false_eq_true, if_true, if_false, decide_true, decide_false, Bool.not_true, Bool.not_false, not_true_eq_false, not_false_eq_true, ret_ite_o, Int.reduceLT, Int.reduceLE, Int.reduceEq, Int.reduceAdd, Int.reduceSub, Int.reduceNeg, reduceCtorEq, g23, n1, n2]
            · unfold F__law_right_cables
              rw [fn_eq]
              generalize encCb many es = C at *
              simp only [at_emp, at_dis1, at_ow0, at_ows, at_calln, isLst_ret, at_c, at_bin, at_un, at_v0, at_o0, at_vs, at_tup, at_lst, at_each0, at_eachs, at_ad, at_p0, at_ps, at_args0, at_argss, at_call, at_tofk, at_and, at_or, at_not, at_dand, at_dor, at_dnot, at_if, at_chain, at_gn, at_g2, at_g3, at_g4, at_iseq, at_r1, at_r2, turn_def, at_sasgn, at_sforr, at_nil, at_seq, at_asg, at_sown, at_sret, at_sretn, at_sif, at_sdrop, at_sbrk, at_scont, at_sfor, hide_nil, hide_cons, hide1_d, hide1_n, hide1_p, hide1_o, set_0, set_s, bnd_ret, bnd_stuck, bnd_bnd, bnd_ite, slot_d, slot_p, wipeR, List.map_cons, List.map_nil, List.cons_append, List.nil_append, List.replicate, add_ints, sub_ints, le_ints, lt_ints, ge_ints, gt_ints, neg_ints, min2_ints, max2_ints, oEq_ints, oNe_ints, oEq_bools, oNe_bools, len_tup, len_lst, revL_l, oEq_strs, oNe_strs, tuple_l, tuple_t, list_l, list_t, at_sl, at_pn, at_ps', sl_tup', sl_lst', is_T, is_L, is_I, is_B, is_S, is_N, not_N, isT_n, isT_b, isT_i, isT_s, isT_t, isT_l, isT_d, isL_n, isL_b, isL_i, isL_s, isL_t, isL_l, isL_d, isI_n, isI_b, isI_i, isI_s, isI_t, isI_l, isI_d, isB_n, isB_b, isB_i, isB_s, isB_t, isB_l, isB_d, isS_n, isS_b, isS_i, isS_s, isS_t, isS_l, isS_d, isN_n, isN_b, isN_i, isN_s, isN_t, isN_l, isN_d, decide_eq_true_eq, Bool.not_eq_true', decide_eq_false_iff_not, Bool.false_eq_true, if_true, if_false, decide_true, decide_false, Bool.not_true, Bool.not_false, not_true_eq_false, not_false_eq_true, ret_ite_o, Int.reduceLT, Int.reduceLE, Int.reduceEq, Int.reduceAdd, Int.reduceSub, Int.reduceNeg, reduceCtorEq, g23, i0, i1, l2, hs, hs2]
      | _ =>
        refine ⟨false, ?_, ?_⟩
        · unfold F_check_cables
          rw [fn_eq]
          generalize encCb many es = C at *
          simp only [at_emp, at_dis1, at_ow0, at_ows, at_calln, isLst_ret, at_c, at_bin, at_un, at_v0, at_o0, at_vs, at_tup, at_lst, at_each0, at_eachs, at_ad, at_p0, at_ps, at_args0, at_argss, at_call, at_tofk, at_and, at_or, at_not, at_dand, at_dor, at_dnot, at_if, at_chain, at_gn, at_g2, at_g3, at_g4, at_iseq, at_r1, at_r2, turn_def, at_sasgn, at_sforr, at_nil, at_seq, at_asg, at_sown, at_sret, at_sretn, at_sif, at_sdrop, at_sbrk, at_scont, at_sfor, hide_nil, hide_cons, hide1_d, hide1_n, hide1_p, hide1_o, set_0, set_s, bnd_ret, bnd_stuck, bnd_bnd, bnd_ite, slot_d, slot_p, wipeR, List.map_cons, List.map_nil, List.cons_append, List.nil_append, List.replicate, add_ints, sub_ints, le_ints, lt_ints, ge_ints, gt_ints, neg_ints, min2_ints, max2_ints, oEq_ints, oNe_ints, oEq_bools, oNe_bools, len_tup, len_lst, revL_l, oEq_strs, oNe_strs, tuple_l, tuple_t, list_l, list_t, at_sl, at_pn, at_ps', sl_tup', sl_lst', is_T, is_L, is_I, is_B, is_S, is_N, not_N, isT_n, isT_b, isT_i, isT_s, isT_t, isT_l, isT_d, isL_n, isL_b, isL_i, isL_s, isL_t, isL_l, isL_d, isI_n, isI_b, isI_i, isI_s, isI_t, isI_l, isI_d, isB_n, isB_b, isB_i, isB_s, isB_t, isB_l, isB_d, isS_n, isS_b, isS_i, isS_s, isS_t, isS_l, isS_d, isN_n, isN_b, isN_i, isN_s, isN_t, isN_l, isN_d, decide_eq_true_eq, Bool.not_eq_true', decide_eq_false_iff_not, Bool.false_eq_true, if_true, if_false, decide_true, decide_false, Bool.not_true, Bool.not_false, not_true_eq_false, not_false_eq_true, ret_ite_o, Int.reduceLT, Int.reduceLE, Int.reduceEq, Int.reduceAdd, Int.reduceSub, Int.reduceNeg, reduceCtorEq, g23, ca]
        · unfold F__law_right_cables
          rw [fn_eq]
          generalize encCb many es = C at *
          simp only [at_emp, at_dis1, at_ow0, at_ows, at_calln, isLst_ret, at_c, at_bin, at_un, at_v0, at_o0, at_vs, at_tup, at_lst, at_each0, at_eachs, at_ad, at_p0, at_ps, at_args0, at_argss, at_call, at_tofk, at_and, at_or, at_not, at_dand, at_dor, at_dnot, at_if, at_chain, at_gn, at_g2, at_g3, at_g4, at_iseq, at_r1, at_r2, turn_def, at_sasgn, at_sforr, at_nil, at_seq, at_asg, at_sown, at_sret, at_sretn, at_sif, at_sdrop, at_sbrk, at_scont, at_sfor, hide_nil, hide_cons, hide1_d, hide1_n, hide1_p, hide1_o, set_0, set_s, bnd_ret, bnd_stuck, bnd_bnd, bnd_ite, slot_d, slot_p, wipeR, List.map_cons, List.map_nil, List.cons_append, List.nil_append, List.replicate, add_ints, sub_ints, le_ints, lt_ints, ge_ints, gt_ints, neg_ints, min2_ints, max2_ints, oEq_ints, oNe_ints, oEq_bools, oNe_bools, len_tup, len_lst, revL_l, oEq_strs, oNe_strs, tuple_l, tuple_t, list_l, list_t, at_sl, at_pn, at_ps', sl_tup', sl_lst', is_T, is_L, is_I, is_B, is_S, is_N, not_N, isT_n, isT_b, isT_i, isT_s, isT_t, isT_l, isT_d, isL_n, isL_b, isL_i, isL_s, isL_t, isL_l, isL_d, isI_n, isI_b, isI_i, isI_s, isI_t, isI_l, isI_d, isB_n, isB_b, isB_i, isB_s, isB_t, isB_l, isB_d, isS_n, isS_b, isS_i, isS_s, isS_t, isS_l, isS_d, isN_n, isN_b, isN_i, isN_s, isN_t, isN_l, isN_d, decide_eq_true_eq, Bool.not_eq_true', decide_eq_false_iff_not, Bool.false_eq_true, if_true, if_false, decide_true, decide_false, Bool.not_true, Bool.not_false, not_true_eq_false, not_false_eq_true, ret_ite_o, Int.reduceLT, Int.reduceLE, Int.reduceEq, Int.reduceAdd, Int.reduceSub, Int.reduceNeg, reduceCtorEq, g23, i0, l2]
  | _ => exact absurd rfl hT
end
end

theorem jbig {v : Int} (h : -1000 ≤ v ∧ v ≤ 1000) : v.natAbs < Big := by
  have e : Big = 1000000000000000000000000 := by decide +kernel
  omega
theorem jbig20 {v : Int} (h : -1000 ≤ v ∧ v ≤ 1000) : v.natAbs < 10 ^ 20 := by
  have e : (10 : Nat) ^ 20 = 100000000000000000000 := by decide +kernel
  omega
theorem rfit {ns : List Int} (hl : ns.length ≤ 200) (h : ∀ v ∈ ns, -1000 ≤ v ∧ v ≤ 1000) : Fit 200 2 (encT ns) := Fit.up (k := 1) (ints_fit (fun v hv => jbig (h v hv)) hl)
theorem s_n : Fit 8 2 (.str "net") := Fit.dec
theorem s_a : Fit 8 2 (.str "apart") := Fit.dec
theorem jpap_fit {s : Str} {Y : D} {n : Nat} (hs : Fit 8 2 (.str s)) (h : Fit n 2 Y) (hn : n ≤ 2000 := by decide) : Fit 2010 3 (.tuple [.str s, Y]) := fl_t (fl_cons hs (fl_cons (h.mono hn (Nat.le_refl _)) fl_nil))
theorem jpap {s : Str} {Y : D} {n : Nat} (hs : Fit 8 2 (.str s)) (h : Fit n 2 Y) (hn : n ≤ 2000 := by decide) : Tst (.tuple [.str s, Y]) := Tst.fit (jpap_fit hs h hn)
theorem jplain_ints : ∀ R : List Int, PyData.plainAll (R.map .int) = true
  | [] => rfl
  | x :: R => by rw [List.map_cons, PyData.plainAll, jplain_ints R, PyData.plain]; rfl
theorem plain_e3 : ∀ R : List E3, PyData.plainAll (R.map enc3) = true
  | [] => rfl
  | x :: R => by
    rw [List.map_cons, PyData.plainAll, plain_e3 R, Bool.and_true]
    show PyData.plain (.tuple [.int x.1, .int x.2.1, .int x.2.2]) = true
    simp [PyData.plain, PyData.plainAll]
theorem jne_nil {xs : List D} (hp : PyData.plainAll xs = true) (hd : PyData.depthAll xs ≤ 10) : oNe (.tuple xs) (.tuple []) = M.ret (.bool (!xs.isEmpty)) := by
  have e : eqD (.tuple xs) (.tuple []) = if (PyData.plain (.tuple xs) && PyData.plain (.tuple [])) = true ∧ (PyData.tuple xs).depth ≤ deep then some (PyData.eqv (.tuple xs) (.tuple [])) else none := rfl
  unfold oNe
  rw [e, if_pos ⟨by rw [PyData.plain, hp]; rfl, by rw [PyData.depth]; unfold deep; omega⟩]
  cases xs <;> simp [PyData.eqv, PyData.eqvAll]
theorem reads_all {many : Nat} {es : List E3} (ok : CabOk many es) {s0 : Int} (hs0 : 0 ≤ s0 ∧ s0 < (many : Int)) : ∃ L : List Int, L ≠ [] ∧ L.length ≤ 8 ∧ (∀ v ∈ L, 0 ≤ v ∧ v ≤ 8) ∧ ∀ M0, F__law_together [.d M0, .d (.tuple (es.map enc3)), .d (.int s0)] = M.ret (.list (L.map .int)) := by
  have m8 := ok.m8
  obtain ⟨L, rL, h⟩ := together_tq m8 ok.m1 hs0 (qs := es) (by
    rw [all_pairs]
    exact prs_in ok fun p hp => nat0_mem.mp hp)
  have rl := rL.len
  exact ⟨L, List.ne_nil_of_mem ((rL.mem s0).mpr (.refl _ _)), by omega, fun v hv => by have := rL.rng v hv; omega, h⟩
theorem good : ∀ q, ∃ q', B_law rho0 q = .ok (.ret (.bool true)) q' := by
  have main : Does (B_law rho0) (· = .ret (.bool true)) := by
    show DoesK _ (B_law [none, some .pool, none, none, none, none, none, none, none, none, none, none, none, none, none, none, none]) _
    unfold B_law
    refine seq_asg (P := fun d => ∃ many es, d = encCb many es ∧ CabOk many es) ?_ ?_
    · simp only [at_emp, at_dis1, at_ow0, at_ows, at_calln, isLst_ret, at_c, at_bin, at_un, at_v0, at_o0, at_vs, at_tup, at_lst, at_each0, at_eachs, at_ad, at_p0, at_ps, at_args0, at_argss, at_call, at_tofk, at_and, at_or, at_not, at_dand, at_dor, at_dnot, at_if, at_chain, at_gn, at_g2, at_g3, at_g4, at_iseq, at_r1, at_r2, turn_def, at_sasgn, at_sforr, at_nil, at_seq, at_asg, at_sown, at_sret, at_sretn, at_sif, at_sdrop, at_sbrk, at_scont, at_sfor, hide_nil, hide_cons, hide1_d, hide1_n, hide1_p, hide1_o, set_0, set_s, bnd_ret, bnd_stuck, bnd_bnd, bnd_ite, slot_d, slot_p, wipeR, List.map_cons, List.map_nil, List.cons_append, List.nil_append, List.replicate, add_ints, sub_ints, le_ints, lt_ints, ge_ints, gt_ints, neg_ints, min2_ints, max2_ints, oEq_ints, oNe_ints, oEq_bools, oNe_bools, len_tup, len_lst, revL_l, oEq_strs, oNe_strs, tuple_l, tuple_t, list_l, list_t, at_sl, at_pn, at_ps', sl_tup', sl_lst', is_T, is_L, is_I, is_B, is_S, is_N, not_N, isT_n, isT_b, isT_i, isT_s, isT_t, isT_l, isT_d, isL_n, isL_b, isL_i, isL_s, isL_t, isL_l, isL_d, isI_n, isI_b, isI_i, isI_s, isI_t, isI_l, isI_d, isB_n, isB_b, isB_i, isB_s, isB_t, isB_l, isB_d, isS_n, isS_b, isS_i, isS_s, isS_t, isS_l, isS_d, isN_n, isN_b, isN_i, isN_s, isN_t, isN_l, isN_d, decide_eq_true_eq, Bool.not_eq_true', decide_eq_false_iff_not, Bool.false_eq_true, if_true, if_false, decide_true, decide_false, Bool.not_true, Bool.not_false, not_true_eq_false, not_false_eq_true, ret_ite_o, Int.reduceLT, Int.reduceLE, Int.reduceEq, Int.reduceAdd, Int.reduceSub, Int.reduceNeg, reduceCtorEq]
      exact cables_drawn
    rintro _ ⟨many, es, rfl, ok⟩
    simp only [set_0, set_s]
    have m1 := ok.m1
    have m8 := ok.m8
    have hel := ok.len
    refine seq_next (P := (· = [none, some .pool, some (.dat (encCb many es)), some (.dat (.int (many : Int))), some (.dat (.tuple (es.map enc3))), none, none, none, none, none, none, none, none, none, none, none, none])) ?_ ?_
    · simp only [at_asg, hide_cons, hide1_d, hide1_p, hide1_n, hide_nil, at_vs, at_v0, bnd_ret, at_g2, at_gn, set_0, set_s]
      exact does_ret ⟨_, rfl, rfl⟩
    rintro _ rfl
    obtain ⟨PA, s, R, hPA, ePA, hs, hRl, hRv⟩ : ∃ (PA : D) (s : Str) (R : List Int), F_cable_paper [.d (encCb many es)] = M.ret PA ∧ PA = .tuple [.str s, encT R] ∧ (Fit 8 2 (.str s) ∧ tame (10 ^ 20) (.str s) = true) ∧ R.length ≤ 8 ∧ ∀ v ∈ R, 0 ≤ v ∧ v ≤ 64 := by
      obtain ⟨K, hN, hk⟩ := least_net_ok ok
      have kl : K.length ≤ many := by
        have := pairs_len hN.few
        omega
      by_cases c : K.length + 1 = many
      · exact ⟨_, _, K, paper_net ok hk c, rfl, ⟨s_n, by decide +kernel⟩, by omega, fun v hv => by have := hN.rng v hv; omega⟩
      · obtain ⟨L, rL, e⟩ := paper_apart ok hN hk c
        exact ⟨_, _, L, e, rfl, ⟨s_a, by decide +kernel⟩, by have := rL.len; omega, fun v hv => by have := rL.rng v hv; omega⟩
    refine seq_asg (P := (· = PA)) (of_eq (by simp only [at_call, at_argss, at_args0, at_ad, hide_cons, hide1_d, hide1_n, hide1_p, hide_nil, at_vs, at_v0, bnd_ret, hPA])) ?_
    intro d hd
    rw [hd]
    clear hd d
    simp only [set_0, set_s]
    have p1 : oIx PA (.int 1) = M.ret (encT R) := by rw [ePA]; rfl
    refine seq_asg (P := (· = encT R)) (of_eq (by simp only [at_bin, hide_cons, hide1_d, hide1_n, hide1_p, hide_nil, at_vs, at_v0, at_c, bnd_ret, p1])) ?_
    intro d hd
    rw [hd]
    clear hd d
    simp only [set_0, set_s]
    have fR : Fit 200 2 (encT R) := rfit (by omega) fun v hv => by have := hRv v hv; omega
    have fPA : Fit 2010 3 PA := by rw [ePA]; exact jpap_fit hs.1 fR
    have tPA : tame (10 ^ 20) PA = true := by
      have z : tame (10 ^ 20) (encT R) = true := tame_ints fun v hv => jbig20 (by have := hRv v hv; omega)
      rw [ePA, tame_t, tameAll, tameAll, tameAll, hs.2, z]
      rfl
    have zPA := fPA.sz
    have oPA : bList PA = M.ret (.list [.str s, encT R]) := by rw [ePA]; rfl
    have cPA : oSl PA none (some (1 : Int)) = M.ret (.tuple [.str s]) := by
      rw [ePA]
      show M.ret (PyData.tuple (cutD [.str s, encT R] none (some ((1 : Nat) : Int)))) = _
      rw [cut_to]
      rfl
    have aPA : oAdd PA (.tuple [.tuple []]) = M.ret (.tuple [.str s, encT R, .tuple []]) := by
      rw [ePA]
      exact add_tups (Nat.le_trans (show _ ≤ 3 from Nat.le_refl _) (by decide))
    have rg : rgt1 (.int (many : Int)) = M.ret (encT (nat0 many)) := by
      unfold rgt1 rgt2
      dsimp only
      have h : rgOk 0 (many : Int) = true := by
        unfold rgOk small62
        simp only [Bool.and_eq_true, decide_eq_true_eq]
        have e24 : (2 : Nat) ^ 24 = 16777216 := by decide +kernel
        refine ⟨⟨?_, ?_⟩, ?_⟩ <;> omega
      rw [if_pos h]
      unfold encT nat0 intsFrom
      rw [List.map_map, show ((many : Int) - 0).toNat = many by omega]
      refine congrArg (fun l => M.ret (PyData.tuple l)) ?_
      refine List.map_congr_left fun k _ => ?_
      show PyData.int (0 + (k : Int)) = PyData.int (k : Int)
      rw [Int.zero_add]
    have fn : Fit 200 2 (encT (nat0 many)) := rfit (by rw [nat0_len]; omega) fun v hv => by have := nat0_mem.mp hv; omega
    have fe : Fit 0 2 (.tuple []) := Fit.dec
    have fP3 : Fit 2010 3 (.tuple [.str s, encT R]) := ePA ▸ fPA
    refine seq_asg (P := fun d => ∃ xs, d = .list xs ∧ xs.length ≤ 9 ∧ ∀ x ∈ xs, Tst x) ?_ ?_
    · generalize encCb many es = C at *
      generalize encT R = RR at *
      generalize encT (nat0 many) = NN at *
      simp only [at_emp, at_dis1, at_ow0, at_ows, at_calln, isLst_ret, at_c, at_bin, at_un, at_v0, at_o0, at_vs, at_tup, at_lst, at_each0, at_eachs, at_ad, at_p0, at_ps, at_args0, at_argss, at_call, at_tofk, at_and, at_or, at_not, at_dand, at_dor, at_dnot, at_if, at_chain, at_gn, at_g2, at_g3, at_g4, at_iseq, at_r1, at_r2, turn_def, at_sasgn, at_sforr, at_nil, at_seq, at_asg, at_sown, at_sret, at_sretn, at_sif, at_sdrop, at_sbrk, at_scont, at_sfor, hide_nil, hide_cons, hide1_d, hide1_n, hide1_p, hide1_o, set_0, set_s, bnd_ret, bnd_stuck, bnd_bnd, bnd_ite, slot_d, slot_p, wipeR, List.map_cons, List.map_nil, List.cons_append, List.nil_append, List.replicate, add_ints, sub_ints, le_ints, lt_ints, ge_ints, gt_ints, neg_ints, min2_ints, max2_ints, oEq_ints, oNe_ints, oEq_bools, oNe_bools, len_tup, len_lst, revL_l, oEq_strs, oNe_strs, tuple_l, tuple_t, list_l, list_t, at_sl, at_pn, at_ps', sl_tup', sl_lst', is_T, is_L, is_I, is_B, is_S, is_N, not_N, isT_n, isT_b, isT_i, isT_s, isT_t, isT_l, isT_d, isL_n, isL_b, isL_i, isL_s, isL_t, isL_l, isL_d, isI_n, isI_b, isI_i, isI_s, isI_t, isI_l, isI_d, isB_n, isB_b, isB_i, isB_s, isB_t, isB_l, isB_d, isS_n, isS_b, isS_i, isS_s, isS_t, isS_l, isS_d, isN_n, isN_b, isN_i, isN_s, isN_t, isN_l, isN_d, decide_eq_true_eq, Bool.not_eq_true', decide_eq_false_iff_not, Bool.false_eq_true, if_true, if_false, decide_true, decide_false, Bool.not_true, Bool.not_false, not_true_eq_false, not_false_eq_true, ret_ite_o, Int.reduceLT, Int.reduceLE, Int.reduceEq, Int.reduceAdd, Int.reduceSub, Int.reduceNeg, reduceCtorEq, oPA, cPA, aPA, rg]
      try simp only [bnd_bnd]
      refine does_bnd (listed_ok 12 PA 1 fPA.1 zPA (by omega) (by omega)) fun l1 h1 => ?_
      try simp only [bnd_ret, bnd_bnd]
      refine does_bnd (booled_ok 14 PA fPA.1 zPA (Nat.lt_of_le_of_lt fPA.2.2 (by decide))) fun l3 h3 => ?_
      try simp only [bnd_ret, bnd_bnd]
      refine does_ret ⟨_, rfl, by simp only [List.length_cons, List.length_nil]; decide +kernel, ?_⟩
      simp only [List.forall_mem_cons]
      exact ⟨Tst.fit fPA, Tst.fit (fit_tl fP3), Tst.like fPA h1, Tst.like fPA h3, Tst.fit (fl_t (fl_cons hs.1 fl_nil)), Tst.fit (fl_t (fl_cons hs.1 (fl_cons fR (fl_cons fe fl_nil)))), jpap s_n fe, jpap s_a fe, jpap s_a fn, fun x hx => nomatch hx⟩
    rintro _ ⟨xs, rfl, hxl, hx⟩
    simp only [set_0, set_s]
    refine seq_asg (P := fun d => ∃ xs, d = .list xs ∧ xs.length ≤ 12 ∧ ∀ x ∈ xs, Tst x) ?_ ?_
    · have fno : Fit 8 2 .none := Fit.dec
      generalize encCb many es = C at *
      generalize encT R = RR at *
      simp only [at_emp, at_dis1, at_ow0, at_ows, at_calln, isLst_ret, at_c, at_bin, at_un, at_v0, at_o0, at_vs, at_tup, at_lst, at_each0, at_eachs, at_ad, at_p0, at_ps, at_args0, at_argss, at_call, at_tofk, at_and, at_or, at_not, at_dand, at_dor, at_dnot, at_if, at_chain, at_gn, at_g2, at_g3, at_g4, at_iseq, at_r1, at_r2, turn_def, at_sasgn, at_sforr, at_nil, at_seq, at_asg, at_sown, at_sret, at_sretn, at_sif, at_sdrop, at_sbrk, at_scont, at_sfor, hide_nil, hide_cons, hide1_d, hide1_n, hide1_p, hide1_o, set_0, set_s, bnd_ret, bnd_stuck, bnd_bnd, bnd_ite, slot_d, slot_p, wipeR, List.map_cons, List.map_nil, List.cons_append, List.nil_append, List.replicate, add_ints, sub_ints, le_ints, lt_ints, ge_ints, gt_ints, neg_ints, min2_ints, max2_ints, oEq_ints, oNe_ints, oEq_bools, oNe_bools, len_tup, len_lst, revL_l, oEq_strs, oNe_strs, tuple_l, tuple_t, list_l, list_t, at_sl, at_pn, at_ps', sl_tup', sl_lst', is_T, is_L, is_I, is_B, is_S, is_N, not_N, isT_n, isT_b, isT_i, isT_s, isT_t, isT_l, isT_d, isL_n, isL_b, isL_i, isL_s, isL_t, isL_l, isL_d, isI_n, isI_b, isI_i, isI_s, isI_t, isI_l, isI_d, isB_n, isB_b, isB_i, isB_s, isB_t, isB_l, isB_d, isS_n, isS_b, isS_i, isS_s, isS_t, isS_l, isS_d, isN_n, isN_b, isN_i, isN_s, isN_t, isN_l, isN_d, decide_eq_true_eq, Bool.not_eq_true', decide_eq_false_iff_not, Bool.false_eq_true, if_true, if_false, decide_true, decide_false, Bool.not_true, Bool.not_false, not_true_eq_false, not_false_eq_true, ret_ite_o, Int.reduceLT, Int.reduceLE, Int.reduceEq, Int.reduceAdd, Int.reduceSub, Int.reduceNeg, reduceCtorEq]
      rw [add_tst (by omega) (by simp only [List.length_cons, List.length_nil]; decide +kernel)]
      refine does_ret ⟨_, rfl, by rw [List.length_append]; simp only [List.length_cons, List.length_nil]; omega, mem_app hx ?_⟩
      simp only [List.forall_mem_cons]
      exact ⟨jpap s_n fR, jpap s_a fR, Tst.fit (fl_t (fl_cons fno (fl_cons fR fl_nil))), fun x hx => nomatch hx⟩
    rintro _ ⟨xs, rfl, hxl, hx⟩
    simp only [set_0, set_s]
    let J : Nat → Rho → Prop := fun j ρ => ∃ xs x8 x9 x10 x11 x12, ρ = [none, some .pool, some (.dat (encCb many es)), some (.dat (.int (many : Int))), some (.dat (.tuple (es.map enc3))), some (.dat PA), some (.dat (encT R)), some (.dat (.list xs)), x8, x9, x10, x11, x12, none, none, none, none] ∧ xs.length ≤ 12 + j * 8 ∧ ∀ x ∈ xs, Tst x
    refine seq_next (P := J 12) ?_ ?_
    · rw [at_sfor]
      have r12 : rng1 (.int 12) = M.ret (intsFrom 0 12) := rng1_of (by omega) (by omega)
      simp only [at_r1, at_c, bnd_ret, r12]
      refine for_rng (n := 12) J ⟨_, _, _, _, _, _, rfl, by omega, hx⟩ (fun j ρ hj hI => ?_) (fun ρ hI => ⟨ρ, rfl, hI⟩)
      obtain ⟨xs, x8, x9, x10, x11, x12, rfl, hxl, hx⟩ := hI
      simp only [at_gn, bnd_ret, set_0, set_s]
      refine seq_asg (P := fun d => ∃ ns : List Int, d = encT ns ∧ ns.length ≤ 8 ∧ ∀ v ∈ ns, 0 ≤ v ∧ v ≤ 8) ?_ ?_
      · have rgm : rng1 (.int (many : Int)) = M.ret (intsFrom 0 many) := by rw [rng1_of (by omega) (by omega)]; rfl
        generalize encCb many es = C at *
        simp only [hide_cons, hide1_d, hide1_p, hide1_n, hide_nil, at_un]
        refine does_bnd (P := fun d => ∃ zs : List D, zs.Sublist (intsFrom 0 many) ∧ d = .list (zs.map id)) (lc_sub (own := [16]) (fun x => (wipeR _ [16]).set 16 (some (.dat x))) id ?_ (by rw [intsFrom_len]; exact small20 (by omega)) (fun x hx => rfl) (fun x hx => ?_) fun x hx => ?_) fun d ⟨zs, h1, h2⟩ => ?_
        · simp only [at_r1, at_v0, at_vs, bnd_ret, rgm]
          exact does_ret rfl
        · simp only [wipeR, set_0, set_s, at_tofk, at_bin, at_call, at_argss, at_args0, at_ps, at_p0, at_ad, at_vs, at_v0, at_c, bnd_ret, bnd_bnd]
          refine does_bnd (does_draw' (by decide) (by decide)) fun d ⟨v, e, _, _⟩ => ?_
          subst e
          simp only [bnd_ret, oEq_ints]
          exact does_ret trivial
        · simp only [wipeR, set_0, set_s, at_vs, at_v0]
          exact does_ret rfl
        · subst h2
          obtain ⟨ns, e, hl, hb⟩ := sub_range h1
          subst e
          rw [List.map_id, tuple_l]
          exact does_ret ⟨ns, rfl, by omega, fun v hv => by have := hb v hv; omega⟩
      rintro _ ⟨ns, rfl, hn1, hn2⟩
      simp only [set_0, set_s]
      refine seq_asg (P := fun d => ∃ L : List Int, d = encT L ∧ L ≠ [] ∧ L.length ≤ 8 ∧ ∀ v ∈ L, 0 ≤ v ∧ v ≤ 8) ?_ ?_
      · generalize encCb many es = C at *
        simp only [at_un, at_call, at_argss, at_args0, at_ad, at_ps, at_p0, hide_cons, hide1_d, hide1_p, hide1_n, hide_nil, at_vs, at_v0, bnd_ret, bnd_bnd]
        refine does_bnd (does_draw' (by omega) (by omega)) ?_
        rintro _ ⟨v, rfl, v0, v1⟩
        obtain ⟨L, h1, h2, h3, h⟩ := reads_all ok ⟨v0, v1⟩
        simp only [bnd_ret, h, tuple_l]
        exact does_ret ⟨L, rfl, h1, h2, h3⟩
      rintro _ ⟨L, rfl, hL0, hL1, hL2⟩
      simp only [set_0, set_s]
      have rv : oRevT (encT L) = M.ret (encT L.reverse) := by
        cases L with
        | nil => exact absurd rfl hL0
        | cons a L =>
          show M.ret (PyData.tuple (PyData.int a :: L.map .int).reverse) = M.ret (PyData.tuple ((a :: L).reverse.map .int))
          rw [List.map_reverse]
          rfl
      have adT : ∀ a b : List Int, a.length ≤ 100 → b.length ≤ 100 → oAdd (encT a) (encT b) = M.ret (encT (a ++ b)) := fun a b h1 h2 => by
        show oAdd (.tuple (a.map .int)) (.tuple (b.map .int)) = M.ret (.tuple ((a ++ b).map .int))
        rw [add_tups (by rw [List.length_map, List.length_map]; omega), List.map_append]
      have ad := adT ns L (by omega) (by omega)
      have st := sorted_t (ns := ns ++ L) (by rw [List.length_append]; omega)
      have fS : ∀ l : List Int, l.length ≤ 100 → (∀ v ∈ l, -1000 ≤ v ∧ v ≤ 1000) → Fit 200 2 (encT (sortU l)) := fun l h1 h2 => rfit (Nat.le_trans (sortU_len l) (by omega)) fun v hv => h2 v ((sortU_mem l v).mp hv)
      refine seq_asg (P := fun d => ∃ xs, d = .list xs ∧ xs.length ≤ 12 + j * 8 + 4 ∧ ∀ x ∈ xs, Tst x) ?_ ?_
      · have f1 : Fit 200 2 (encT ns) := rfit (by omega) fun v hv => by have := hn2 v hv; omega
        have f2 : Fit 200 2 (encT L) := rfit (by omega) fun v hv => by have := hL2 v hv; omega
        have f3 : Fit 200 2 (encT L.reverse) := rfit (by rw [List.length_reverse]; omega) fun v hv => by have := hL2 v (List.mem_reverse.mp hv); omega
        have f4 := fS (ns ++ L) (by rw [List.length_append]; omega) fun v hv => by
          rcases List.mem_append.mp hv with h | h
          · have := hn2 v h; omega
          · have := hL2 v h; omega
        have tl : bTuple (.list ((sortU (ns ++ L)).map .int)) = M.ret (encT (sortU (ns ++ L))) := rfl
        generalize encCb many es = C at *
        generalize encT ns = A1 at *
        generalize encT L = A2 at *
        generalize encT L.reverse = A3 at *
        generalize encT (ns ++ L) = A4 at *
        generalize encT (sortU (ns ++ L)) = A5 at *
        simp only [at_bin, at_lst, at_tup, at_eachs, at_each0, at_un, hide_cons, hide1_d, hide1_p, hide1_n, hide_nil, at_vs, at_v0, at_c, bnd_ret, bnd_bnd, rv, ad, st, tl]
        rw [add_tst (by omega) (by simp only [List.length_cons, List.length_nil]; decide +kernel)]
        refine does_ret ⟨_, rfl, by rw [List.length_append]; exact Nat.add_le_add hxl (Nat.le_refl 4), mem_app hx ?_⟩
        simp only [List.forall_mem_cons]
        exact ⟨jpap s_a f1, jpap s_a f2, jpap s_a f3, jpap s_a f4, fun x hx => nomatch hx⟩
      rintro _ ⟨xs, rfl, hxl, hx⟩
      simp only [set_0, set_s]
      have n1 : oNe (encT R) (.tuple []) = M.ret (.bool (!(R.map PyData.int).isEmpty)) := jne_nil (jplain_ints R) (by
        rw [depthAll_le]
        intro x hx
        obtain ⟨v, _, rfl⟩ := List.mem_map.mp hx
        rw [PyData.depth]
        omega)
      have n2 : oNe (.tuple (es.map enc3)) (.tuple []) = M.ret (.bool (!(es.map enc3).isEmpty)) := jne_nil (plain_e3 es) (by
        rw [depthAll_le]
        intro x hx
        obtain ⟨v, _, rfl⟩ := List.mem_map.mp hx
        show PyData.depth (.tuple [.int v.1, .int v.2.1, .int v.2.2]) ≤ 10
        simp [PyData.depth, PyData.depthAll])
      refine sif_does (c := (!(R.map PyData.int).isEmpty) && !(es.map enc3).isEmpty) (of_eq ?_) (fun hc => ?_) fun _ => ?_
      · generalize encCb many es = C at *
        generalize encT R = RR at *
        generalize es.map enc3 = EE at *
        simp only [at_and, at_tofk, at_bin, at_tup, at_each0, at_vs, at_v0, bnd_ret, n1, n2]
        cases (R.map PyData.int).isEmpty <;> cases EE.isEmpty <;> rfl
      · rw [Bool.and_eq_true] at hc
        have hR0 : 0 < R.length := by
          cases R with
          | nil => exact absurd hc.1 (by decide)
          | cons => exact Nat.succ_pos _
        have hE0 : 0 < es.length := by
          cases es with
          | nil => exact absurd hc.2 (by decide)
          | cons => exact Nat.succ_pos _
        have lR : bLen (encT R) = M.ret (.int (R.length : Int)) := by show M.ret _ = _; rw [List.length_map]
        have lE : bLen (.tuple (es.map enc3)) = M.ret (.int (es.length : Int)) := by rw [len_tup, List.length_map]
        refine seq_asg (P := fun d => ∃ i : Nat, d = .int (i : Int) ∧ i < R.length) ?_ ?_
        · generalize encCb many es = C at *
          generalize encT R = RR at *
          simp only [at_call, at_argss, at_args0, at_ad, at_ps, at_p0, at_un, hide_cons, hide1_d, hide1_p, hide1_n, hide_nil, at_vs, at_v0, bnd_ret, lR]
          exact (does_draw' (by omega) (by omega)).imp fun d ⟨v, e, v0, v1⟩ => ⟨v.toNat, by rw [e, Int.toNat_of_nonneg v0], by omega⟩
        rintro _ ⟨i, rfl, hi⟩
        simp only [set_0, set_s]
        have s1 : oSl (encT R) none (some (i : Int)) = M.ret (encT (R.take i)) := by
          show M.ret (PyData.tuple (cutD (R.map .int) none (some (i : Int)))) = M.ret (PyData.tuple ((R.take i).map .int))
          rw [cut_to, List.map_take]
        have s2 : oSl (encT R) (some ((i : Int) + 1)) none = M.ret (encT (R.drop (i + 1))) := by
          show M.ret (PyData.tuple (cutD (R.map .int) (some (((i + 1 : Nat) : Int))) none)) = M.ret (PyData.tuple ((R.drop (i + 1)).map .int))
          rw [cut_from, List.map_drop]
        have a1 := adT (R.take i) (R.drop (i + 1)) (by rw [List.length_take]; omega) (by rw [List.length_drop]; omega)
        obtain ⟨Q, hQ⟩ : ∃ Q, Q = R.take i ++ R.drop (i + 1) := ⟨_, rfl⟩
        rw [← hQ] at a1
        have hQl : Q.length ≤ 16 := by rw [hQ, List.length_append, List.length_take, List.length_drop]; omega
        have hQv : ∀ v ∈ Q, 0 ≤ v ∧ v ≤ 64 := fun v hv => by
          rw [hQ] at hv
          rcases List.mem_append.mp hv with h | h
          · exact hRv v (List.mem_of_mem_take h)
          · exact hRv v (List.mem_of_mem_drop h)
        have one : ∀ v : Int, (PyData.tuple [.int v]) = encT [v] := fun _ => rfl
        refine seq_asg (P := fun d => ∃ O : List Int, d = encT (sortU O) ∧ O.length ≤ 100 ∧ ∀ v ∈ O, -1000 ≤ v ∧ v ≤ 1000) ?_ ?_
        · generalize encCb many es = C at *
          generalize encT R = RR at *
          generalize encT (R.take i) = T1 at *
          generalize encT (R.drop (i + 1)) = T2 at *
          simp only [at_un, at_bin, at_sl, at_pn, at_ps', at_tup, at_eachs, at_each0, at_call, at_argss, at_args0, at_ad, at_ps, at_p0, hide_cons, hide1_d, hide1_p, hide1_n, hide_nil, at_vs, at_v0, at_c, bnd_ret, bnd_bnd, s1, s2, a1, add_ints, lE]
          refine does_bnd (does_draw' (by omega) (by omega)) ?_
          rintro _ ⟨v, rfl, v0, v1⟩
          have a2 := adT Q [v] (by omega) (show 1 ≤ 100 by decide)
          have st2 := sorted_t (ns := Q ++ [v]) (by rw [List.length_append, List.length_singleton]; omega)
          simp only [bnd_ret, one, a2, st2, tuple_l]
          refine does_ret ⟨Q ++ [v], rfl, by rw [List.length_append, List.length_singleton]; omega, fun u hu => ?_⟩
          rcases List.mem_append.mp hu with h | h
          · have := hQv u h; omega
          · rw [List.mem_singleton.mp h]; omega
        rintro _ ⟨O, rfl, hO1, hO2⟩
        simp only [set_0, set_s]
        have fO := fS O hO1 hO2
        have fQ : Fit 200 2 (encT Q) := rfit (by omega) fun v hv => by have := hQv v hv; omega
        have fr : Fit 200 2 (encT R.reverse) := rfit (by rw [List.length_reverse]; omega) fun v hv => by have := hRv v (List.mem_reverse.mp hv); omega
        have rv2 : bRev (encT R) = M.ret (encT R.reverse) := by
          show M.ret (PyData.tuple (R.map .int).reverse) = M.ret (PyData.tuple (R.reverse.map .int))
          rw [List.map_reverse]
        have adv : ∀ v : Int, oAdd (encT R) (encT [v]) = M.ret (encT (R ++ [v])) := fun v => adT R [v] (by omega) (show 1 ≤ 100 by decide)
        have stv : ∀ v : Int, bSortedSetT (encT (R ++ [v])) = M.ret (.list ((sortU (R ++ [v])).map .int)) := fun v => sorted_t (by rw [List.length_append, List.length_singleton]; omega)
        have tlv : ∀ v : Int, bTuple (.list ((sortU (R ++ [v])).map .int)) = M.ret (encT (sortU (R ++ [v]))) := fun _ => rfl
        have fv : ∀ v : Int, 0 ≤ v ∧ v < 64 → Fit 200 2 (encT (sortU (R ++ [v]))) := fun v hv => fS _ (by rw [List.length_append, List.length_singleton]; omega) fun u hu => by
          rcases List.mem_append.mp hu with h | h
          · have := hRv u h; omega
          · rw [List.mem_singleton.mp h]; omega
        rw [at_asg]
        generalize hC : encCb many es = C at *
        generalize hRR : encT R = RR at *
        generalize encT (R.take i) = T1 at *
        generalize encT (R.drop (i + 1)) = T2 at *
        generalize encT R.reverse = R2 at *
        generalize encT (sortU O) = OO at *
        generalize encT Q = QQ at *
        simp only [at_un, at_lst, at_bin, at_sl, at_pn, at_ps', at_tup, at_eachs, at_each0, at_call, at_argss, at_args0, at_ad, at_ps, at_p0, hide_cons, hide1_d, hide1_p, hide1_n, hide_nil, at_vs, at_v0, at_c, bnd_ret, bnd_bnd, s1, s2, a1, add_ints, lE, rv2]
        refine does_bnd (does_draw' (by omega) (by omega)) ?_
        rintro _ ⟨v, rfl, v0, v1⟩
        have fv := fv v (by omega)
        simp only [bnd_ret, bnd_bnd, one, adv, stv, tlv]
        rw [add_tst (by omega) (by simp only [List.length_cons, List.length_nil]; decide +kernel)]
        simp only [bnd_ret, at_gn, set_0, set_s]
        subst hRR
        subst hC
        refine does_ret ⟨_, _, _, _, _, _, rfl, ?_, mem_app hx ?_⟩
        · rw [List.length_append]
          show xs.length + 4 ≤ _
          omega
        simp only [List.forall_mem_cons]
        exact ⟨jpap s_n fO, jpap s_n fQ, jpap s_n fv, jpap s_n fr, fun x hx => nomatch hx⟩
      · rw [at_nil]
        exact does_ret ⟨_, _, _, _, _, _, rfl, by omega, hx⟩
    rintro _ ⟨xs, x8, x9, x10, x11, x12, rfl, hxl, hx⟩
    refine seq_next (P := fun _ => True) ?_ fun ρ _ => by rw [at_sret, at_c]; exact does_ret rfl
    rw [at_sfor]
    have ho : oddV.length = 22 := rfl
    refine does_bnd (P := fun ys => ∀ x ∈ ys, Tst x) ?_ fun ys hys => ?_
    · simp only [at_iseq, at_bin, at_v0, at_vs, hide_cons, hide1_d, hide1_p, hide1_n, bnd_ret, bnd_bnd, dCall0, odd_eq, noerr_ret]
      rw [add_tst (by omega) (by omega), bnd_ret]
      refine does_bnd (bents_ok (n := 8) (P := Tst) (m := 0) (by decide +kernel) fun k hk => ?_) ?_
      · show Does (M.bnd (gN 8 _ _) _) _
        generalize encCb many es = C at *
        simp only [at_emp, at_dis1, at_ow0, at_ows, at_calln, isLst_ret, at_c, at_bin, at_un, at_v0, at_o0, at_vs, at_tup, at_lst, at_each0, at_eachs, at_ad, at_p0, at_ps, at_args0, at_argss, at_call, at_tofk, at_and, at_or, at_not, at_dand, at_dor, at_dnot, at_if, at_chain, at_gn, at_g2, at_g3, at_g4, at_iseq, at_r1, at_r2, turn_def, at_sasgn, at_sforr, at_nil, at_seq, at_asg, at_sown, at_sret, at_sretn, at_sif, at_sdrop, at_sbrk, at_scont, at_sfor, hide_nil, hide_cons, hide1_d, hide1_n, hide1_p, hide1_o, set_0, set_s, bnd_ret, bnd_stuck, bnd_bnd, bnd_ite, slot_d, slot_p, wipeR, List.map_cons, List.map_nil, List.cons_append, List.nil_append, List.replicate, add_ints, sub_ints, le_ints, lt_ints, ge_ints, gt_ints, neg_ints, min2_ints, max2_ints, oEq_ints, oNe_ints, oEq_bools, oNe_bools, len_tup, len_lst, revL_l, oEq_strs, oNe_strs, tuple_l, tuple_t, list_l, list_t, at_sl, at_pn, at_ps', sl_tup', sl_lst', is_T, is_L, is_I, is_B, is_S, is_N, not_N, isT_n, isT_b, isT_i, isT_s, isT_t, isT_l, isT_d, isL_n, isL_b, isL_i, isL_s, isL_t, isL_l, isL_d, isI_n, isI_b, isI_i, isI_s, isI_t, isI_l, isI_d, isB_n, isB_b, isB_i, isB_s, isB_t, isB_l, isB_d, isS_n, isS_b, isS_i, isS_s, isS_t, isS_l, isS_d, isN_n, isN_b, isN_i, isN_s, isN_t, isN_l, isN_d, decide_eq_true_eq, Bool.not_eq_true', decide_eq_false_iff_not, Bool.false_eq_true, if_true, if_false, decide_true, decide_false, Bool.not_true, Bool.not_false, not_true_eq_false, not_false_eq_true, ret_ite_o, Int.reduceLT, Int.reduceLE, Int.reduceEq, Int.reduceAdd, Int.reduceSub, Int.reduceNeg, reduceCtorEq]
        exact (bent_ok 14 _ tPA zPA (Nat.lt_of_le_of_lt fPA.2.2 (by decide))).imp fun r hr => Tst.bent fPA hr
      rintro _ ⟨bs, rfl, hbl, hb⟩
      rw [add_tst (by rw [List.length_append]; omega) (by omega), bnd_ret]
      exact does_ret (mem_app (mem_app hx odd_tst) hb)
    refine (for_each (fun ρ => ∃ x3 x4 x5 x6 x7 x8 x9 x10 x11 x12 x13 x14 x15 x16, ρ = [none, some .pool, some (.dat (encCb many es)), x3, x4, x5, x6, x7, x8, x9, x10, x11, x12, x13, x14, x15, x16]) Tst ⟨_, _, _, _, _, _, _, _, _, _, _, _, _, _, rfl⟩ hys fun x ρ hx hI => ?_).imp fun o ⟨r, e, _⟩ => ⟨r, e, trivial⟩
    obtain ⟨x3, x4, x5, x6, x7, x8, x9, x10, x11, x12, x13, x14, x15, x16, e⟩ := hI
    subst e
    obtain ⟨c, j1, j2⟩ := cagree ok hx.sz
    generalize encCb many es = C at *
    simp only [at_emp, at_dis1, at_ow0, at_ows, at_calln, isLst_ret, at_c, at_bin, at_un, at_v0, at_o0, at_vs, at_tup, at_lst, at_each0, at_eachs, at_ad, at_p0, at_ps, at_args0, at_argss, at_call, at_tofk, at_and, at_or, at_not, at_dand, at_dor, at_dnot, at_if, at_chain, at_gn, at_g2, at_g3, at_g4, at_iseq, at_r1, at_r2, turn_def, at_sasgn, at_sforr, at_nil, at_seq, at_asg, at_sown, at_sret, at_sretn, at_sif, at_sdrop, at_sbrk, at_scont, at_sfor, hide_nil, hide_cons, hide1_d, hide1_n, hide1_p, hide1_o, set_0, set_s, bnd_ret, bnd_stuck, bnd_bnd, bnd_ite, slot_d, slot_p, wipeR, List.map_cons, List.map_nil, List.cons_append, List.nil_append, List.replicate, add_ints, sub_ints, le_ints, lt_ints, ge_ints, gt_ints, neg_ints, min2_ints, max2_ints, oEq_ints, oNe_ints, oEq_bools, oNe_bools, len_tup, len_lst, revL_l, oEq_strs, oNe_strs, tuple_l, tuple_t, list_l, list_t, at_sl, at_pn, at_ps', sl_tup', sl_lst', is_T, is_L, is_I, is_B, is_S, is_N, not_N, isT_n, isT_b, isT_i, isT_s, isT_t, isT_l, isT_d, isL_n, isL_b, isL_i, isL_s, isL_t, isL_l, isL_d, isI_n, isI_b, isI_i, isI_s, isI_t, isI_l, isI_d, isB_n, isB_b, isB_i, isB_s, isB_t, isB_l, isB_d, isS_n, isS_b, isS_i, isS_s, isS_t, isS_l, isS_d, isN_n, isN_b, isN_i, isN_s, isN_t, isN_l, isN_d, decide_eq_true_eq, Bool.not_eq_true', decide_eq_false_iff_not, Bool.false_eq_true, if_true, if_false, decide_true, decide_false, Bool.not_true, Bool.not_false, not_true_eq_false, not_false_eq_true, ret_ite_o, Int.reduceLT, Int.reduceLE, Int.reduceEq, Int.reduceAdd, Int.reduceSub, Int.reduceNeg, reduceCtorEq, j1, j2, hx.repr]
    refine does_eq (same_ok 12 _ trivial) ?_
    try simp only [at_emp, at_dis1, at_ow0, at_ows, at_calln, isLst_ret, at_c, at_bin, at_un, at_v0, at_o0, at_vs, at_tup, at_lst, at_each0, at_eachs, at_ad, at_p0, at_ps, at_args0, at_argss, at_call, at_tofk, at_and, at_or, at_not, at_dand, at_dor, at_dnot, at_if, at_chain, at_gn, at_g2, at_g3, at_g4, at_iseq, at_r1, at_r2, turn_def, at_sasgn, at_sforr, at_nil, at_seq, at_asg, at_sown, at_sret, at_sretn, at_sif, at_sdrop, at_sbrk, at_scont, at_sfor, hide_nil, hide_cons, hide1_d, hide1_n, hide1_p, hide1_o, set_0, set_s, bnd_ret, bnd_stuck, bnd_bnd, bnd_ite, slot_d, slot_p, wipeR, List.map_cons, List.map_nil, List.cons_append, List.nil_append, List.replicate, add_ints, sub_ints, le_ints, lt_ints, ge_ints, gt_ints, neg_ints, min2_ints, max2_ints, oEq_ints, oNe_ints, oEq_bools, oNe_bools, len_tup, len_lst, revL_l, oEq_strs, oNe_strs, tuple_l, tuple_t, list_l, list_t, at_sl, at_pn, at_ps', sl_tup', sl_lst', is_T, is_L, is_I, is_B, is_S, is_N, not_N, isT_n, isT_b, isT_i, isT_s, isT_t, isT_l, isT_d, isL_n, isL_b, isL_i, isL_s, isL_t, isL_l, isL_d, isI_n, isI_b, isI_i, isI_s, isI_t, isI_l, isI_d, isB_n, isB_b, isB_i, isB_s, isB_t, isB_l, isB_d, isS_n, isS_b, isS_i, isS_s, isS_t, isS_l, isS_d, isN_n, isN_b, isN_i, isN_s, isN_t, isN_l, isN_d, decide_eq_true_eq, Bool.not_eq_true', decide_eq_false_iff_not, Bool.false_eq_true, if_true, if_false, decide_true, decide_false, Bool.not_true, Bool.not_false, not_true_eq_false, not_false_eq_true, ret_ite_o, Int.reduceLT, Int.reduceLE, Int.reduceEq, Int.reduceAdd, Int.reduceSub, Int.reduceNeg, reduceCtorEq, hx.repr]
    exact does_ret ⟨_, rfl, _, _, _, _, _, _, _, _, _, _, _, _, _, _, rfl⟩
  intro q
  obtain ⟨a, q', e, rfl, _⟩ := main q
  exact ⟨q', e⟩


def d_is_whole : He.DefD := ⟨("is_whole", none), "is_whole", "is_whole", defArgs s_is_whole, defBody s_is_whole, defScope s_is_whole, [], []⟩
def d_is_from : He.DefD := ⟨("is_from", none), "is_from", "is_from", defArgs s_is_from, defBody s_is_from, defScope s_is_from, [], []⟩
def d_rises : He.DefD := ⟨("rises", none), "rises", "rises", defArgs s_rises, defBody s_rises, defScope s_rises, [], []⟩
def d_is_rising_row : He.DefD := ⟨("is_rising_row", none), "is_rising_row", "is_rising_row", defArgs s_is_rising_row, defBody s_is_rising_row, defScope s_is_rising_row, [], []⟩
def d_is_named : He.DefD := ⟨("is_named", none), "is_named", "is_named", defArgs s_is_named, defBody s_is_named, defScope s_is_named, [], []⟩
def d_joined : He.DefD := ⟨("joined", none), "joined", "joined", defArgs s_joined, defBody s_joined, defScope s_joined, [], []⟩
def d_is_net : He.DefD := ⟨("is_net", none), "is_net", "is_net", defArgs s_is_net, defBody s_is_net, defScope s_is_net, [], []⟩
def d_way_between : He.DefD := ⟨("way_between", none), "way_between", "way_between", defArgs s_way_between, defBody s_way_between, defScope s_way_between, [], []⟩
def d_least_net : He.DefD := ⟨("least_net", none), "least_net", "least_net", defArgs s_least_net, defBody s_least_net, defScope s_least_net, [], []⟩
def d_cable_paper : He.DefD := ⟨("cable_paper", none), "cable_paper", "cable_paper", defArgs s_cable_paper, defBody s_cable_paper, defScope s_cable_paper, [], []⟩
def d_check_cables : He.DefD := ⟨("check_cables", none), "check_cables", "check_cables", defArgs s_check_cables, defBody s_check_cables, defScope s_check_cables, [], []⟩
def d__law_is_integer : He.DefD := ⟨("_law_is_integer", none), "_law_is_integer", "_law_is_integer", defArgs s__law_is_integer, defBody s__law_is_integer, defScope s__law_is_integer, [], []⟩
def d__law_same : He.DefD := ⟨("_law_same", none), "_law_same", "_law_same", defArgs s__law_same, defBody s__law_same, defScope s__law_same, [], []⟩
def d__law_pool : He.DefD := ⟨("_law_pool", none), "_law_pool", "_law_pool", defArgs s_pool, defBody s_pool, defScope s_pool, [], []⟩
def d__law_spread : He.DefD := ⟨("_law_spread", none), "_law_spread", "_law_spread", defArgs s_spread, defBody s_spread, defScope s_spread, [], []⟩
def d__law_draw : He.DefD := ⟨("_law_draw", none), "_law_draw", "_law_draw", defArgs s_draw, defBody s_draw, defScope s_draw, [], []⟩
def d__law_bent : He.DefD := ⟨("_law_bent", none), "_law_bent", "_law_bent", defArgs s__law_bent, defBody s__law_bent, defScope s__law_bent, [], []⟩
def d__law_booled : He.DefD := ⟨("_law_booled", none), "_law_booled", "_law_booled", defArgs s__law_booled, defBody s__law_booled, defScope s__law_booled, [], []⟩
def d__law_listed : He.DefD := ⟨("_law_listed", none), "_law_listed", "_law_listed", defArgs s__law_listed, defBody s__law_listed, defScope s__law_listed, [], []⟩
def d__law_odd_values : He.DefD := ⟨("_law_odd_values", none), "_law_odd_values", "_law_odd_values", defArgs s__law_odd_values, defBody s__law_odd_values, defScope s__law_odd_values, [], []⟩
def d__law_is_up : He.DefD := ⟨("_law_is_up", none), "_law_is_up", "_law_is_up", defArgs s__law_is_up, defBody s__law_is_up, defScope s__law_is_up, [], []⟩
def d__law_is_row : He.DefD := ⟨("_law_is_row", none), "_law_is_row", "_law_is_row", defArgs s__law_is_row, defBody s__law_is_row, defScope s__law_is_row, [], []⟩
def d__law_cables : He.DefD := ⟨("_law_cables", none), "_law_cables", "_law_cables", defArgs s__law_cables, defBody s__law_cables, defScope s__law_cables, [], []⟩
def d__law_together : He.DefD := ⟨("_law_together", none), "_law_together", "_law_together", defArgs s__law_together, defBody s__law_together, defScope s__law_together, [], []⟩
def d__law_is_cable_net : He.DefD := ⟨("_law_is_cable_net", none), "_law_is_cable_net", "_law_is_cable_net", defArgs s__law_is_cable_net, defBody s__law_is_cable_net, defScope s__law_is_cable_net, [], []⟩
def d__law_right_cables : He.DefD := ⟨("_law_right_cables", none), "_law_right_cables", "_law_right_cables", defArgs s__law_right_cables, defBody s__law_right_cables, defScope s__law_right_cables, [], []⟩
def d_law : He.DefD := ⟨("law", none), "law", "law", defArgs s_law, defBody s_law, defScope s_law, [], []⟩
def fn : List He.DefD := [d_is_whole, d_is_from, d_rises, d_is_rising_row, d_is_named, d_joined, d_is_net, d_way_between, d_least_net, d_cable_paper, d_check_cables, d__law_is_integer, d__law_same, d__law_pool, d__law_spread, d__law_draw, d__law_bent, d__law_booled, d__law_listed, d__law_odd_values, d__law_is_up, d__law_is_row, d__law_cables, d__law_together, d__law_is_cable_net, d__law_right_cables, d_law]
def fa : List He.Fa := [.glo "is_whole", .glo "is_from", .glo "rises", .glo "is_rising_row", .glo "is_named", .glo "joined", .glo "is_net", .glo "way_between", .glo "least_net", .glo "cable_paper", .glo "check_cables", .glo "_law_is_integer", .glo "_law_same", .glo "_law_pool", .glo "_law_spread", .glo "_law_draw", .glo "_law_bent", .glo "_law_booled", .glo "_law_listed", .glo "_law_odd_values", .glo "_law_is_up", .glo "_law_is_row", .glo "_law_cables", .glo "_law_together", .glo "_law_is_cable_net", .glo "_law_right_cables", .glo "law", .free "all", .free "any", .free "bool", .free "int", .free "isinstance", .free "len", .free "list", .free "range", .free "repr", .free "reversed", .free "set", .free "sorted", .free "str", .free "tuple"]
def loose0 : List Str := ["is_whole", "is_from", "rises", "is_rising_row", "is_named", "joined", "is_net", "way_between", "least_net", "cable_paper", "check_cables", "_law_is_integer", "_law_same", "_law_pool", "_law_spread", "_law_draw"]
def loose1 : List Str := ["_law_bent", "_law_booled", "_law_listed", "_law_odd_values", "_law_is_up", "_law_is_row", "_law_cables", "_law_together", "_law_is_cable_net", "_law_right_cables"]
abbrev loose : List Str := loose0 ++ loose1
abbrev RowR : PySem.W.OpenRow := PySem.W.OpenLaw.row PySem.Challenge.rw_everyweather_k52_cable_papers_judged
def ex (K : PySem.W.Frag) : Bool := true
abbrev hk : PySem.W.Hook := hookE 4 fa fn ex
def ob (s : PySem.W.SharedT) : He.AlD × Bool := obsEG 4 fa fn ex (HandSHeadRun.getT s)
theorem ob_eq (s : PySem.W.SharedT) : ob s = hk.obs s.abs := obsEG_eq (HandSHeadRun.getT_eq s)
theorem run (w : World) : HandSHeadRun.RunEq RowR (PySem.W.view RowR.prog [29]) hk ob 4000 loose w := by
  intro os
  kernel_rfl
theorem facts {P : Program} {w : World} {K : PySem.W.Frag} {h : Heap} {mg : Str → Option Value} {f : Addr} (X : K.In h) (G : h.Ns mainGlobals mg) (hfa : mg ("law" : Str) = some (.ref f)) (c : He.SaysD fa fn K) (cx : ex K = true) :
    ∃ fd : FuncData, (∀ (s : Shared) (v : Value), BindsTo s fd ⟨[v], []⟩ [("script", v)]) ∧ ∀ base : Heap, K.In base → base.Ns mainGlobals mg → FnG P w K mg base (L2.CX P w) 18 f fd ["script"] (spLaw K) := by
  obtain ⟨fd_0, F_0⟩ := c.def_ 0 (d := d_is_whole) rfl
  have m_0 := He.glo_ok X G (c.fact 0 (f := .glo "is_whole") rfl)
  obtain ⟨fd_1, F_1⟩ := c.def_ 1 (d := d_is_from) rfl
  have m_1 := He.glo_ok X G (c.fact 1 (f := .glo "is_from") rfl)
  obtain ⟨fd_2, F_2⟩ := c.def_ 2 (d := d_rises) rfl
  have m_2 := He.glo_ok X G (c.fact 2 (f := .glo "rises") rfl)
  obtain ⟨fd_3, F_3⟩ := c.def_ 3 (d := d_is_rising_row) rfl
  have m_3 := He.glo_ok X G (c.fact 3 (f := .glo "is_rising_row") rfl)
  obtain ⟨fd_4, F_4⟩ := c.def_ 4 (d := d_is_named) rfl
  have m_4 := He.glo_ok X G (c.fact 4 (f := .glo "is_named") rfl)
  obtain ⟨fd_5, F_5⟩ := c.def_ 5 (d := d_joined) rfl
  have m_5 := He.glo_ok X G (c.fact 5 (f := .glo "joined") rfl)
  obtain ⟨fd_6, F_6⟩ := c.def_ 6 (d := d_is_net) rfl
  have m_6 := He.glo_ok X G (c.fact 6 (f := .glo "is_net") rfl)
  obtain ⟨fd_7, F_7⟩ := c.def_ 7 (d := d_way_between) rfl
  have m_7 := He.glo_ok X G (c.fact 7 (f := .glo "way_between") rfl)
  obtain ⟨fd_8, F_8⟩ := c.def_ 8 (d := d_least_net) rfl
  have m_8 := He.glo_ok X G (c.fact 8 (f := .glo "least_net") rfl)
  obtain ⟨fd_9, F_9⟩ := c.def_ 9 (d := d_cable_paper) rfl
  have m_9 := He.glo_ok X G (c.fact 9 (f := .glo "cable_paper") rfl)
  obtain ⟨fd_10, F_10⟩ := c.def_ 10 (d := d_check_cables) rfl
  have m_10 := He.glo_ok X G (c.fact 10 (f := .glo "check_cables") rfl)
  obtain ⟨fd_11, F_11⟩ := c.def_ 11 (d := d__law_is_integer) rfl
  have m_11 := He.glo_ok X G (c.fact 11 (f := .glo "_law_is_integer") rfl)
  obtain ⟨fd_12, F_12⟩ := c.def_ 12 (d := d__law_same) rfl
  have m_12 := He.glo_ok X G (c.fact 12 (f := .glo "_law_same") rfl)
  obtain ⟨fd_13, F_13⟩ := c.def_ 13 (d := d__law_pool) rfl
  have m_13 := He.glo_ok X G (c.fact 13 (f := .glo "_law_pool") rfl)
  obtain ⟨fd_14, F_14⟩ := c.def_ 14 (d := d__law_spread) rfl
  have m_14 := He.glo_ok X G (c.fact 14 (f := .glo "_law_spread") rfl)
  obtain ⟨fd_15, F_15⟩ := c.def_ 15 (d := d__law_draw) rfl
  have m_15 := He.glo_ok X G (c.fact 15 (f := .glo "_law_draw") rfl)
  obtain ⟨fd_16, F_16⟩ := c.def_ 16 (d := d__law_bent) rfl
  have m_16 := He.glo_ok X G (c.fact 16 (f := .glo "_law_bent") rfl)
  obtain ⟨fd_17, F_17⟩ := c.def_ 17 (d := d__law_booled) rfl
  have m_17 := He.glo_ok X G (c.fact 17 (f := .glo "_law_booled") rfl)
  obtain ⟨fd_18, F_18⟩ := c.def_ 18 (d := d__law_listed) rfl
  have m_18 := He.glo_ok X G (c.fact 18 (f := .glo "_law_listed") rfl)
  obtain ⟨fd_19, F_19⟩ := c.def_ 19 (d := d__law_odd_values) rfl
  have m_19 := He.glo_ok X G (c.fact 19 (f := .glo "_law_odd_values") rfl)
  obtain ⟨fd_20, F_20⟩ := c.def_ 20 (d := d__law_is_up) rfl
  have m_20 := He.glo_ok X G (c.fact 20 (f := .glo "_law_is_up") rfl)
  obtain ⟨fd_21, F_21⟩ := c.def_ 21 (d := d__law_is_row) rfl
  have m_21 := He.glo_ok X G (c.fact 21 (f := .glo "_law_is_row") rfl)
  obtain ⟨fd_22, F_22⟩ := c.def_ 22 (d := d__law_cables) rfl
  have m_22 := He.glo_ok X G (c.fact 22 (f := .glo "_law_cables") rfl)
  obtain ⟨fd_23, F_23⟩ := c.def_ 23 (d := d__law_together) rfl
  have m_23 := He.glo_ok X G (c.fact 23 (f := .glo "_law_together") rfl)
  obtain ⟨fd_24, F_24⟩ := c.def_ 24 (d := d__law_is_cable_net) rfl
  have m_24 := He.glo_ok X G (c.fact 24 (f := .glo "_law_is_cable_net") rfl)
  obtain ⟨fd_25, F_25⟩ := c.def_ 25 (d := d__law_right_cables) rfl
  have m_25 := He.glo_ok X G (c.fact 25 (f := .glo "_law_right_cables") rfl)
  obtain ⟨fd, F⟩ := c.def_ 26 (d := d_law) rfl
  have e := hfa.symm.trans (He.glo_ok X G (c.fact 26 (f := .glo "law") rfl))
  cases e
  have T : Txt K mg := ⟨He.free_ok X G (c.fact 27 (f := .free "all") rfl), He.free_ok X G (c.fact 28 (f := .free "any") rfl), He.free_ok X G (c.fact 29 (f := .free "bool") rfl), He.free_ok X G (c.fact 30 (f := .free "int") rfl), He.free_ok X G (c.fact 31 (f := .free "isinstance") rfl), He.free_ok X G (c.fact 32 (f := .free "len") rfl), He.free_ok X G (c.fact 33 (f := .free "list") rfl), He.free_ok X G (c.fact 34 (f := .free "range") rfl), He.free_ok X G (c.fact 35 (f := .free "repr") rfl), He.free_ok X G (c.fact 36 (f := .free "reversed") rfl), He.free_ok X G (c.fact 37 (f := .free "set") rfl), He.free_ok X G (c.fact 38 (f := .free "sorted") rfl), He.free_ok X G (c.fact 39 (f := .free "str") rfl), He.free_ok X G (c.fact 40 (f := .free "tuple") rfl)⟩
  have b := FunD.bindsA (ps := ["script"]) F fun _ _ _ _ _ _ us hl => match us, hl with | [_], _ => rfl
  refine ⟨fd, fun s v => b s [v] rfl, fun base _ _ => ?_⟩
  have g__law_draw : Ok P w K mg base 2 "_law_draw" F_draw := okMk F_15.kp m_15 (F_15.bindsN fun _ _ _ _ _ _ us hl => match us, hl with | [_, _], _ => rfl) F_draw_len (ok_draw F_15 F_14 m_14 T.n_int T.n_range T.n_len)
  have g_is_whole := ok_is_whole (P := P) (w := w) (base := base) T F_0 m_0
  have g_is_from := ok_is_from (P := P) (w := w) (base := base) T F_1 m_1 g_is_whole
  have g_rises := ok_rises (P := P) (w := w) (base := base) T F_2 m_2
  have g_is_rising_row := ok_is_rising_row (P := P) (w := w) (base := base) T F_3 m_3 g_is_from g_rises
  have g_is_named := ok_is_named (P := P) (w := w) (base := base) T F_4 m_4
  have g_joined := ok_joined (P := P) (w := w) (base := base) T F_5 m_5
  have g_is_net := ok_is_net (P := P) (w := w) (base := base) T F_6 m_6 g_is_rising_row g_joined
  have g_way_between := ok_way_between (P := P) (w := w) (base := base) T F_7 m_7
  have g_least_net := ok_least_net (P := P) (w := w) (base := base) T F_8 m_8 g_joined
  have g_cable_paper := ok_cable_paper (P := P) (w := w) (base := base) T F_9 m_9 g_least_net g_joined
  have g_check_cables := ok_check_cables (P := P) (w := w) (base := base) T F_10 m_10 g_is_named g_is_rising_row g_is_net g_way_between
  have g__law_is_integer := ok__law_is_integer (P := P) (w := w) (base := base) T F_11 m_11
  have g__law_same := ok__law_same (P := P) (w := w) (base := base) T F_12 m_12 12
  have g__law_bent := ok__law_bent (P := P) (w := w) (base := base) T F_16 m_16 g__law_draw g__law_is_integer 14
  have g__law_booled := ok__law_booled (P := P) (w := w) (base := base) T F_17 m_17 g__law_is_integer 14
  have g__law_listed := ok__law_listed (P := P) (w := w) (base := base) T F_18 m_18 12
  have g__law_odd_values := ok__law_odd_values (P := P) (w := w) (base := base) T F_19 m_19
  have g__law_is_up := ok__law_is_up (P := P) (w := w) (base := base) T F_20 m_20
  have g__law_is_row := ok__law_is_row (P := P) (w := w) (base := base) T F_21 m_21 g__law_is_integer
  have g__law_cables := ok__law_cables (P := P) (w := w) (base := base) T F_22 m_22 g__law_draw
  have g__law_together := ok__law_together (P := P) (w := w) (base := base) T F_23 m_23
  have g__law_is_cable_net := ok__law_is_cable_net (P := P) (w := w) (base := base) T F_24 m_24 g__law_is_row g__law_is_up g__law_together
  have g__law_right_cables := ok__law_right_cables (P := P) (w := w) (base := base) T F_25 m_25 g__law_is_row g__law_is_up g__law_is_cable_net g__law_together
  exact ok_law T F F_13 m_13 g__law_cables g_cable_paper g__law_listed g__law_booled g__law_draw g__law_together g__law_odd_values g__law_bent g__law_right_cables g__law_same g_check_cables good
end Ew
open PySem PySem.W PySem.Calls PyProof.Rows
theorem PySem.Challenge.cw_everyweather_k52_cable_papers_judged_holds : PySem.Challenge.rw_everyweather_k52_cable_papers_judged.Holds := by
  w_on; o_law
  refine HandSHeadRun.head_any (r := OpenLaw.row PySem.Challenge.rw_everyweather_k52_cable_papers_judged) (q := view (OpenLaw.row PySem.Challenge.rw_everyweather_k52_cable_papers_judged).prog [29]) (H := Ew.hk) (ob := Ew.ob) (M := 4000) (loose := Ew.loose) (d := HandSHeadRun.topDef (OpenLaw.row PySem.Challenge.rw_everyweather_k52_cable_papers_judged).prog 29) (kwd := []) Ew.ob_eq
    (by kernel_rfl) (fun s => by kernel_rfl) Ew.run (by kernel_rfl) (by kernel_rfl) (by kernel_rfl) (by rfl) (by first | assumption | decide +kernel) (by decide +kernel) ⟨rfl, rfl, rfl, rfl, rfl, by decide +kernel⟩ ?hw ?hc
  case hw => w_witness2
  case hc =>
    refine Ew.law_endsG (l := PySem.Challenge.rw_everyweather_k52_cable_papers_judged) (n := 63) (k := 18) (x := "script") rfl (by decide) (by kernel_rfl) ⟨rfl, by decide, by decide⟩ ?F
    intro w mg fa h Y G hmg0
    obtain ⟨K, KX, c, cx⟩ := Y
    have hmg : mg ("law" : PySem.Str) = some (.ref fa) := by
      have e : (HandSHeadRun.topDef (OpenLaw.row PySem.Challenge.rw_everyweather_k52_cable_papers_judged).prog 29).name = ("law" : PySem.Str) := by kernel_rfl
      rw [← e]
      exact hmg0
    obtain ⟨fd, hb, hF⟩ := Ew.facts (P := (PySem.Challenge.rw_everyweather_k52_cable_papers_judged).prog) (w := w) KX G hmg c cx
    exact ⟨K, fd, KX, hb, hF⟩

