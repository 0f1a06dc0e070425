import PyProof.Rows.All
import PyProof.EqLayable
import HandS.ForMost
import HandS.ForExc
import HandS.Flow
import HandS.Zip
import HandS.IsInst
import HandS.Deep
import HandS.TupAny
import HandS.TupMul
import HandS.Conv
import HandS.Strs
import HandS.HeadHook1
import HandS.SetFor
import KE.KTupSum
import KE.GoesEnum
import PyProof.Draws
import HandS.ExcIs
import HandS.TryOnly
import HandS.Text
import HandS.Replace
import KE.SortData
import KE.DataCmp
import KE.KIndexOf
import KE.KDictZip
import PyProof.ListNew
import HandS.TupSets
import PyProof.SeqIndex
import HandS.DictTup
import HandS.Ends
import HandS.More
import HandS.Words
import HandS.WordsExc
import HandS.Defaults
import HandS.Head0
import HandS.Head1
import HandS.Head2
import HandS.HeadEnd
import KE.KStateDown
import KE.BitLaws
import PyProof.P3Eq
import PySem.Challenge.RW_matesquare_k15_nothing_is_kept
set_option Elab.async false
set_option linter.all false
set_option maxRecDepth 100000
set_option maxHeartbeats 4000000
/-! part DLp -/
/-! DLp: pure denotations of a part of Python over plain data. -/
namespace DL
open PySem
abbrev D := PyData
/-- a result: a datum, an exception of a class of the module, or stuck (nothing is claimed) -/
inductive Rz (α : Type) where
  | ok (a : α) | ex (c : Str) | st
def Rz.bind {α β : Type} (r : Rz α) (f : α → Rz β) : Rz β := match r with
  | .ok a => f a | .ex c => .ex c | .st => .st
@[simp] theorem Rz.bind_ok {α β : Type} (a : α) (f : α → Rz β) : (Rz.ok a).bind f = f a := rfl
@[simp] theorem Rz.bind_ex {α β : Type} (c : Str) (f : α → Rz β) : (Rz.ex c : Rz α).bind f = .ex c := rfl
@[simp] theorem Rz.bind_st {α β : Type} (f : α → Rz β) : (Rz.st : Rz α).bind f = .st := rfl
/-- no exception may leave here -/
def Rz.nox {α : Type} : Rz α → Rz α
  | .ok a => .ok a | _ => .st
@[simp] theorem Rz.nox_ok {α : Type} (a : α) : (Rz.ok a).nox = .ok a := rfl
@[simp] theorem Rz.nox_ex {α : Type} (c : Str) : (Rz.ex c : Rz α).nox = .st := rfl
@[simp] theorem Rz.nox_st {α : Type} : (Rz.st : Rz α).nox = .st := rfl
abbrev En := List (Option D)
abbrev G := En → Rz D
abbrev GT := En → Rz Bool
abbrev GA := En → Rz (List D)
/-- the largest length that is served -/
def lim : Nat := 1000000
def toBl : D → Rz Bool
  | .bool b => .ok b | _ => .st
@[simp] theorem toBl_bool (b : Bool) : toBl (.bool b) = .ok b := rfl
def truth : D → Rz Bool
  | .none => .ok false | .bool b => .ok b | .int i => .ok (i != 0)
  | .str x => if x.length ≤ lim then .ok (x.length != 0) else .st
  | .list xs => .ok (!xs.isEmpty) | .tuple xs => .ok (!xs.isEmpty) | .dict _ => .st
/-- a list that is only read (the script) -/
abbrev ro (ns : List Int) : D := .dict [(.none, .list (ns.map .int))]

/-- a caught exception of the class c, at a -/
abbrev exD (a : Nat) (c : Str) : D := .dict [(.int a, .str c)]

/-! ### expressions -/
def gVar (i : Nat) : G := fun ρ => match ρ[i]? with
  | some (some d) => .ok d | _ => .st
def gC (d : D) : G := fun _ => .ok d
def g1 (op : D → Rz D) (a : G) : G := fun ρ => (a ρ).bind op
def g2 (op : D → D → Rz D) (a b : G) : G := fun ρ => (a ρ).bind fun x => (b ρ).bind fun y => op x y
def gChain (o1 o2 : D → D → Rz D) (a b c : G) : G := fun ρ => (a ρ).bind fun x => (b ρ).bind fun y => (o1 x y).bind fun z => (toBl z).bind fun k =>
  if k then (c ρ).bind fun w => o2 y w else .ok (.bool false)
def gNot (a : G) : G := fun ρ => (a ρ).bind fun x => (truth x).bind fun k => .ok (.bool !k)
def gAnd (a b : G) : G := fun ρ => (a ρ).bind fun x => (truth x).bind fun k => if k then b ρ else .ok x
def gOr (a b : G) : G := fun ρ => (a ρ).bind fun x => (truth x).bind fun k => if k then .ok x else b ρ
def gIfE (t : GT) (a b : G) : G := fun ρ => (t ρ).bind fun k => if k then a ρ else b ρ
def aNil : GA := fun _ => .ok []
def aCons (a : G) (as : GA) : GA := fun ρ => (a ρ).bind fun x => (as ρ).bind fun xs => .ok (x :: xs)
theorem aLen_nil {ρ : En} {ds : List D} (h : aNil ρ = .ok ds) : ds.length = 0 := by
  cases h
  rfl
theorem aLen_cons {a : G} {as : GA} {ρ : En} {ds : List D} (h : aCons a as ρ = .ok ds) {n : Nat} (k : ∀ es, as ρ = .ok es → es.length = n) : ds.length = n + 1 := by
  unfold aCons at h
  cases ha : a ρ with
  | ok x =>
    rw [ha] at h
    cases hb : as ρ with
    | ok xs =>
      rw [hb] at h
      cases h
      rw [List.length_cons, k xs hb]
    | ex c => rw [hb] at h; cases h
    | st => rw [hb] at h; cases h
  | ex c => rw [ha] at h; cases h
  | st => rw [ha] at h; cases h
def gTup (as : GA) : G := fun ρ => (as ρ).bind fun xs => if xs.length ≤ lim then .ok (.tuple xs) else .st
def gLst (as : GA) : G := fun ρ => (as ρ).bind fun xs => if xs.length ≤ lim then .ok (.list xs) else .st
def gCall (f : List D → Rz D) (as : GA) : G := fun ρ => (as ρ).bind f
/-! tests -/
def tVal (g : G) : GT := fun ρ => (g ρ).bind toBl
theorem Rz.bind_assoc {α β γ : Type} (r : Rz α) (f : α → Rz β) (g : β → Rz γ) : (r.bind f).bind g = r.bind fun a => (f a).bind g := by
  cases r <;> rfl
def tTru (a : G) : GT := fun ρ => (a ρ).bind truth
def tNt (t : GT) : GT := fun ρ => (t ρ).bind fun k => .ok !k
def tAn (t u : GT) : GT := fun ρ => (t ρ).bind fun k => if k then u ρ else .ok false
def tOrr (t u : GT) : GT := fun ρ => (t ρ).bind fun k => if k then .ok true else u ρ
def tCm (op : D → D → Rz D) (a b : G) : GT := fun ρ => (a ρ).bind fun x => (b ρ).bind fun y => (op x y).bind toBl
def tChn (o1 o2 : D → D → Rz D) (a b c : G) : GT := fun ρ => (gChain o1 o2 a b c ρ).bind toBl
def tYs : GT := fun _ => .ok true
/-! what is walked -/
def items : D → Rz (List D)
  | .list xs => .ok xs | .tuple xs => .ok xs
  | .str z => .ok (z.cps.toList.map fun c => .str ⟨#[c]⟩) | _ => .st
def iSeq (a : G) : GA := fun ρ => (a ρ).bind items
def sml (i : Int) : Bool := decide (-1000000 ≤ i) && decide (i ≤ 1000000)
def rng (i j : Int) : List D := (List.range (j - i).toNat).map fun (k : Nat) => .int (i + (k : Int))
def rngOf : List D → Rz (List D)
  | [.int j] => if sml j then .ok (rng 0 j) else .st
  | [.int i, .int j] => if sml i && sml j then .ok (rng i j) else .st
  | _ => .st
def iRg (as : GA) : GA := fun ρ => (as ρ).bind rngOf
def seqOf : D → Rz (List D)
  | .list xs => .ok xs | .tuple xs => .ok xs | _ => .st
/-- a tuple of which only its items are known (what zip and enumerate hand out) -/
abbrev wkD (ds : List D) : D := .dict [(.bool true, .list ds)]
def enumOf (xs : List D) : List D := (xs.zipIdx).map fun p => wkD [.int (p.2 : Nat), p.1]
def iEn (a : G) : GA := fun ρ => (a ρ).bind fun x => (seqOf x).bind fun xs => .ok (enumOf xs)
def zipOf (xs ys : List D) : List D := List.zipWith (fun x y => wkD [x, y]) xs ys
def zipD : D → D → Rz (List D)
  | .list xs, .list ys => .ok (zipOf xs ys) | .tuple xs, .tuple ys => .ok (zipOf xs ys) | _, _ => .st
def iZp (a b : G) : GA := fun ρ => (a ρ).bind fun x => (b ρ).bind fun y => zipD x y
/-! targets: the slots that are stored, and their data -/
structure TgD where
  is : List Nat
  f : D → Option (List D)
def tgN (i : Nat) : TgD := ⟨[i], fun d => some [d]⟩
def tgT (is : List Nat) : TgD := ⟨is, fun d => match d with
  | .tuple ds => if ds.length = is.length then some ds else none
  | .dict [(.bool true, .list ds)] => if ds.length = is.length then some ds else none | _ => none⟩
def setsE (ρ : En) : List Nat → List D → En
  | i :: is, d :: ds => setsE (ρ.set i (some d)) is ds
  | _, _ => ρ
def TgD.go (t : TgD) (d : D) (ρ : En) : Option En := (t.f d).map (setsE ρ t.is)
@[simp] theorem tgN_go (i : Nat) (d : D) (ρ : En) : (tgN i).go d ρ = some (ρ.set i (some d)) := rfl
/-! comprehensions -/
def wipeE (ρ : En) : List Nat → En
  | [] => ρ
  | v :: vs => (wipeE ρ vs).set v none
def lcGo (tg : TgD) (t : GT) (e : G) (ρ : En) : List D → Rz (List D)
  | [] => .ok []
  | d :: ds => match tg.go d ρ with
    | none => .st
    | some ρ1 => (t ρ1).nox.bind fun k => if k then (e ρ1).nox.bind fun y => (lcGo tg t e ρ ds).bind fun ys => .ok (y :: ys) else lcGo tg t e ρ ds
def gLc (it : GA) (tg : TgD) (t : GT) (e : G) (vs : List Nat) : G := fun ρ => (it ρ).bind fun xs => if xs.length ≤ lim then (lcGo tg t e (wipeE ρ vs) xs).bind fun ys => .ok (.list ys) else .st

/-! ### statements -/
inductive Out where
  | nx (ρ : En) | rt (d : D) | bk (ρ : En) | ct (ρ : En) | ex (c : Str) | st
def Rz.out {α : Type} (r : Rz α) (f : α → Out) : Out := match r with
  | .ok a => f a | .ex c => .ex c | .st => .st
@[simp] theorem Rz.out_ok {α : Type} (a : α) (f : α → Out) : (Rz.ok a).out f = f a := rfl
@[simp] theorem Rz.out_ex {α : Type} (c : Str) (f : α → Out) : (Rz.ex c : Rz α).out f = .ex c := rfl
@[simp] theorem Rz.out_st {α : Type} (f : α → Out) : (Rz.st : Rz α).out f = .st := rfl
abbrev GS := En → Out
def Out.andThen (o : Out) (u : GS) : Out := match o with
  | .nx ρ => u ρ | o => o
@[simp] theorem andThen_nx (ρ : En) (u : GS) : (Out.nx ρ).andThen u = u ρ := rfl
@[simp] theorem andThen_rt (d : D) (u : GS) : (Out.rt d).andThen u = .rt d := rfl
@[simp] theorem andThen_bk (ρ : En) (u : GS) : (Out.bk ρ).andThen u = .bk ρ := rfl
@[simp] theorem andThen_ct (ρ : En) (u : GS) : (Out.ct ρ).andThen u = .ct ρ := rfl
@[simp] theorem andThen_ex (c : Str) (u : GS) : (Out.ex c).andThen u = .ex c := rfl
@[simp] theorem andThen_st (u : GS) : (Out.st).andThen u = .st := rfl
def sNil : GS := fun ρ => .nx ρ
def sSeq (s u : GS) : GS := fun ρ => (s ρ).andThen u
/-- the names that are not owned -/
def mk (os : List Nat) (ρ : En) : En := wipeE ρ os
def sSet (os : List Nat) (tg : TgD) (a : G) : GS := fun ρ => (a (mk os ρ)).out fun d => match tg.go d ρ with
  | some ρ1 => .nx ρ1 | none => .st
def isSc : D → Bool
  | .none => true | .bool _ => true | .int _ => true | .str _ => true | _ => false
/-- a value without parts, told of owned things too -/
def gSc (a : G) : G := fun ρ => (a ρ).bind fun d => if isSc d then .ok d else .st
def sSetB (i : Nat) (a : G) : GS := fun ρ => (gSc a ρ).out fun d => .nx (ρ.set i (some d))
/-- a, b = e, f -/
def sPar (os : List Nat) (i j : Nat) (a : GA) : GS := fun ρ => (a (mk os ρ)).out fun ds => match ds with
  | [d, e] => .nx ((ρ.set i (some d)).set j (some e)) | _ => .st
def sRet (a : G) : GS := fun ρ => (a ρ).out .rt
def sRetN : GS := fun _ => .rt .none
def sIf (t : GT) (a b : GS) : GS := fun ρ => (t ρ).out fun k => if k then a ρ else b ρ
def sRaise (c : Str) : GS := fun _ => .ex c
def sExpr (os : List Nat) (a : G) : GS := fun ρ => (a (mk os ρ)).out fun _ => .nx ρ
def sBrk : GS := fun ρ => .bk ρ
def forGo (tg : TgD) (b : GS) : List D → En → Out
  | [], ρ => .nx ρ
  | d :: ds, ρ => match tg.go d ρ with
    | none => .st
    | some ρ1 => match b ρ1 with
      | .nx ρ2 => forGo tg b ds ρ2 | .ct ρ2 => forGo tg b ds ρ2 | .bk ρ2 => .nx ρ2
      | .rt d => .rt d | .ex c => .ex c | .st => .st
def sFor (os : List Nat) (it : GA) (tg : TgD) (b : GS) : GS := fun ρ => (it (mk os ρ)).out fun xs => forGo tg b xs ρ
def whileGo (t : GT) (b : GS) : Nat → En → Out
  | 0, _ => .st
  | n + 1, ρ => (t ρ).out fun k => if k then match b ρ with
      | .nx ρ2 => whileGo t b n ρ2 | .ct ρ2 => whileGo t b n ρ2 | .bk ρ2 => .nx ρ2
      | .rt d => .rt d | .ex c => .ex c | .st => .st
    else .nx ρ
def sWhile (n : Nat) (t : GT) (b : GS) : GS := fun ρ => whileGo t b n ρ
/-- x.append(e), x.extend(e): x owned in slot i -/
def sApp (os : List Nat) (i : Nat) (a : G) : GS := fun ρ => match ρ[i]? with
  | some (some (.list xs)) => (a (mk os ρ)).out fun d => if xs.length < lim then .nx (ρ.set i (some (.list (xs ++ [d])))) else .st
  | _ => .st
def sExt (os : List Nat) (i : Nat) (a : G) : GS := fun ρ => match ρ[i]? with
  | some (some (.list xs)) => (a (mk os ρ)).out fun d => match d with
    | .list ys => if xs.length + ys.length ≤ lim then .nx (ρ.set i (some (.list (xs ++ ys)))) else .st
    | _ => .st
  | _ => .st
/-- place of an index -/
def ixD (n : Nat) (i : Int) : Option Nat := if 0 ≤ i then (if i < n then some i.toNat else none) else if -(n : Int) ≤ i then some (i + n).toNat else none
def ixR (n : Nat) (k : D) : Option Nat := match k with
  | .int k => ixD n k | _ => none
/-- x[j] = e: x owned in slot i -/
def sPut (os : List Nat) (i : Nat) (j a : G) : GS := fun ρ => (a (mk os ρ)).out fun d => match ρ[i]? with
  | some (some (.list xs)) => (gSc j ρ).out fun k => match ixR xs.length k with
    | some p => .nx (ρ.set i (some (.list (xs.set p d)))) | none => .st
  | _ => .st
/-- x[j][k] = e: x, a list of lists, owned in slot i; e without parts -/
def sPut2 (i : Nat) (j k a : G) : GS := fun ρ => (gSc a ρ).out fun d => match ρ[i]? with
  | some (some (.list xs)) => (gSc j ρ).out fun jj => match ixR xs.length jj with
    | some p => (match xs[p]? with
      | some (.list ys) => (gSc k ρ).out fun kk => (match ixR ys.length kk with
        | some q => .nx (ρ.set i (some (.list (xs.set p (.list (ys.set q d)))))) | none => .st)
      | _ => .st)
    | none => .st
  | _ => .st
/-- the value of a def's body -/
def Out.rz : Out → Rz D
  | .rt d => .ok d | .nx _ => .ok .none | .ex c => .ex c | _ => .st
@[simp] theorem rz_rt (d : D) : (Out.rt d).rz = .ok d := rfl
@[simp] theorem rz_nx (ρ : En) : (Out.nx ρ).rz = .ok .none := rfl
@[simp] theorem rz_ex (c : Str) : (Out.ex c).rz = .ex c := rfl
@[simp] theorem rz_st : (Out.st).rz = .st := rfl
def startE (n : Nat) (ds : List D) : En := ds.map some ++ List.replicate (n - ds.length) none

/-! ### operators -/
def orSt {α : Type} : Option α → Rz α
  | some a => .ok a | none => .st
@[simp] theorem orSt_some {α : Type} (a : α) : orSt (some a) = .ok a := rfl
@[simp] theorem orSt_none {α : Type} : orSt (none : Option α) = .st := rfl
def intsD : List D → Option (List Int)
  | [] => some []
  | .int i :: r => (intsD r).map (i :: ·)
  | _ => none

def dAdd : D → D → Rz D
  | .int i, .int j => .ok (.int (i + j))
  | .str a, .str b => if a.length + b.length ≤ lim then .ok (.str (a ++ b)) else .st
  | .list a, .list b => if a.length + b.length ≤ lim then .ok (.list (a ++ b)) else .st
  | .tuple a, .tuple b => if a.length + b.length ≤ lim then .ok (.tuple (a ++ b)) else .st
  | _, _ => .st
def dSub : D → D → Rz D
  | .int i, .int j => .ok (.int (i - j)) | _, _ => .st
def dMul : D → D → Rz D
  | .int i, .int j => if (sml i || sml j) then .ok (.int (i * j)) else .st
  | .list a, .int k => if sml k && decide (a.length * k.toNat ≤ lim) then .ok (.list (List.replicate k.toNat a).flatten) else .st
  | .tuple a, .int k => if decide (1 ≤ a.length) && decide (a.length ≤ 1000) && decide (2 ≤ k) && decide (k ≤ 1000) then .ok (.tuple (List.replicate k.toNat a).flatten) else .st
  | _, _ => .st
def dMod : D → D → Rz D
  | .int i, .int j => if 0 < j then .ok (.int (i % j)) else .st | _, _ => .st
def dFdv : D → D → Rz D
  | .int i, .int j => if decide (0 < j) && decide (j ≤ 1000000) then .ok (.int (i / j)) else .st | _, _ => .st
def dShl : D → D → Rz D
  | .int i, .int j => if decide (0 ≤ j) && decide (j ≤ 1000) && sml i then .ok (.int (i * 2 ^ j.toNat)) else .st | _, _ => .st
def dShr : D → D → Rz D
  | .int i, .int j => if 0 ≤ j then .ok (.int (i / 2 ^ j.toNat)) else .st | _, _ => .st
def dAndB : D → D → Rz D
  | .int i, .int j => .ok (.int (Builtin.bitAnd i j)) | _, _ => .st
def dNeg : D → Rz D
  | .int i => .ok (.int (-i)) | _ => .st
def dLt : D → D → Rz D
  | .int i, .int j => .ok (.bool (decide (i < j))) | _, _ => .st
def dLe : D → D → Rz D
  | .int i, .int j => .ok (.bool (decide (i ≤ j))) | _, _ => .st
def dGt : D → D → Rz D
  | .int i, .int j => .ok (.bool (decide (j < i))) | _, _ => .st
def dGe : D → D → Rz D
  | .int i, .int j => .ok (.bool (decide (j ≤ i))) | _, _ => .st
def dEq (d e : D) : Rz D := if SeqAt.shaped d && SeqAt.shaped e then .ok (.bool (PyData.eqv d e)) else .st
def dNe (d e : D) : Rz D := if SeqAt.shaped d && SeqAt.shaped e then .ok (.bool (!PyData.eqv d e)) else .st
def dIsN : D → Rz D
  | .none => .ok (.bool true) | _ => .ok (.bool false)
def dNotN : D → Rz D
  | .none => .ok (.bool false) | _ => .ok (.bool true)
def dIn (d e : D) : Rz D := match e with
  | .list ds => if SeqAt.shaped d && SeqAt.shaped (.list ds) then .ok (.bool (ds.any fun z => PyData.eqv z d)) else .st
  | .tuple ds => (match d with
    | .int i => (orSt (intsD ds)).bind fun ns => .ok (.bool (ns.contains i)) | _ => .st)
  | _ => .st
def dNotIn (d e : D) : Rz D := match e with
  | .list ds => if SeqAt.shaped d && SeqAt.shaped (.list ds) then .ok (.bool (!ds.any fun z => PyData.eqv z d)) else .st
  | .tuple ds => (match d with
    | .int i => (orSt (intsD ds)).bind fun ns => .ok (.bool (!ns.contains i)) | _ => .st)
  | .str z => (match d with
    | .str x => if x.cps.size = 1 then .ok (.bool (!decide (x.cps.getD 0 0 ∈ z.cps.toList))) else .st | _ => .st)
  | _ => .st
def atD {α : Type} (xs : List α) (i : Int) : Option α := (ixD xs.length i).bind fun j => xs[j]?
def dIx : D → D → Rz D
  | .list xs, .int i => orSt (atD xs i) | .tuple xs, .int i => orSt (atD xs i)
  | .str z, .int i => if z.length ≤ lim then orSt ((atD z.cps.toList i).map fun c => .str ⟨#[c]⟩) else .st
  | .dict [(.none, .list ns)], .int i => orSt (atD ns i)
  | _, _ => .st
/-- a part of a slice -/
abbrev GO := En → Rz (Option Int)
def oNo : GO := fun _ => .ok none
def oSm (a : G) : GO := fun ρ => (a ρ).bind fun d => match d with
  | .int i => .ok (some i) | _ => .st
def sIxD (n d : Nat) : Option Int → Nat
  | none => d
  | some i => if 0 ≤ i then min i.toNat n else (i + n).toNat
def cutD {α : Type} (xs : List α) (lo hi : Option Int) : List α := (xs.drop (sIxD xs.length 0 lo)).take (sIxD xs.length xs.length hi - sIxD xs.length 0 lo)
def dSl : D → Option Int → Option Int → Rz D
  | .list xs, lo, hi => .ok (.list (cutD xs lo hi)) | .tuple xs, lo, hi => .ok (.tuple (cutD xs lo hi))
  | .str z, lo, hi => if z.length ≤ lim then .ok (.str ⟨(cutD z.cps.toList lo hi).toArray⟩) else .st | _, _, _ => .st
def gSl (a : G) (lo hi : GO) : G := fun ρ => (a ρ).bind fun x => (lo ρ).bind fun l => (hi ρ).bind fun h => dSl x l h
/-! built-ins -/
def dLen : D → Rz D
  | .list xs => .ok (.int xs.length) | .tuple xs => .ok (.int xs.length)
  | .str z => if z.length ≤ lim then .ok (.int z.length) else .st | .dict [(.none, .list ns)] => .ok (.int ns.length) | _ => .st
def dTuple : D → Rz D
  | .list xs => .ok (.tuple xs) | .tuple xs => .ok (.tuple xs) | _ => .st
def dList : D → Rz D
  | .list xs => .ok (.list xs) | .tuple xs => .ok (.list xs) | _ => .st
def dSum : D → Rz D
  | .list xs => (orSt (intsD xs)).bind fun ns => .ok (.int ns.sum) | .tuple xs => (orSt (intsD xs)).bind fun ns => .ok (.int ns.sum) | _ => .st
/-- the distinct ones, in the order in which they are met -/
def addU (l : List Int) (x : Int) : List Int := if l.any (· == x) then l else l ++ [x]
def uniqI (l : List Int) : List Int := l.foldl addU []
def dLenSet : D → Rz D
  | .list xs => (orSt (intsD xs)).bind fun ns => if ns.length ≤ 1000 then .ok (.int (uniqI ns).length) else .st
  | .tuple xs => (orSt (intsD xs)).bind fun ns => if ns.length ≤ 1000 then .ok (.int (uniqI ns).length) else .st
  | _ => .st
def dMax : List D → Rz D
  | [.int i, .int j] => .ok (.int (if i < j then j else i)) | _ => .st
def dAbs : D → Rz D
  | .int i => .ok (.int (if i < 0 then -i else i)) | _ => .st
def tyD : D → String
  | .none => "NoneType" | .bool _ => "bool" | .int _ => "int" | .str _ => "str" | .list _ => "list" | .tuple _ => "tuple" | .dict _ => "dict"
def subTy (a b : String) : Bool := a == b || (a == "bool" && b == "int")
def dIsi (T : String) : D → Rz D
  | .dict _ => .st | d => .ok (.bool (subTy (tyD d) T))
def on1 (op : D → Rz D) : List D → Rz D
  | [d] => op d | _ => .st
/-- list(range(..)), tuple(range(..)) -/
def gListRg (as : GA) : G := fun ρ => (iRg as ρ).bind fun xs => .ok (.list xs)
def gTupRg (as : GA) : G := fun ρ => (iRg as ρ).bind fun xs => .ok (.tuple xs)
/-- [..] * n -/
def dRep (x y : D) : Rz D := match x with
  | .list xs => dMul (.list xs) y | _ => .st
/-- is an exception of the class c one of X? -/
def subN (c X : Str) : Bool := X == c || X == "SquareError" || X == "ValueError"
def dIsE (a : Nat) (c X : Str) : D → Rz D
  | .dict [(.int b, .str d)] => if b = (a : Int) ∧ d = c then .ok (.bool (subN c X)) else .st | _ => .st
/-- what is left of slot i is nothing -/
def dropE (i : Nat) : Out → Out
  | .nx ρ => .nx (ρ.set i none) | .bk ρ => .bk (ρ.set i none) | .ct ρ => .ct (ρ.set i none) | .rt d => .rt d | _ => .st
/-- try: b; except S as x: su (x in slot i; cl: the classes that may come; sub: which of them S takes) -/
def sTry (cl : List Str) (S : Str) (i : Nat) (b : GS) (su : Nat → Str → GS) : GS := fun ρ => match b ρ with
  | .ex c => if cl.contains c then (if subN c S then dropE i (su 0 c ((List.replicate ρ.length none).set i (some (exD 0 c)))) else .ex c) else .st
  | o => o
/-- try: b; except S: su, without a name -/
def noEx : Out → Out
  | .ex _ => .st | o => o
def sTry0 (cl : List Str) (S : Str) (b : GS) (su : GS) : GS := fun ρ => match b ρ with
  | .ex c => if cl.contains c then (if subN c S then noEx (su (List.replicate ρ.length none)) else .ex c) else .st
  | o => o
/-- o.m(e): what o is, is seen first -/
def gM (k : D → Bool) (op : D → D → Rz D) (a b : G) : G := fun ρ => (a ρ).bind fun x => if k x then (b ρ).bind fun y => op x y else .st
def isStrD : D → Bool
  | .str _ => true | _ => false
def isLstD : D → Bool
  | .list _ => true | _ => false
def isTupD : D → Bool
  | .tuple _ => true | _ => false
/-- a statement that the facts never reach -/
def sNever : GS := fun _ => .st
end DL
/-! part DLs -/
/-! DLs: the denotations are kept by the hand layer's readings. -/
namespace DL
open PySem PySem.Spec PyProof.Rows L2
abbrev St := L2.St

/-! ### data in the heap -/
/-- a tuple that stands as it was made, without a dict of its own -/
def FzT (H : Hp) (a : Addr) (xs : List V) : Prop := ∃ o : Obj, H a = some (.frz o (.tup xs)) ∧ o.dict = none
theorem FzT.sq {K : PySem.W.Frag} {H : Hp} {a : Addr} {xs : List V} (h : FzT H a xs) : SqT K H a xs := by
  obtain ⟨o, h, _⟩ := h
  exact .inl (.inr ⟨o, h⟩)
theorem fz_same {H H' : Hp} {a : Addr} {xs : List V} (e : Same H H') (h : FzT H a xs) : FzT H' a xs := by
  obtain ⟨o, h, d⟩ := h
  exact ⟨o, e _ _ h, d⟩
theorem FzT.at {H : Hp} {a : Addr} {xs : List V} {o : Obj} (d : o.dict = none) : FzT (L2.upd H a (.frz o (.tup xs))) a xs := ⟨o, upd_same, d⟩
/-- a dict whose keys are tuples of ints, the keys as they stand -/
abbrev EnF := List Int × Addr × Value
def ent0 (x : EnF) : DictEntry := ⟨reduceHash (Builtin.Tuple.tupleHashOf (x.1.map hashInt)), .ref x.2.1, x.2.2⟩
def df0Ok (a : Addr) (xs : List EnF) (h : Heap) : Prop :=
  (a == sysModules) = false ∧ xs.length ≤ sizeLine ∧ ∃ o es ep, h.get? a = some o ∧ o.ExactDict ∧ o.data = .dict es ep ∧ es.toList = xs.map ent0 ∧ (xs.map (·.1)).Nodup
def df0 (a : Addr) (xs : List EnF) : HO := .ext (df0Ok a xs)
abbrev dctD (ks : List (List Int)) (ds : List D) : D := .dict [(.bool false, .list (ks.map fun k => .tuple (k.map .int))), (.bool false, .list ds)]
/-- an instance of Matcher: choices, held -/
abbrev matD (d : D) (kvs : List (Int × Int)) : D := .dict [(.none, .none), (.none, d), (.none, .list (kvs.map fun q => .tuple [.int q.1, .int q.2]))]
abbrev heldV (kvs : List (Int × Int)) : List (L2.Key × V) := kvs.map fun q => (Sum.inl q.1, V.int q.2)
abbrev matFs (vc : V) (h : Addr) : List (Str × V) := [("choices", vc), ("held", .ref h)]
mutual
inductive Dr (K : PySem.W.Frag) (H : Hp) : V → D → Prop
  | non : Dr K H .non .none
  | bl (b : Bool) : Dr K H (.bl b) (.bool b)
  | int (i : Int) : Dr K H (.int i) (.int i)
  | str (x : Str) : Dr K H (.str x) (.str x)
  | lst {a : Addr} {xs : List V} {ds : List D} : H a = some (.lst xs) → DrAll K H xs ds → Dr K H (.ref a) (.list ds)
  | tup {a : Addr} {xs : List V} {ds : List D} : FzT H a xs → DrAll K H xs ds → Dr K H (.ref a) (.tuple ds)
  | wk {a : Addr} {xs : List V} {ds : List D} : SqT K H a xs → DrAll K H xs ds → Dr K H (.ref a) (wkD ds)
  | ro {a : Addr} {ns : List Int} : SqL K H a (ns.map .int) → Dr K H (.ref a) (ro ns)
  | exc (a : Addr) (c : Str) : Dr K H (.ref a) (exD a c)
  | dct {a : Addr} {xs : List EnF} {vs : List V} {ds : List D} : H a = some (df0 a xs) → (∀ x ∈ xs, FzT H x.2.1 (x.1.map V.int)) → Vals vs (xs.map fun x => x.2.2) → DrAll K H vs ds → Dr K H (.ref a) (dctD (xs.map (·.1)) ds)
  | mat {p dx h : Addr} {vc : V} {dc : D} {kvs : List (Int × Int)} : H p = some (.ins (He.ga K "Matcher") dx (matFs vc h)) → H dx = some (.own p) → H h = some (.dK (heldV kvs)) → Dr K H vc dc → Dr K H (.ref p) (matD dc kvs)
inductive DrAll (K : PySem.W.Frag) (H : Hp) : List V → List D → Prop
  | nil : DrAll K H [] []
  | cons {v : V} {vs : List V} {d : D} {ds : List D} : Dr K H v d → DrAll K H vs ds → DrAll K H (v :: vs) (d :: ds)
end
theorem sqT_same {K : PySem.W.Frag} {H H' : Hp} {a : Addr} {xs : List V} (e : Same H H') (h : SqT K H a xs) : SqT K H' a xs := by
  rcases h with (h | ⟨o, h⟩) | h
  · exact .inl (.inl (e _ _ h))
  · exact .inl (.inr ⟨o, e _ _ h⟩)
  · exact .inr h
mutual
theorem Dr.same {K : PySem.W.Frag} {H H' : Hp} (e : Same H H') : ∀ {d : D} {v : V}, Dr K H v d → Dr K H' v d
  | _, _, .non => .non
  | _, _, .bl b => .bl b
  | _, _, .int i => .int i
  | _, _, .str x => .str x
  | _, _, .lst h a => .lst (e _ _ h) (DrAll.same e a)
  | _, _, .tup h a => .tup (fz_same e h) (DrAll.same e a)
  | _, _, .wk h a => .wk (sqT_same e h) (DrAll.same e a)
  | _, _, .ro h => .ro (e.seq h)
  | _, _, .exc a c => .exc a c
  | _, _, .dct h k r a => .dct (e _ _ h) (fun x hx => fz_same e (k x hx)) r (DrAll.same e a)
  | _, _, .mat h1 h2 h3 a => .mat (e _ _ h1) (e _ _ h2) (e _ _ h3) (Dr.same e a)
theorem DrAll.same {K : PySem.W.Frag} {H H' : Hp} (e : Same H H') : ∀ {ds : List D} {vs : List V}, DrAll K H vs ds → DrAll K H' vs ds
  | _, _, .nil => .nil
  | _, _, .cons h a => .cons (Dr.same e h) (DrAll.same e a)
end
theorem DrAll.len {K : PySem.W.Frag} {H : Hp} : ∀ {ds : List D} {vs : List V}, DrAll K H vs ds → vs.length = ds.length
  | _, _, .nil => rfl
  | _, _, .cons _ a => by simp [DrAll.len a]
theorem DrAll.get {K : PySem.W.Frag} {H : Hp} : ∀ {ds : List D} {vs : List V} {i : Nat} {d : D}, DrAll K H vs ds → ds[i]? = some d → ∃ v, vs[i]? = some v ∧ Dr K H v d
  | _, _, _, _, .nil, e => by simp at e
  | _, _, 0, _, .cons h _, e => by
    simp at e
    subst e
    exact ⟨_, rfl, h⟩
  | _, _, i + 1, d, .cons _ a, e => by
    obtain ⟨v, h1, h2⟩ := DrAll.get (i := i) (d := d) a (by simpa using e)
    exact ⟨v, by simpa using h1, h2⟩
theorem DrAll.append {K : PySem.W.Frag} {H : Hp} : ∀ {ds es : List D} {vs us : List V}, DrAll K H vs ds → DrAll K H us es → DrAll K H (vs ++ us) (ds ++ es)
  | _, _, _, _, .nil, b => b
  | _, _, _, _, .cons h a, b => .cons h (DrAll.append a b)
theorem DrAll.set {K : PySem.W.Frag} {H : Hp} {v : V} {d : D} (h : Dr K H v d) : ∀ {ds : List D} {vs : List V} (i : Nat), DrAll K H vs ds → DrAll K H (vs.set i v) (ds.set i d)
  | _, _, _, .nil => .nil
  | _, _, 0, .cons _ a => .cons h a
  | _, _, i + 1, .cons q a => .cons q (DrAll.set h i a)
theorem DrAll.drop {K : PySem.W.Frag} {H : Hp} : ∀ {ds : List D} {vs : List V} (n : Nat), DrAll K H vs ds → DrAll K H (vs.drop n) (ds.drop n)
  | _, _, 0, a => a
  | _, _, _ + 1, .nil => .nil
  | _, _, n + 1, .cons _ a => DrAll.drop n a
theorem DrAll.take {K : PySem.W.Frag} {H : Hp} : ∀ {ds : List D} {vs : List V} (n : Nat), DrAll K H vs ds → DrAll K H (vs.take n) (ds.take n)
  | _, _, 0, _ => .nil
  | _, _, _ + 1, .nil => .nil
  | _, _, n + 1, .cons h a => .cons h (DrAll.take n a)
theorem DrAll.flat {K : PySem.W.Frag} {H : Hp} {ds : List D} {vs : List V} (a : DrAll K H vs ds) : ∀ n : Nat, DrAll K H (List.replicate n vs).flatten (List.replicate n ds).flatten
  | 0 => .nil
  | n + 1 => by
    rw [List.replicate_succ, List.replicate_succ, List.flatten_cons, List.flatten_cons]
    exact a.append (DrAll.flat a n)
theorem DrAll.intsA {K : PySem.W.Frag} {H : Hp} : ∀ (ns : List Int), DrAll K H (ns.map .int) (ns.map .int)
  | [] => .nil
  | n :: r => .cons (.int n) (DrAll.intsA r)
theorem intsD_map : ∀ {ds : List D} {ns : List Int}, intsD ds = some ns → ds = ns.map .int
  | [], ns, h => by
    simp [intsD] at h
    subst h
    rfl
  | .int i :: r, ns, h => by
    simp only [intsD, Option.map_eq_some_iff] at h
    obtain ⟨ms, h1, rfl⟩ := h
    rw [intsD_map h1]
    rfl
  | .none :: _, _, h => by simp [intsD] at h
  | .bool _ :: _, _, h => by simp [intsD] at h
  | .str _ :: _, _, h => by simp [intsD] at h
  | .list _ :: _, _, h => by simp [intsD] at h
  | .tuple _ :: _, _, h => by simp [intsD] at h
  | .dict _ :: _, _, h => by simp [intsD] at h
theorem DrAll.of_ints {K : PySem.W.Frag} {H : Hp} : ∀ {ns : List Int} {vs : List V}, DrAll K H vs (ns.map .int) → vs = ns.map .int
  | [], _, .nil => rfl
  | _ :: _, _, .cons h a => by
    cases h
    rw [DrAll.of_ints a]
    rfl
mutual
theorem Dr.dp {K : PySem.W.Frag} {H : Hp} : ∀ {d : D} {v : V}, Dr K H v d → d.canLay0 = true → Dp K H v d
  | _, _, .non, _ => .non
  | _, _, .bl b, _ => .bl b
  | _, _, .int i, _ => .int i
  | _, _, .str x, _ => .str x
  | _, _, .lst h a, q => .lst (SqL.of h) (DrAll.dp a (by simpa [PyData.canLay0] using q))
  | _, _, .wk _ _, q => by simp [PyData.canLay0] at q
  | _, _, .tup h a, q => .tup h.sq (DrAll.dp a (by simpa [PyData.canLay0] using q))
  | _, _, .ro _, q => by simp [PyData.canLay0] at q
  | _, _, .exc _ _, q => by simp [PyData.canLay0] at q
  | _, _, .dct _ _ _ _, q => by simp [PyData.canLay0] at q
  | _, _, .mat _ _ _ _, q => by simp [PyData.canLay0] at q
theorem DrAll.dp {K : PySem.W.Frag} {H : Hp} : ∀ {ds : List D} {vs : List V}, DrAll K H vs ds → PyData.canLayAll0 ds = true → DpAll K H vs ds
  | _, _, .nil, _ => .nil
  | _, _, .cons h a, q => by
    simp [PyData.canLayAll0] at q
    exact .cons (Dr.dp h q.1) (DrAll.dp a q.2)
end

/-! ### how the heap grows: F the part that is read, H the whole -/
structure Ext (F H F' H' : Hp) : Prop where
  hh : Same H H'
  ff : Same F F'
  fh : Same F' H'
  nf : ∀ a o, H a = some o → F a = none → F' a = none
  s0 : Same F H
theorem Ext.refl {F H : Hp} (h : Same F H) : Ext F H F H := ⟨Same.refl _, Same.refl _, h, fun _ _ _ z => z, h⟩
theorem Ext.trans {F H F1 H1 F2 H2 : Hp} (a : Ext F H F1 H1) (b : Ext F1 H1 F2 H2) : Ext F H F2 H2 :=
  ⟨a.hh.trans b.hh, a.ff.trans b.ff, b.fh, fun c o e n => b.nf c o (a.hh c o e) (a.nf c o e n), a.s0⟩
theorem same_upd {H : Hp} {p : Addr} {o : HO} (h : H p = none) : Same H (upd H p o) := fun b x e => by
  rw [upd_ne (ne_of_none e h)]
  exact e
theorem same_upd2 {F H : Hp} {p : Addr} {o : HO} (h : Same F H) : Same (upd F p o) (upd H p o) := fun b x e => by
  by_cases hb : b = p
  · subst hb
    rw [upd_same] at e ⊢
    exact e
  · rw [upd_ne hb] at e ⊢
    exact h _ _ e
theorem Ext.new {F H : Hp} {p : Addr} {o : HO} (h : Same F H) (n : H p = none) : Ext F H (upd F p o) (upd H p o) :=
  ⟨same_upd n, same_upd (h.free n), same_upd2 h, fun a u e z => by rw [upd_ne (ne_of_none e n)]; exact z, h⟩

/-- what is wanted behind an evaluation -/
def Po {α β : Type} (Rel : Hp → α → β → Prop) (mg : Str → Option Value) (W : WX) (σ : St) (F H : Hp) (r : Rz β) (Q : α → Hp → Prop) : Prop :=
  match r with
  | .ok d => ∀ v F' H', Ext F H F' H' → Rel F' v d → Q v H'
  | .ex c => ∀ C H', Same H H' → mg c = some (.ref C) → W (.ref C) none σ H'
  | .st => False
section
variable {α β γ δ : Type} {mg : Str → Option Value} {W : WX} {σ : St} {F H F' H' : Hp}
theorem Po.ext {Rel : Hp → α → β → Prop} {r : Rz β} {Q : α → Hp → Prop} (h : Po Rel mg W σ F H r Q) (e : Ext F H F' H') : Po Rel mg W σ F' H' r Q := by
  cases r with
  | ok d => exact fun v F2 H2 e2 q => h v F2 H2 (e.trans e2) q
  | ex c => exact fun C H2 s m => h C H2 (e.hh.trans s) m
  | st => exact h
theorem Po.bind {RelA : Hp → α → β → Prop} {RelB : Hp → γ → δ → Prop} {r : Rz β} {f : β → Rz δ} {Q : γ → Hp → Prop} {R : α → Hp → Prop} (h : Po RelB mg W σ F H (r.bind f) Q)
    (k : ∀ d v F' H', Ext F H F' H' → RelA F' v d → Po RelB mg W σ F' H' (f d) Q → R v H') : Po RelA mg W σ F H r R := by
  cases r with
  | ok d => exact fun v F2 H2 e q => k d v F2 H2 e q (Po.ext (r := f d) h e)
  | ex c => exact h
  | st => exact h
theorem Po.ok {Rel : Hp → α → β → Prop} {d : β} {v : α} {Q : α → Hp → Prop} (h : Po Rel mg W σ F H (.ok d) Q) (e : Ext F H F' H') (q : Rel F' v d) : Q v H' := h v F' H' e q
theorem Po.okh {Rel : Hp → α → β → Prop} {d : β} {v : α} {Q : α → Hp → Prop} (h : Po Rel mg W σ F H (.ok d) Q) (s : Same F H) (q : Rel F v d) : Q v H := h v F H (Ext.refl s) q
theorem Po.orSt {Rel : Hp → α → β → Prop} {o : Option δ} {f : δ → Rz β} {Q : α → Hp → Prop} (h : Po Rel mg W σ F H ((DL.orSt o).bind f) Q) : ∃ d, o = some d ∧ Po Rel mg W σ F H (f d) Q := by
  cases o with
  | none => exact False.elim h
  | some d => exact ⟨d, rfl, h⟩
theorem Po.ifst {Rel : Hp → α → β → Prop} {c : Prop} [Decidable c] {r : Rz β} {Q : α → Hp → Prop} (h : Po Rel mg W σ F H (if c then r else .st) Q) : c ∧ Po Rel mg W σ F H r Q := by
  by_cases hc : c
  · rw [if_pos hc] at h
    exact ⟨hc, h⟩
  · rw [if_neg hc] at h
    exact h.elim
theorem Po.nox {Rel : Hp → α → β → Prop} {r : Rz β} {Q : α → Hp → Prop} (h : Po Rel mg W σ F H r.nox Q) : Po Rel mg (fun _ _ _ _ => False) σ F H r Q := by
  cases r with
  | ok d => exact h
  | ex c => exact h.elim
  | st => exact h
end
abbrev BRel : Hp → Bool → Bool → Prop := fun _ v d => v = d
/-- the names' values -/
structure Vr (K : PySem.W.Frag) (F : Hp) (σ : St) (ρ : En) : Prop where
  len : σ.length = ρ.length
  get : ∀ (i : Nat) (d : D), ρ[i]? = some (some d) → ∃ v, σ[i]? = some (some v) ∧ Dr K F v d
theorem Vr.same {K : PySem.W.Frag} {F F' : Hp} {σ : St} {ρ : En} (h : Vr K F σ ρ) (e : Same F F') : Vr K F' σ ρ := ⟨h.len, fun i d q => let ⟨v, h1, h2⟩ := h.get i d q; ⟨v, h1, h2.same e⟩⟩
theorem Vr.set {K : PySem.W.Frag} {F : Hp} {σ : St} {ρ : En} {v : V} {d : D} (h : Vr K F σ ρ) (i : Nat) (q : Dr K F v d) : Vr K F (σ.set i (some v)) (ρ.set i (some d)) := by
  refine ⟨by rw [List.length_set, List.length_set, h.len], fun j e hj => ?_⟩
  by_cases hij : i = j
  · subst hij
    by_cases hl : i < ρ.length
    · rw [List.getElem?_set_self hl] at hj
      cases hj
      exact ⟨v, List.getElem?_set_self (by rw [h.len]; exact hl), q⟩
    · rw [List.getElem?_eq_none (by rw [List.length_set]; omega)] at hj
      cases hj
  · rw [List.getElem?_set_ne hij] at hj ⊢
    exact h.get j e hj
theorem Vr.unset {K : PySem.W.Frag} {F : Hp} {σ : St} {ρ : En} (h : Vr K F σ ρ) (i : Nat) : Vr K F (σ.set i none) (ρ.set i none) := by
  refine ⟨by rw [List.length_set, List.length_set, h.len], fun j e hj => ?_⟩
  by_cases hij : i = j
  · subst hij
    by_cases hl : i < ρ.length
    · rw [List.getElem?_set_self hl] at hj
      cases hj
    · rw [List.getElem?_eq_none (by rw [List.length_set]; omega)] at hj
      cases hj
  · rw [List.getElem?_set_ne hij] at hj ⊢
    exact h.get j e hj
theorem Vr.mask {K : PySem.W.Frag} {F : Hp} {σ : St} {ρ : En} (h : Vr K F σ ρ) (i : Nat) : Vr K F σ (ρ.set i none) := by
  refine ⟨by rw [List.length_set, h.len], fun j e hj => ?_⟩
  by_cases hij : i = j
  · subst hij
    by_cases hl : i < ρ.length
    · rw [List.getElem?_set_self hl] at hj
      cases hj
    · rw [List.getElem?_eq_none (by rw [List.length_set]; omega)] at hj
      cases hj
  · rw [List.getElem?_set_ne hij] at hj
    exact h.get j e hj
theorem Vr.wipe {K : PySem.W.Frag} {F : Hp} {σ : St} {ρ : En} (h : Vr K F σ ρ) : ∀ vs : List Nat, Vr K F (wipe σ vs) (wipeE ρ vs)
  | [] => h
  | v :: vs => (Vr.wipe h vs).unset v

/-! ### judgements -/
section
variable (X : Cx) (W : WX)
def DE (e : Expr) (g : G) : Prop := ∃ t, PE X e t ∧ ∀ (σ : St) (F H : Hp) (ρ : En) (Q : VK), Same F H → Vr X.K F σ ρ → Po (Dr X.K) X.mg W σ F H (g ρ) Q → t σ H Q
def DT (e : Expr) (g : GT) : Prop := ∃ t, PT X e t ∧ ∀ (σ : St) (F H : Hp) (ρ : En) (Q : Bool → Hp → Prop), Same F H → Vr X.K F σ ρ → Po BRel X.mg W σ F H (g ρ) Q → t σ H Q
def DW (e : Expr) (g : GT) : Prop := ∃ t, PW X e t ∧ ∀ (σ : St) (F H : Hp) (ρ : En) (Q : Bool → Hp → Prop), Same F H → Vr X.K F σ ρ → Po BRel X.mg W σ F H (g ρ) Q → t σ H Q
def DA (es : List Expr) (g : GA) : Prop := ∃ t, PA X es t ∧ ∀ (σ : St) (F H : Hp) (ρ : En) (Q : List V → Hp → Prop), Same F H → Vr X.K F σ ρ → Po (DrAll X.K) X.mg W σ F H (g ρ) Q → t σ H Q
end
/-- rules of an operator, by data -/
def OpD (X : Cx) (W : WX) (f : Value → Value → Sem Value) (op : D → D → Rz D) : Prop :=
  ∃ r : R2, OpR X f r ∧ ∀ (σ : St) (F H : Hp) (x y : V) (d e : D) (Q : VK), Same F H → Dr X.K F x d → Dr X.K F y e → Po (Dr X.K) X.mg W σ F H (op d e) Q → r x y H Q
section
variable {X : Cx} {W : WX}
theorem de_var (i : Nat) {x : Str} {pos : Pos} (hN : X.N[i]? = some x := by rfl) (hv : Vis X.env.scope x := by first | exact Or.inl rfl | exact Or.inr (Or.inl rfl) | exact Or.inr (Or.inr rfl)) (hd : (x == ("__debug__" : Str)) = false := by decide)
    (hcd : (x == ("__classdict__" : Str)) = false := by decide) : DE X W (.Name x pos) (gVar i) := by
  refine ⟨_, pe_var hN hv hd hcd, fun σ F H ρ Q s hV h => ?_⟩
  unfold gVar at h
  split at h
  · rename_i d e
    obtain ⟨v, h1, h2⟩ := hV.get i d e
    exact ⟨v, h1, h.okh s h2⟩
  · exact h.elim
theorem de_int {i : Int} {j pos} : DE X W (.Constant (.int i) j pos) (gC (.int i)) := ⟨_, pe_int, fun σ F H ρ Q s hV h => h.okh s (.int i)⟩
theorem de_bl {b : Bool} {j pos} : DE X W (.Constant (.bool b) j pos) (gC (.bool b)) := ⟨_, pe_bl, fun σ F H ρ Q s hV h => h.okh s (.bl b)⟩
theorem de_non {j pos} : DE X W (.Constant .none j pos) (gC .none) := ⟨_, pe_non, fun σ F H ρ Q s hV h => h.okh s .non⟩
theorem de_str {x : Str} {j pos} : DE X W (.Constant (.str x) j pos) (gC (.str x)) := ⟨_, pe_str, fun σ F H ρ Q s hV h => h.okh s (.str x)⟩
theorem de_globI {x : Str} {i : Int} {t : Tok} {pos : Pos} (hm : X.mg x = some (.int i t)) (hg : Gl X x := by rfl) (hd : (x == ("__debug__" : Str)) = false := by decide) : DE X W (.Name x pos) (gC (.int i)) :=
  ⟨_, pe_glob hg hm (v := .int i) ⟨t, rfl⟩ hd, fun σ F H ρ Q s hV h => h.okh s (.int i)⟩
theorem de_globS {x : Str} {i : Str} {t : Tok} {pos : Pos} (hm : X.mg x = some (.str i t)) (hg : Gl X x := by rfl) (hd : (x == ("__debug__" : Str)) = false := by decide) : DE X W (.Name x pos) (gC (.str i)) :=
  ⟨_, pe_glob hg hm (v := .str i) ⟨t, rfl⟩ hd, fun σ F H ρ Q s hV h => h.okh s (.str i)⟩
/-- two parts, then an operator -/
theorem bin_run {a b : G} {op : D → D → Rz D} {ta tb : TE} {r : R2} (ha : ∀ (σ : St) (F H : Hp) (ρ : En) (Q : VK), Same F H → Vr X.K F σ ρ → Po (Dr X.K) X.mg W σ F H (a ρ) Q → ta σ H Q)
    (hb : ∀ (σ : St) (F H : Hp) (ρ : En) (Q : VK), Same F H → Vr X.K F σ ρ → Po (Dr X.K) X.mg W σ F H (b ρ) Q → tb σ H Q)
    (hr : ∀ (σ : St) (F H : Hp) (x y : V) (d e : D) (Q : VK), Same F H → Dr X.K F x d → Dr X.K F y e → Po (Dr X.K) X.mg W σ F H (op d e) Q → r x y H Q)
    (σ : St) (F H : Hp) (ρ : En) (Q : VK) (s : Same F H) (hV : Vr X.K F σ ρ) (h : Po (Dr X.K) X.mg W σ F H (g2 op a b ρ) Q) : tOp r ta tb σ H Q := by
  refine ha σ F H ρ _ s hV (Po.bind h fun d x F1 H1 e1 q1 h1 => ?_)
  refine hb σ F1 H1 ρ _ e1.fh (hV.same e1.ff) (Po.bind h1 fun e y F2 H2 e2 q2 h2 => ?_)
  exact hr σ F2 H2 x y d e Q e2.fh (q1.same e2.ff) q2 h2
theorem de_cmp {a b : Expr} {c : CmpOp} {ga gb : G} {op : D → D → Rz D} {pos : Pos} (o : OpD X W (compareOp c) op) (ha : DE X W a ga) (hb : DE X W b gb) (hm : behindInMarks c b = false := by first | exact nomark _ | rfl) : DE X W (.Compare a [c] [b] pos) (g2 op ga gb) := by
  obtain ⟨r, h1, h2⟩ := o
  obtain ⟨ta, pa, ra⟩ := ha
  obtain ⟨tb, pb, rb⟩ := hb
  exact ⟨_, pe_cmpR h1 pa pb hm, bin_run ra rb h2⟩
theorem dt_cmp {a b : Expr} {c : CmpOp} {ga gb : G} {op : D → D → Rz D} {pos : Pos} (o : OpD X W (compareOp c) op) (ha : DE X W a ga) (hb : DE X W b gb) (hm : behindInMarks c b = false := by first | exact nomark _ | rfl) : DT X W (.Compare a [c] [b] pos) (tCm op ga gb) := by
  obtain ⟨r, h1, h2⟩ := o
  obtain ⟨ta, pa, ra⟩ := ha
  obtain ⟨tb, pb, rb⟩ := hb
  refine ⟨_, pt_cmpR h1 pa pb hm, fun σ F H ρ Q s hV h => ?_⟩
  refine ra σ F H ρ _ s hV (Po.bind h fun d x F1 H1 e1 q1 h1 => ?_)
  refine rb σ F1 H1 ρ _ e1.fh (hV.same e1.ff) (Po.bind h1 fun e y F2 H2 e2 q2 h2' => ?_)
  refine h2 σ F2 H2 x y d e _ e2.fh (q1.same e2.ff) q2 (Po.bind h2' fun z v F3 H3 e3 q3 h3 => ?_)
  cases q3 with
  | bl k => exact ⟨k, rfl, Po.okh h3 e3.fh rfl⟩
  | _ => exact False.elim h3
theorem de_bin {a b : Expr} {c : Operator} {ga gb : G} {op : D → D → Rz D} {pos : Pos} (o : OpD X W (binaryOp c) op) (ha : DE X W a ga) (hb : DE X W b gb) : DE X W (.BinOp a c b pos) (g2 op ga gb) := by
  obtain ⟨r, h1, h2⟩ := o
  obtain ⟨ta, pa, ra⟩ := ha
  obtain ⟨tb, pb, rb⟩ := hb
  exact ⟨_, pe_op h1 pa pb, bin_run ra rb h2⟩
theorem twoI {α : Type} {Rel : Hp → α → D → Prop} {op : D → D → Rz D} (hop : ∀ d e, (∃ i j, d = .int i ∧ e = .int j) ∨ op d e = .st) {σ : St} {F H : Hp} {Q : α → Hp → Prop} (d e : D) (h : Po Rel X.mg W σ F H (op d e) Q) : ∃ i j, d = .int i ∧ e = .int j := by
  rcases hop d e with z | z
  · exact z
  · rw [z] at h
    exact h.elim
theorem OpD.of {f : Value → Value → Sem Value} {op : D → D → Rz D} {r : R2} (h1 : OpR X f r) (h2 : ∀ (σ : St) (F H : Hp) (x y : V) (d e : D) (Q : VK), Same F H → Dr X.K F x d → Dr X.K F y e → Po (Dr X.K) X.mg W σ F H (op d e) Q → r x y H Q) : OpD X W f op := ⟨r, h1, h2⟩
theorem od_sub : OpD X W (binaryOp .Sub) dSub := .of op_sub fun σ F H x y d e Q s q1 q2 h => by
  rcases twoI (op := dSub) (by intro d e; cases d <;> cases e <;> first | exact .inl ⟨_, _, rfl, rfl⟩ | exact .inr rfl) d e h with ⟨i, j, rfl, rfl⟩
  cases q1
  cases q2
  exact ⟨_, _, rfl, rfl, h.okh s (.int _)⟩
theorem sz_lim {n : Nat} (h : n ≤ lim) : n ≤ sizeLine := by
  rw [sizeLine_eq]
  unfold lim at h
  omega
theorem sml_iff {i : Int} (h : sml i = true) : -1000000 ≤ i ∧ i ≤ 1000000 := by
  unfold sml at h
  simp only [Bool.and_eq_true, decide_eq_true_eq] at h
  exact h
end
end DL
/-! part DLsF -/
namespace DL
open PySem PySem.Spec PyProof.Rows L2
/-! ### new tuples, told as they are made -/
abbrev NewT (xs : List V) (H : Hp) (Q : VK) : Prop := ∀ (p : Addr) (o : Obj), H p = none → o.dict = none → Q (.ref p) (L2.upd H p (.frz o (.tup xs)))
section
variable {X : Cx}
theorem laidT {pins : List (Addr × Obj)} {σ : St} {H : Hp} {s : Shared} {Q : VK} {xs : List V} {us : List Value} {h' : Heap} {tk : Nat} (I : Inv X pins σ H { s with heap := h', toks := tk }) (r : Vals xs us) (hz : xs.length ≤ sizeLine) (q : NewT xs H Q) :
    EP X pins σ Q (.ref h'.objs.size) { s with heap := h'.push { cls := .type "tuple", data := .seq us.toArray }, toks := tk } :=
  ⟨.ref h'.objs.size, L2.upd H h'.objs.size (.frz { cls := .type "tuple", data := .seq us.toArray } (.tup xs)),
    I.laid (t' := tk) (fun b o e => Heap.get?_push_of_some _ e) (Nat.le_refl _) ⟨Heap.get?_push_size _ rfl, hz, us, r, ⟨_, Heap.get?_push_size _ rfl, rfl, _, rfl⟩⟩, rfl, q _ _ (I.hok.fresh (Nat.le_refl _)) rfl⟩
def tTupF (t : TA) : TE := fun σ H Q => t σ H fun xs H1 => xs.length ≤ sizeLine ∧ NewT xs H1 Q
theorem pe_tupF {es : List Expr} {t : TA} {pos : Pos} {x1} (h : PA X es t) : PE X (.Tuple es x1 pos) (tTupF t) := by
  refine ⟨fun pins s σ H Q I hq => wpAny_Tuple_spliced (thn (h.run pos pins s σ H _ I hq) fun us s1 hh => ?_)⟩
  obtain ⟨xs, H1, I1, r, z, q⟩ := hh
  exact ⟨by rw [← r.length]; exact z, laidT (h' := s1.heap) (tk := s1.toks) (s := s1) I1 r z q⟩
def rTupF (K : PySem.W.Frag) : List V → Hp → VK → Prop := fun xs H Q => ∃ p ys, xs = [.ref p] ∧ ((SqL K H p ys ∧ NewT ys H Q) ∨ (SqT K H p ys ∧ Q (.ref p) H))
theorem call_tupF : CallR X (.type "tuple") (rTupF X.K) := by
  intro pins s σ H xs us Q I r h
  obtain ⟨p, ys, rfl, h⟩ := h
  obtain ⟨u, rfl, rx⟩ := vals1 r
  cases rx
  rcases h with ⟨hq, q⟩ | ⟨hq, q⟩
  · obtain ⟨its, r2, pl, hz⟩ := I.list hq
    have hlen := r2.length
    exact call_tuple_list pl.isList (fun h' kp => laidT (s := s) (h' := h') (tk := s.toks) (I.kept kp) r2 hz q) (by simp only [List.size_toArray] <;> omega)
  · obtain ⟨its, _, pl, _⟩ := I.tuple hq
    exact call_tuple_same pl ⟨.ref p, H, I, rfl, q⟩
def tTupRgF (te : St → Hp → (Int → Int → Hp → Prop) → Prop) : TE := fun σ H Q => te σ H fun a b H1 => RgOk a b ∧ NewT (rgV a b) H1 Q
theorem pe_tupRgF {e : Expr} {te : St → Hp → (Int → Int → Hp → Prop) → Prop} {p pos : Pos} (hc : X.calm = true) (hg : Gl X "tuple") (hm : X.mg "tuple" = none) (he : PRg X e te) (na : starEach [e] X.env = (false, eval e X.env) :: starEach [] X.env := by rfl) : PE X (.Call (.Name "tuple" p) [e] [] pos) (tTupRgF te) := by
  refine ⟨fun pins s σ H Q I h => Call_ (ld_blt I hg hm boot_tuple (PyProof.Rows.callWith_type1 (args_cons (thn (he pins s σ H _ I h) fun x s1 hh => args_nil ?_) na) na))⟩
  obtain ⟨r, a, b, t, u, v, H1, rfl, hr, I1, ⟨b1, b2, b3, b4, b5⟩, q⟩ := hh
  refine call_tuple_range (n := (b - a).toNat) (I1.ok.hd hc) hr (small_one b1 b2 b3 b4) (rangeSize_nat a b) b5 fun h' tk acc hk hi => ?_
  have z := laidT (s := s1) (h' := h') (tk := tk) (I1.kept hk) (vals_rg hi) (by rw [rgV_length, sizeLine_eq]; omega) q
  rw [Array.toArray_toList] at z
  exact z
/-- t + u -/
def rCatF (K : PySem.W.Frag) : R2 := fun x y H Q => ∃ a b xs ys, x = .ref a ∧ y = .ref b ∧ SqT K H a xs ∧ SqT K H b ys ∧ xs.length + ys.length ≤ sizeLine ∧ (xs = [] → Q (.ref b) H) ∧ (xs ≠ [] → ys = [] → Q (.ref a) H) ∧ (xs ≠ [] → ys ≠ [] → NewT (xs ++ ys) H Q)
theorem op_catF : OpR X (binaryOp .Add) (rCatF X.K) := by
  intro pins s σ H x y v u Q I rx ry h
  obtain ⟨a, b, xs, ys, rfl, rfl, ha, hb, hz, q0, q1, q2⟩ := h
  cases rx
  cases ry
  obtain ⟨i1, r1, p1, _⟩ := I.tuple ha
  obtain ⟨i2, r2, p2, _⟩ := I.tuple hb
  by_cases hx : xs = []
  · subst hx
    cases r1
    exact cat_tup0 p1 p2 ⟨.ref b, H, I, rfl, q0 rfl⟩
  · exact HT.cat_tup p1 p2 (fun z => hx (r1.nil_iff.mp z)) (fun z => ⟨.ref a, H, I, rfl, q1 hx (r2.nil_iff.mp z)⟩)
      (fun z => laidT (s := s) (h' := s.heap) (tk := s.toks) I (r1.append r2) (by rw [List.length_append]; exact hz) (q2 hx fun w => z (r2.nil_iff.mpr w))) (by rw [← r1.length, ← r2.length]; exact hz)
/-- t[lo:hi] -/
def rSlF (K : PySem.W.Frag) : V → Option Int → Option Int → Hp → VK → Prop := fun x lo hi H Q => ∃ a xs, x = .ref a ∧ SqT K H a xs ∧
  (HT.sIx xs.length 0 lo = 0 ∧ HT.sIx xs.length xs.length hi = xs.length → Q (.ref a) H) ∧ (¬ (HT.sIx xs.length 0 lo = 0 ∧ HT.sIx xs.length xs.length hi = xs.length) → NewT (cutV xs lo hi) H Q)
theorem sl_tupF : SlR X (rSlF X.K) := by
  intro pins s σ H x v vl vu lo hi sl Q I rx hs pl pu h
  obtain ⟨a, xs, rfl, hx, q1, q2⟩ := h
  cases rx
  obtain ⟨its, r, ht, hz⟩ := I.tuple hx
  have hn : its.toArray.size = xs.length := by
    rw [List.size_toArray, r.length]
  refine ⟨"tuple", _, PyProof.Rows.slot_tuple_getitem.lookup, ht.typeIs, ?_⟩
  by_cases hw : HT.sIx xs.length 0 lo = 0 ∧ HT.sIx xs.length xs.length hi = xs.length
  · exact getItem_tuple_whole ht hs pl pu (by rw [hn]; exact hw) ⟨.ref a, H, I, rfl, q1 hw⟩
  · refine HT.getItem_tuple_cut ht hs pl pu (by rw [hn]; exact hw) ?_ (by rw [hn]; exact hz)
    rw [hn]
    exact laidT (s := s) (h' := s.heap) (tk := s.toks) I ((r.drop (HT.sIx xs.length 0 lo)).take (HT.sIx xs.length xs.length hi - HT.sIx xs.length 0 lo)) (Nat.le_trans (cutV_length xs lo hi) hz) (q2 hw)
/-- t * k -/
def rRepF (K : PySem.W.Frag) : R2 := fun x y H Q => ∃ l k xs, x = .ref l ∧ y = .int k ∧ SqT K H l xs ∧ xs ≠ [] ∧ 2 ≤ k ∧ k ≤ 1000 ∧ xs.length ≤ 1000 ∧ NewT (List.replicate k.toNat xs).flatten H Q
theorem op_repF : OpR X (binaryOp .Mult) (rRepF X.K) := by
  intro pins s σ H x y v u Q I rx ry h
  obtain ⟨l, k, xs, rfl, rfl, hT, hne, h1, h2, hz, q⟩ := h
  cases rx
  obtain ⟨t, rfl⟩ := ry
  obtain ⟨its, r, ⟨⟨cls, dd, data, sl⟩, ho, hc, n, hd⟩, hs⟩ := I.tuple hT
  simp only at hc hd
  subst hc hd
  have hl := r.length
  have hi : its.toArray.isEmpty = false := by
    cases its with
    | nil =>
      cases r
      exact absurd rfl hne
    | cons a b => rfl
  have a1 : ((xs.length : Nat) : Int) * k ≤ 1000 * 1000 := Int.le_trans (Int.mul_le_mul_of_nonneg_right (by omega : (xs.length : Int) ≤ 1000) (by omega)) (Int.mul_le_mul_of_nonneg_left h2 (by omega))
  have a2 : k.toNat * xs.length ≤ 1000 * 1000 := Nat.mul_le_mul (by omega) hz
  have lf : (List.replicate k.toNat its).flatten.length = k.toNat * xs.length := by rw [PyProof.Rows.lm_len_rep_flat, hl]
  have lx : (List.replicate k.toNat xs).flatten.length = k.toNat * xs.length := PyProof.Rows.lm_len_rep_flat ..
  have zz : ((its.toArray.size : Nat) : Int) = (xs.length : Int) := by rw [List.size_toArray, hl]
  have k0 : (decide (k < -(2 ^ 63)) || decide (k ≥ 2 ^ 63)) = false := by
    rw [decide_eq_false (by omega : ¬ k < -(2 ^ 63)), decide_eq_false (by omega : ¬ k ≥ 2 ^ 63)] <;> rfl
  have k1 : (its.toArray.isEmpty || k == 1) = false := by
    rw [hi, beq_eq_false_iff_ne.mpr (by omega : k ≠ 1)] <;> rfl
  have k2 : (decide (k ≤ 0) || its.toArray.isEmpty) = false := by
    rw [hi, decide_eq_false (by omega : ¬ k ≤ 0)] <;> rfl
  have k3 : Builtin.Tuple.tupleTooMany (((its.toArray.size : Nat) : Int) * k) = false := by
    unfold Builtin.Tuple.tupleTooMany
    rw [sizeLine_eq, zz, decide_eq_false (by omega)]
  have W := tuple_mulW l its.toArray n dd sl k t k0 k1 k2 (by rw [zz]; omega) k3 (by rw [size_rep, List.size_toArray, lf, sizeLine_eq]; omega)
  rw [size_rep] at W
  exact wpAny_binaryOp_repeat_ref (T := "tuple") (U := "int") (by decide) ⟨_, ho, rfl⟩ (fun s' => typeIs_int s' k t) noFill_tuple_mul F.fills_int_mul F.slot_int_rmul repeat_tuple F.slot_int_index.lookup
    (call_meets F.slot_int_rmul (typeIs_int s k t) F.entry_int_rmul (F.args_int_rmul_2 _ _) (int_rmul_tuple k t l its.toArray n dd sl) ⟨ho, rfl, ⟨_, ho, rfl⟩, call_meets F.slot_tuple_mul ⟨_, ho, rfl⟩ F.entry_tuple_mul (F.args_tuple_mul_2 _ _) W
      ⟨ho, laidT (s := s) (h' := s.heap) (tk := s.toks) I (r.rep k.toNat) (by rw [lx, sizeLine_eq]; omega) q⟩⟩)
end
end DL
/-! part DLs2 -/
namespace DL
open PySem PySem.Spec PyProof.Rows L2
section
variable {X : Cx} {W : WX}
/-! ### operators by data -/
theorem op_or4 {f : Value → Value → Sem Value} {r1 r2 r3 r4 : R2} (h1 : OpR X f r1) (h2 : OpR X f r2) (h3 : OpR X f r3) (h4 : OpR X f r4) : OpR X f (fun x y H Q => r1 x y H Q ∨ (r2 x y H Q ∨ (r3 x y H Q ∨ r4 x y H Q))) := h1.or (h2.or (h3.or h4))
theorem od_add : OpD X W (binaryOp .Add) dAdd := by
  refine .of (op_or4 op_add op_add_str op_cat op_catF) fun σ F H x y d e Q s q1 q2 h => ?_
  cases q1 with
  | int i => cases q2 with
    | int j => exact .inl ⟨_, _, rfl, rfl, h.okh s (.int _)⟩
    | _ => exact False.elim h
  | str a => cases q2 with
    | str b =>
      obtain ⟨hc, h⟩ := Po.ifst h
      exact .inr (.inl ⟨_, _, rfl, rfl, sz_lim hc, h.okh s (.str _)⟩)
    | _ => exact False.elim h
  | lst ea da => cases q2 with
    | lst eb db =>
      obtain ⟨hc, h⟩ := Po.ifst h
      refine .inr (.inr (.inl ⟨_, _, _, _, rfl, rfl, s _ _ ea, s _ _ eb, ?_, fun p hp => ?_⟩))
      · rw [da.len, db.len]
        exact sz_lim hc
      · exact h.ok (Ext.new s hp) (.lst upd_same ((da.append db).same (same_upd (s.free hp))))
    | _ => exact False.elim h
  | tup ea da => cases q2 with
    | @tup _ xs _ eb db =>
      obtain ⟨hc, h⟩ := Po.ifst h
      refine .inr (.inr (.inr ⟨_, _, _, _, rfl, rfl, sqT_same s ea.sq, sqT_same s eb.sq, ?_, fun z => ?_, fun _ z => ?_, fun _ _ p o hp hd => ?_⟩))
      · rw [da.len, db.len]
        exact sz_lim hc
      · subst z
        cases da
        exact h.okh s (.tup eb db)
      · subst z
        cases db
        rw [List.append_nil] at h
        exact h.okh s (.tup ea da)
      · exact h.ok (Ext.new s hp) (.tup (.at hd) ((da.append db).same (same_upd (s.free hp))))
    | _ => exact False.elim h
  | _ => exact False.elim h
theorem small_cmul {i j : Int} (h : (sml i || sml j) = true) : CMul i j := by
  rcases Bool.or_eq_true_iff.mp h with h | h
  · have := sml_iff h
    exact .inl ⟨by omega, by omega⟩
  · have := sml_iff h
    exact .inr ⟨by omega, by omega⟩
theorem od_mul : OpD X W (binaryOp .Mult) dMul := by
  refine .of (op_mul.or (op_rep.or op_repF)) fun σ F H x y d e Q s q1 q2 h => ?_
  cases q1 with
  | int i => cases q2 with
    | int j =>
      obtain ⟨hc, h⟩ := Po.ifst h
      exact .inl ⟨_, _, rfl, rfl, small_cmul hc, h.okh s (.int _)⟩
    | _ => exact False.elim h
  | lst ea da => cases q2 with
    | int k =>
      obtain ⟨hc, h⟩ := Po.ifst h
      simp only [Bool.and_eq_true, decide_eq_true_eq] at hc
      have hk := sml_iff hc.1
      refine .inr (.inl ⟨_, _, _, rfl, rfl, s _ _ ea, by omega, by omega, ?_, fun p hp => ?_⟩)
      · rw [da.len]
        exact sz_lim hc.2
      · exact h.ok (Ext.new s hp) (.lst upd_same ((da.flat _).same (same_upd (s.free hp))))
    | _ => exact False.elim h
  | tup ea da => cases q2 with
    | int k =>
      obtain ⟨hc, h⟩ := Po.ifst h
      simp only [Bool.and_eq_true, decide_eq_true_eq] at hc
      refine .inr (.inr ⟨_, _, _, rfl, rfl, sqT_same s ea.sq, ?_, hc.1.2, hc.2, ?_, fun p o hp hd => ?_⟩)
      · intro z
        have l := da.len
        rw [z] at l
        have l2 := hc.1.1.1
        rw [← l] at l2
        exact absurd l2 (by decide)
      · rw [da.len]
        exact hc.1.1.2
      · exact h.ok (Ext.new s hp) (.tup (.at hd) ((da.flat _).same (same_upd (s.free hp))))
    | _ => exact False.elim h
  | _ => exact False.elim h
theorem od_mod : OpD X W (binaryOp .Mod) dMod := .of op_mod fun σ F H x y d e Q s q1 q2 h => by
  rcases twoI (op := dMod) (by intro d e; cases d <;> cases e <;> first | exact .inl ⟨_, _, rfl, rfl⟩ | exact .inr rfl) d e h with ⟨i, j, rfl, rfl⟩
  cases q1
  cases q2
  obtain ⟨hc, h⟩ := Po.ifst h
  exact ⟨_, _, rfl, rfl, hc, h.okh s (.int _)⟩
theorem od_fdv : OpD X W (binaryOp .FloorDiv) dFdv := .of op_fdiv fun σ F H x y d e Q s q1 q2 h => by
  rcases twoI (op := dFdv) (by intro d e; cases d <;> cases e <;> first | exact .inl ⟨_, _, rfl, rfl⟩ | exact .inr rfl) d e h with ⟨i, j, rfl, rfl⟩
  cases q1
  cases q2
  obtain ⟨hc, h⟩ := Po.ifst h
  simp only [Bool.and_eq_true, decide_eq_true_eq] at hc
  exact ⟨_, _, rfl, rfl, ⟨hc.1, by omega⟩, h.okh s (.int _)⟩
theorem od_shl : OpD X W (binaryOp .LShift) dShl := .of op_shl fun σ F H x y d e Q s q1 q2 h => by
  rcases twoI (op := dShl) (by intro d e; cases d <;> cases e <;> first | exact .inl ⟨_, _, rfl, rfl⟩ | exact .inr rfl) d e h with ⟨i, j, rfl, rfl⟩
  cases q1
  cases q2
  obtain ⟨hc, h⟩ := Po.ifst h
  simp only [Bool.and_eq_true, decide_eq_true_eq] at hc
  have hk := sml_iff hc.2
  exact ⟨_, _, rfl, rfl, ⟨hc.1.1, by omega, by omega⟩, h.okh s (.int _)⟩
theorem od_shr : OpD X W (binaryOp .RShift) dShr := .of op_shr fun σ F H x y d e Q s q1 q2 h => by
  rcases twoI (op := dShr) (by intro d e; cases d <;> cases e <;> first | exact .inl ⟨_, _, rfl, rfl⟩ | exact .inr rfl) d e h with ⟨i, j, rfl, rfl⟩
  cases q1
  cases q2
  obtain ⟨hc, h⟩ := Po.ifst h
  exact ⟨_, _, rfl, rfl, hc, h.okh s (.int _)⟩
theorem od_andB : OpD X W (binaryOp .BitAnd) dAndB := .of op_and fun σ F H x y d e Q s q1 q2 h => by
  rcases twoI (op := dAndB) (by intro d e; cases d <;> cases e <;> first | exact .inl ⟨_, _, rfl, rfl⟩ | exact .inr rfl) d e h with ⟨i, j, rfl, rfl⟩
  cases q1
  cases q2
  exact ⟨_, _, rfl, rfl, h.okh s (.int _)⟩
theorem od_lt : OpD X W (compareOp .Lt) dLt := .of op_lt fun σ F H x y d e Q s q1 q2 h => by
  rcases twoI (op := dLt) (by intro d e; cases d <;> cases e <;> first | exact .inl ⟨_, _, rfl, rfl⟩ | exact .inr rfl) d e h with ⟨i, j, rfl, rfl⟩
  cases q1
  cases q2
  exact ⟨_, _, rfl, rfl, h.okh s (.bl _)⟩
theorem od_le : OpD X W (compareOp .LtE) dLe := .of op_le fun σ F H x y d e Q s q1 q2 h => by
  rcases twoI (op := dLe) (by intro d e; cases d <;> cases e <;> first | exact .inl ⟨_, _, rfl, rfl⟩ | exact .inr rfl) d e h with ⟨i, j, rfl, rfl⟩
  cases q1
  cases q2
  exact ⟨_, _, rfl, rfl, h.okh s (.bl _)⟩
theorem od_gt : OpD X W (compareOp .Gt) dGt := .of op_gt fun σ F H x y d e Q s q1 q2 h => by
  rcases twoI (op := dGt) (by intro d e; cases d <;> cases e <;> first | exact .inl ⟨_, _, rfl, rfl⟩ | exact .inr rfl) d e h with ⟨i, j, rfl, rfl⟩
  cases q1
  cases q2
  exact ⟨_, _, rfl, rfl, h.okh s (.bl _)⟩
theorem od_ge : OpD X W (compareOp .GtE) dGe := .of op_ge fun σ F H x y d e Q s q1 q2 h => by
  rcases twoI (op := dGe) (by intro d e; cases d <;> cases e <;> first | exact .inl ⟨_, _, rfl, rfl⟩ | exact .inr rfl) d e h with ⟨i, j, rfl, rfl⟩
  cases q1
  cases q2
  exact ⟨_, _, rfl, rfl, h.okh s (.bl _)⟩
theorem lay_shaped {d : D} (h : SeqAt.shaped d = true) : d.canLay0 = true := SeqAt.canLay_of_shaped h
theorem od_eq (hu : X.A.units + 64 < cLine) : OpD X W (compareOp .Eq) dEq := .of (op_eqD hu) fun σ F H x y d e Q s q1 q2 h => by
  obtain ⟨hc, h⟩ := Po.ifst h
  simp only [Bool.and_eq_true] at hc
  exact ⟨d, e, (q1.same s).dp (lay_shaped hc.1), (q2.same s).dp (lay_shaped hc.2), hc.1, hc.2, h.okh s (.bl _)⟩
theorem od_ne (hu : X.A.units + 64 < cLine) : OpD X W (compareOp .NotEq) dNe := .of (op_neD hu) fun σ F H x y d e Q s q1 q2 h => by
  obtain ⟨hc, h⟩ := Po.ifst h
  simp only [Bool.and_eq_true] at hc
  exact ⟨d, e, (q1.same s).dp (lay_shaped hc.1), (q2.same s).dp (lay_shaped hc.2), hc.1, hc.2, h.okh s (.bl _)⟩
theorem eqV_int (i j : Int) : eqV (.int i) (.int j) = (i == j) := by
  unfold eqV
  rfl
theorem inV_ints (i : Int) : ∀ ns : List Int, inV (.int i) (ns.map .int) = ns.contains i
  | [] => rfl
  | n :: r => by
    have ih := inV_ints i r
    unfold inV at ih ⊢
    rw [List.map_cons, List.any_cons, ih, eqV_int, List.contains_cons]
    cases e : (n == i) with
    | true =>
      have : n = i := by simpa using e
      subst this
      simp
    | false =>
      have : ¬ n = i := by simpa using e
      have : (i == n) = false := by simpa using fun z => this z.symm
      rw [this]
theorem flat_ints : ∀ ns : List Int, (ns.map V.int).all flatV = true
  | [] => rfl
  | n :: r => by
    rw [List.map_cons, List.all_cons, flat_ints r]
    rfl
theorem od_in (hu : X.A.units + 65 < cLine) : OpD X W (compareOp .In) dIn := .of ((op_inD hu).or op_in_seq) fun σ F H x y d e Q s q1 q2 h => by
  cases q2 with
  | lst e2 a2 =>
    obtain ⟨hc, h⟩ := Po.ifst h
    simp only [Bool.and_eq_true] at hc
    exact .inl ⟨d, _, (q1.same s).dp (lay_shaped hc.1), ((Dr.lst e2 a2).same s).dp (lay_shaped hc.2), hc.1, hc.2, h.okh s (.bl _)⟩
  | tup e2 a2 =>
    cases q1 with
    | int i =>
      obtain ⟨ns, hn, h2⟩ := Po.orSt h
      clear h
      have z := intsD_map hn
      subst z
      have z := DrAll.of_ints a2
      subst z
      refine .inr ⟨_, _, rfl, .inr (sqT_same s e2.sq), rfl, flat_ints ns, ?_⟩
      show Q (.bl (inV (.int i) (ns.map .int))) H
      rw [inV_ints]
      exact h2.okh s (.bl _)
    | _ => exact False.elim h
  | _ => exact False.elim h
theorem od_notIn (hu : X.A.units + 65 < cLine) : OpD X W (compareOp .NotIn) dNotIn := .of ((op_notInD hu).or (op_notIn_sign.or op_notIn_seq)) fun σ F H x y d e Q s q1 q2 h => by
  cases q2 with
  | lst e2 a2 =>
    obtain ⟨hc, h⟩ := Po.ifst h
    simp only [Bool.and_eq_true] at hc
    exact .inl ⟨d, _, (q1.same s).dp (lay_shaped hc.1), ((Dr.lst e2 a2).same s).dp (lay_shaped hc.2), hc.1, hc.2, h.okh s (.bl _)⟩
  | tup e2 a2 =>
    cases q1 with
    | int i =>
      obtain ⟨ns, hn, h2⟩ := Po.orSt h
      clear h
      have z := intsD_map hn
      subst z
      have z := DrAll.of_ints a2
      subst z
      refine .inr (.inr ⟨_, _, rfl, .inr (sqT_same s e2.sq), rfl, flat_ints ns, ?_⟩)
      show Q (.bl (!inV (.int i) (ns.map .int))) H
      rw [inV_ints]
      exact h2.okh s (.bl _)
    | _ => exact False.elim h
  | str z =>
    cases q1 with
    | str x =>
      obtain ⟨hc, h⟩ := Po.ifst h
      have ex : x = ⟨#[x.cps.getD 0 0]⟩ := by
        obtain ⟨cs⟩ := x
        have hc : cs.size = 1 := hc
        have : cs = #[cs.getD 0 0] := by
          apply Array.ext
          · simp [hc]
          · intro i h1 h2
            have : i = 0 := by
              rw [hc] at h1
              omega
            subst this
            simp [Array.getD, h1]
        exact congrArg Str.mk this
      exact .inr (.inl ⟨x.cps.getD 0 0, z, by rw [← ex], rfl, h.okh s (.bl _)⟩)
    | _ => exact False.elim h
  | _ => exact False.elim h
/-! ### is None -/
def noneD : D → Bool
  | .none => true | _ => false
theorem dec_non {F : Hp} {x : V} {d : D} (q : Dr X.K F x d) : decide (x = .non) = noneD d := by
  cases q with
  | non => exact decide_eq_true rfl
  | _ => exact decide_eq_false (by intro z; cases z)
theorem isN_eq (d : D) : dIsN d = .ok (.bool (noneD d)) := by cases d <;> rfl
theorem notN_eq (d : D) : dNotN d = .ok (.bool (!noneD d)) := by cases d <;> rfl
theorem de_isN {a : Expr} {ga : G} {j p pos} (ha : DE X W a ga) : DE X W (.Compare a [.Is] [.Constant .none j p] pos) (g1 dIsN ga) := by
  obtain ⟨ta, pa, ra⟩ := ha
  refine ⟨_, pe_cmp (pc_isN pa) rfl, fun σ F H ρ Q s hV h => ra σ F H ρ _ s hV (Po.bind h fun d x F1 H1 e1 q1 h1 => ?_)⟩
  show Q (.bl (decide (x = .non))) H1
  rw [dec_non q1]
  rw [isN_eq] at h1
  exact Po.okh h1 e1.fh (.bl _)
theorem de_notN {a : Expr} {ga : G} {j p pos} (ha : DE X W a ga) : DE X W (.Compare a [.IsNot] [.Constant .none j p] pos) (g1 dNotN ga) := by
  obtain ⟨ta, pa, ra⟩ := ha
  refine ⟨_, pe_cmp (pc_notN pa) rfl, fun σ F H ρ Q s hV h => ra σ F H ρ _ s hV (Po.bind h fun d x F1 H1 e1 q1 h1 => ?_)⟩
  show Q (.bl (!decide (x = .non))) H1
  rw [dec_non q1]
  rw [notN_eq] at h1
  exact Po.okh h1 e1.fh (.bl _)
theorem dt_val {e : Expr} {g : G} (h : DE X W e g) (he : ∀ whole, isTrue e X.env whole = (do let v ← whole; standAt e.pos; holding [v] (truthy v)) := by intro _; rfl) : DT X W e (tVal g) := by
  obtain ⟨t, p, r⟩ := h
  refine ⟨_, pt_val p he, fun σ F H ρ Q s hV h => r σ F H ρ _ s hV (Po.bind h fun d x F1 H1 e1 q1 h1 => ?_)⟩
  cases q1 with
  | bl k => exact ⟨k, rfl, Po.okh h1 e1.fh rfl⟩
  | _ => exact False.elim h1
theorem dt_isN {a : Expr} {ga : G} {j p pos} (ha : DE X W a ga) : DT X W (.Compare a [.Is] [.Constant .none j p] pos) (tVal (g1 dIsN ga)) := by
  obtain ⟨ta, pa, ra⟩ := ha
  refine ⟨_, pt_cmp (pc_isN pa) rfl, fun σ F H ρ Q s hV h => ?_⟩
  have h : Po BRel X.mg W σ F H (((ga ρ).bind dIsN).bind toBl) Q := h
  rw [Rz.bind_assoc] at h
  refine ra σ F H ρ _ s hV (Po.bind h fun d x F1 H1 e1 q1 h1 => ⟨_, rfl, ?_⟩)
  rw [dec_non q1]
  rw [isN_eq] at h1
  exact Po.okh h1 e1.fh rfl
theorem dt_notN {a : Expr} {ga : G} {j p pos} (ha : DE X W a ga) : DT X W (.Compare a [.IsNot] [.Constant .none j p] pos) (tVal (g1 dNotN ga)) := by
  obtain ⟨ta, pa, ra⟩ := ha
  refine ⟨_, pt_cmp (pc_notN pa) rfl, fun σ F H ρ Q s hV h => ?_⟩
  have h : Po BRel X.mg W σ F H (((ga ρ).bind dNotN).bind toBl) Q := h
  rw [Rz.bind_assoc] at h
  refine ra σ F H ρ _ s hV (Po.bind h fun d x F1 H1 e1 q1 h1 => ⟨_, rfl, ?_⟩)
  rw [dec_non q1]
  rw [notN_eq] at h1
  exact Po.okh h1 e1.fh rfl
/-! ### truth -/
theorem truV {F H : Hp} {v : V} {d : D} {k : Bool} (s : Same F H) (q : Dr X.K F v d) (h : truth d = .ok k) : TruV X.K v H k := by
  cases q with
  | non => cases h; rfl
  | bl b => cases h; rfl
  | int i => cases h; rfl
  | str x =>
    by_cases hc : x.length ≤ lim
    · simp only [truth, if_pos hc, Rz.ok.injEq] at h
      subst h
      refine ⟨sz_lim hc, ?_⟩
      rw [Bool.eq_iff_iff]
      simp
    · simp only [truth, if_neg hc] at h
      cases h
  | lst e a =>
    cases h
    refine .inl ⟨_, SqL.of (s _ _ e), ?_⟩
    cases a <;> rfl
  | tup e a =>
    cases h
    refine .inr (.inl ⟨_, sqT_same s e.sq, ?_⟩)
    cases a <;> rfl
  | ro e => cases h
  | wk e a => cases h
  | exc a c => cases h
  | dct e k r a => cases h
  | mat e1 e2 e3 a => cases h
theorem truth_bind {α β : Type} {Rel : Hp → α → β → Prop} {σ : St} {F H : Hp} {d : D} {f : Bool → Rz β} {Q : α → Hp → Prop} (h : Po Rel X.mg W σ F H ((truth d).bind f) Q) : ∃ k, truth d = .ok k ∧ Po Rel X.mg W σ F H (f k) Q := by
  cases e : truth d with
  | ok k =>
    rw [e] at h
    exact ⟨k, rfl, h⟩
  | ex c =>
    exfalso
    cases d with
    | str x =>
      by_cases hc : x.length ≤ lim
      · simp only [truth, if_pos hc] at e
        cases e
      · simp only [truth, if_neg hc] at e
        cases e
    | _ => cases e
  | st =>
    rw [e] at h
    exact h.elim
theorem de_not {a : Expr} {ga : G} {pos} (ha : DE X W a ga) : DE X W (.UnaryOp .Not a pos) (gNot ga) := by
  obtain ⟨ta, pa, ra⟩ := ha
  refine ⟨_, pe_notT pa, fun σ F H ρ Q s hV h => ra σ F H ρ _ s hV (Po.bind h fun d x F1 H1 e1 q1 h1 => ?_)⟩
  obtain ⟨k, hk, h2⟩ := truth_bind h1
  exact ⟨k, truV e1.fh q1 hk, Po.okh h2 e1.fh (.bl _)⟩
theorem de_one {op : BoolOp} {a : Expr} {ga : G} {pos} (ha : DE X W a ga) : DE X W (.BoolOp op [a] pos) ga := by
  obtain ⟨ta, pa, ra⟩ := ha
  exact ⟨_, pe_one pa, ra⟩
theorem de_and {a b : Expr} {rest : List Expr} {ga gb : G} {pos} (ha : DE X W a ga) (hb : DE X W (.BoolOp .And (b :: rest) pos) gb) : DE X W (.BoolOp .And (a :: b :: rest) pos) (gAnd ga gb) := by
  obtain ⟨ta, pa, ra⟩ := ha
  obtain ⟨tb, pb, rb⟩ := hb
  refine ⟨_, pe_andT pa pb, fun σ F H ρ Q s hV h => ra σ F H ρ _ s hV (Po.bind h fun d x F1 H1 e1 q1 h1 => ?_)⟩
  obtain ⟨k, hk, h2⟩ := truth_bind h1
  refine ⟨k, truV e1.fh q1 hk, ?_⟩
  cases k with
  | true => exact iteT (rb σ F1 H1 ρ Q e1.fh (hV.same e1.ff) h2)
  | false => exact iteF (Po.okh h2 e1.fh q1)
theorem de_or {a b : Expr} {rest : List Expr} {ga gb : G} {pos} (ha : DE X W a ga) (hb : DE X W (.BoolOp .Or (b :: rest) pos) gb) : DE X W (.BoolOp .Or (a :: b :: rest) pos) (gOr ga gb) := by
  obtain ⟨ta, pa, ra⟩ := ha
  obtain ⟨tb, pb, rb⟩ := hb
  refine ⟨_, pe_orT pa pb, fun σ F H ρ Q s hV h => ra σ F H ρ _ s hV (Po.bind h fun d x F1 H1 e1 q1 h1 => ?_)⟩
  obtain ⟨k, hk, h2⟩ := truth_bind h1
  refine ⟨k, truV e1.fh q1 hk, ?_⟩
  cases k with
  | true => exact iteT (Po.okh h2 e1.fh q1)
  | false => exact iteF (rb σ F1 H1 ρ Q e1.fh (hV.same e1.ff) h2)
theorem dt_tru {a : Expr} {ga : G} (ha : DE X W a ga) (he : ∀ whole, isTrue a X.env whole = (do let v ← whole; standAt a.pos; holding [v] (truthy v)) := by intro _; rfl) : DT X W a (tTru ga) := by
  obtain ⟨ta, pa, ra⟩ := ha
  refine ⟨_, pt_truth pa he, fun σ F H ρ Q s hV h => ra σ F H ρ _ s hV (Po.bind h fun d x F1 H1 e1 q1 h1 => ?_)⟩
  have h1' : Po BRel X.mg W σ F1 H1 ((truth d).bind .ok) Q := by
    cases hd : truth d with
    | ok k => rw [hd] at h1; exact h1
    | ex c => rw [hd] at h1; exact h1
    | st => rw [hd] at h1; exact h1
  obtain ⟨k, hk, h2⟩ := truth_bind h1'
  exact ⟨k, truV e1.fh q1 hk, Po.okh h2 e1.fh rfl⟩
theorem dt_not {a : Expr} {ga : GT} {pos} (ha : DT X W a ga) : DT X W (.UnaryOp .Not a pos) (tNt ga) := by
  obtain ⟨ta, pa, ra⟩ := ha
  refine ⟨_, pt_not pa, fun σ F H ρ Q s hV h => ra σ F H ρ _ s hV (Po.bind h fun d x F1 H1 e1 q1 h1 => ?_)⟩
  obtain rfl : x = d := q1
  exact Po.okh h1 e1.fh rfl
theorem dw_and1 {a : Expr} {ga : GT} {pos} (ha : DT X W a ga) : DW X W (.BoolOp .And [a] pos) ga := by
  obtain ⟨ta, pa, ra⟩ := ha
  exact ⟨_, pw_and1 pa, ra⟩
theorem dw_or1 {a : Expr} {ga : GT} {pos} (ha : DT X W a ga) : DW X W (.BoolOp .Or [a] pos) ga := by
  obtain ⟨ta, pa, ra⟩ := ha
  exact ⟨_, pw_or1 pa, ra⟩
theorem dw_and {a b : Expr} {rest : List Expr} {ga gb : GT} {pos} (ha : DT X W a ga) (hb : DW X W (.BoolOp .And (b :: rest) pos) gb) : DW X W (.BoolOp .And (a :: b :: rest) pos) (tAn ga gb) := by
  obtain ⟨ta, pa, ra⟩ := ha
  obtain ⟨tb, pb, rb⟩ := hb
  refine ⟨_, pw_and pa pb, fun σ F H ρ Q s hV h => ra σ F H ρ _ s hV (Po.bind h fun d x F1 H1 e1 q1 h1 => ?_)⟩
  obtain rfl : x = d := q1
  cases x with
  | true => exact iteT (rb σ F1 H1 ρ Q e1.fh (hV.same e1.ff) h1)
  | false => exact iteF (Po.okh h1 e1.fh rfl)
theorem dw_or {a b : Expr} {rest : List Expr} {ga gb : GT} {pos} (ha : DT X W a ga) (hb : DW X W (.BoolOp .Or (b :: rest) pos) gb) : DW X W (.BoolOp .Or (a :: b :: rest) pos) (tOrr ga gb) := by
  obtain ⟨ta, pa, ra⟩ := ha
  obtain ⟨tb, pb, rb⟩ := hb
  refine ⟨_, pw_or pa pb, fun σ F H ρ Q s hV h => ra σ F H ρ _ s hV (Po.bind h fun d x F1 H1 e1 q1 h1 => ?_)⟩
  obtain rfl : x = d := q1
  cases x with
  | true => exact iteT (Po.okh h1 e1.fh rfl)
  | false => exact iteF (rb σ F1 H1 ρ Q e1.fh (hV.same e1.ff) h1)
theorem dt_w {a : Expr} {ga : GT} (ha : DW X W a ga) : DT X W a ga := by
  obtain ⟨ta, pa, ra⟩ := ha
  exact ⟨_, pa.pt, ra⟩
/-! ### chains -/
theorem de_chain {a b c : Expr} {k k' : CmpOp} {ga gb gc : G} {o1 o2 : D → D → Rz D} {pos : Pos} (h1 : OpD X W (compareOp k) o1) (h2 : OpD X W (compareOp k') o2) (ha : DE X W a ga) (hb : DE X W b gb) (hc : DE X W c gc) (hm : lastMarks [k, k'] [b, c] = false := by rfl) :
    DE X W (.Compare a [k, k'] [b, c] pos) (gChain o1 o2 ga gb gc) := by
  obtain ⟨r1, p1, q1⟩ := h1
  obtain ⟨r2, p2, q2⟩ := h2
  obtain ⟨ta, pa, ra⟩ := ha
  obtain ⟨tb, pb, rb⟩ := hb
  obtain ⟨tc, pc, rc⟩ := hc
  refine ⟨_, pe_chain p1 p2 pa pb pc hm, fun σ F H ρ Q s hV h => ra σ F H ρ _ s hV (Po.bind h fun d x F1 H1 e1 x1 h1 => ?_)⟩
  refine rb σ F1 H1 ρ _ e1.fh (hV.same e1.ff) (Po.bind h1 fun e y F2 H2 e2 x2 h2 => ?_)
  refine q1 σ F2 H2 x y d e _ e2.fh (x1.same e2.ff) x2 (Po.bind h2 fun z v F3 H3 e3 x3 h3 => ?_)
  cases x3 with
  | bl k =>
    refine ⟨k, rfl, ?_⟩
    cases k with
    | true =>
      have h3' : Po (Dr X.K) X.mg W σ F3 H3 ((gc ρ).bind fun w => o2 e w) Q := h3
      refine iteT (rc σ F3 H3 ρ _ e3.fh (hV.same ((e1.ff.trans e2.ff).trans e3.ff)) (Po.bind h3' fun w u F4 H4 e4 x4 h4 => ?_))
      exact q2 σ F4 H4 y u e w Q e4.fh (x2.same (e3.ff.trans e4.ff)) x4 h4
    | false => exact iteF (Po.okh h3 e3.fh (.bl _))
  | _ => exact False.elim h3
theorem dt_chain {a b c : Expr} {k k' : CmpOp} {ga gb gc : G} {o1 o2 : D → D → Rz D} {pos : Pos} (h1 : OpD X W (compareOp k) o1) (h2 : OpD X W (compareOp k') o2) (ha : DE X W a ga) (hb : DE X W b gb) (hc : DE X W c gc) (hm : lastMarks [k, k'] [b, c] = false := by rfl) :
    DT X W (.Compare a [k, k'] [b, c] pos) (tChn o1 o2 ga gb gc) := by
  obtain ⟨r1, p1, q1⟩ := h1
  obtain ⟨r2, p2, q2⟩ := h2
  obtain ⟨ta, pa, ra⟩ := ha
  obtain ⟨tb, pb, rb⟩ := hb
  obtain ⟨tc, pc, rc⟩ := hc
  refine ⟨_, pt_chain p1 p2 pa pb pc hm, fun σ F H ρ Q s hV h => ?_⟩
  -- the whole by the value's reading
  have val : ∀ (Q' : VK), Po (Dr X.K) X.mg W σ F H (gChain o1 o2 ga gb gc ρ) Q' → tChain r1 r2 ta tb tc σ H Q' := by
    intro Q' h
    refine ra σ F H ρ _ s hV (Po.bind h fun d x F1 H1 e1 x1 h1 => ?_)
    refine rb σ F1 H1 ρ _ e1.fh (hV.same e1.ff) (Po.bind h1 fun e y F2 H2 e2 x2 h2 => ?_)
    refine q1 σ F2 H2 x y d e _ e2.fh (x1.same e2.ff) x2 (Po.bind h2 fun z v F3 H3 e3 x3 h3 => ?_)
    cases x3 with
    | bl k =>
      refine ⟨k, rfl, ?_⟩
      cases k with
      | true =>
        have h3' : Po (Dr X.K) X.mg W σ F3 H3 ((gc ρ).bind fun w => o2 e w) Q' := h3
        refine iteT (rc σ F3 H3 ρ _ e3.fh (hV.same ((e1.ff.trans e2.ff).trans e3.ff)) (Po.bind h3' fun w u F4 H4 e4 x4 h4 => ?_))
        exact q2 σ F4 H4 y u e w Q' e4.fh (x2.same (e3.ff.trans e4.ff)) x4 h4
      | false => exact iteF (Po.okh h3 e3.fh (.bl _))
    | _ => exact False.elim h3
  refine val _ (Po.bind h fun z v F3 H3 e3 x3 h3 => ?_)
  cases x3 with
  | bl k => exact ⟨k, rfl, Po.okh h3 e3.fh rfl⟩
  | _ => exact False.elim h3
/-! ### displays, arguments, calls -/
theorem da_nil : DA X W [] aNil := ⟨_, pa_nil, fun σ F H ρ Q s hV h => h.okh s .nil⟩
theorem da_cons {e : Expr} {es : List Expr} {g : G} {gs : GA} (ha : DE X W e g) (hr : DA X W es gs) (hs : starEach (e :: es) X.env = (false, eval e X.env) :: starEach es X.env := by rfl) : DA X W (e :: es) (aCons g gs) := by
  obtain ⟨ta, pa, ra⟩ := ha
  obtain ⟨tb, pb, rb⟩ := hr
  refine ⟨_, pa_cons pa pb hs, fun σ F H ρ Q s hV h => ra σ F H ρ _ s hV (Po.bind h fun d x F1 H1 e1 q1 h1 => ?_)⟩
  exact rb σ F1 H1 ρ _ e1.fh (hV.same e1.ff) (Po.bind h1 fun ds xs F2 H2 e2 q2 h2 => Po.okh h2 e2.fh (.cons (q1.same e2.ff) q2))
theorem de_tup {es : List Expr} {gs : GA} {x1} {pos} (h : DA X W es gs) : DE X W (.Tuple es x1 pos) (gTup gs) := by
  obtain ⟨t, p, r⟩ := h
  refine ⟨_, pe_tupF p, fun σ F H ρ Q s hV h => r σ F H ρ _ s hV (Po.bind h fun ds xs F1 H1 e1 q1 h1 => ?_)⟩
  obtain ⟨hc, h2⟩ := Po.ifst h1
  refine ⟨by rw [q1.len]; exact sz_lim hc, fun p o hp hd => ?_⟩
  have e := Ext.new (F := F1) e1.fh hp (o := .frz o (.tup xs))
  exact Po.ok h2 e (.tup (.at hd) (q1.same e.ff))
theorem de_lst {es : List Expr} {gs : GA} {pos} (h : DA X W es gs) : DE X W (.List es pos) (gLst gs) := by
  obtain ⟨t, p, r⟩ := h
  refine ⟨_, pe_lst p, fun σ F H ρ Q s hV h => r σ F H ρ _ s hV (Po.bind h fun ds xs F1 H1 e1 q1 h1 => ?_)⟩
  obtain ⟨hc, h2⟩ := Po.ifst h1
  refine ⟨by rw [q1.len]; exact sz_lim hc, fun p hp => ?_⟩
  have e := Ext.new (F := F1) e1.fh hp (o := .lst xs)
  exact Po.ok h2 e (.lst upd_same (q1.same e.ff))
/-- a def of the text promises f -/
def spD (K : PySem.W.Frag) (mg : Str → Option Value) (n : Nat) (f : List D → Rz D) : Sp := fun vs H Q E => ∃ (F : Hp) (ds : List D), Same F H ∧ DrAll K F vs ds ∧ ds.length = n ∧ Po (Dr K) mg (fun cls d _ H' => E cls d H') [] F H (f ds) Q
abbrev FnD (P : Program) (w : World) (K : PySem.W.Frag) (mg : Str → Option Value) (base : Heap) (k : Nat) (fa : Addr) (fd : FuncData) (ps : List Str) (f : List D → Rz D) : Prop :=
  FnOk P w K mg base (L2.CX P w) k fa fd ps (spD K mg ps.length f)
theorem FnD.imp {P : Program} {w : World} {K : PySem.W.Frag} {mg : Str → Option Value} {base : Heap} {k : Nat} {fa : Addr} {fd : FuncData} {ps : List Str} {f g : List D → Rz D} (h : FnD P w K mg base k fa fd ps f)
    (hg : ∀ ds, ds.length = ps.length → g ds = .st ∨ f ds = g ds) : FnD P w K mg base k fa fd ps g :=
  FnOk.imp h fun vs H Q E ⟨F, ds, s, q, n, p⟩ => by
    rcases hg ds n with z | z
    · rw [z] at p
      exact p.elim
    · exact ⟨F, ds, s, q, n, by rw [z]; exact p⟩
/-- f(e, ..) -/
theorem de_call {k : Nat} {fa : Addr} {fd : FuncData} {ps : List Str} {f : List D → Rz D} {x : Str} {p pos : Pos} {e : Expr} {es : List Expr} {gs : GA} (Fn : FnD X.prog X.w X.K X.mg X.base k fa fd ps f) (hr : Room k X.A) (hm : X.mg x = some (.ref fa)) (hk : PySem.W.keepIn X.K (.ref fa) = true)
    (hb : Binds X.K fd ps []) (tk : Takes X W) (ha : DA X W (e :: es) gs) (hl : (e :: es).length = ps.length := by rfl) (hg : Gl X x := by rfl) (hdb : (x == ("__debug__" : Str)) = false := by decide)
    (he : starEach (e :: es) X.env = (false, eval e X.env) :: starEach es X.env := by rfl) (hpl : (backTo pos (starEach es X.env)).any (·.1) = false := by rfl) (hn : ∀ ρ ds, gs ρ = .ok ds → ds.length = (e :: es).length := by (intro ρ ds h; first | exact aLen_cons h fun _ h => aLen_nil h | exact aLen_cons h fun _ h => aLen_cons h fun _ h => aLen_nil h | exact aLen_cons h fun _ h => aLen_cons h fun _ h => aLen_cons h fun _ h => aLen_nil h | exact aLen_cons h fun _ h => aLen_cons h fun _ h => aLen_cons h fun _ h => aLen_cons h fun _ h => aLen_nil h)) :
    DE X W (.Call (.Name x p) (e :: es) [] pos) (gCall f gs) := by
  obtain ⟨t, pa, r⟩ := ha
  refine ⟨_, pe_callS (E := WE W) Fn hr hg hm hk hb (fun σ => passAt tk σ) pa hdb he hpl, fun σ F H ρ Q s hV h => r σ F H ρ _ s hV ?_⟩
  unfold gCall at h
  have hn := hn ρ
  cases hgs : gs ρ with
  | ok ds =>
    rw [hgs] at h
    intro vs F1 H1 e1 q1
    have h1 := Po.ext (r := f ds) (Rel := Dr X.K) (mg := X.mg) (W := W) (σ := σ) (Q := Q) h e1
    refine ⟨F1, ds, e1.fh, q1, by rw [hn ds hgs, hl], ?_⟩
    cases hf : f ds with
    | ok d => rw [hf] at h1; exact h1
    | ex c => rw [hf] at h1; exact h1
    | st => rw [hf] at h1; exact h1
  | ex c =>
    rw [hgs] at h
    exact h
  | st =>
    rw [hgs] at h
    exact h
end
end DL
/-! part DLs3 -/
namespace DL
open PySem PySem.Spec PyProof.Rows L2
section
variable {X : Cx} {W : WX}
/-! ### index, slice -/
theorem Po.orSt0 {α β : Type} {mg : Str → Option Value} {σ : St} {F H : Hp} {Rel : Hp → α → β → Prop} {o : Option β} {Q : α → Hp → Prop} (h : Po Rel mg W σ F H (DL.orSt o) Q) : ∃ d, o = some d ∧ Po Rel mg W σ F H (.ok d) Q := by
  cases o with
  | none => exact False.elim h
  | some d => exact ⟨d, rfl, h⟩
theorem ixD_eq (n : Nat) (i : Int) : ixD n i = ixN n i := rfl
theorem atD_eq {α : Type} (xs : List α) (i : Int) : atD xs i = atI xs i := rfl
theorem DrAll.atI {K : PySem.W.Frag} {H : Hp} {ds : List D} {vs : List V} {i : Int} {d : D} (a : DrAll K H vs ds) (h : atD ds i = some d) : ∃ v, L2.atI vs i = some v ∧ Dr K H v d := by
  unfold atD at h
  unfold L2.atI
  rw [a.len]
  rw [ixD_eq] at h
  cases e : ixN ds.length i with
  | none =>
    rw [e] at h
    cases h
  | some j =>
    rw [e] at h
    exact a.get h
theorem ix_str_ok {z : Str} {i : Int} {d : D} (h : ((atD z.cps.toList i).map fun c => (PyData.str ⟨#[c]⟩ : D)) = some d) : ∃ c, L2.atI z.cps.toList i = some c ∧ d = .str ⟨#[c]⟩ := by
  rw [atD_eq] at h
  cases e : L2.atI z.cps.toList i with
  | none =>
    rw [e] at h
    cases h
  | some c =>
    rw [e] at h
    cases h
    exact ⟨c, rfl, rfl⟩
theorem de_ix {a b : Expr} {ga gb : G} {pos : Pos} (ha : DE X W a ga) (hb : DE X W b gb) (hs : PlainIx b := by exact fun _ _ => rfl) : DE X W (.Subscript a b pos) (g2 dIx ga gb) := by
  obtain ⟨ta, pa, ra⟩ := ha
  obtain ⟨tb, pb, rb⟩ := hb
  refine ⟨_, pe_ix ix_seq pa pb hs, bin_run ra rb fun σ F H x y d e Q s q1 q2 h => ?_⟩
  cases q1 with
  | lst e1 a1 =>
    cases q2 with
    | int i =>
      obtain ⟨d, hd, h2⟩ := Po.orSt0 h
      obtain ⟨v, hv, qv⟩ := a1.atI hd
      exact .inl ⟨_, _, i, v, rfl, rfl, SqL.of (s _ _ e1), hv, h2.okh s qv⟩
    | _ => exact False.elim h
  | tup e1 a1 =>
    cases q2 with
    | int i =>
      obtain ⟨d, hd, h2⟩ := Po.orSt0 h
      obtain ⟨v, hv, qv⟩ := a1.atI hd
      exact .inr (.inl ⟨_, _, i, v, rfl, rfl, sqT_same s e1.sq, hv, h2.okh s qv⟩)
    | _ => exact False.elim h
  | ro e1 =>
    cases q2 with
    | int i =>
      obtain ⟨d, hd, h2⟩ := Po.orSt0 h
      obtain ⟨v, hv, qv⟩ := (DrAll.intsA (K := X.K) (H := F) _).atI hd
      exact .inl ⟨_, _, i, v, rfl, rfl, s.seq e1, hv, h2.okh s qv⟩
    | _ => exact False.elim h
  | str z =>
    cases q2 with
    | int i =>
      obtain ⟨hc, h⟩ := Po.ifst h
      obtain ⟨d, hd, h2⟩ := Po.orSt0 h
      obtain ⟨c, hv, rfl⟩ := ix_str_ok hd
      exact .inr (.inr ⟨_, _, c, rfl, rfl, sz_lim hc, hv, h2.okh s (.str _)⟩)
    | _ => exact False.elim h
  | _ => exact False.elim h
/-- a part of a slice -/
def DO (X : Cx) (W : WX) (e : Option Expr) (g : GO) : Prop := ∃ t, PO X e t ∧ ∀ (σ : St) (F H : Hp) (ρ : En) (Q : Option Int → Hp → Prop), Same F H → Vr X.K F σ ρ → Po (fun _ v d => v = d) X.mg W σ F H (g ρ) Q → t σ H Q
theorem do_none : DO X W none oNo := ⟨_, po_none, fun σ F H ρ Q s hV h => h.okh s rfl⟩
theorem do_some {e : Expr} {g : G} (h : DE X W e g) : DO X W (some e) (oSm g) := by
  obtain ⟨t, p, r⟩ := h
  refine ⟨_, po_some p, fun σ F H ρ Q s hV h => r σ F H ρ _ s hV (Po.bind h fun d x F1 H1 e1 q1 h1 => ?_)⟩
  cases q1 with
  | int i => exact ⟨i, rfl, Po.okh h1 e1.fh rfl⟩
  | _ => exact False.elim h1
theorem sIx_eq (n d : Nat) (o : Option Int) : HT.sIx n d o = sIxD n d o := by
  cases o with
  | none => rfl
  | some i =>
    show (if i < 0 then (i + (n : Int)).toNat else min i.toNat n) = if 0 ≤ i then min i.toNat n else (i + n).toNat
    by_cases h : 0 ≤ i
    · rw [if_neg (by omega), if_pos h]
    · rw [if_pos (by omega), if_neg h]
theorem cutV_eq (xs : List V) (lo hi : Option Int) : cutV xs lo hi = cutD xs lo hi := by
  unfold cutV cutD
  rw [sIx_eq, sIx_eq]
theorem DrAll.cut {K : PySem.W.Frag} {H : Hp} {ds : List D} {vs : List V} (a : DrAll K H vs ds) (lo hi : Option Int) : DrAll K H (cutV vs lo hi) (cutD ds lo hi) := by
  rw [cutV_eq]
  unfold cutD
  rw [a.len]
  exact (a.drop _).take _
theorem sl_or {r1 r2 : V → Option Int → Option Int → Hp → VK → Prop} (h1 : SlR X r1) (h2 : SlR X r2) : SlR X (fun x l h H Q => r1 x l h H Q ∨ r2 x l h H Q) := by
  intro pins s σ H x v vl vu lo hi sl Q I rx hs pl pu h
  rcases h with h | h
  · exact h1 pins s σ H x v vl vu lo hi sl Q I rx hs pl pu h
  · exact h2 pins s σ H x v vl vu lo hi sl Q I rx hs pl pu h
theorem cut_whole {α : Type} {xs : List α} {lo hi : Option Int} (h1 : sIxD xs.length 0 lo = 0) (h2 : sIxD xs.length xs.length hi = xs.length) : cutD xs lo hi = xs := by
  unfold cutD
  rw [h1, h2, List.drop_zero, Nat.sub_zero, List.take_length]
theorem cutS_eq (z : Str) (lo hi : Option Int) : cutS z lo hi = ⟨(cutD z.cps.toList lo hi).toArray⟩ := by
  unfold cutS cutD
  rw [sIx_eq, sIx_eq]
  first
    | rfl
    | simp
theorem de_sl {a : Expr} {lo hi : Option Expr} {ga : G} {gl gh : GO} {p2 pos : Pos} (ha : DE X W a ga) (hl : DO X W lo gl) (hh : DO X W hi gh) : DE X W (.Subscript a (.Slice lo hi none p2) pos) (gSl ga gl gh) := by
  obtain ⟨ta, pa, ra⟩ := ha
  obtain ⟨tl, pl, rl⟩ := hl
  obtain ⟨th, ph, rh⟩ := hh
  refine ⟨_, pe_slice (sl_or sl_list (sl_or sl_tupF sl_str)) pa pl ph, fun σ F H ρ Q s hV h => ra σ F H ρ _ s hV (Po.bind h fun d x F1 H1 e1 q1 h1 => ?_)⟩
  refine rl σ F1 H1 ρ _ e1.fh (hV.same e1.ff) (Po.bind h1 fun l l' F2 H2 e2 q2 h2 => ?_)
  refine rh σ F2 H2 ρ _ e2.fh (hV.same (e1.ff.trans e2.ff)) (Po.bind h2 fun u u' F3 H3 e3 q3 h3 => ?_)
  cases q2
  cases q3
  have q1 := q1.same (e2.ff.trans e3.ff)
  have s := e3.fh
  cases q1 with
  | lst ea aa =>
    refine .inl ⟨_, _, rfl, SqL.of (s _ _ ea), fun p hp => ?_⟩
    exact Po.ok h3 (Ext.new s hp) (.lst upd_same ((aa.cut _ _).same (same_upd (s.free hp))))
  | tup ea aa =>
    refine .inr (.inl ⟨_, _, rfl, sqT_same s ea.sq, fun z => ?_, fun z p o hp hd => ?_⟩)
    · rw [sIx_eq, sIx_eq, aa.len] at z
      have h3' : Po (Dr X.K) X.mg W σ F3 H3 (.ok (.tuple (cutD _ l u))) Q := h3
      rw [cut_whole z.1 z.2] at h3'
      exact Po.okh h3' s (.tup ea aa)
    · exact Po.ok h3 (Ext.new s hp) (.tup (.at hd) ((aa.cut _ _).same (same_upd (s.free hp))))
  | str z =>
    obtain ⟨hc, h3⟩ := Po.ifst h3
    refine .inr (.inr ⟨_, rfl, sz_lim hc, ?_⟩)
    rw [cutS_eq]
    exact Po.okh h3 s (.str _)
  | _ => exact False.elim h3
theorem de_neg {a : Expr} {ga : G} {pos : Pos} (ha : DE X W a ga) : DE X W (.UnaryOp .USub a pos) (g1 dNeg ga) := by
  obtain ⟨ta, pa, ra⟩ := ha
  refine ⟨_, pe_un un_neg pa, fun σ F H ρ Q s hV h => ra σ F H ρ _ s hV (Po.bind h fun d x F1 H1 e1 q1 h1 => ?_)⟩
  cases q1 with
  | int i => exact ⟨i, rfl, Po.okh h1 e1.fh (.int _)⟩
  | _ => exact False.elim h1
/-! ### built-ins of one argument -/
/-- a built-in, by data -/
def CaD (X : Cx) (W : WX) (f : Value) (op : List D → Rz D) : Prop :=
  ∃ r : List V → Hp → VK → Prop, CallR X f r ∧ ∀ (σ : St) (F H : Hp) (xs : List V) (ds : List D) (Q : VK), Same F H → DrAll X.K F xs ds → Po (Dr X.K) X.mg W σ F H (op ds) Q → r xs H Q
theorem de_blt {id : String} {op : List D → Rz D} {x : Str} {p pos : Pos} {e : Expr} {es : List Expr} {gs : GA} (c : CaD X W (.builtin id) op) (hm : X.mg x = none) (hv : bootBuiltins x = some (.builtin id)) (ha : DA X W (e :: es) gs) (hg : Gl X x := by rfl) (hn : x ≠ "__name__" := by decide) (hdb : (x == ("__debug__" : Str)) = false := by decide)
    (he : starEach (e :: es) X.env = (false, eval e X.env) :: starEach es X.env := by rfl) (hpl : (backTo pos (starEach es X.env)).any (·.1) = false := by rfl) : DE X W (.Call (.Name x p) (e :: es) [] pos) (gCall op gs) := by
  obtain ⟨r, h1, h2⟩ := c
  obtain ⟨t, pa, ra⟩ := ha
  exact ⟨_, pe_callB h1 hg hm hv pa hn hdb he hpl, fun σ F H ρ Q s hV h => ra σ F H ρ _ s hV (Po.bind h fun ds xs F1 H1 e1 q1 h1 => h2 σ F1 H1 xs ds Q e1.fh q1 h1)⟩
theorem de_ty {T : String} {op : List D → Rz D} {x : Str} {p pos : Pos} {e : Expr} {es : List Expr} {gs : GA} (c : CaD X W (.type T) op) (hm : X.mg x = none) (hv : bootBuiltins x = some (.type T)) (ha : DA X W (e :: es) gs) (hg : Gl X x := by rfl) (hn : x ≠ "__name__" := by decide) (hdb : (x == ("__debug__" : Str)) = false := by decide)
    (he : starEach (e :: es) X.env = (false, eval e X.env) :: starEach es X.env := by rfl) (hpl : (backTo pos (starEach es X.env)).any (·.1) = false := by rfl) : DE X W (.Call (.Name x p) (e :: es) [] pos) (gCall op gs) := by
  obtain ⟨r, h1, h2⟩ := c
  obtain ⟨t, pa, ra⟩ := ha
  exact ⟨_, pe_callTy h1 hg hm hv pa hn hdb he hpl, fun σ F H ρ Q s hV h => ra σ F H ρ _ s hV (Po.bind h fun ds xs F1 H1 e1 q1 h1 => h2 σ F1 H1 xs ds Q e1.fh q1 h1)⟩
theorem CaD.on1 {f : Value} {op : D → Rz D} {r : List V → Hp → VK → Prop} (h : CallR X f r) (k : ∀ (σ : St) (F H : Hp) (x : V) (d : D) (Q : VK), Same F H → Dr X.K F x d → Po (Dr X.K) X.mg W σ F H (op d) Q → r [x] H Q) : CaD X W f (on1 op) := by
  refine ⟨r, h, fun σ F H xs ds Q s q h => ?_⟩
  cases q with
  | nil => exact h.elim
  | cons q1 q2 =>
    cases q2 with
    | nil => exact k σ F H _ _ Q s q1 h
    | cons _ _ => exact h.elim
theorem cd_len : CaD X W (.builtin "len") (on1 dLen) := .on1 call_len fun σ F H x d Q s q h => by
  cases q with
  | lst e a => exact ⟨_, _, rfl, .inl ⟨_, SqL.of (s _ _ e), rfl⟩, by rw [a.len]; exact Po.okh h s (.int _)⟩
  | tup e a => exact ⟨_, _, rfl, .inr ⟨_, sqT_same s e.sq, rfl⟩, by rw [a.len]; exact Po.okh h s (.int _)⟩
  | @ro a ns e =>
    have h' : Po (Dr X.K) X.mg W σ F H (.ok (.int ((ns.map PyData.int).length : Nat))) Q := h
    rw [List.length_map] at h'
    exact ⟨_, _, rfl, .inl ⟨_, s.seq e, rfl⟩, by rw [List.length_map]; exact Po.okh h' s (.int _)⟩
  | str z =>
    obtain ⟨hc, h⟩ := Po.ifst h
    exact ⟨_, _, rfl, ⟨sz_lim hc, rfl⟩, Po.okh h s (.int _)⟩
  | _ => exact False.elim h
theorem cd_tuple : CaD X W (.type "tuple") (on1 dTuple) := .on1 call_tupF fun σ F H x d Q s q h => by
  cases q with
  | lst e a => exact ⟨_, _, rfl, .inl ⟨SqL.of (s _ _ e), fun p o hp hd => Po.ok h (Ext.new s hp) (.tup (.at hd) (a.same (same_upd (s.free hp))))⟩⟩
  | tup e a => exact ⟨_, _, rfl, .inr ⟨sqT_same s e.sq, Po.okh h s (.tup e a)⟩⟩
  | _ => exact False.elim h
theorem cd_list : CaD X W (.type "list") (on1 dList) := .on1 call_list_of fun σ F H x d Q s q h => by
  cases q with
  | lst e a => exact ⟨_, _, rfl, .inl (SqL.of (s _ _ e)), fun p hp => Po.ok h (Ext.new s hp) (.lst upd_same (a.same (same_upd (s.free hp))))⟩
  | tup e a => exact ⟨_, _, rfl, .inr (sqT_same s e.sq), fun p hp => Po.ok h (Ext.new s hp) (.lst upd_same (a.same (same_upd (s.free hp))))⟩
  | _ => exact False.elim h
theorem cd_abs : CaD X W (.builtin "abs") (on1 dAbs) := .on1 call_abs fun σ F H x d Q s q h => by
  cases q with
  | int i => exact ⟨_, rfl, Po.okh h s (.int _)⟩
  | _ => exact False.elim h
theorem cd_max (hc : X.calm = true) : CaD X W (.builtin "max") dMax := ⟨_, call_max2 hc, fun σ F H xs ds Q s q h => by
  cases q with
  | nil => exact h.elim
  | cons q1 q2 => cases q2 with
    | nil => cases q1 <;> exact h.elim
    | cons q2 q3 => cases q3 with
      | cons _ _ => cases q1 <;> cases q2 <;> exact h.elim
      | nil => cases q1 with
        | int i => cases q2 with
          | int j => exact ⟨i, j, rfl, Po.okh h s (.int _)⟩
          | _ => exact False.elim h
        | _ => cases q2 <;> exact False.elim h⟩
theorem rg_dr {K : PySem.W.Frag} {H : Hp} (i j : Int) : DrAll K H (rgV i j) (rng i j) := by
  unfold rgV rng
  generalize (j - i).toNat = n
  have : ∀ l : List Nat, DrAll K H (l.map fun (k : Nat) => V.int (i + (k : Int))) (l.map fun (k : Nat) => (PyData.int (i + (k : Int)) : D)) := by
    intro l
    induction l with
    | nil => exact .nil
    | cons a r ih => exact .cons (.int _) ih
  exact this _
theorem rg_ok {i j : Int} (h1 : sml i = true) (h2 : sml j = true) : RgOk i j := by
  have a := sml_iff h1
  have b := sml_iff h2
  exact ⟨by omega, by omega, by omega, by omega, by omega⟩
theorem de_listRg1 {a : Expr} {ga : G} {p q pos1 pos : Pos} (hm : X.mg "list" = none) (hm2 : X.mg "range" = none) (ha : DE X W a ga) (hc : X.calm = true := by rfl) (hg : Gl X "list" := by rfl) (hg2 : Gl X "range" := by rfl)
    (n1 : starEach [a] X.env = (false, eval a X.env) :: starEach [] X.env := by rfl) (n2 : starEach [Expr.Call (.Name "range" q) [a] [] pos1] X.env = (false, eval (Expr.Call (.Name "range" q) [a] [] pos1) X.env) :: starEach [] X.env := by rfl) :
    DE X W (.Call (.Name "list" p) [.Call (.Name "range" q) [a] [] pos1] [] pos) (gListRg (aCons ga aNil)) := by
  obtain ⟨ta, pa, ra⟩ := ha
  refine ⟨_, pe_listRg hc hg hm (prg_1 hg2 hm2 pa n1) n2, fun σ F H ρ Q s hV h => ?_⟩
  have h : Po (Dr X.K) X.mg W σ F H ((((ga ρ).bind fun x => .ok [x]).bind rngOf).bind fun xs => .ok (.list xs)) Q := h
  rw [Rz.bind_assoc, Rz.bind_assoc] at h
  refine ra σ F H ρ _ s hV (Po.bind h fun d x F1 H1 e1 q1 h1 => ?_)
  cases q1 with
  | int j =>
    have h1 : Po (Dr X.K) X.mg W σ F1 H1 ((if sml j = true then Rz.ok (rng 0 j) else .st).bind fun xs => .ok (.list xs)) Q := h1
    by_cases hj : sml j = true
    · rw [if_pos hj] at h1
      exact ⟨j, rfl, rg_ok (by decide) hj, fun p hp => Po.ok h1 (Ext.new e1.fh hp) (.lst upd_same (rg_dr 0 j))⟩
    · rw [if_neg hj] at h1
      exact h1.elim
  | _ => exact False.elim h1
theorem de_tupRg1 {a : Expr} {ga : G} {p q pos1 pos : Pos} (hm : X.mg "tuple" = none) (hm2 : X.mg "range" = none) (ha : DE X W a ga) (hc : X.calm = true := by rfl) (hg : Gl X "tuple" := by rfl) (hg2 : Gl X "range" := by rfl)
    (n1 : starEach [a] X.env = (false, eval a X.env) :: starEach [] X.env := by rfl) (n2 : starEach [Expr.Call (.Name "range" q) [a] [] pos1] X.env = (false, eval (Expr.Call (.Name "range" q) [a] [] pos1) X.env) :: starEach [] X.env := by rfl) :
    DE X W (.Call (.Name "tuple" p) [.Call (.Name "range" q) [a] [] pos1] [] pos) (gTupRg (aCons ga aNil)) := by
  obtain ⟨ta, pa, ra⟩ := ha
  refine ⟨_, pe_tupRgF hc hg hm (prg_1 hg2 hm2 pa n1) n2, fun σ F H ρ Q s hV h => ?_⟩
  have h : Po (Dr X.K) X.mg W σ F H ((((ga ρ).bind fun x => .ok [x]).bind rngOf).bind fun xs => .ok (.tuple xs)) Q := h
  rw [Rz.bind_assoc, Rz.bind_assoc] at h
  refine ra σ F H ρ _ s hV (Po.bind h fun d x F1 H1 e1 q1 h1 => ?_)
  cases q1 with
  | int j =>
    have h1 : Po (Dr X.K) X.mg W σ F1 H1 ((if sml j = true then Rz.ok (rng 0 j) else .st).bind fun xs => .ok (.tuple xs)) Q := h1
    by_cases hj : sml j = true
    · rw [if_pos hj] at h1
      exact ⟨j, rfl, rg_ok (by decide) hj, fun p o hp hd => Po.ok h1 (Ext.new e1.fh hp) (.tup (.at hd) (rg_dr 0 j))⟩
    · rw [if_neg hj] at h1
      exact h1.elim
  | _ => exact False.elim h1
/-! ### isinstance(x, T), T a built-in class -/
theorem ty_of {K : PySem.W.Frag} {F H : Hp} {v : V} {d : D} (s : Same F H) (q : Dr K F v d) (hd : ∀ kvs, d ≠ .dict kvs) : TyX K H v (.type (tyD d)) := by
  cases q with
  | non => exact .base .non
  | bl b => exact .base (.bl b)
  | int i => exact .base (.int i)
  | str x => exact .base (.str x)
  | lst e a => exact .base (.lst (s _ _ e))
  | tup e a =>
    obtain ⟨o, e, _⟩ := e
    exact .fTuple (s _ _ e)
  | ro e => exact absurd rfl (hd _)
  | wk e a => exact absurd rfl (hd _)
  | exc a c => exact absurd rfl (hd _)
  | dct e k r a => exact absurd rfl (hd _)
  | mat e1 e2 e3 a => exact absurd rfl (hd _)
def isiTys : List String := ["int", "bool", "str", "list", "tuple"]
theorem kit_all : (isiTys.all fun T => ["NoneType", "bool", "int", "str", "list", "tuple"].all fun a => kitB a T == some (subTy a T)) = true := by decide +kernel
theorem kit_one {d : D} {T : String} (hT : isiTys.contains T = true) (hd : ∀ kvs, d ≠ .dict kvs) : kitB (tyD d) T = some (subTy (tyD d) T) := by
  have h := List.all_eq_true.mp kit_all T (by simpa using hT)
  have m : tyD d ∈ ["NoneType", "bool", "int", "str", "list", "tuple"] := by
    cases d with
    | dict kvs => exact absurd rfl (hd kvs)
    | _ => simp [tyD]
  have h2 := List.all_eq_true.mp h _ m
  simpa using h2
theorem de_isi {T : Str} {n : String} {a : Expr} {ga : G} {p q pos : Pos} (hm : X.mg "isinstance" = none) (hm2 : X.mg T = none) (hv2 : bootBuiltins T = some (.type n)) (hT : isiTys.contains n = true) (ha : DE X W a ga) (hg : Gl X "isinstance" := by rfl) (hg2 : Gl X T := by rfl)
    (hn : T ≠ "__name__" := by decide) (hdb : (T == ("__debug__" : Str)) = false := by decide)
    (n1 : starEach [a, Expr.Name T q] X.env = (false, eval a X.env) :: starEach [Expr.Name T q] X.env := by rfl) (n2 : starEach [Expr.Name T q] X.env = (false, eval (Expr.Name T q) X.env) :: starEach [] X.env := by rfl) (hpl : (backTo pos (starEach [Expr.Name T q] X.env)).any (·.1) = false := by rfl) :
    DE X W (.Call (.Name "isinstance" p) [a, .Name T q] [] pos) (g1 (dIsi n) ga) := by
  obtain ⟨ta, pa, ra⟩ := ha
  refine ⟨_, pe_callB call_isi hg hm (by decide +kernel) (pa_cons pa (pa_cons (pe_bltn (v := .ty n) hg2 hm2 hv2 rfl hn hdb) pa_nil n2) n1) (by decide) (by decide) n1 hpl, fun σ F H ρ Q s hV h => ?_⟩
  refine ra σ F H ρ _ s hV (Po.bind h fun d x F1 H1 e1 q1 h1 => ?_)
  cases hd : d with
  | dict kvs =>
    subst hd
    exact h1.elim
  | _ =>
    refine ⟨x, .ty n, .type (tyD d), .type n, subTy (tyD d) n, rfl, .ty n, ty_of e1.fh q1 (by intro kvs; rw [hd]; intro z; cases z), kit_ty (kit_one hT (by intro kvs; rw [hd]; intro z; cases z)), ?_⟩
    subst hd
    exact Po.okh h1 e1.fh (.bl _)
end
end DL
/-! part DLs4 -/
namespace DL
open PySem PySem.Spec PyProof.Rows L2
/-! ### canonical readings -/
section
variable (K : PySem.W.Frag) (mg : Str → Option Value) (W : WX)
def canE (g : G) : TE := fun σ H Q => ∃ (F : Hp) (ρ : En), Same F H ∧ Vr K F σ ρ ∧ Po (Dr K) mg W σ F H (g ρ) Q
def canT (g : GT) : TT := fun σ H Q => ∃ (F : Hp) (ρ : En), Same F H ∧ Vr K F σ ρ ∧ Po BRel mg W σ F H (g ρ) Q
end
theorem DE.can {X : Cx} {W : WX} {e : Expr} {g : G} (h : DE X W e g) : PE X e (canE X.K X.mg W g) := by
  obtain ⟨t, p, r⟩ := h
  exact ⟨fun pins s σ H Q I ⟨F, ρ, sm, hV, q⟩ => p.run pins s σ H Q I (r σ F H ρ Q sm hV q)⟩
theorem DT.can {X : Cx} {W : WX} {e : Expr} {g : GT} (h : DT X W e g) : PT X e (canT X.K X.mg W g) := by
  obtain ⟨t, p, r⟩ := h
  exact ⟨fun pins s σ H Q I ⟨F, ρ, sm, hV, q⟩ => p.run pins s σ H Q I (r σ F H ρ Q sm hV q)⟩
/-! ### targets -/
def setsV (σ : St) : List Nat → List V → St
  | i :: is, v :: vs => setsV (σ.set i (some v)) is vs
  | _, _ => σ
def canG (K : PySem.W.Frag) (t : TgD) : TG := fun v σ H Q => ∃ (F : Hp) (d : D) (ds : List D), Same F H ∧ Dr K F v d ∧ t.f d = some ds ∧ ∀ us, DrAll K F us ds → Q (setsV σ t.is us) H
def DG (X : Cx) (tg : Expr) (t : TgD) : Prop := PG X tg (canG X.K t)
theorem pg_imp {X : Cx} {tg : Expr} {g g' : TG} (h : PG X tg g) (k : ∀ v σ H Q, g' v σ H Q → g v σ H Q) : PG X tg g' := ⟨fun pins s σ H Q x u I r q => h.run pins s σ H Q x u I r (k _ _ _ _ q)⟩
theorem dg_name {X : Cx} (i : Nat) {x : Str} {pos : Pos} (hN : X.N.Nodup) (hi : X.N[i]? = some x := by rfl) (hx : Loc X.env.scope x := by first | exact Or.inl rfl | exact Or.inr rfl) (hf : X.fn x = true ∨ X.env.scope.names.lookup x = some .local := by first | exact .inl rfl | exact .inr rfl) :
    DG X (.Name x pos) (tgN i) := pg_imp (pg_name hN hi hx hf) fun v σ H Q ⟨F, d, ds, s, q, e, k⟩ => by
  cases e
  exact k [v] (.cons q .nil)
def DGs (X : Cx) (ts : List Expr) (is : List Nat) : Prop := PGs X ts (fun vs σ H Q => vs.length = is.length ∧ Q (setsV σ is vs) H)
theorem pgs_imp {X : Cx} {ts : List Expr} {g g' : TGs} (h : PGs X ts g) (k : ∀ v σ H Q, g' v σ H Q → g v σ H Q) : PGs X ts g' := ⟨fun pins s σ H Q x u I r q => h.run pins s σ H Q x u I r (k _ _ _ _ q)⟩
theorem dgs_nil {X : Cx} : DGs X [] [] := pgs_imp pgs_nil fun vs σ H Q h => by
  obtain ⟨h1, h2⟩ := h
  have e : vs = [] := List.length_eq_zero_iff.mp h1
  subst e
  exact ⟨rfl, h2⟩
theorem dgs_cons {X : Cx} (i : Nat) {x : Str} {pos : Pos} {ts : List Expr} {is : List Nat} (hN : X.N.Nodup) (h : DGs X ts is) (hi : X.N[i]? = some x := by rfl) (hx : Loc X.env.scope x := by first | exact Or.inl rfl | exact Or.inr rfl) (hf : X.fn x = true ∨ X.env.scope.names.lookup x = some .local := by first | exact .inl rfl | exact .inr rfl) :
    DGs X (.Name x pos :: ts) (i :: is) := pgs_imp (pgs_cons (pg_name hN hi hx hf) h) fun vs σ H Q h => by
  obtain ⟨h1, h2⟩ := h
  cases vs with
  | nil => cases h1
  | cons v r => exact ⟨v, r, rfl, Nat.succ.inj h1, h2⟩
theorem dg_tup {X : Cx} {ts : List Expr} {is : List Nat} {k : Nat} {pos : Pos} (hc : X.calm = true) (h : DGs X ts is) (hn : (assignEach ts X.env).length = is.length := by rfl) (hst : (assignEach ts X.env).findIdx? (·.1) = none := by rfl) : DG X (.Tuple ts k pos) (tgT is) :=
  pg_imp (pg_tup hc h hn hst) fun v σ H Q ⟨F, d, ds, s, q, e, kk⟩ => by
    cases q with
    | tup e1 a1 =>
      have e : (if _ = is.length then some _ else none) = some ds := e
      split at e
      · rename_i hl
        cases e
        refine ⟨_, _, rfl, sqT_same s e1.sq, ?_, ?_, kk _ a1⟩
        · rw [a1.len, hl]
        · rw [a1.len, hl]
      · cases e
    | wk e1 a1 =>
      have e : (if _ = is.length then some _ else none) = some ds := e
      split at e
      · rename_i hl
        cases e
        refine ⟨_, _, rfl, sqT_same s e1, ?_, ?_, kk _ a1⟩
        · rw [a1.len, hl]
        · rw [a1.len, hl]
      · cases e
    | _ => cases e
theorem setsV_len : ∀ (is : List Nat) (us : List V) (σ : St), (setsV σ is us).length = σ.length
  | [], _, _ => rfl
  | _ :: _, [], _ => rfl
  | i :: is, u :: us, σ => by
    show (setsV (σ.set i (some u)) is us).length = _
    rw [setsV_len is us, List.length_set]
theorem setsV_off : ∀ (is : List Nat) (us : List V) (σ : St) (j : Nat), j ∉ is → (setsV σ is us)[j]? = σ[j]?
  | [], _, _, _, _ => rfl
  | _ :: _, [], _, _, _ => rfl
  | i :: is, u :: us, σ, j, h => by
    show (setsV (σ.set i (some u)) is us)[j]? = _
    rw [setsV_off is us _ j fun z => h (List.mem_cons_of_mem _ z), List.getElem?_set_ne fun z => h (by rw [z]; exact List.mem_cons_self)]
theorem Vr.sets {K : PySem.W.Frag} {F : Hp} : ∀ {is : List Nat} {us : List V} {ds : List D} {σ : St} {ρ : En}, Vr K F σ ρ → DrAll K F us ds → Vr K F (setsV σ is us) (setsE ρ is ds)
  | [], _, _, _, _, h, _ => h
  | _ :: _, _, _, _, _, h, .nil => h
  | i :: is, _, _, _, _, h, .cons q a => Vr.sets (is := is) (h.set i q) a
theorem wipe_at (σ : St) (j : Nat) : ∀ vs : List Nat, (wipe σ vs)[j]? = if j ∈ vs then (if j < σ.length then some none else none) else σ[j]?
  | [] => by simp [wipe]
  | v :: vs => by
    unfold wipe
    by_cases h : v = j
    · subst h
      rw [if_pos List.mem_cons_self]
      by_cases hl : v < σ.length
      · rw [List.getElem?_set_self (by rw [wipe_length]; exact hl), if_pos hl]
      · rw [List.getElem?_eq_none (by rw [List.length_set, wipe_length]; omega), if_neg hl]
    · rw [List.getElem?_set_ne h, wipe_at σ j vs]
      by_cases hm : j ∈ vs
      · rw [if_pos hm, if_pos (List.mem_cons_of_mem _ hm)]
      · rw [if_neg hm, if_neg fun z => (List.mem_cons.mp z).elim (fun e => h e.symm) hm]
theorem wipe_same {σ σ' : St} {vs : List Nat} (hl : σ'.length = σ.length) (h : ∀ j, j ∉ vs → σ'[j]? = σ[j]?) : wipe σ' vs = wipe σ vs := by
  apply List.ext_getElem?
  intro j
  rw [wipe_at, wipe_at, hl]
  by_cases hm : j ∈ vs
  · rw [if_pos hm, if_pos hm]
  · rw [if_neg hm, if_neg hm, h j hm]
theorem wipe_wipe (σ : St) (vs : List Nat) : wipe (wipe σ vs) vs = wipe σ vs := wipe_same (wipe_length σ vs) fun j hj => by rw [wipe_at, if_neg hj]
/-! ### what is walked -/
def Ylds (K : PySem.W.Frag) (F : Hp) (J : It) (ds : List D) : Prop := ∀ F' H', Same F F' → Same F' H' → ∀ i,
  (∀ d, ds[i]? = some d → J.go i H' ∧ ∀ x H2, J.yld i H' x H2 → ∃ F2, Ext F' H' F2 H2 ∧ Dr K F2 x d) ∧ (ds.length ≤ i → J.stop i H')
def DI (X : Cx) (W : WX) (tg iter : Expr) (gi : GA) : Prop := ∃ wi, PI X tg iter wi ∧ ∀ (σ : St) (F H : Hp) (ρ : En) (R : It → Hp → Prop), Same F H → Vr X.K F σ ρ → Po (Ylds X.K) X.mg W σ F H (gi ρ) R → wi σ H R
theorem ylds_list {K : PySem.W.Frag} {F : Hp} {a : Addr} {xs : List V} {ds : List D} (e : F a = some (.lst xs)) (q : DrAll K F xs ds) : Ylds K F (Itl K a) ds := fun F' H' s1 s2 i => by
  have hq : SqL K H' a xs := SqL.of (s2 _ _ (s1 _ _ e))
  refine ⟨fun d hd => ?_, fun h => ⟨xs, hq, by rw [q.len]; exact h⟩⟩
  obtain ⟨v, hv, qv⟩ := q.get hd
  refine ⟨⟨xs, v, hq, hv⟩, fun x H2 hy => ?_⟩
  obtain ⟨rfl, f⟩ := hy
  have ev : x = v := Option.some.inj ((f xs hq).symm.trans hv)
  subst ev
  exact ⟨F', Ext.refl s2, qv.same s1⟩
theorem ylds_tup {K : PySem.W.Frag} {F : Hp} {a : Addr} {xs : List V} {ds : List D} (e : SqT K F a xs) (q : DrAll K F xs ds) : Ylds K F (Itt K a) ds := fun F' H' s1 s2 i => by
  have hq : SqT K H' a xs := sqT_same s2 (sqT_same s1 e)
  refine ⟨fun d hd => ?_, fun h => ⟨xs, hq, by rw [q.len]; exact h⟩⟩
  obtain ⟨v, hv, qv⟩ := q.get hd
  refine ⟨⟨xs, v, hq, hv⟩, fun x H2 hy => ?_⟩
  obtain ⟨rfl, f⟩ := hy
  have ev : x = v := Option.some.inj ((f xs hq).symm.trans hv)
  subst ev
  exact ⟨F', Ext.refl s2, qv.same s1⟩
theorem ylds_str {K : PySem.W.Frag} {F : Hp} {z : Str} : Ylds K F (Its z) (z.cps.toList.map fun c => .str ⟨#[c]⟩) := fun F' H' s1 s2 i => by
  refine ⟨fun d hd => ?_, fun h => ?_⟩
  · rw [List.getElem?_map] at hd
    cases e : z.cps.toList[i]? with
    | none =>
      rw [e] at hd
      cases hd
    | some c =>
      rw [e] at hd
      cases hd
      have hlt : i < z.cps.size := by
        have := (List.getElem?_eq_some_iff.mp e).1
        simpa using this
      refine ⟨hlt, fun x H2 hy => ?_⟩
      obtain ⟨rfl, c', h1, rfl⟩ := hy
      have : c' = c := by
        have h2 : z.cps.toList[i]? = some c' := by simpa using h1
        exact Option.some.inj (h2.symm.trans e)
      subst this
      exact ⟨F', Ext.refl s2, .str _⟩
  · rw [List.length_map] at h
    show z.cps.size ≤ i
    simpa using h
theorem ylds_rng {K : PySem.W.Frag} {F : Hp} (i j : Int) : Ylds K F (Itr i (j - i).toNat) (rng i j) := fun F' H' s1 s2 k => by
  unfold rng
  refine ⟨fun d hd => ?_, fun h => ?_⟩
  · rw [List.getElem?_map] at hd
    by_cases hk : k < (j - i).toNat
    · rw [List.getElem?_range hk] at hd
      cases hd
      refine ⟨hk, fun x H2 hy => ?_⟩
      obtain ⟨rfl, rfl⟩ := hy
      exact ⟨F', Ext.refl s2, .int _⟩
    · rw [List.getElem?_eq_none (by rw [List.length_range]; omega)] at hd
      cases hd
  · rw [List.length_map, List.length_range] at h
    exact h
section
variable {X : Cx} {W : WX}
theorem pi_or {tg it : Expr} {w1 w2 : TI} (h1 : PI X tg it w1) (h2 : PI X tg it w2) : PI X tg it (fun σ H R => w1 σ H R ∨ w2 σ H R) := ⟨fun pins s σ H R I h => by
  rcases h with h | h
  · exact h1.run pins s σ H R I h
  · exact h2.run pins s σ H R I h⟩
theorem di_seq {tg e : Expr} {g : G} (h : DE X W e g) : DI X W tg e (iSeq g) := by
  have h := h.can
  refine ⟨_, pi_or (pi_list h) (pi_or (pi_tup h) (pi_str h)), fun σ F H ρ R s hV q => ?_⟩
  cases hg : g ρ with
  | ok d =>
    have q : Po (Ylds X.K) X.mg W σ F H ((g ρ).bind items) R := q
    rw [hg] at q
    have q : Po (Ylds X.K) X.mg W σ F H (items d) R := q
    cases d with
    | list ds =>
      refine .inl ⟨F, ρ, s, hV, ?_⟩
      rw [hg]
      intro v F1 H1 e1 q1
      cases q1 with
      | lst ea aa => exact ⟨_, rfl, ⟨_, SqL.of (e1.fh _ _ ea)⟩, Po.ok q e1 (ylds_list ea aa)⟩
    | tuple ds =>
      refine .inr (.inl ⟨F, ρ, s, hV, ?_⟩)
      rw [hg]
      intro v F1 H1 e1 q1
      cases q1 with
      | tup ea aa => exact ⟨_, rfl, ⟨_, sqT_same e1.fh ea.sq⟩, Po.ok q e1 (ylds_tup ea.sq aa)⟩
    | str z =>
      refine .inr (.inr ⟨F, ρ, s, hV, ?_⟩)
      rw [hg]
      intro v F1 H1 e1 q1
      cases q1
      exact ⟨_, rfl, Po.ok q e1 ylds_str⟩
    | _ => exact q.elim
  | ex c =>
    have q : Po (Ylds X.K) X.mg W σ F H ((g ρ).bind items) R := q
    rw [hg] at q
    refine .inl ⟨F, ρ, s, hV, ?_⟩
    rw [hg]
    exact q
  | st =>
    have q : Po (Ylds X.K) X.mg W σ F H ((g ρ).bind items) R := q
    rw [hg] at q
    exact q.elim
theorem di_rng1 {tg e : Expr} {g : G} {p pos : Pos} (hm : X.mg "range" = none) (h : DE X W e g) (hg : Gl X "range" := by rfl) (n : starEach [e] X.env = [(false, eval e X.env)] := by rfl) (n2 : starEach (e :: []) X.env = (false, eval e X.env) :: starEach [] X.env := by rfl) : DI X W tg (.Call (.Name "range" p) [e] [] pos) (iRg (aCons g aNil)) := by
  obtain ⟨t, pe, r⟩ := h
  refine ⟨_, pi_range1 hg hm (pa_cons pe pa_nil n2) n, fun σ F H ρ R s hV q => ?_⟩
  have q : Po (Ylds X.K) X.mg W σ F H (((g ρ).bind fun x => .ok [x]).bind rngOf) R := q
  rw [Rz.bind_assoc] at q
  refine r σ F H ρ _ s hV (Po.bind q fun d x F1 H1 e1 q1 h1 => ?_)
  cases q1 with
  | int j =>
    obtain ⟨hc, h1⟩ := Po.ifst h1
    have hj := sml_iff hc
    refine ⟨j, rfl, by omega, by omega, ?_⟩
    have y := ylds_rng (K := X.K) (F := F1) 0 j
    rw [Int.sub_zero] at y
    exact Po.okh h1 e1.fh y
  | _ => exact False.elim h1
theorem di_rng2 {tg a b : Expr} {ga gb : G} {p pos : Pos} (hm : X.mg "range" = none) (ha : DE X W a ga) (hb : DE X W b gb) (hg : Gl X "range" := by rfl) (n : starEach [a, b] X.env = [(false, eval a X.env), (false, eval b X.env)] := by rfl) (n2 : starEach [b] X.env = [(false, eval b X.env)] := by rfl)
    (n3 : starEach (a :: [b]) X.env = (false, eval a X.env) :: starEach [b] X.env := by rfl) (n4 : starEach (b :: []) X.env = (false, eval b X.env) :: starEach [] X.env := by rfl) : DI X W tg (.Call (.Name "range" p) [a, b] [] pos) (iRg (aCons ga (aCons gb aNil))) := by
  obtain ⟨ta, pa, ra⟩ := ha
  obtain ⟨tb, pb, rb⟩ := hb
  refine ⟨_, pi_range2 hg hm (pa_cons pa (pa_cons pb pa_nil n4) n3) n n2, fun σ F H ρ R s hV q => ?_⟩
  have q : Po (Ylds X.K) X.mg W σ F H (((ga ρ).bind fun x => ((gb ρ).bind fun y => .ok [y]).bind fun ys => .ok (x :: ys)).bind rngOf) R := q
  rw [Rz.bind_assoc] at q
  refine ra σ F H ρ _ s hV (Po.bind q fun d x F1 H1 e1 q1 h1 => ?_)
  rw [Rz.bind_assoc, Rz.bind_assoc] at h1
  refine rb σ F1 H1 ρ _ e1.fh (hV.same e1.ff) (Po.bind h1 fun d2 x2 F2 H2 e2 q2 h2 => ?_)
  cases q1 with
  | int i => cases q2 with
    | int j =>
      obtain ⟨hc, h2⟩ := Po.ifst h2
      simp only [Bool.and_eq_true] at hc
      have hi := sml_iff hc.1
      have hj := sml_iff hc.2
      exact ⟨i, j, rfl, ⟨by omega, by omega, by omega, by omega⟩, Po.okh h2 e2.fh (ylds_rng i j)⟩
    | _ => exact False.elim h2
  | _ => cases q2 <;> exact False.elim h2
/-! pairs -/
theorem dr_pair {K : PySem.W.Frag} {F' H' : Hp} {T : Addr} {x y : V} {d e : D} (s : Same F' H') (n : H' T = none) (q1 : Dr K F' x d) (q2 : Dr K F' y e) : ∃ F2, Ext F' H' F2 (upd H' T (.tup [x, y])) ∧ Dr K F2 (.ref T) (wkD [d, e]) := by
  have e := Ext.new (o := .tup [x, y]) s n
  exact ⟨_, e, .wk (SqT.of upd_same) (.cons (q1.same e.ff) (.cons (q2.same e.ff) .nil))⟩
theorem enum_get {xs : List D} {i : Nat} {d : D} (h : (enumOf xs)[i]? = some d) : ∃ e, xs[i]? = some e ∧ d = wkD [.int (i : Nat), e] := by
  unfold enumOf at h
  rw [List.getElem?_map] at h
  cases e : xs[i]? with
  | none =>
    rw [List.getElem?_eq_none (by rw [List.length_zipIdx]; exact List.getElem?_eq_none_iff.mp e)] at h
    cases h
  | some y =>
    rw [List.getElem?_zipIdx, e] at h
    cases h
    refine ⟨y, rfl, ?_⟩
    simp
theorem zip_get : ∀ {xs ys : List D} {i : Nat} {d : D}, (zipOf xs ys)[i]? = some d → ∃ a b, xs[i]? = some a ∧ ys[i]? = some b ∧ d = wkD [a, b]
  | [], _, _, _, h => by simp [zipOf] at h
  | _ :: _, [], _, _, h => by simp [zipOf] at h
  | a :: _, b :: _, 0, d, h => by
    simp [zipOf] at h
    exact ⟨a, b, rfl, rfl, h.symm⟩
  | _ :: xs, _ :: ys, i + 1, d, h => zip_get (xs := xs) (ys := ys) (i := i) (d := d) (by simpa [zipOf] using h)
theorem zip_len (xs ys : List D) : (zipOf xs ys).length = min xs.length ys.length := by
  unfold zipOf
  rw [List.length_zipWith]
theorem ylds_enumL {K : PySem.W.Frag} {F : Hp} {a : Addr} {xs : List V} {ds : List D} (e : F a = some (.lst xs)) (q : DrAll K F xs ds) : Ylds K F (Ite K a) (enumOf ds) := fun F' H' s1 s2 i => by
  have hq : SqL K H' a xs := SqL.of (s2 _ _ (s1 _ _ e))
  refine ⟨fun d hd => ?_, fun h => ⟨xs, hq, by rw [q.len]; unfold enumOf at h; rw [List.length_map, List.length_zipIdx] at h; exact h⟩⟩
  obtain ⟨y, hy, rfl⟩ := enum_get hd
  obtain ⟨v, hv, qv⟩ := q.get hy
  refine ⟨⟨xs, v, hq, hv⟩, fun x H2 hy => ?_⟩
  obtain ⟨T, x', rfl, nT, rfl, f⟩ := hy
  have ev : x' = v := Option.some.inj ((f xs hq).symm.trans hv)
  subst ev
  exact dr_pair s2 nT (.int _) (qv.same s1)
theorem ylds_zipL {K : PySem.W.Frag} {F : Hp} {a b : Addr} {xs ys : List V} {ds es : List D} (e : F a = some (.lst xs)) (q : DrAll K F xs ds) (e' : F b = some (.lst ys)) (q' : DrAll K F ys es) : Ylds K F (Itz K a b) (zipOf ds es) := fun F' H' s1 s2 i => by
  have hq : SqL K H' a xs := SqL.of (s2 _ _ (s1 _ _ e))
  have hq' : SqL K H' b ys := SqL.of (s2 _ _ (s1 _ _ e'))
  refine ⟨fun d hd => ?_, fun h => ⟨xs, ys, hq, hq', by rw [q.len, q'.len]; rw [zip_len] at h; omega⟩⟩
  obtain ⟨y, y', hy, hy', rfl⟩ := zip_get hd
  obtain ⟨v, hv, qv⟩ := q.get hy
  obtain ⟨v', hv', qv'⟩ := q'.get hy'
  refine ⟨⟨xs, ys, v, v', hq, hq', hv, hv'⟩, fun x H2 hy => ?_⟩
  obtain ⟨T, x1, x2, rfl, nT, rfl, f1, f2⟩ := hy
  have ev : x1 = v := Option.some.inj ((f1 xs hq).symm.trans hv)
  have ev' : x2 = v' := Option.some.inj ((f2 ys hq').symm.trans hv')
  subst ev
  subst ev'
  exact dr_pair s2 nT (qv.same s1) (qv'.same s1)
theorem ylds_zipT {K : PySem.W.Frag} {F : Hp} {a b : Addr} {xs ys : List V} {ds es : List D} (e : SqT K F a xs) (q : DrAll K F xs ds) (e' : SqT K F b ys) (q' : DrAll K F ys es) : Ylds K F (RZ.ItzT K a b) (zipOf ds es) := fun F' H' s1 s2 i => by
  have hq : SqT K H' a xs := sqT_same s2 (sqT_same s1 e)
  have hq' : SqT K H' b ys := sqT_same s2 (sqT_same s1 e')
  refine ⟨fun d hd => ?_, fun h => ⟨xs, ys, hq, hq', by rw [q.len, q'.len]; rw [zip_len] at h; omega⟩⟩
  obtain ⟨y, y', hy, hy', rfl⟩ := zip_get hd
  obtain ⟨v, hv, qv⟩ := q.get hy
  obtain ⟨v', hv', qv'⟩ := q'.get hy'
  refine ⟨⟨xs, ys, v, v', hq, hq', hv, hv'⟩, fun x H2 hy => ?_⟩
  obtain ⟨T, x1, x2, rfl, nT, rfl, f1, f2⟩ := hy
  have ev : x1 = v := Option.some.inj ((f1 xs hq).symm.trans hv)
  have ev' : x2 = v' := Option.some.inj ((f2 ys hq').symm.trans hv')
  subst ev
  subst ev'
  exact dr_pair s2 nT (qv.same s1) (qv'.same s1)
theorem di_zip {a b : Expr} {ga gb : G} {p pos tpos : Pos} {elts : List Expr} {kk : Nat} (hm : X.mg "zip" = none) (ha : DE X W a ga) (hb : DE X W b gb) (hg : Gl X "zip" := by rfl) (hs : starEach [a, b] X.env = (false, eval a X.env) :: starEach [b] X.env := by rfl) (hs2 : starEach [b] X.env = (false, eval b X.env) :: starEach [] X.env := by rfl)
    (hpl : (backTo pos (starEach [b] X.env)).any (·.1) = false := by rfl) : DI X W (.Tuple elts kk tpos) (.Call (.Name "zip" p) [a, b] [] pos) (iZp ga gb) := by
  obtain ⟨ta, pa, ra⟩ := ha
  obtain ⟨tb, pb, rb⟩ := hb
  refine ⟨_, RZ.pi_zipA hg hm (pa_cons pa (pa_cons pb pa_nil hs2) hs) hs hpl, fun σ F H ρ R s hV q => ?_⟩
  refine ra σ F H ρ _ s hV (Po.bind q fun d x F1 H1 e1 q1 h1 => ?_)
  refine rb σ F1 H1 ρ _ e1.fh (hV.same e1.ff) (Po.bind h1 fun d2 x2 F2 H2 e2 q2 h2 => ?_)
  have q1 := q1.same e2.ff
  cases q1 with
  | lst ea aa => cases q2 with
    | lst eb ab => exact ⟨_, _, _, _, rfl, .inl ⟨SqL.of (e2.fh _ _ ea), SqL.of (e2.fh _ _ eb), Po.okh h2 e2.fh (ylds_zipL ea aa eb ab)⟩⟩
    | _ => exact False.elim h2
  | tup ea aa => cases q2 with
    | tup eb ab => exact ⟨_, _, _, _, rfl, .inr ⟨sqT_same e2.fh ea.sq, sqT_same e2.fh eb.sq, Po.okh h2 e2.fh (ylds_zipT ea.sq aa eb.sq ab)⟩⟩
    | _ => exact False.elim h2
  | _ => cases q2 <;> exact False.elim h2
end
end DL
/-! part DLs5 -/
namespace DL
open PySem PySem.Spec PyProof.Rows L2
/-! ### owned things: lists that only one name holds -/
inductive Inner (K : PySem.W.Frag) (F H : Hp) : List Addr → List D → Prop
  | nil : Inner K F H [] []
  | cons {q : Addr} {us : List V} {es : List D} {ps : List Addr} {ds : List D} : H q = some (.lst us) → DrAll K F us es → Inner K F H ps ds → Inner K F H (q :: ps) (.list es :: ds)
inductive OwnV (K : PySem.W.Frag) (F H : Hp) : Nat → V → D → List Addr → Prop
  | z {v : V} {d : D} : Dr K F v d → OwnV K F H 0 v d []
  | one {p : Addr} {vs : List V} {ds : List D} : H p = some (.lst vs) → DrAll K F vs ds → OwnV K F H 1 (.ref p) (.list ds) [p]
  | two {p : Addr} {ps : List Addr} {ds : List D} : H p = some (.lst (ps.map .ref)) → (p :: ps).Nodup → Inner K F H ps ds → OwnV K F H 2 (.ref p) (.list ds) (p :: ps)
  | dct {p : Addr} {xs : List EnF} {vs : List V} {ds : List D} : H p = some (df0 p xs) → (∀ x ∈ xs, FzT F x.2.1 (x.1.map V.int)) → Vals vs (xs.map fun x => x.2.2) → DrAll K F vs ds → OwnV K F H 3 (.ref p) (dctD (xs.map (·.1)) ds) [p]
  | mat {p dx h : Addr} {vc : V} {dc : D} {kvs : List (Int × Int)} : H p = some (.ins (He.ga K "Matcher") dx (matFs vc h)) → H dx = some (.own p) → H h = some (.dK (heldV kvs)) → [p, dx, h].Nodup → Dr K F vc dc → OwnV K F H 4 (.ref p) (matD dc kvs) [p, dx, h]
section
variable {K : PySem.W.Frag} {F F' H H' : Hp}
theorem Inner.mono (f : Same F F') : ∀ {ps : List Addr} {ds : List D}, (∀ a ∈ ps, ∀ o, H a = some o → H' a = some o) → Inner K F H ps ds → Inner K F' H' ps ds
  | _, _, _, .nil => .nil
  | _, _, k, .cons e a r => .cons (k _ List.mem_cons_self _ e) (a.same f) (Inner.mono f (fun a ha => k a (List.mem_cons_of_mem _ ha)) r)
theorem OwnV.mono {n : Nat} {v : V} {d : D} {S : List Addr} (f : Same F F') (k : ∀ a ∈ S, ∀ o, H a = some o → H' a = some o) (h : OwnV K F H n v d S) : OwnV K F' H' n v d S := by
  cases h with
  | z q => exact .z (q.same f)
  | one e a => exact .one (k _ List.mem_cons_self _ e) (a.same f)
  | two e nd i => exact .two (k _ List.mem_cons_self _ e) nd (i.mono f fun a ha => k a (List.mem_cons_of_mem _ ha))
  | dct e q r a => exact .dct (k _ List.mem_cons_self _ e) (fun x hx => fz_same f (q x hx)) r (a.same f)
  | mat e1 e2 e3 nd a => exact .mat (k _ List.mem_cons_self _ e1) (k _ (by simp) _ e2) (k _ (by simp) _ e3) nd (a.same f)
theorem Inner.there : ∀ {ps : List Addr} {ds : List D}, Inner K F H ps ds → ∀ a ∈ ps, ∃ o, H a = some o
  | _, _, .cons e _ r, a, ha => by
    rcases List.mem_cons.mp ha with z | z
    · rw [z]
      exact ⟨_, e⟩
    · exact Inner.there r a z
theorem OwnV.there {n : Nat} {v : V} {d : D} {S : List Addr} (h : OwnV K F H n v d S) : ∀ a ∈ S, ∃ o, H a = some o := by
  cases h with
  | z q => intro a ha; cases ha
  | one e a =>
    intro b hb
    rcases List.mem_cons.mp hb with z | z
    · rw [z]
      exact ⟨_, e⟩
    · cases z
  | two e nd i =>
    intro b hb
    rcases List.mem_cons.mp hb with z | z
    · rw [z]
      exact ⟨_, e⟩
    · exact i.there b z
  | dct e q r a =>
    intro b hb
    rcases List.mem_cons.mp hb with z | z
    · rw [z]
      exact ⟨_, e⟩
    · cases z
  | mat e1 e2 e3 nd a =>
    intro b hb
    rcases List.mem_cons.mp hb with z | z
    · rw [z]
      exact ⟨_, e1⟩
    · rcases List.mem_cons.mp z with z | z
      · rw [z]
        exact ⟨_, e2⟩
      · rcases List.mem_cons.mp z with z | z
        · rw [z]
          exact ⟨_, e3⟩
        · cases z
/-- what is owned is let go: it is read from now on -/
theorem Inner.free (f : Same F F') : ∀ {ps : List Addr} {ds : List D}, (∀ a ∈ ps, F' a = H a) → Inner K F H ps ds → DrAll K F' (ps.map .ref) ds
  | _, _, _, .nil => .nil
  | _, _, k, .cons e a r => .cons (.lst ((k _ List.mem_cons_self).trans e) (a.same f)) (Inner.free f (fun a ha => k a (List.mem_cons_of_mem _ ha)) r)
theorem OwnV.free {n : Nat} {v : V} {d : D} {S : List Addr} (f : Same F F') (k : ∀ a ∈ S, F' a = H a) (h : OwnV K F H n v d S) : Dr K F' v d := by
  cases h with
  | z q => exact q.same f
  | one e a => exact .lst ((k _ List.mem_cons_self).trans e) (a.same f)
  | two e nd i => exact .lst ((k _ List.mem_cons_self).trans e) (i.free f fun a ha => k a (List.mem_cons_of_mem _ ha))
  | dct e q r a => exact .dct ((k _ List.mem_cons_self).trans e) (fun x hx => fz_same f (q x hx)) r (a.same f)
  | mat e1 e2 e3 nd a => exact .mat ((k _ List.mem_cons_self).trans e1) ((k _ (by simp)).trans e2) ((k _ (by simp)).trans e3) (a.same f)
end
open Classical in
/-- F with the part of H at P -/
noncomputable def take (P : Addr → Prop) (H F : Hp) : Hp := fun a => if P a then H a else F a
open Classical in
noncomputable def drop (P : Addr → Prop) (F : Hp) : Hp := fun a => if P a then none else F a
section
variable {P : Addr → Prop} {F H : Hp} {a : Addr}
theorem take_in (h : P a) : take P H F a = H a := by unfold take; rw [if_pos h]
theorem take_out (h : ¬ P a) : take P H F a = F a := by unfold take; rw [if_neg h]
theorem drop_in (h : P a) : drop P F a = none := by unfold drop; rw [if_pos h]
theorem drop_out (h : ¬ P a) : drop P F a = F a := by unfold drop; rw [if_neg h]
end
/-- how the names stand: o the owned slots and their depths -/
def ow : List (Nat × Nat) → Nat → Nat
  | [], _ => 0
  | (j, n) :: r, i => if i = j then n else ow r i
theorem ow_out {o : List (Nat × Nat)} {i : Nat} (h : i ∉ o.map Prod.fst) : ow o i = 0 := by
  induction o with
  | nil => rfl
  | cons p r ih =>
    obtain ⟨j, n⟩ := p
    rw [List.map_cons, List.mem_cons] at h
    show (if i = j then n else ow r i) = 0
    rw [if_neg fun z => h (.inl z)]
    exact ih fun z => h (.inr z)
def fpi (fp : Nat → List Addr) (i : Nat) (S : List Addr) : Nat → List Addr := fun j => if j = i then S else fp j
theorem fpi_at {fp : Nat → List Addr} {i j : Nat} {S : List Addr} (h : j = i) : fpi fp i S j = S := if_pos h
theorem fpi_ne {fp : Nat → List Addr} {i j : Nat} {S : List Addr} (h : ¬ j = i) : fpi fp i S j = fp j := if_neg h
structure StR (K : PySem.W.Frag) (F0 H0 F H : Hp) (o : List (Nat × Nat)) (σ : St) (ρ : En) : Prop where
  ext : Ext F0 H0 F H
  len : σ.length = ρ.length
  own : ∃ fp : Nat → List Addr, (∀ (i : Nat) (d : D), ρ[i]? = some (some d) → ∃ v, σ[i]? = some (some v) ∧ OwnV K F H (ow o i) v d (fp i)) ∧ (∀ i a, a ∈ fp i → H0 a = none ∧ F a = none) ∧ (∀ i j a, i ≠ j → a ∈ fp i → a ∉ fp j) ∧ (∀ i, (∀ d, ρ[i]? ≠ some (some d)) → fp i = [])
theorem wipeE_len (ρ : En) : ∀ vs : List Nat, (wipeE ρ vs).length = ρ.length
  | [] => rfl
  | v :: vs => by
    unfold wipeE
    rw [List.length_set, wipeE_len ρ vs]
theorem wipeE_some {ρ : En} {i : Nat} {d : D} : ∀ {vs : List Nat}, (wipeE ρ vs)[i]? = some (some d) → ρ[i]? = some (some d) ∧ i ∉ vs
  | [], h => ⟨h, by simp⟩
  | v :: vs, h => by
    unfold wipeE at h
    by_cases e : v = i
    · subst e
      by_cases hl : v < (wipeE ρ vs).length
      · rw [List.getElem?_set_self hl] at h
        cases h
      · rw [List.getElem?_eq_none (by rw [List.length_set]; omega)] at h
        cases h
    · rw [List.getElem?_set_ne e] at h
      obtain ⟨h1, h2⟩ := wipeE_some h
      exact ⟨h1, fun z => (List.mem_cons.mp z).elim (fun q => e q.symm) h2⟩
section
variable {K : PySem.W.Frag} {F0 H0 F H F' H' : Hp} {o o' : List (Nat × Nat)} {σ : St} {ρ : En}
theorem StR.vr (h : StR K F0 H0 F H o σ ρ) : Vr K F σ (DL.mk (o.map Prod.fst) ρ) := by
  refine ⟨by unfold DL.mk; rw [wipeE_len, h.len], fun i d e => ?_⟩
  obtain ⟨h1, h2⟩ := wipeE_some e
  obtain ⟨fp, k, _⟩ := h.own
  obtain ⟨v, hv, q⟩ := k i d h1
  rw [ow_out h2] at q
  generalize fp i = S at q
  cases q with
  | z q => exact ⟨v, hv, q⟩
theorem StR.grow (h : StR K F0 H0 F H o σ ρ) (e : Ext F H F' H') : StR K F0 H0 F' H' o σ ρ := by
  obtain ⟨fp, k, k2, k3, k4⟩ := h.own
  refine ⟨h.ext.trans e, h.len, fp, fun i d hd => ?_, fun i a ha => ⟨(k2 i a ha).1, ?_⟩, k3, k4⟩
  · obtain ⟨v, hv, q⟩ := k i d hd
    exact ⟨v, hv, q.mono e.ff fun a _ ob ho => e.hh _ _ ho⟩
  · by_cases hd : ∃ d, ρ[i]? = some (some d)
    · obtain ⟨d, hd⟩ := hd
      obtain ⟨v, hv, q⟩ := k i d hd
      obtain ⟨ob, ho⟩ := q.there a ha
      exact e.nf a ob ho (k2 i a ha).2
    · rw [k4 i fun d z => hd ⟨d, z⟩] at ha
      cases ha
/-- everything is let go, for a look; behind it the owned things are owned again -/
theorem StR.borrow (h : StR K F0 H0 F H o σ ρ) : ∃ F1, Same F F1 ∧ Same F1 H ∧ Ext F0 H0 F1 H ∧ Vr K F1 σ ρ ∧ ∀ F2 H2, Ext F1 H F2 H2 → ∃ F3, Same F F3 ∧ StR K F0 H0 F3 H2 o σ ρ := by
  obtain ⟨fp, k, k2, k3, k4⟩ := h.own
  have hP : ∀ a, (∃ i, a ∈ fp i) → H0 a = none ∧ F a = none := fun a ⟨i, ha⟩ => k2 i a ha
  have s1 : Same F (take (fun a => ∃ i, a ∈ fp i) H F) := fun a ob e => by
    rw [take_out fun z => by rw [(hP a z).2] at e; cases e]
    exact e
  have s2 : Same (take (fun a => ∃ i, a ∈ fp i) H F) H := fun a ob e => by
    by_cases z : ∃ i, a ∈ fp i
    · rw [take_in z] at e
      exact e
    · rw [take_out z] at e
      exact h.ext.fh _ _ e
  have x1 : Ext F0 H0 (take (fun a => ∃ i, a ∈ fp i) H F) H := by
    refine ⟨h.ext.hh, h.ext.ff.trans s1, s2, fun a ob e n => ?_, h.ext.s0⟩
    rw [take_out fun z => by rw [(hP a z).1] at e; cases e]
    exact h.ext.nf a ob e n
  refine ⟨_, s1, s2, x1, ⟨h.len, fun i d hd => ?_⟩, fun F2 H2 e => ?_⟩
  · obtain ⟨v, hv, q⟩ := k i d hd
    exact ⟨v, hv, q.free s1 fun a ha => take_in (P := fun a => ∃ i, a ∈ fp i) ⟨i, ha⟩⟩
  · have s3 : Same F (drop (fun a => ∃ i, a ∈ fp i) F2) := fun a ob q => by
      rw [drop_out fun z => by rw [(hP a z).2] at q; cases q]
      exact e.ff _ _ (s1 _ _ q)
    refine ⟨drop (fun a => ∃ i, a ∈ fp i) F2, s3, ⟨?_, h.len, fp, fun i d hd => ?_, fun i a ha => ⟨(k2 i a ha).1, drop_in (P := fun a => ∃ i, a ∈ fp i) ⟨i, ha⟩⟩, k3, k4⟩⟩
    · refine ⟨h.ext.hh.trans e.hh, h.ext.ff.trans s3, fun a ob q => ?_, fun a ob q n => ?_, h.ext.s0⟩
      · by_cases z : ∃ i, a ∈ fp i
        · rw [drop_in z] at q
          cases q
        · rw [drop_out z] at q
          exact e.fh _ _ q
      · by_cases z : ∃ i, a ∈ fp i
        · exact drop_in z
        · rw [drop_out z]
          exact e.nf a ob (h.ext.hh _ _ q) (x1.nf a ob q n)
    · obtain ⟨v, hv, q⟩ := k i d hd
      exact ⟨v, hv, q.mono s3 fun a _ ob ho => e.hh _ _ ho⟩
/-- what stands in slot i is let go for good -/
theorem StR.freeze (h : StR K F0 H0 F H o σ ρ) (i : Nat) (ho : ∀ j, ow o' j = if j = i then 0 else ow o j) : ∃ F1, Same F F1 ∧ StR K F0 H0 F1 H o' σ ρ := by
  obtain ⟨fp, k, k2, k3, k4⟩ := h.own
  have s1 : Same F (take (fun a => a ∈ fp i) H F) := fun a ob e => by
    rw [take_out fun z => by rw [(k2 i a z).2] at e; cases e]
    exact e
  have s2 : Same (take (fun a => a ∈ fp i) H F) H := fun a ob e => by
    by_cases z : a ∈ fp i
    · rw [take_in z] at e
      exact e
    · rw [take_out z] at e
      exact h.ext.fh _ _ e
  refine ⟨_, s1, ⟨⟨h.ext.hh, h.ext.ff.trans s1, s2, fun a ob e n => ?_, h.ext.s0⟩, h.len, fpi fp i [], fun j d hd => ?_, fun j a ha => ?_, fun j l a hjl ha => ?_, fun j hj => ?_⟩⟩
  · rw [take_out fun z => by rw [(k2 i a z).1] at e; cases e]
    exact h.ext.nf a ob e n
  · obtain ⟨v, hv, q⟩ := k j d hd
    refine ⟨v, hv, ?_⟩
    rw [ho]
    by_cases e : j = i
    · subst e
      rw [if_pos rfl, fpi_at rfl]
      exact .z (q.free s1 fun a ha => take_in (P := fun a => a ∈ fp j) ha)
    · rw [if_neg e, fpi_ne e]
      exact q.mono s1 fun a _ ob z => z
  · by_cases e : j = i
    · rw [fpi_at e] at ha
      cases ha
    · rw [fpi_ne e] at ha
      exact ⟨(k2 j a ha).1, by rw [take_out fun z => k3 j i a e ha z]; exact (k2 j a ha).2⟩
  · by_cases e : j = i
    · rw [fpi_at e] at ha
      cases ha
    · rw [fpi_ne e] at ha
      by_cases e' : l = i
      · rw [fpi_at e']
        exact fun z => nomatch z
      · rw [fpi_ne e']
        exact k3 j l a hjl ha
  · by_cases e : j = i
    · rw [fpi_at e]
    · rw [fpi_ne e]
      exact k4 j hj
/-- slot i takes a value, owned (new since H) or not -/
theorem StR.setN (h : StR K F0 H0 F H o σ ρ) (e : Ext F H F' H') {i n : Nat} {v : V} {d : D} {S : List Addr} (q : OwnV K F' H' n v d S) (hS : ∀ a ∈ S, H a = none ∧ F' a = none)
    (ho : ∀ j, ow o' j = if j = i then n else ow o j) : StR K F0 H0 F' H' o' (σ.set i (some v)) (ρ.set i (some d)) := by
  have g := h.grow e
  obtain ⟨fp, k, k2, k3, k4⟩ := h.own
  have there : ∀ m a, a ∈ fp m → ∃ ob, H a = some ob := fun m a ha => by
    by_cases he : ∃ d, ρ[m]? = some (some d)
    · obtain ⟨d', he⟩ := he
      obtain ⟨u, _, qu⟩ := k m d' he
      exact qu.there a ha
    · rw [k4 m fun d z => he ⟨d, z⟩] at ha
      cases ha
  have dis : ∀ m a, a ∈ fp m → a ∉ S := fun m a ha z => by
    obtain ⟨ob, ho⟩ := there m a ha
    rw [(hS a z).1] at ho
    cases ho
  have k2' : ∀ i a, a ∈ fp i → H0 a = none ∧ F' a = none := fun m a ha => by
    obtain ⟨ob, ho⟩ := there m a ha
    exact ⟨(k2 m a ha).1, e.nf a ob ho (k2 m a ha).2⟩
  by_cases hi : i < ρ.length
  · refine ⟨g.ext, by rw [List.length_set, List.length_set, h.len], fpi fp i S, fun j e he => ?_, fun j a ha => ?_, fun j l a hjl ha => ?_, fun j hj => ?_⟩
    · rw [ho]
      by_cases e1 : j = i
      · subst e1
        rw [List.getElem?_set_self hi] at he
        cases he
        rw [if_pos rfl, fpi_at rfl]
        exact ⟨v, List.getElem?_set_self (by rw [h.len]; exact hi), q⟩
      · rw [List.getElem?_set_ne (Ne.symm e1)] at he ⊢
        rw [if_neg e1, fpi_ne e1]
        obtain ⟨u, hu, qu⟩ := k j _ he
        exact ⟨u, hu, qu.mono (by assumption : Ext F H F' H').ff fun a _ ob z => (by assumption : Ext F H F' H').hh _ _ z⟩
    · by_cases e1 : j = i
      · rw [fpi_at e1] at ha
        exact ⟨h.ext.hh.free (hS a ha).1, (hS a ha).2⟩
      · rw [fpi_ne e1] at ha
        exact k2' j a ha
    · by_cases e1 : j = i
      · rw [fpi_at e1] at ha
        have e2 : ¬ l = i := fun z => hjl (e1.trans z.symm)
        rw [fpi_ne e2]
        exact fun z => dis l a z ha
      · rw [fpi_ne e1] at ha
        by_cases e2 : l = i
        · rw [fpi_at e2]
          exact dis j a ha
        · rw [fpi_ne e2]
          exact k3 j l a hjl ha
    · by_cases e1 : j = i
      · subst e1
        exact absurd (List.getElem?_set_self hi) (hj d)
      · rw [fpi_ne e1]
        exact k4 j fun e z => hj e (by rw [List.getElem?_set_ne (Ne.symm e1)]; exact z)
  · have e1 : ρ.set i (some d) = ρ := List.set_eq_of_length_le (by omega)
    have e2 : σ.set i (some v) = σ := List.set_eq_of_length_le (by rw [h.len]; omega)
    rw [e1, e2]
    refine ⟨g.ext, h.len, fp, fun j e he => ?_, k2', k3, k4⟩
    rw [ho]
    have : ¬ j = i := fun z => by
      rw [z, List.getElem?_eq_none (by omega)] at he
      cases he
    rw [if_neg this]
    obtain ⟨u, hu, qu⟩ := k j _ he
    exact ⟨u, hu, qu.mono (by assumption : Ext F H F' H').ff fun a _ ob z => (by assumption : Ext F H F' H').hh _ _ z⟩
theorem StR.set0 (h : StR K F0 H0 F H o σ ρ) {i : Nat} {v : V} {d : D} (q : Dr K F v d) (ho : ∀ j, ow o' j = if j = i then 0 else ow o j) : StR K F0 H0 F H o' (σ.set i (some v)) (ρ.set i (some d)) :=
  h.setN (Ext.refl h.ext.fh) (n := 0) (S := []) (.z q) (fun a z => nomatch z) ho
theorem StR.sets (h : StR K F0 H0 F H o σ ρ) : ∀ {is : List Nat} {us : List V} {ds : List D}, (∀ i ∈ is, ow o i = 0) → DrAll K F us ds → StR K F0 H0 F H o (setsV σ is us) (setsE ρ is ds) := by
  intro is
  induction is generalizing σ ρ with
  | nil => intro us ds _ _; exact h
  | cons i is ih =>
    intro us ds hi a
    cases a with
    | nil => exact h
    | cons q a =>
      refine ih (h.set0 q fun j => ?_) (fun j hj => hi j (List.mem_cons_of_mem _ hj)) a
      by_cases e : j = i
      · rw [if_pos e, e]
        exact hi i List.mem_cons_self
      · rw [if_neg e]
/-- an owned thing is changed in place: only what it owns changes -/
theorem StR.upd (h : StR K F0 H0 F H o σ ρ) {i : Nat} {d d' : D} (hd : ρ[i]? = some (some d)) (change : ∀ v S, σ[i]? = some (some v) → OwnV K F H (ow o i) v d S → (∀ a ∈ S, H0 a = none ∧ F a = none) → ∃ S', S' = S ∧ OwnV K F H' (ow o i) v d' S' ∧ ∀ a, a ∉ S → H' a = H a) : StR K F0 H0 F H' o σ (ρ.set i (some d')) := by
  obtain ⟨fp, k, k2, k3, k4⟩ := h.own
  obtain ⟨v, hv, q⟩ := k i d hd
  obtain ⟨S', e, q', hx⟩ := change v _ hv q fun a ha => k2 i a ha
  subst e
  have hi : i < ρ.length := (List.getElem?_eq_some_iff.mp hd).1
  refine ⟨⟨fun a ob e => ?_, h.ext.ff, fun a ob e => ?_, h.ext.nf, h.ext.s0⟩, by rw [List.length_set, h.len], fp, fun j e he => ?_, k2, k3, fun j hj => ?_⟩
  · rw [hx a fun z => by rw [(k2 i a z).1] at e; cases e]
    exact h.ext.hh _ _ e
  · rw [hx a fun z => by rw [(k2 i a z).2] at e; cases e]
    exact h.ext.fh _ _ e
  · by_cases e1 : j = i
    · subst e1
      rw [List.getElem?_set_self hi] at he
      cases he
      exact ⟨v, hv, q'⟩
    · rw [List.getElem?_set_ne (Ne.symm e1)] at he
      obtain ⟨u, hu, qu⟩ := k j e he
      exact ⟨u, hu, qu.mono (Same.refl _) fun a ha ob z => by rw [hx a (k3 j i a e1 ha)]; exact z⟩
  · by_cases e1 : j = i
    · subst e1
      exact absurd (List.getElem?_set_self hi) (hj d')
    · exact k4 j fun e z => hj e (by rw [List.getElem?_set_ne (Ne.symm e1)]; exact z)
end
end DL
/-! part DLs6 -/
namespace DL
open PySem PySem.Spec PyProof.Rows L2
/-! ### expressions that give a new thing, owned by nobody else -/
abbrev W0 : WX := fun _ _ _ _ => False
def PoN (K : PySem.W.Frag) (mg : Str → Option Value) (W : WX) (n : Nat) (σ : St) (F H : Hp) (r : Rz D) (Q : VK) : Prop := match r with
  | .ok d => ∀ v F' H' S, Ext F H F' H' → OwnV K F' H' n v d S → (∀ a ∈ S, H a = none ∧ F' a = none) → Q v H'
  | .ex c => ∀ C H', Same H H' → mg c = some (.ref C) → W (.ref C) none σ H'
  | .st => False
theorem PoN.ext {K : PySem.W.Frag} {mg : Str → Option Value} {W : WX} {n : Nat} {σ : St} {F H F' H' : Hp} {r : Rz D} {Q : VK} (h : PoN K mg W n σ F H r Q) (e : Ext F H F' H') : PoN K mg W n σ F' H' r Q := by
  cases r with
  | ok d => exact fun v F2 H2 S e2 q hS => h v F2 H2 S (e.trans e2) q fun a ha => ⟨e.hh.free (hS a ha).1, (hS a ha).2⟩
  | ex c => exact fun C H2 s m => h C H2 (e.hh.trans s) m
  | st => exact h
theorem PoN.bind {α β : Type} {K : PySem.W.Frag} {mg : Str → Option Value} {W : WX} {n : Nat} {σ : St} {F H : Hp} {RelA : Hp → α → β → Prop} {r : Rz β} {f : β → Rz D} {Q : VK} {R : α → Hp → Prop} (h : PoN K mg W n σ F H (r.bind f) Q)
    (k : ∀ d v F' H', Ext F H F' H' → RelA F' v d → PoN K mg W n σ F' H' (f d) Q → R v H') : Po RelA mg W σ F H r R := by
  cases r with
  | ok d => exact fun v F2 H2 e q => k d v F2 H2 e q (PoN.ext (r := f d) h e)
  | ex c => exact h
  | st => exact h
def canN (K : PySem.W.Frag) (mg : Str → Option Value) (W : WX) (n : Nat) (g : G) : TE := fun σ H Q => ∃ (F : Hp) (ρ : En), Same F H ∧ Vr K F σ ρ ∧ PoN K mg W n σ F H (g ρ) Q
def DN (X : Cx) (W : WX) (n : Nat) (e : Expr) (g : G) : Prop := PE X e (canN X.K X.mg W n g)
theorem pe_imp {X : Cx} {e : Expr} {t t' : TE} (h : PE X e t) (k : ∀ σ H Q, t' σ H Q → t σ H Q) : PE X e t' := ⟨fun pins s σ H Q I q => h.run pins s σ H Q I (k _ _ _ q)⟩
theorem ps_imp {X : Cx} {e : Stmt} {t t' : TS} (h : PS X e t) (k : ∀ σ H Q, t' σ H Q → t σ H Q) : PS X e t' := ⟨fun pins s σ H Q I q => h.run pins s σ H Q I (k _ _ _ q)⟩
theorem pss_imp {X : Cx} {e : List Stmt} {t t' : TS} (h : PSs X e t) (k : ∀ σ H Q, t' σ H Q → t σ H Q) : PSs X e t' := ⟨fun pins s σ H Q I q => h.run pins s σ H Q I (k _ _ _ q)⟩
section
variable {X : Cx} {W : WX}
theorem de_of {e : Expr} {g : G} (h : PE X e (canE X.K X.mg W g)) : DE X W e g := ⟨_, h, fun σ F H ρ Q s hV q => ⟨F, ρ, s, hV, q⟩⟩
theorem de_new {n : Nat} {e : Expr} {g : G} (h : DN X W n e g) : DE X W e g := de_of (pe_imp h fun σ H Q ⟨F, ρ, s, hV, q⟩ => by
  refine ⟨F, ρ, s, hV, ?_⟩
  cases hg : g ρ with
  | ok d =>
    rw [hg] at q
    intro v F' H' S e qo hS
    have s1 : Same F' (take (fun a => a ∈ S) H' F') := fun a ob z => by
      rw [take_out fun y => by rw [(hS a y).2] at z; cases z]
      exact z
    refine q v (take (fun a => a ∈ S) H' F') H' ⟨e.hh, e.ff.trans s1, fun a ob z => ?_, fun a ob z nn => ?_, e.s0⟩ (qo.free s1 fun a ha => take_in (P := fun a => a ∈ S) ha)
    · by_cases y : a ∈ S
      · rw [take_in y] at z
        exact z
      · rw [take_out y] at z
        exact e.fh _ _ z
    · rw [take_out fun y => by rw [(hS a y).1] at z; cases z]
      exact e.nf a ob z nn
  | ex c =>
    rw [hg] at q
    exact q
  | st =>
    rw [hg] at q
    exact q)
theorem new1 {K : PySem.W.Frag} {F H : Hp} {p : Addr} {vs : List V} {ds : List D} (s : Same F H) (hp : H p = none) (a : DrAll K F vs ds) : Ext F H F (upd H p (.lst vs)) ∧ OwnV K F (upd H p (.lst vs)) 1 (.ref p) (.list ds) [p] ∧ ∀ b ∈ [p], H b = none ∧ F b = none := by
  refine ⟨⟨same_upd hp, Same.refl _, s.trans (same_upd hp), fun _ _ _ z => z, s⟩, .one upd_same a, fun b hb => ?_⟩
  have : b = p := by simpa using hb
  subst this
  exact ⟨hp, s.free hp⟩
theorem dn_lst {es : List Expr} {gs : GA} {pos} (h : DA X W es gs) : DN X W 1 (.List es pos) (gLst gs) := by
  obtain ⟨t, p, r⟩ := h
  refine pe_imp (pe_lst p) fun σ H Q ⟨F, ρ, s, hV, h⟩ => r σ F H ρ _ s hV (PoN.bind h fun ds xs F1 H1 e1 q1 h1 => ?_)
  by_cases hc : ds.length ≤ lim
  · rw [if_pos hc] at h1
    refine ⟨by rw [q1.len]; exact sz_lim hc, fun p hp => ?_⟩
    obtain ⟨a, b, c⟩ := new1 e1.fh hp q1
    exact h1 _ _ _ _ a b c
  · rw [if_neg hc] at h1
    exact h1.elim
theorem dn_list {p pos : Pos} {e : Expr} {ga : G} (hm : X.mg "list" = none) (ha : DE X W e ga) (hg : Gl X "list" := by rfl) (n1 : starEach [e] X.env = (false, eval e X.env) :: starEach [] X.env := by rfl) (hpl : (backTo pos (starEach [] X.env)).any (·.1) = false := by rfl) :
    DN X W 1 (.Call (.Name "list" p) [e] [] pos) (gCall (on1 dList) (aCons ga aNil)) := by
  obtain ⟨t, pa, r⟩ := ha
  refine pe_imp (pe_callTy call_list_of hg hm (by decide +kernel) (pa_cons pa pa_nil n1) (by decide) (by decide) n1 hpl) fun σ H Q ⟨F, ρ, s, hV, h⟩ => ?_
  have h : PoN X.K X.mg W 1 σ F H (((ga ρ).bind fun x => .ok [x]).bind (on1 dList)) Q := h
  rw [Rz.bind_assoc] at h
  refine r σ F H ρ _ s hV (PoN.bind h fun d x F1 H1 e1 q1 h1 => ?_)
  cases q1 with
  | lst e a => exact ⟨_, _, rfl, .inl (SqL.of (e1.fh _ _ e)), fun p hp => (fun ⟨x1, x2, x3⟩ => h1 _ _ _ _ x1 x2 x3) (new1 e1.fh hp a)⟩
  | tup e a => exact ⟨_, _, rfl, .inr (sqT_same e1.fh e.sq), fun p hp => (fun ⟨x1, x2, x3⟩ => h1 _ _ _ _ x1 x2 x3) (new1 e1.fh hp a)⟩
  | _ => exact False.elim h1
/-- [..] * n -/
theorem dn_rep {a b : Expr} {ga gb : G} {pos : Pos} (ha : DE X W a ga) (hb : DE X W b gb) : DN X W 1 (.BinOp a .Mult b pos) (g2 dRep ga gb) := by
  obtain ⟨ta, pa, ra⟩ := ha
  obtain ⟨tb, pb, rb⟩ := hb
  refine pe_imp (pe_op op_rep pa pb) fun σ H Q ⟨F, ρ, s, hV, h⟩ => ra σ F H ρ _ s hV (PoN.bind h fun d x F1 H1 e1 q1 h1 => ?_)
  refine rb σ F1 H1 ρ _ e1.fh (hV.same e1.ff) (PoN.bind h1 fun e y F2 H2 e2 q2 h2 => ?_)
  have q1 := q1.same e2.ff
  cases q1 with
  | @lst _ _ ds ea da => cases q2 with
    | int k =>
      have h2 : PoN X.K X.mg W 1 σ F2 H2 (if (sml k && decide (ds.length * k.toNat ≤ lim)) = true then .ok (.list (List.replicate k.toNat ds).flatten) else .st) Q := h2
      by_cases hc : (sml k && decide (ds.length * k.toNat ≤ lim)) = true
      · rw [if_pos hc] at h2
        simp only [Bool.and_eq_true, decide_eq_true_eq] at hc
        have hk := sml_iff hc.1
        refine ⟨_, _, _, rfl, rfl, e2.fh _ _ ea, by omega, by omega, ?_, fun p hp => ?_⟩
        · rw [da.len]
          exact sz_lim hc.2
        · obtain ⟨x1, x2, x3⟩ := new1 e2.fh hp (da.flat k.toNat)
          exact h2 _ _ _ _ x1 x2 x3
      · rw [if_neg hc] at h2
        exact h2.elim
    | _ => exact False.elim h2
  | _ => cases q2 <;> exact False.elim h2
/-! ### comprehensions -/
theorem lc_noex (tg : TgD) (t : GT) (e : G) (ρ : En) : ∀ (xs : List D) (c : Str), lcGo tg t e ρ xs ≠ .ex c
  | [], c => fun z => nomatch z
  | d :: ds, c => fun z => by
    unfold lcGo at z
    cases h : tg.go d ρ with
    | none =>
      rw [h] at z
      cases z
    | some ρ1 =>
      simp only [h] at z
      cases ht : t ρ1 with
      | ok k =>
        rw [ht] at z
        cases k with
        | true =>
          have z : ((e ρ1).nox.bind fun y => (lcGo tg t e ρ ds).bind fun ys => .ok (y :: ys)) = .ex c := z
          cases he : e ρ1 with
          | ok y =>
            rw [he] at z
            have z : ((lcGo tg t e ρ ds).bind fun ys => .ok (y :: ys)) = .ex c := z
            cases hr : lcGo tg t e ρ ds with
            | ok ys => rw [hr] at z; cases z
            | ex c' => exact lc_noex tg t e ρ ds c' hr
            | st => rw [hr] at z; cases z
          | ex c' => rw [he] at z; cases z
          | st => rw [he] at z; cases z
        | false => exact lc_noex tg t e ρ ds c z
      | ex c' => rw [ht] at z; cases z
      | st => rw [ht] at z; cases z
/-- one turn -/
theorem lc_turn {tg : TgD} {t : GT} {e : G} {ρ : En} {d : D} {ds ys : List D} (h : lcGo tg t e ρ (d :: ds) = .ok ys) :
    ∃ us k, tg.f d = some us ∧ t (setsE ρ tg.is us) = .ok k ∧ ((k = true ∧ ∃ y r, e (setsE ρ tg.is us) = .ok y ∧ lcGo tg t e ρ ds = .ok r ∧ ys = y :: r) ∨ (k = false ∧ lcGo tg t e ρ ds = .ok ys)) := by
  unfold lcGo at h
  cases hf : tg.f d with
  | none =>
    have hg : tg.go d ρ = none := by unfold TgD.go; rw [hf]; rfl
    rw [hg] at h
    cases h
  | some us =>
    have hg : tg.go d ρ = some (setsE ρ tg.is us) := by unfold TgD.go; rw [hf]; rfl
    simp only [hg] at h
    refine ⟨us, ?_⟩
    cases ht : t (setsE ρ tg.is us) with
    | ok k =>
      rw [ht] at h
      refine ⟨k, rfl, rfl, ?_⟩
      cases k with
      | true =>
        have h : ((e (setsE ρ tg.is us)).nox.bind fun y => (lcGo tg t e ρ ds).bind fun ys => .ok (y :: ys)) = .ok ys := h
        cases he : e (setsE ρ tg.is us) with
        | ok y =>
          rw [he] at h
          have h : ((lcGo tg t e ρ ds).bind fun ys => .ok (y :: ys)) = .ok ys := h
          cases hr : lcGo tg t e ρ ds with
          | ok r =>
            rw [hr] at h
            cases h
            exact .inl ⟨rfl, y, r, rfl, rfl, rfl⟩
          | ex c' => rw [hr] at h; cases h
          | st => rw [hr] at h; cases h
        | ex c' => rw [he] at h; cases h
        | st => rw [he] at h; cases h
      | false => exact .inr ⟨rfl, h⟩
    | ex c' => rw [ht] at h; cases h
    | st => rw [ht] at h; cases h
def DTs (X : Cx) (W : WX) (ifs : List Expr) (g : GT) : Prop := PTs X ifs (canT X.K X.mg W g)
theorem dts_nil : DTs X W [] tYs := ⟨fun pins s σ H Q I ⟨F, ρ, sm, hV, q⟩ => pts_nil.run pins s σ H Q I (Po.okh (W := W) (mg := X.mg) (σ := σ) q sm rfl)⟩
theorem dts_one {c : Expr} {g : GT} (h : DT X W c g) : DTs X W [c] g := pts_one h.can
theorem small_lt {n i : Nat} (h : n ≤ lim) (hi : i < n) : i < sizeLine := Nat.lt_of_lt_of_le hi (sz_lim h)
theorem inner_app {K : PySem.W.Frag} {F H : Hp} : ∀ {ps qs : List Addr} {ds es : List PyData}, Inner K F H ps ds → Inner K F H qs es → Inner K F H (ps ++ qs) (ds ++ es)
  | _, _, _, _, .nil, b => b
  | _, _, _, _, .cons e a r, b => .cons e a (inner_app r b)
theorem lc_read0 {K : PySem.W.Frag} {mg : Str → Option Value} {W : WX} {J : It} {F1 H1 : Hp} {xs ys : List D} {tg : TgD} {gt : GT} {ge : G} {vs : List Nat} {σ : St} {ρ : En} {Q : VK} (s1 : Same F1 H1) (hV : Vr K F1 σ ρ) (hy : Ylds K F1 J xs) (hl : xs.length ≤ lim)
    (hsub : ∀ i ∈ tg.is, i ∈ vs) (hgo : lcGo tg gt ge (wipeE ρ vs) xs = .ok ys) (hQ : PoN K mg W 1 σ F1 H1 (.ok (.list ys)) Q) : ∀ D, H1 D = none → ∃ W : Nat → Nat → Hp → Prop, (∃ m, W 0 m (upd H1 D (.lst []))) ∧ ∀ i m H, W i m H →
  (J.stop i H ∧ Q (.ref D) H) ∨ (J.go i H ∧ ∃ Nx : Hp → Prop, (∀ H', Nx H' → ∃ m', m' < m ∧ W (i + 1) m' H') ∧ ∀ x H', J.yld i H x H' → canG K tg x (wipe σ vs) H' fun σ2 H2 => wipe σ2 vs = wipe σ vs ∧ canT K mg W0 gt σ2 H2 fun b H3 =>
    if b = true then canE K mg W0 ge σ2 H3 fun y H4 => ∃ acc, H4 D = some (.lst acc) ∧ acc.length < sizeLine ∧ Nx (upd H4 D (.lst (acc ++ [y]))) else Nx H3) := by
  intro D hD
  refine ⟨fun i m H => m = xs.length - i ∧ i ≤ xs.length ∧ ∃ (F : Hp) (acc : List V) (y1 y2 : List PyData), Same F1 F ∧ Same F H ∧ F D = none ∧ H D = some (.lst acc) ∧ DrAll K F acc y1 ∧ acc.length ≤ i ∧ Same H1 H ∧ (∀ a o, H1 a = some o → F1 a = none → F a = none) ∧
      lcGo tg gt ge (wipeE ρ vs) (xs.drop i) = .ok y2 ∧ y1 ++ y2 = ys, ⟨xs.length, rfl, Nat.zero_le _, F1, [], [], ys, Same.refl _, s1.trans (same_upd hD), s1.free hD, upd_same, .nil, Nat.le_refl _, same_upd hD, fun _ _ _ z => z, by rw [List.drop_zero]; exact hgo, rfl⟩, ?_⟩
  rintro i m H ⟨rfl, hi, F, acc, y1, y2, sF, sH, fD, hDD, ha, hlen, sHH, nf, hgo', hys⟩
  by_cases hlt : i < xs.length
  · right
    have hd : xs[i]? = some xs[i] := List.getElem?_eq_getElem hlt
    obtain ⟨hgo1, hyl⟩ := (hy F H sF sH i).1 _ hd
    rw [List.drop_eq_getElem_cons hlt] at hgo'
    obtain ⟨us, k, hf, ht, hk⟩ := lc_turn hgo'
    refine ⟨hgo1, fun H' => ∃ (F : Hp) (acc : List V) (y1 y2 : List PyData), Same F1 F ∧ Same F H' ∧ F D = none ∧ H' D = some (.lst acc) ∧ DrAll K F acc y1 ∧ acc.length ≤ i + 1 ∧ Same H1 H' ∧ (∀ a o, H1 a = some o → F1 a = none → F a = none) ∧
      lcGo tg gt ge (wipeE ρ vs) (xs.drop (i + 1)) = .ok y2 ∧ y1 ++ y2 = ys, fun H' hN => ⟨xs.length - (i + 1), by omega, rfl, hlt, hN⟩, fun x H' hx => ?_⟩
    obtain ⟨F2, e2, q2⟩ := hyl x H' hx
    refine ⟨F2, _, us, e2.fh, q2, hf, fun ws hws => ?_⟩
    have hV2 : Vr K F2 (setsV (wipe σ vs) tg.is ws) (setsE (wipeE ρ vs) tg.is us) := ((hV.same (sF.trans e2.ff)).wipe vs).sets hws
    refine ⟨?_, F2, _, e2.fh, hV2, ?_⟩
    · rw [wipe_same (setsV_len _ _ _) fun j hj => setsV_off _ _ _ j fun z => hj (hsub j z)]
      exact wipe_wipe σ vs
    rw [ht]
    intro b F3 H3 e3 eb
    cases eb
    have hD3 : H3 D = some (.lst acc) := e3.hh _ _ (e2.hh _ _ hDD)
    have fD3 : F3 D = none := e3.nf D _ (e2.hh _ _ hDD) (e2.nf D _ hDD fD)
    have nf3 : ∀ a o, H1 a = some o → F1 a = none → F3 a = none := fun a o z n => e3.nf a o (e2.hh _ _ (sHH _ _ z)) (e2.nf a o (sHH _ _ z) (nf a o z n))
    rcases hk with ⟨rfl, y, r, he, hr, rfl⟩ | ⟨rfl, hr⟩
    · refine iteT ⟨F3, _, e3.fh, hV2.same e3.ff, ?_⟩
      rw [he]
      intro yv F4 H4 e4 qy
      have hD4 : H4 D = some (.lst acc) := e4.hh _ _ hD3
      have fD4 : F4 D = none := e4.nf D _ hD3 fD3
      have sx : ∀ {G : Hp}, Same G H4 → G D = none → Same G (upd H4 D (.lst (acc ++ [yv]))) := fun {G} g gd a o z => by
        rw [upd_ne (ne_of_none z gd)]
        exact g _ _ z
      refine ⟨acc, hD4, small_lt hl (Nat.lt_of_le_of_lt hlen hlt), F4, acc ++ [yv], y1 ++ [y], r, ((sF.trans e2.ff).trans e3.ff).trans e4.ff, sx e4.fh fD4, fD4, upd_same, ?_, ?_, sx (((sHH.trans e2.hh).trans e3.hh).trans e4.hh) hD, fun a o z n => e4.nf a o (e3.hh _ _ (e2.hh _ _ (sHH _ _ z))) (nf3 a o z n), hr, ?_⟩
      · exact (ha.same ((e2.ff.trans e3.ff).trans e4.ff)).append (.cons qy .nil)
      · rw [List.length_append, List.length_singleton]
        omega
      · rw [← hys, List.append_assoc]
        rfl
    · exact iteF ⟨F3, acc, y1, y2, (sF.trans e2.ff).trans e3.ff, e3.fh, fD3, hD3, ha.same (e2.ff.trans e3.ff), by omega, (sHH.trans e2.hh).trans e3.hh, nf3, hr, hys⟩
  · left
    have ei : i = xs.length := by omega
    subst ei
    rw [List.drop_length] at hgo'
    cases hgo'
    rw [List.append_nil] at hys
    subst hys
    refine ⟨(hy F H sF sH _).2 (Nat.le_refl _), hQ _ F H [D] ⟨sHH, sF, sH, nf, s1⟩ (.one hDD ha) fun a z => ?_⟩
    have : a = D := by simpa using z
    subst this
    exact ⟨hD, fD⟩
theorem lc_read1 {K : PySem.W.Frag} {mg : Str → Option Value} {W : WX} {J : It} {F1 H1 : Hp} {xs ys : List D} {tg : TgD} {gt : GT} {ge : G} {vs : List Nat} {σ : St} {ρ : En} {Q : VK} (s1 : Same F1 H1) (hV : Vr K F1 σ ρ) (hy : Ylds K F1 J xs) (hl : xs.length ≤ lim)
    (hsub : ∀ i ∈ tg.is, i ∈ vs) (hgo : lcGo tg gt ge (wipeE ρ vs) xs = .ok ys) (hQ : PoN K mg W 2 σ F1 H1 (.ok (.list ys)) Q) : ∀ D, H1 D = none → ∃ W : Nat → Nat → Hp → Prop, (∃ m, W 0 m (upd H1 D (.lst []))) ∧ ∀ i m H, W i m H →
  (J.stop i H ∧ Q (.ref D) H) ∨ (J.go i H ∧ ∃ Nx : Hp → Prop, (∀ H', Nx H' → ∃ m', m' < m ∧ W (i + 1) m' H') ∧ ∀ x H', J.yld i H x H' → canG K tg x (wipe σ vs) H' fun σ2 H2 => wipe σ2 vs = wipe σ vs ∧ canT K mg W0 gt σ2 H2 fun b H3 =>
    if b = true then canN K mg W0 1 ge σ2 H3 fun y H4 => ∃ acc, H4 D = some (.lst acc) ∧ acc.length < sizeLine ∧ Nx (upd H4 D (.lst (acc ++ [y]))) else Nx H3) := by
  intro D hD
  refine ⟨fun i m H => m = xs.length - i ∧ i ≤ xs.length ∧ ∃ (F : Hp) (ps : List Addr) (y1 y2 : List PyData), Same F1 F ∧ Same F H ∧ F D = none ∧ H D = some (.lst (ps.map .ref)) ∧ (Inner K F H ps y1 ∧ (D :: ps).Nodup ∧ ∀ a ∈ ps, H1 a = none ∧ F a = none) ∧ ps.length ≤ i ∧ Same H1 H ∧ (∀ a o, H1 a = some o → F1 a = none → F a = none) ∧
      lcGo tg gt ge (wipeE ρ vs) (xs.drop i) = .ok y2 ∧ y1 ++ y2 = ys, ⟨xs.length, rfl, Nat.zero_le _, F1, [], [], ys, Same.refl _, s1.trans (same_upd hD), s1.free hD, upd_same, ⟨.nil, List.nodup_cons.mpr ⟨(fun z => (nomatch z)), List.nodup_nil⟩, (fun a z => (nomatch z))⟩, Nat.le_refl _, same_upd hD, fun _ _ _ z => z, by rw [List.drop_zero]; exact hgo, rfl⟩, ?_⟩
  rintro i m H ⟨rfl, hi, F, ps, y1, y2, sF, sH, fD, hDD, ⟨ha, hnd, hfr⟩, hlen, sHH, nf, hgo', hys⟩
  by_cases hlt : i < xs.length
  · right
    have hd : xs[i]? = some xs[i] := List.getElem?_eq_getElem hlt
    obtain ⟨hgo1, hyl⟩ := (hy F H sF sH i).1 _ hd
    rw [List.drop_eq_getElem_cons hlt] at hgo'
    obtain ⟨us, k, hf, ht, hk⟩ := lc_turn hgo'
    refine ⟨hgo1, fun H' => ∃ (F : Hp) (ps : List Addr) (y1 y2 : List PyData), Same F1 F ∧ Same F H' ∧ F D = none ∧ H' D = some (.lst (ps.map .ref)) ∧ (Inner K F H' ps y1 ∧ (D :: ps).Nodup ∧ ∀ a ∈ ps, H1 a = none ∧ F a = none) ∧ ps.length ≤ i + 1 ∧ Same H1 H' ∧ (∀ a o, H1 a = some o → F1 a = none → F a = none) ∧
      lcGo tg gt ge (wipeE ρ vs) (xs.drop (i + 1)) = .ok y2 ∧ y1 ++ y2 = ys, fun H' hN => ⟨xs.length - (i + 1), by omega, rfl, hlt, hN⟩, fun x H' hx => ?_⟩
    obtain ⟨F2, e2, q2⟩ := hyl x H' hx
    refine ⟨F2, _, us, e2.fh, q2, hf, fun ws hws => ?_⟩
    have hV2 : Vr K F2 (setsV (wipe σ vs) tg.is ws) (setsE (wipeE ρ vs) tg.is us) := ((hV.same (sF.trans e2.ff)).wipe vs).sets hws
    refine ⟨?_, F2, _, e2.fh, hV2, ?_⟩
    · rw [wipe_same (setsV_len _ _ _) fun j hj => setsV_off _ _ _ j fun z => hj (hsub j z)]
      exact wipe_wipe σ vs
    rw [ht]
    intro b F3 H3 e3 eb
    cases eb
    have hD3 : H3 D = some (.lst (ps.map .ref)) := e3.hh _ _ (e2.hh _ _ hDD)
    have fD3 : F3 D = none := e3.nf D _ (e2.hh _ _ hDD) (e2.nf D _ hDD fD)
    have nf3 : ∀ a o, H1 a = some o → F1 a = none → F3 a = none := fun a o z n => e3.nf a o (e2.hh _ _ (sHH _ _ z)) (e2.nf a o (sHH _ _ z) (nf a o z n))
    rcases hk with ⟨rfl, y, r, he, hr, rfl⟩ | ⟨rfl, hr⟩
    · refine iteT ⟨F3, _, e3.fh, hV2.same e3.ff, ?_⟩
      rw [he]
      intro yv F4 H4 S e4 qy hS
      have hD4 : H4 D = some (.lst (ps.map .ref)) := e4.hh _ _ hD3
      have fD4 : F4 D = none := e4.nf D _ hD3 fD3
      cases qy with
      | @one q us es hq aq =>
        have hqn := hS q List.mem_cons_self
        have qD : q ≠ D := fun z => by
          rw [z, hD3] at hqn
          cases hqn.1
        have sx : ∀ {G : Hp}, Same G H4 → G D = none → Same G (upd H4 D (.lst (ps.map .ref ++ [.ref q]))) := fun {G} g gd a o z => by
          rw [upd_ne (ne_of_none z gd)]
          exact g _ _ z
        have hth := ha.there
        have psn : ∀ a ∈ ps, a ≠ D := fun a z e => (List.nodup_cons.mp hnd).1 (e ▸ z)
        have qps : q ∉ ps := fun z => by
          obtain ⟨ob, ho⟩ := hth q z
          have := e3.hh _ _ (e2.hh _ _ ho)
          rw [hqn.1] at this
          cases this
        have em : ps.map V.ref ++ [V.ref q] = (ps ++ [q]).map V.ref := by simp
        refine ⟨ps.map .ref, hD4, by rw [List.length_map]; exact small_lt hl (Nat.lt_of_le_of_lt hlen hlt), F4, ps ++ [q], y1 ++ [.list es], r, ((sF.trans e2.ff).trans e3.ff).trans e4.ff, sx e4.fh fD4, fD4, by rw [upd_same, em], ⟨?_, ?_, fun a ha' => ?_⟩, ?_, sx (((sHH.trans e2.hh).trans e3.hh).trans e4.hh) hD, fun a o z n => e4.nf a o (e3.hh _ _ (e2.hh _ _ (sHH _ _ z))) (nf3 a o z n), hr, ?_⟩
        · have k1 : Inner K F4 (upd H4 D (.lst (ps.map .ref ++ [.ref q]))) ps y1 := ha.mono ((e2.ff.trans e3.ff).trans e4.ff) fun a z o ho => by
            rw [upd_ne (psn a z)]
            exact e4.hh _ _ (e3.hh _ _ (e2.hh _ _ ho))
          exact inner_app k1 (.cons (by rw [upd_ne qD]; exact hq) aq .nil)
        · rw [← List.cons_append]
          refine List.nodup_append.mpr ⟨hnd, List.nodup_cons.mpr ⟨(fun z => (nomatch z)), List.nodup_nil⟩, fun a ha1 b hb e => ?_⟩
          have eb : b = q := by simpa using hb
          rw [e, eb] at ha1
          rcases List.mem_cons.mp ha1 with z | z
          · exact qD z
          · exact qps z
        · rcases List.mem_append.mp ha' with z | z
          · obtain ⟨ob, ho⟩ := hth a z
            exact ⟨(hfr a z).1, e4.nf a ob (e3.hh _ _ (e2.hh _ _ ho)) (e3.nf a ob (e2.hh _ _ ho) (e2.nf a ob ho (hfr a z).2))⟩
          · have ea : a = q := by simpa using z
            rw [ea]
            exact ⟨((sHH.trans e2.hh).trans e3.hh).free hqn.1, hqn.2⟩
        · rw [List.length_append, List.length_singleton]
          omega
        · rw [← hys, List.append_assoc]
          rfl
    · exact iteF ⟨F3, ps, y1, y2, (sF.trans e2.ff).trans e3.ff, e3.fh, fD3, hD3, ⟨ha.mono (e2.ff.trans e3.ff) fun a z o ho => e3.hh _ _ (e2.hh _ _ ho), hnd, fun a z => (fun ⟨ob, ho⟩ => ⟨(hfr a z).1, e3.nf a ob (e2.hh _ _ ho) (e2.nf a ob ho (hfr a z).2)⟩) (ha.there a z)⟩, by omega, (sHH.trans e2.hh).trans e3.hh, nf3, hr, hys⟩
  · left
    have ei : i = xs.length := by omega
    subst ei
    rw [List.drop_length] at hgo'
    cases hgo'
    rw [List.append_nil] at hys
    subst hys
    refine ⟨(hy F H sF sH _).2 (Nat.le_refl _), hQ _ F H (D :: ps) ⟨sHH, sF, sH, nf, s1⟩ (.two hDD hnd ha) fun a z => ?_⟩
    rcases List.mem_cons.mp z with e | z
    · rw [e]
      exact ⟨hD, fD⟩
    · exact hfr a z
section
variable {tg iter elt : Expr} {ifs : List Expr} {scope : Scope} {own : List (Str × Nat)} {pos : Pos} {gi : GA} {td : TgD} {gt : GT} {ge : G} {wi : TI}
theorem lc_rd0 (ri : ∀ (σ : St) (F H : Hp) (ρ : En) (R : It → Hp → Prop), Same F H → Vr X.K F σ ρ → Po (Ylds X.K) X.mg W σ F H (gi ρ) R → wi σ H R) {vs : List Nat} (hsub : ∀ i ∈ td.is, i ∈ vs) {σ : St} {F H : Hp} {ρ : En} {Q : VK} (s : Same F H) (hV : Vr X.K F σ ρ)
    (h : PoN X.K X.mg W 1 σ F H (gLc gi td gt ge vs ρ) Q) : tLc wi (canG X.K td) (canT X.K X.mg W0 gt) (canE X.K X.mg W0 ge) vs σ H Q := by
  refine ri σ F H ρ _ s hV (PoN.bind h fun xs J F1 H1 e1 hy h1 => ?_)
  by_cases hl : xs.length ≤ lim
  · rw [if_pos hl] at h1
    cases hgo : lcGo td gt ge (wipeE ρ vs) xs with
    | ok ys =>
      rw [hgo] at h1
      exact lc_read0 (W := W) e1.fh (hV.same e1.ff) hy hl hsub hgo h1
    | ex c => exact absurd hgo (lc_noex _ _ _ _ _ _)
    | st =>
      rw [hgo] at h1
      exact h1.elim
  · rw [if_neg hl] at h1
    exact h1.elim
theorem lc_rd1 (ri : ∀ (σ : St) (F H : Hp) (ρ : En) (R : It → Hp → Prop), Same F H → Vr X.K F σ ρ → Po (Ylds X.K) X.mg W σ F H (gi ρ) R → wi σ H R) {vs : List Nat} (hsub : ∀ i ∈ td.is, i ∈ vs) {σ : St} {F H : Hp} {ρ : En} {Q : VK} (s : Same F H) (hV : Vr X.K F σ ρ)
    (h : PoN X.K X.mg W 2 σ F H (gLc gi td gt ge vs ρ) Q) : tLc wi (canG X.K td) (canT X.K X.mg W0 gt) (canN X.K X.mg W0 1 ge) vs σ H Q := by
  refine ri σ F H ρ _ s hV (PoN.bind h fun xs J F1 H1 e1 hy h1 => ?_)
  by_cases hl : xs.length ≤ lim
  · rw [if_pos hl] at h1
    cases hgo : lcGo td gt ge (wipeE ρ vs) xs with
    | ok ys =>
      rw [hgo] at h1
      exact lc_read1 (W := W) e1.fh (hV.same e1.ff) hy hl hsub hgo h1
    | ex c => exact absurd hgo (lc_noex _ _ _ _ _ _)
    | st =>
      rw [hgo] at h1
      exact h1.elim
  · rw [if_neg hl] at h1
    exact h1.elim
theorem dn_lc (hc : X.calm = true) (hN : X.N.Nodup) (hi : DI X W tg iter gi) (ok : BlkOk X.N X.env.scope scope own)
    (hg : ∀ (s : Shared) (H : Hp) (C : Addr) (cl : List (Str × Addr)) (fp : List Addr), DG (X.blk s H scope (compEnvC scope cl C X.env) fp) tg td) (ht : ∀ (s : Shared) (H : Hp) (C : Addr) (cl : List (Str × Addr)) (fp : List Addr), DTs (X.blk s H scope (compEnvC scope cl C X.env) fp) W0 ifs gt)
    (he : ∀ (s : Shared) (H : Hp) (C : Addr) (cl : List (Str × Addr)) (fp : List Addr), DE (X.blk s H scope (compEnvC scope cl C X.env) fp) W0 elt ge) (hsub : ∀ i ∈ td.is, i ∈ own.map Prod.snd := by decide) (hs : ∀ x, foldedSetIterable iter X.env x = pure x := by intro _; rfl) :
    DN X W 1 (.ListComp elt [⟨tg, iter, ifs, 0⟩] scope pos) (gLc gi td gt ge (own.map Prod.snd)) := by
  obtain ⟨wi, pi, ri⟩ := hi
  exact pe_imp (pe_lc (g := canG X.K td) (tt := canT X.K X.mg W0 gt) (te := canE X.K X.mg W0 ge) hc hN pi ok hg ht (fun s H C cl fp => (he s H C cl fp).can) hs) fun σ H Q ⟨F, ρ, s, hV, h⟩ => lc_rd0 ri hsub s hV h
theorem dn_lc1 (hc : X.calm = true) (hN : X.N.Nodup) (hi : DI X W tg iter gi) (ok : BlkOk X.N X.env.scope scope own)
    (hg : ∀ (s : Shared) (H : Hp) (C : Addr) (cl : List (Str × Addr)) (fp : List Addr), DG (X.blk s H scope (compEnvC scope cl C X.env) fp) tg td) (ht : ∀ (s : Shared) (H : Hp) (C : Addr) (cl : List (Str × Addr)) (fp : List Addr), DTs (X.blk s H scope (compEnvC scope cl C X.env) fp) W0 ifs gt)
    (he : ∀ (s : Shared) (H : Hp) (C : Addr) (cl : List (Str × Addr)) (fp : List Addr), DN (X.blk s H scope (compEnvC scope cl C X.env) fp) W0 1 elt ge) (hsub : ∀ i ∈ td.is, i ∈ own.map Prod.snd := by decide) (hs : ∀ x, foldedSetIterable iter X.env x = pure x := by intro _; rfl) :
    DN X W 2 (.ListComp elt [⟨tg, iter, ifs, 0⟩] scope pos) (gLc gi td gt ge (own.map Prod.snd)) := by
  obtain ⟨wi, pi, ri⟩ := hi
  exact pe_imp (pe_lc (g := canG X.K td) (tt := canT X.K X.mg W0 gt) (te := canN X.K X.mg W0 1 ge) hc hN pi ok hg ht he hs) fun σ H Q ⟨F, ρ, s, hV, h⟩ => lc_rd1 ri hsub s hV h
end
end
end DL
/-! part DLs7 -/
namespace DL
open PySem PySem.Spec PyProof.Rows L2
/-! ### statements -/
abbrev Ow := List (Nat × Nat)
def PoS (K : PySem.W.Frag) (mg : Str → Option Value) (W : WX) (ob o' : Ow) (F0 H0 Fb : Hp) (out : Out) (Dn : Ends) : Prop := match out with
  | .nx ρ => ∀ σ F H, Same Fb F → StR K F0 H0 F H o' σ ρ → Dn.nx σ H
  | .rt d => ∀ v F H, Ext F0 H0 F H → Dr K F v d → Dn.rt v H
  | .bk ρ => ∀ σ F H, Same Fb F → StR K F0 H0 F H ob σ ρ → Dn.bk σ H
  | .ct ρ => ∀ σ F H, Same Fb F → StR K F0 H0 F H ob σ ρ → Dn.ct σ H
  | .ex c => ∀ C σ H, Same H0 H → Same Fb H → mg c = some (.ref C) → W (.ref C) none σ H
  | .st => False
def canS (K : PySem.W.Frag) (mg : Str → Option Value) (W : WX) (ob o o' : Ow) (m : GS) : TS := fun Dn σ H => ∃ (F0 H0 F : Hp) (ρ : En), StR K F0 H0 F H o σ ρ ∧ PoS K mg W ob o' F0 H0 F (m ρ) Dn
def DS (X : Cx) (W : WX) (ob o o' : Ow) (st : Stmt) (m : GS) : Prop := PS X st (canS X.K X.mg W ob o o' m)
def DSs (X : Cx) (W : WX) (ob o o' : Ow) (sts : List Stmt) (m : GS) : Prop := PSs X sts (canS X.K X.mg W ob o o' m)
section
variable {K : PySem.W.Frag} {mg : Str → Option Value} {W : WX} {ob o o' : Ow} {F0 H0 F H Fb : Hp} {σ : St} {ρ : En} {Dn : Ends}
theorem PoS.mono {out : Out} {Fc : Hp} (p : PoS K mg W ob o' F0 H0 Fb out Dn) (s : Same Fb Fc) : PoS K mg W ob o' F0 H0 Fc out Dn := by
  cases out with
  | nx ρ => exact fun σ F H s' h => p σ F H (s.trans s') h
  | rt d => exact p
  | bk ρ => exact fun σ F H s' h => p σ F H (s.trans s') h
  | ct ρ => exact fun σ F H s' h => p σ F H (s.trans s') h
  | ex c => exact fun C σ H h0 hb m => p C σ H h0 (s.trans hb) m
  | st => exact p
theorem PoS.expr {α β : Type} {Rel : Hp → α → β → Prop} {r : Rz β} {f : β → Out} {R : α → Hp → Prop} (h : StR K F0 H0 F H o σ ρ) (p : PoS K mg W ob o' F0 H0 F (r.out f) Dn)
    (k : ∀ d v F' H', Ext F H F' H' → Rel F' v d → StR K F0 H0 F' H' o σ ρ → PoS K mg W ob o' F0 H0 F (f d) Dn → R v H') : Po Rel mg W σ F H r R := by
  cases r with
  | ok d => exact fun v F' H' e q => k d v F' H' e q (h.grow e) p
  | ex c => exact fun C H' s m => p C σ H' (h.ext.hh.trans s) (h.ext.fh.trans s) m
  | st => exact p
theorem PoS.exprN {n : Nat} {r : Rz D} {f : D → Out} {R : VK} (h : StR K F0 H0 F H o σ ρ) (p : PoS K mg W ob o' F0 H0 F (r.out f) Dn)
    (k : ∀ d v F' H' S, Ext F H F' H' → OwnV K F' H' n v d S → (∀ a ∈ S, H a = none ∧ F' a = none) → PoS K mg W ob o' F0 H0 F (f d) Dn → R v H') : PoN K mg W n σ F H r R := by
  cases r with
  | ok d => exact fun v F' H' S e q hS => k d v F' H' S e q hS p
  | ex c => exact fun C H' s m => p C σ H' (h.ext.hh.trans s) (h.ext.fh.trans s) m
  | st => exact p
/-- a look at everything, owned things too -/
theorem PoS.exprB {α β : Type} {Rel : Hp → α → β → Prop} {r : Rz β} {f : β → Out} {R : α → Hp → Prop} {F1 : Hp} (hh : Same H0 H ∧ Same Fb H) (back : ∀ F2 H2, Ext F1 H F2 H2 → ∃ F3, Same F F3 ∧ StR K F0 H0 F3 H2 o σ ρ) (p : PoS K mg W ob o' F0 H0 Fb (r.out f) Dn)
    (k : ∀ d v F2 H2 F3, r = .ok d → Ext F1 H F2 H2 → Rel F2 v d → Same F F3 → StR K F0 H0 F3 H2 o σ ρ → PoS K mg W ob o' F0 H0 Fb (f d) Dn → R v H2) : Po Rel mg W σ F1 H r R := by
  cases r with
  | ok d => exact fun v F' H' e q => (fun ⟨F3, s, g⟩ => k d v F' H' F3 rfl e q s g p) (back F' H' e)
  | ex c => exact fun C H' s m => p C σ H' (hh.1.trans s) (hh.2.trans s) m
  | st => exact p
theorem isSc_dr {v : V} {d : D} {F2 F3 : Hp} (h : Dr K F2 v d) (s : isSc d = true) : Dr K F3 v d := by
  cases h with
  | non => exact .non
  | bl b => exact .bl b
  | int i => exact .int i
  | str x => exact .str x
  | lst e a => cases s
  | tup e a => cases s
  | ro e => cases s
  | wk e a => cases s
  | exc a c => cases s
  | dct e k r a => cases s
  | mat e1 e2 e3 a => cases s
theorem gSc_sc {g : G} {ρ : En} {d : D} (h : gSc g ρ = .ok d) : isSc d = true := by
  unfold gSc at h
  cases hg : g ρ with
  | ok e =>
    rw [hg] at h
    have h : (if isSc e = true then Rz.ok e else .st) = .ok d := h
    by_cases c : isSc e = true
    · rw [if_pos c] at h
      cases h
      exact c
    · rw [if_neg c] at h
      cases h
  | ex c => rw [hg] at h; cases h
  | st => rw [hg] at h; cases h
theorem Po.sc {Q : VK} {F1 H1 : Hp} {d : D} {Rel : Hp → V → D → Prop} (h : Po Rel mg W σ F1 H1 ((fun d => if isSc d = true then Rz.ok d else .st) d) Q) : isSc d = true ∧ Po Rel mg W σ F1 H1 (.ok d) Q := Po.ifst h
end
section
variable {X : Cx} {W : WX} {ob o o' o2 : Ow}
/-- a scalar, told of everything -/
theorem de_sc {e : Expr} {g : G} (h : DE X W e g) : DE X W e (gSc g) := by
  obtain ⟨t, p, r⟩ := h
  exact ⟨t, p, fun σ F H ρ Q s hV q => r σ F H ρ Q s hV (Po.bind q fun d v F1 H1 e1 q1 h1 => Po.okh (Po.ifst h1).2 e1.fh q1)⟩
theorem ds_nil : DSs X W ob o o [] sNil := pss_imp pss_nil fun Dn σ H ⟨F0, H0, F, ρ, h, p⟩ => p σ F H (Same.refl _) h
theorem ds_cons {st : Stmt} {rest : List Stmt} {m u : GS} (h1 : DS X W ob o o' st m) (h2 : DSs X W ob o' o2 rest u) : DSs X W ob o o2 (st :: rest) (sSeq m u) := by
  refine pss_imp (pss_cons h1 h2) fun Dn σ H ⟨F0, H0, F, ρ, h, p⟩ => ⟨F0, H0, F, ρ, h, ?_⟩
  have p : PoS X.K X.mg W ob o2 F0 H0 F ((m ρ).andThen u) Dn := p
  cases hm : m ρ with
  | nx ρ1 =>
    rw [hm] at p
    exact fun σ' F' H' s h' => ⟨F0, H0, F', ρ1, h', p.mono s⟩
  | rt d => rw [hm] at p; exact p
  | bk ρ1 => rw [hm] at p; exact p
  | ct ρ1 => rw [hm] at p; exact p
  | ex c => rw [hm] at p; exact p
  | st => rw [hm] at p; exact p.elim
theorem ds_one {st : Stmt} {m : GS} (h1 : DS X W ob o o' st m) : DSs X W ob o o' [st] m := pss_one h1
/-- what slot i owns is let go -/
theorem ds_frz {sts : List Stmt} {m : GS} (i : Nat) (h : DSs X W ob o' o2 sts m) (ho : ∀ j, ow o' j = if j = i then 0 else ow o j) : DSs X W ob o o2 sts m := pss_imp h fun Dn σ H ⟨F0, H0, F, ρ, hs, p⟩ => by
  obtain ⟨F1, s1, h1⟩ := hs.freeze i ho
  exact ⟨F0, H0, F1, ρ, h1, p.mono s1⟩
theorem ds_set {tg e : Expr} {t : TgD} {g : G} {pos : Pos} (he : DE X W e g) (hg : DG X tg t) (hi : ∀ i ∈ t.is, ow o i = 0 := by decide) (hs : swapsWithSole [tg] e pos.line X.env = pure false := by rfl) (hw : swappedStores [tg] e X.env = pure none := by rfl)
    (h1 : (assignEach [tg] X.env).map (·.2) = [assign tg X.env] := by rfl) : DS X W ob o o (.Assign [tg] e pos) (sSet (o.map Prod.fst) t g) := by
  obtain ⟨te, pe, re⟩ := he
  refine ps_imp (ps_asg pe hg hs hw h1) fun Dn σ H ⟨F0, H0, F, ρ, h, p⟩ => re σ F H _ _ h.ext.fh h.vr (PoS.expr h p fun d v F' H' e q h' p' => ?_)
  cases hf : t.f d with
  | none =>
    have : t.go d ρ = none := by unfold TgD.go; rw [hf]; rfl
    rw [this] at p'
    exact p'.elim
  | some ds =>
    have : t.go d ρ = some (setsE ρ t.is ds) := by unfold TgD.go; rw [hf]; rfl
    rw [this] at p'
    exact ⟨F', d, ds, h'.ext.fh, q, hf, fun us hus => p' _ F' H' e.ff (h'.sets hi hus)⟩
/-- x = a new thing -/
theorem ds_setN {n i : Nat} {x : Str} {e : Expr} {g : G} {pos pos' : Pos} (he : DN X W n e g) (hN : X.N.Nodup) (ho : ∀ j, ow o' j = if j = i then n else ow o j) (hi : X.N[i]? = some x := by rfl) (hx : Loc X.env.scope x := by first | exact Or.inl rfl | exact Or.inr rfl)
    (hs : swapsWith e (some (.Name x pos')) pos.line X.env = pure false := by rfl) (hf : X.fn x = true ∨ X.env.scope.names.lookup x = some .local := by first | exact .inl rfl | exact .inr rfl) : DS X W ob o o' (.Assign [.Name x pos'] e pos) (sSet (o.map Prod.fst) (tgN i) g) := by
  refine ps_imp (ps_set hN hi hx he hs hf) fun Dn σ H ⟨F0, H0, F, ρ, h, p⟩ => ⟨F, _, h.ext.fh, h.vr, PoS.exprN h p fun d v F' H' S e q hS p' => ?_⟩
  exact p' _ F' H' e.ff (h.setN e q hS ho)
theorem ds_setB {i : Nat} {x : Str} {e : Expr} {g : G} {pos pos' : Pos} (he : DE X W e g) (hN : X.N.Nodup) (ho : ow o i = 0 := by rfl) (hi : X.N[i]? = some x := by rfl) (hx : Loc X.env.scope x := by first | exact Or.inl rfl | exact Or.inr rfl)
    (hs : swapsWith e (some (.Name x pos')) pos.line X.env = pure false := by rfl) (hf : X.fn x = true ∨ X.env.scope.names.lookup x = some .local := by first | exact .inl rfl | exact .inr rfl) : DS X W ob o o (.Assign [.Name x pos'] e pos) (sSetB i g) := by
  obtain ⟨te, pe, re⟩ := de_sc he
  refine ps_imp (ps_set hN hi hx pe hs hf) fun Dn σ H ⟨F0, H0, F, ρ, h, p⟩ => ?_
  obtain ⟨F1, s1, s2, x1, vr, back⟩ := h.borrow
  refine re σ F1 H _ _ s2 vr (PoS.exprB ⟨h.ext.hh, h.ext.fh⟩ back p fun d v F2 H2 F3 hr e q s g p' => p' _ F3 H2 s (g.set0 (isSc_dr q (gSc_sc hr)) fun j => ?_))
  by_cases e : j = i
  · rw [if_pos e, e]
    exact ho
  · rw [if_neg e]
theorem ds_expr {e : Expr} {g : G} {pos : Pos} (he : DE X W e g) (hs : swapsWith e none pos.line X.env = pure false := by rfl) : DS X W ob o o (.Expr e pos) (sExpr (o.map Prod.fst) g) := by
  obtain ⟨te, pe, re⟩ := he
  exact ps_imp (ps_expr pe hs) fun Dn σ H ⟨F0, H0, F, ρ, h, p⟩ => re σ F H _ _ h.ext.fh h.vr (PoS.expr h p fun d v F' H' e q h' p' => p' _ F' H' e.ff h')
theorem ds_ret {e : Expr} {g : G} {pos : Pos} (he : DE X W e g) : DS X W ob o o' (.Return (some e) pos) (sRet g) := by
  obtain ⟨te, pe, re⟩ := he
  refine ps_imp (ps_ret pe) fun Dn σ H ⟨F0, H0, F, ρ, h, p⟩ => ?_
  obtain ⟨F1, s1, s2, x1, vr, back⟩ := h.borrow
  refine re σ F1 H _ _ s2 vr ?_
  have p : PoS X.K X.mg W ob o' F0 H0 F ((g ρ).out .rt) Dn := p
  cases hg : g ρ with
  | ok d =>
    rw [hg] at p
    exact fun v F' H' e q => p v F' H' (x1.trans e) q
  | ex c =>
    rw [hg] at p
    exact fun C H' s m => p C σ H' (h.ext.hh.trans s) (h.ext.fh.trans s) m
  | st =>
    rw [hg] at p
    exact p
theorem ds_retN {pos : Pos} : DS X W ob o o' (.Return none pos) sRetN := ps_imp ps_retN fun Dn σ H ⟨F0, H0, F, ρ, h, p⟩ => p .non F H h.ext .non
theorem ds_brk {pos : Pos} : DS X W o o o' (.Break pos) sBrk := ps_imp ps_break fun Dn σ H ⟨F0, H0, F, ρ, h, p⟩ => p σ F H (Same.refl _) h
theorem ds_never {st : Stmt} : DS X W ob o o' st sNever := ps_imp ps_never fun Dn σ H ⟨F0, H0, F, ρ, h, p⟩ => p
theorem ds_if {c : Expr} {a b : List Stmt} {t : GT} {m u : GS} {pos : Pos} (hc : DT X W c t) (ha : DSs X W ob o o' a m) (hb : DSs X W ob o o' b u) : DS X W ob o o' (.If c a b pos) (sIf t m u) := by
  obtain ⟨tc, pc, rc⟩ := hc
  refine ps_imp (ps_if pc ha hb) fun Dn σ H ⟨F0, H0, F, ρ, h, p⟩ => ?_
  obtain ⟨F1, s1, s2, x1, vr, back⟩ := h.borrow
  refine rc σ F1 H _ _ s2 vr (PoS.exprB ⟨h.ext.hh, h.ext.fh⟩ back p fun d v F2 H2 F3 hr e q s g p' => ?_)
  obtain rfl : v = d := q
  cases v with
  | true => exact iteT ⟨F0, H0, F3, ρ, g, p'.mono s⟩
  | false => exact iteF ⟨F0, H0, F3, ρ, g, p'.mono s⟩
theorem ds_raise {c : Str} {C : Addr} {e : Expr} {pos : Pos} (hc : X.calm = true) (tk : Takes X W) (hm : X.mg c = some (.ref C)) (he : PMk X e (fun σ H Q => Q (.ref C) none H)) : DS X W ob o o' (.Raise (some e) none pos) (sRaise c) :=
  ps_imp (ps_raise hc tk he) fun Dn σ H ⟨F0, H0, F, ρ, h, p⟩ => p C σ H h.ext.hh h.ext.fh hm
theorem ds_for {tg iter : Expr} {body : List Stmt} {gi : GA} {td : TgD} {b : GS} {pos : Pos} (hp : PassesOwn (model X.prog X.w) X.A X.env X.xe) (hc : X.calm = true) (hi : DI X W tg iter gi) (hg : DG X tg td) (hb : DSs X W o o o body b) (ht : ∀ i ∈ td.is, ow o i = 0 := by decide)
    (hs : ∀ x, foldedSetIterable iter X.env x = pure x := by intro _; rfl) : DS X W ob o o (.For tg iter body [] pos) (sFor (o.map Prod.fst) gi td b) := by
  obtain ⟨wi, pi, ri⟩ := hi
  refine ps_imp (ps_for hp hc pi hg hb hs) fun Dn σ H ⟨F0, H0, F, ρ, h, p⟩ => ri σ F H _ _ h.ext.fh h.vr (PoS.expr h p fun xs J F1 H1 e1 hy h1 p1 => ?_)
  refine ⟨fun i m σ H => m = xs.length - i ∧ i ≤ xs.length ∧ ∃ (F : Hp) (ρ : En), Same F1 F ∧ StR X.K F0 H0 F H o σ ρ ∧ PoS X.K X.mg W ob o F0 H0 F (forGo td b (xs.drop i) ρ) Dn, ⟨xs.length, rfl, Nat.zero_le _, F1, ρ, Same.refl _, h1, by rw [List.drop_zero]; exact p1.mono e1.ff⟩, ?_⟩
  rintro i m σ' H' ⟨rfl, hi, F', ρ', sF, h', p'⟩
  by_cases hlt : i < xs.length
  · right
    obtain ⟨go, yl⟩ := (hy F' H' sF h'.ext.fh i).1 _ (List.getElem?_eq_getElem hlt)
    rw [List.drop_eq_getElem_cons hlt] at p'
    refine ⟨go, fun σ2 H2 => ∃ (F : Hp) (ρ : En), Same F1 F ∧ StR X.K F0 H0 F H2 o σ2 ρ ∧ PoS X.K X.mg W ob o F0 H0 F (forGo td b (xs.drop (i + 1)) ρ) Dn, fun σ2 H2 hN => ⟨xs.length - (i + 1), by omega, rfl, hlt, hN⟩, fun x H2 hx => ?_⟩
    obtain ⟨F2, e2, q2⟩ := yl x H2 hx
    have h2 := h'.grow e2
    unfold forGo at p'
    cases hf : td.f xs[i] with
    | none =>
      have : td.go xs[i] ρ' = none := by unfold TgD.go; rw [hf]; rfl
      rw [this] at p'
      exact p'.elim
    | some ds =>
      have hgo : td.go xs[i] ρ' = some (setsE ρ' td.is ds) := by unfold TgD.go; rw [hf]; rfl
      simp only [hgo] at p'
      refine ⟨F2, _, ds, e2.fh, q2, hf, fun us hus => ⟨F0, H0, F2, _, h2.sets ht hus, ?_⟩⟩
      have s2 : Same F1 F2 := sF.trans e2.ff
      cases hb' : b (setsE ρ' td.is ds) with
      | nx ρ2 =>
        rw [hb'] at p'
        exact fun σ3 F3 H3 s3 h3 => ⟨F3, ρ2, s2.trans s3, h3, p'.mono (e2.ff.trans s3)⟩
      | rt d => rw [hb'] at p'; exact p'
      | bk ρ2 => rw [hb'] at p'; exact fun σ3 F3 H3 s3 h3 => p' σ3 F3 H3 (e2.ff.trans s3) h3
      | ct ρ2 =>
        rw [hb'] at p'
        exact fun σ3 F3 H3 s3 h3 => ⟨F3, ρ2, s2.trans s3, h3, p'.mono (e2.ff.trans s3)⟩
      | ex c =>
        rw [hb'] at p'
        exact fun C σ3 H3 h0 hb3 m => p' C σ3 H3 h0 (e2.ff.trans hb3) m
      | st => rw [hb'] at p'; exact p'
  · left
    have ei : i = xs.length := by omega
    subst ei
    rw [List.drop_length] at p'
    exact ⟨(hy F' H' sF h'.ext.fh _).2 (Nat.le_refl _), p' σ' F' H' (Same.refl _) h'⟩
end
end DL
/-! part DLs8 -/
namespace DL
open PySem PySem.Spec PyProof.Rows L2
section
variable {K : PySem.W.Frag} {F0 H0 F H : Hp} {o : Ow} {σ : St} {ρ : En} {i : Nat}
theorem StR.own1 (h : StR K F0 H0 F H o σ ρ) {xs : List D} (hd : ρ[i]? = some (some (.list xs))) (ho : ow o i = 1) : ∃ p vs, σ[i]? = some (some (.ref p)) ∧ H p = some (.lst vs) ∧ DrAll K F vs xs := by
  obtain ⟨fp, k, _⟩ := h.own
  obtain ⟨v, hv, q⟩ := k i _ hd
  rw [ho] at q
  generalize fp i = S at q
  cases q with
  | one e a => exact ⟨_, _, hv, e, a⟩
theorem StR.upd1 (h : StR K F0 H0 F H o σ ρ) {xs xs' : List D} {p : Addr} {vs' : List V} (hd : ρ[i]? = some (some (.list xs))) (ho : ow o i = 1) (hp : σ[i]? = some (some (.ref p))) (ha : DrAll K F vs' xs') :
    StR K F0 H0 F (L2.upd H p (.lst vs')) o σ (ρ.set i (some (.list xs'))) := by
  refine h.upd hd fun v S hv q hS => ⟨S, rfl, ?_⟩
  rw [hp] at hv
  cases hv
  rw [ho] at q ⊢
  cases q with
  | one e a => exact ⟨.one upd_same ha, fun b hb => upd_ne fun z => hb (by rw [z]; exact List.mem_cons_self)⟩
theorem StR.own2 (h : StR K F0 H0 F H o σ ρ) {xs : List D} (hd : ρ[i]? = some (some (.list xs))) (ho : ow o i = 2) : ∃ p ps, σ[i]? = some (some (.ref p)) ∧ H p = some (.lst (ps.map .ref)) ∧ Inner K F H ps xs := by
  obtain ⟨fp, k, _⟩ := h.own
  obtain ⟨v, hv, q⟩ := k i _ hd
  rw [ho] at q
  generalize fp i = S at q
  cases q with
  | two e nd a => exact ⟨_, _, hv, e, a⟩
theorem Inner.get : ∀ {ps : List Addr} {xs : List D} {a : Nat} {ys : List D}, Inner K F H ps xs → xs[a]? = some (.list ys) → ∃ q us, ps[a]? = some q ∧ H q = some (.lst us) ∧ DrAll K F us ys
  | _, _, _, _, .nil, e => by simp at e
  | _, _, 0, _, .cons h a _, e => by
    simp at e
    subst e
    exact ⟨_, _, rfl, h, a⟩
  | _, _, a + 1, ys, .cons _ _ r, e => by
    obtain ⟨q, us, h1, h2⟩ := Inner.get (a := a) (ys := ys) r (by simpa using e)
    exact ⟨q, us, by simpa using h1, h2⟩
theorem Inner.put {q : Addr} {us' : List V} {ys' : List D} (ha : DrAll K F us' ys') : ∀ {ps : List Addr} {xs : List D} {a : Nat}, ps.Nodup → ps[a]? = some q → Inner K F H ps xs → Inner K F (L2.upd H q (.lst us')) ps (xs.set a (.list ys'))
  | _, _, _, _, e, .nil => by simp at e
  | p :: ps, _, 0, nd, e, .cons h x r => by
    simp at e
    subst e
    refine .cons upd_same ha (r.mono (Same.refl _) fun b hb ob z => ?_)
    have hne : b ≠ p := fun y => (List.nodup_cons.mp nd).1 (by rw [← y]; exact hb)
    rw [upd_ne hne]
    exact z
  | p :: ps, _, a + 1, nd, e, .cons h x r => by
    have e' : ps[a]? = some q := by simpa using e
    have hq : p ≠ q := fun y => (List.nodup_cons.mp nd).1 (y ▸ List.mem_of_getElem? e')
    exact .cons (by rw [upd_ne hq]; exact h) x (Inner.put ha (List.nodup_cons.mp nd).2 e' r)
theorem StR.upd2 (h : StR K F0 H0 F H o σ ρ) {xs ys' : List D} {p q : Addr} {ps : List Addr} {a : Nat} {us' : List V} (hd : ρ[i]? = some (some (.list xs))) (ho : ow o i = 2) (hp : σ[i]? = some (some (.ref p))) (hps : H p = some (.lst (ps.map .ref))) (hq : ps[a]? = some q) (ha : DrAll K F us' ys') :
    StR K F0 H0 F (L2.upd H q (.lst us')) o σ (ρ.set i (some (.list (xs.set a (.list ys'))))) := by
  refine h.upd hd fun v S hv qq hS => ⟨S, rfl, ?_⟩
  rw [hp] at hv
  cases hv
  rw [ho] at qq ⊢
  cases qq with
  | @two _ ps' _ e nd r =>
    have e1 : ps = ps' := by
      rw [hps] at e
      have e2 : ps.map V.ref = ps'.map V.ref := by injection e with e; injection e
      exact (List.map_inj_right (fun x y z => by injection z)).mp e2
    subst e1
    have hm : q ∈ ps := List.mem_of_getElem? hq
    have hne : p ≠ q := fun y => (List.nodup_cons.mp nd).1 (y ▸ hm)
    exact ⟨.two (by rw [upd_ne hne]; exact e) nd (r.put ha (List.nodup_cons.mp nd).2 hq), fun b hb => upd_ne fun z => hb (by rw [z]; exact List.mem_cons_of_mem _ hm)⟩
end
section
variable {X : Cx} {W : WX} {ob o o' o2 : Ow}
theorem ix_eq {n : Nat} {k : D} {p : Nat} (h : ixR n k = some p) : ∃ j, k = .int j ∧ ixN n j = some p := by
  cases k with
  | int j => exact ⟨j, rfl, h⟩
  | _ => cases h
theorem atI_of {α : Type} {xs : List α} {j : Int} {p : Nat} {v : α} (h : ixN xs.length j = some p) (hv : xs[p]? = some v) : L2.atI xs j = some v := by
  unfold L2.atI
  rw [h]
  exact hv
/-- x.append(e), x.extend(e) -/
theorem ds_app {i : Nat} {x : Str} {e : Expr} {g : G} {p pa pc pos : Pos} (he : DE X W e g) (ho : ow o i = 1 := by rfl) (hN : X.N[i]? = some x := by rfl) (hv : Vis X.env.scope x := by first | exact Or.inl rfl | exact Or.inr (Or.inl rfl) | exact Or.inr (Or.inr rfl)) (hd : (x == ("__debug__" : Str)) = false := by decide) (hcd : (x == ("__classdict__" : Str)) = false := by decide)
    (hbase : attributeBase (.Name x p) "append" X.env (eval (.Name x p) X.env) = eval (.Name x p) X.env := by rfl) (hs1 : starEach (e :: []) X.env = (false, eval e X.env) :: starEach [] X.env := by rfl)
    (hfew : ((backTo pc (starEach (e :: []) X.env)).all (fun x => !x.1) && (backToKw pc (keywordEach [] X.env)).all (fun x => x.1.isSome) && decide ((e :: []).length + ([] : List Keyword).length + (if ([] : List Keyword).isEmpty then 0 else 1) < 30)) = true := by rfl)
    (hline : (pa.endLine == pc.line) = true := by rfl) (hplain : (backTo pc (starEach [] X.env)).any (·.1) = false := by rfl) (hs : swapsWith (.Call (.Attribute (.Name x p) "append" pa) [e] [] pc) none pos.line X.env = pure false := by rfl) :
    DS X W ob o o (.Expr (.Call (.Attribute (.Name x p) "append" pa) [e] [] pc) pos) (sApp (o.map Prod.fst) i g) := by
  obtain ⟨te, pe, re⟩ := he
  refine ps_imp (ps_expr (pe_bm PySem.F.plainAttrs_list PySem.F.slot_list_append PySem.F.type_list_append mt_append (pe_var hN hv hd hcd) (pa_cons pe pa_nil hs1) hbase hfew hline hs1 hplain) hs) fun Dn σ H ⟨F0, H0, F, ρ, h, p⟩ => ?_
  have p : PoS X.K X.mg W ob o F0 H0 F (match ρ[i]? with
    | some (some (.list xs)) => (g (mk (o.map Prod.fst) ρ)).out fun d => if xs.length < lim then .nx (ρ.set i (some (.list (xs ++ [d])))) else .st
    | _ => .st) Dn := p
  split at p
  · rename_i xs hd
    obtain ⟨a, vs, hσ, hH, ha⟩ := h.own1 hd ho
    refine ⟨_, hσ, .inl ⟨rfl, _, SqL.of hH⟩, re σ F H _ _ h.ext.fh h.vr (PoS.expr h p fun d v F' H' e q h' p' => ?_)⟩
    by_cases hl : xs.length < lim
    · rw [if_pos hl] at p'
      obtain ⟨a', vs', hσ', hH', ha'⟩ := h'.own1 hd ho
      rw [hσ] at hσ'
      cases hσ'
      refine ⟨a, vs', v, rfl, rfl, hH', by rw [ha'.len]; exact Nat.lt_of_lt_of_le hl (sz_lim (Nat.le_refl _)), ?_⟩
      exact p' σ F' _ e.ff (h'.upd1 hd ho hσ (ha'.append (.cons q .nil)))
    · rw [if_neg hl] at p'
      exact p'.elim
  · exact p.elim
theorem ds_ext {i : Nat} {x : Str} {e : Expr} {g : G} {p pa pc pos : Pos} (he : DE X W e g) (ho : ow o i = 1 := by rfl) (hN : X.N[i]? = some x := by rfl) (hv : Vis X.env.scope x := by first | exact Or.inl rfl | exact Or.inr (Or.inl rfl) | exact Or.inr (Or.inr rfl)) (hd : (x == ("__debug__" : Str)) = false := by decide) (hcd : (x == ("__classdict__" : Str)) = false := by decide)
    (hbase : attributeBase (.Name x p) "extend" X.env (eval (.Name x p) X.env) = eval (.Name x p) X.env := by rfl) (hs1 : starEach (e :: []) X.env = (false, eval e X.env) :: starEach [] X.env := by rfl)
    (hfew : ((backTo pc (starEach (e :: []) X.env)).all (fun x => !x.1) && (backToKw pc (keywordEach [] X.env)).all (fun x => x.1.isSome) && decide ((e :: []).length + ([] : List Keyword).length + (if ([] : List Keyword).isEmpty then 0 else 1) < 30)) = true := by rfl)
    (hline : (pa.endLine == pc.line) = true := by rfl) (hplain : (backTo pc (starEach [] X.env)).any (·.1) = false := by rfl) (hs : swapsWith (.Call (.Attribute (.Name x p) "extend" pa) [e] [] pc) none pos.line X.env = pure false := by rfl) :
    DS X W ob o o (.Expr (.Call (.Attribute (.Name x p) "extend" pa) [e] [] pc) pos) (sExt (o.map Prod.fst) i g) := by
  obtain ⟨te, pe, re⟩ := he
  refine ps_imp (ps_expr (pe_bm PySem.F.plainAttrs_list PySem.F.slot_list_extend PySem.F.type_list_extend mt_extend (pe_var hN hv hd hcd) (pa_cons pe pa_nil hs1) hbase hfew hline hs1 hplain) hs) fun Dn σ H ⟨F0, H0, F, ρ, h, p⟩ => ?_
  have p : PoS X.K X.mg W ob o F0 H0 F (match ρ[i]? with
    | some (some (.list xs)) => (g (mk (o.map Prod.fst) ρ)).out fun d => match d with
      | .list ys => if xs.length + ys.length ≤ lim then .nx (ρ.set i (some (.list (xs ++ ys)))) else .st
      | _ => .st
    | _ => .st) Dn := p
  split at p
  · rename_i xs hd
    obtain ⟨a, vs, hσ, hH, ha⟩ := h.own1 hd ho
    refine ⟨_, hσ, .inl ⟨rfl, _, SqL.of hH⟩, re σ F H _ _ h.ext.fh h.vr (PoS.expr h p fun d v F' H' e q h' p' => ?_)⟩
    cases q with
    | @lst b zs ys eb ab =>
      have p' : PoS X.K X.mg W ob o F0 H0 F (if xs.length + ys.length ≤ lim then .nx (ρ.set i (some (.list (xs ++ ys)))) else .st) Dn := p'
      by_cases hl : xs.length + ys.length ≤ lim
      · rw [if_pos hl] at p'
        obtain ⟨a', vs', hσ', hH', ha'⟩ := h'.own1 hd ho
        rw [hσ] at hσ'
        cases hσ'
        refine ⟨a, b, vs', zs, rfl, rfl, hH', e.fh _ _ eb, by rw [ha'.len, ab.len]; exact sz_lim hl, ?_⟩
        exact p' σ F' _ e.ff (h'.upd1 hd ho hσ (ha'.append ab))
      · rw [if_neg hl] at p'
        exact p'.elim
    | _ => exact False.elim p'
  · exact p.elim
/-- x[j] = e -/
theorem ds_put {i : Nat} {x : Str} {j e : Expr} {gj g : G} {p p2 pos : Pos} (he : DE X W e g) (hj : DE X W j gj) (ho : ow o i = 1 := by rfl) (hN : X.N[i]? = some x := by rfl) (hv : Vis X.env.scope x := by first | exact Or.inl rfl | exact Or.inr (Or.inl rfl) | exact Or.inr (Or.inr rfl)) (hd : (x == ("__debug__" : Str)) = false := by decide) (hcd : (x == ("__classdict__" : Str)) = false := by decide)
    (ha : ∀ v, assign (.Subscript (.Name x p) j p2) X.env v = (do
      let ov ← holding [v] (eval (.Name x p) X.env)
      let iv ← holding [v, ov] (eval j X.env)
      standAt p2
      holding [v, ov, iv] (setItem ov iv v)
      release [v, ov, iv] []) := by intro _; rfl)
    (hs : swapsWithSole [.Subscript (.Name x p) j p2] e pos.line X.env = pure false := by rfl) (hw : swappedStores [.Subscript (.Name x p) j p2] e X.env = pure none := by rfl)
    (h1 : (assignEach [.Subscript (.Name x p) j p2] X.env).map (·.2) = [assign (.Subscript (.Name x p) j p2) X.env] := by rfl) :
    DS X W ob o o (.Assign [.Subscript (.Name x p) j p2] e pos) (sPut (o.map Prod.fst) i gj g) := by
  obtain ⟨te, pe, re⟩ := he
  obtain ⟨tj, pj, rj⟩ := de_sc hj
  refine ps_imp (ps_asg pe (pg_sub (pe_var hN hv hd hcd) pj set_list ha) hs hw h1) fun Dn σ H ⟨F0, H0, F, ρ, h, p⟩ => ?_
  refine re σ F H _ _ h.ext.fh h.vr (PoS.expr h p fun d v F' H' e q h' p' => ?_)
  have p' : PoS X.K X.mg W ob o F0 H0 F (match ρ[i]? with
    | some (some (.list xs)) => (gSc gj ρ).out fun k => match ixR xs.length k with
      | some p => .nx (ρ.set i (some (.list (xs.set p d)))) | none => .st
    | _ => .st) Dn := p'
  split at p'
  · rename_i xs hd
    obtain ⟨a, vs, hσ, hH, ha⟩ := h'.own1 hd ho
    refine ⟨_, hσ, ?_⟩
    obtain ⟨F1, s1, s2, x1, vr, back⟩ := h'.borrow
    refine rj σ F1 H' _ _ s2 vr (PoS.exprB ⟨h'.ext.hh, e.ff.trans h'.ext.fh⟩ back p' fun k kv F2 H2 F3 hr e2 qk s g p2 => ?_)
    cases hx : ixR xs.length k with
    | none =>
      rw [hx] at p2
      exact p2.elim
    | some pl =>
      rw [hx] at p2
      obtain ⟨jj, rfl, hij⟩ := ix_eq hx
      cases qk
      obtain ⟨a', vs', hσ', hH', ha'⟩ := g.own1 hd ho
      rw [hσ] at hσ'
      cases hσ'
      refine ⟨a, vs', jj, pl, rfl, rfl, hH', by rw [ha'.len]; exact hij, ?_⟩
      exact p2 σ F3 _ (e.ff.trans s) (g.upd1 hd ho hσ (DrAll.set (q.same s) pl ha'))
  · exact p'.elim
/-- x[j][k] = e -/
theorem ds_put2 {i : Nat} {x : Str} {j k e : Expr} {gj gk g : G} {p p2 p3 pos : Pos} (he : DE X W e g) (hj : DE X W j gj) (hk : DE X W k gk) (ho : ow o i = 2 := by rfl) (hN : X.N[i]? = some x := by rfl) (hv : Vis X.env.scope x := by first | exact Or.inl rfl | exact Or.inr (Or.inl rfl) | exact Or.inr (Or.inr rfl)) (hd : (x == ("__debug__" : Str)) = false := by decide) (hcd : (x == ("__classdict__" : Str)) = false := by decide) (hpl : PlainIx j := by exact fun _ _ => rfl)
    (ha : ∀ v, assign (.Subscript (.Subscript (.Name x p) j p2) k p3) X.env v = (do
      let ov ← holding [v] (eval (.Subscript (.Name x p) j p2) X.env)
      let iv ← holding [v, ov] (eval k X.env)
      standAt p3
      holding [v, ov, iv] (setItem ov iv v)
      release [v, ov, iv] []) := by intro _; rfl)
    (hs : swapsWithSole [.Subscript (.Subscript (.Name x p) j p2) k p3] e pos.line X.env = pure false := by rfl) (hw : swappedStores [.Subscript (.Subscript (.Name x p) j p2) k p3] e X.env = pure none := by rfl)
    (h1 : (assignEach [.Subscript (.Subscript (.Name x p) j p2) k p3] X.env).map (·.2) = [assign (.Subscript (.Subscript (.Name x p) j p2) k p3) X.env] := by rfl) :
    DS X W ob o o (.Assign [.Subscript (.Subscript (.Name x p) j p2) k p3] e pos) (sPut2 i gj gk g) := by
  obtain ⟨te, pe, re⟩ := de_sc he
  obtain ⟨tj, pj, rj⟩ := de_sc hj
  obtain ⟨tk, pk, rk⟩ := de_sc hk
  refine ps_imp (ps_asg pe (pg_sub (pe_ix ix_list (pe_var hN hv hd hcd) pj hpl) pk set_list ha) hs hw h1) fun Dn σ H ⟨F0, H0, F, ρ, h, p⟩ => ?_
  obtain ⟨F1, s1, s2, x1, vr, back⟩ := h.borrow
  refine re σ F1 H _ _ s2 vr (PoS.exprB ⟨h.ext.hh, h.ext.fh⟩ back p fun d v F2 H2 F3 hr e2 q s g p' => ?_)
  have hsc := gSc_sc hr
  have p' : PoS X.K X.mg W ob o F0 H0 F (match ρ[i]? with
    | some (some (.list xs)) => (gSc gj ρ).out fun jj => match ixR xs.length jj with
      | some p => (match xs[p]? with
        | some (.list ys) => (gSc gk ρ).out fun kk => (match ixR ys.length kk with
          | some q => .nx (ρ.set i (some (.list (xs.set p (.list (ys.set q d)))))) | none => .st)
        | _ => .st)
      | none => .st
    | _ => .st) Dn := p'
  split at p'
  · rename_i xs hd
    obtain ⟨a, ps, hσ, hH, hin⟩ := g.own2 hd ho
    refine ⟨_, hσ, ?_⟩
    obtain ⟨G1, t1, t2, y1, vr2, back2⟩ := g.borrow
    refine rj σ G1 H2 _ _ t2 vr2 (PoS.exprB ⟨g.ext.hh, s.trans g.ext.fh⟩ back2 p' fun jv jw F4 H4 F5 hr4 e4 q4 s4 g4 p4 => ?_)
    cases hx : ixR xs.length jv with
    | none =>
      rw [hx] at p4
      exact p4.elim
    | some pl =>
      rw [hx] at p4
      obtain ⟨jj, rfl, hij⟩ := ix_eq hx
      cases q4
      have p4 : PoS X.K X.mg W ob o F0 H0 F (match xs[pl]? with
        | some (.list ys) => (gSc gk ρ).out fun kk => (match ixR ys.length kk with
          | some q => .nx (ρ.set i (some (.list (xs.set pl (.list (ys.set q d)))))) | none => .st)
        | _ => .st) Dn := p4
      split at p4
      · rename_i ys hy
        obtain ⟨a', ps', hσ', hH', hin'⟩ := g4.own2 hd ho
        rw [hσ] at hσ'
        cases hσ'
        obtain ⟨qa, us, hqa, hqH, hqd⟩ := hin'.get hy
        have hat : L2.atI (ps'.map V.ref) jj = some (.ref qa) := by
          refine atI_of (p := pl) ?_ ?_
          · have hl : ∀ {ps : List Addr} {xs : List D}, Inner X.K F5 H4 ps xs → ps.length = xs.length := by
              intro ps xs h
              induction h with
              | nil => rfl
              | cons _ _ _ ih => simp [ih]
            rw [List.length_map, hl hin']
            exact hij
          · rw [List.getElem?_map, hqa]
            rfl
        refine ⟨a, _, jj, .ref qa, rfl, rfl, SqL.of hH', hat, ?_⟩
        obtain ⟨I1, u1, u2, z1, vr3, back3⟩ := g4.borrow
        refine rk σ I1 H4 _ _ u2 vr3 (PoS.exprB ⟨g4.ext.hh, (s.trans s4).trans g4.ext.fh⟩ back3 p4 fun kv kw F6 H6 F7 hr6 e6 q6 s6 g6 p6 => ?_)
        cases hx2 : ixR ys.length kv with
        | none =>
          rw [hx2] at p6
          exact p6.elim
        | some ql =>
          rw [hx2] at p6
          obtain ⟨kk, rfl, hik⟩ := ix_eq hx2
          cases q6
          have hq6 : H6 qa = some (.lst us) := e6.hh _ _ hqH
          refine ⟨qa, us, kk, ql, rfl, rfl, hq6, by rw [hqd.len]; exact hik, ?_⟩
          refine p6 σ F7 _ ((s.trans s4).trans s6) (g6.upd2 hd ho hσ (e6.hh _ _ hH') hqa ?_)
          exact DrAll.set (isSc_dr q hsc) ql (hqd.same s6)
      · exact p4.elim
  · exact p'.elim
/-! ### while -/
theorem ds_while {c : Expr} {body : List Stmt} {t : GT} {b : GS} {pos : Pos} (n : Nat) (hp : PassesOwn (model X.prog X.w) X.A X.env X.xe) (hc : DT X W c t) (hb : DSs X W o o o body b) : DS X W ob o o (.While c body [] pos) (sWhile n t b) := by
  obtain ⟨tc, pc, rc⟩ := hc
  refine ps_imp (ps_while hp pc hb) fun Dn σ H ⟨F0, H0, F, ρ, h, p⟩ => ?_
  refine ⟨fun m σ H => ∃ (F : Hp) (ρ : En), StR X.K F0 H0 F H o σ ρ ∧ PoS X.K X.mg W ob o F0 H0 F (whileGo t b m ρ) Dn, ⟨n, F, ρ, h, p⟩, ?_⟩
  rintro m σ H ⟨F, ρ, h, p⟩
  cases m with
  | zero => exact p.elim
  | succ m =>
    obtain ⟨F1, s1, s2, x1, vr, back⟩ := h.borrow
    have p : PoS X.K X.mg W ob o F0 H0 F ((t ρ).out fun k => if k then match b ρ with
      | .nx ρ2 => whileGo t b m ρ2 | .ct ρ2 => whileGo t b m ρ2 | .bk ρ2 => .nx ρ2
      | .rt d => .rt d | .ex c => .ex c | .st => .st
    else .nx ρ) Dn := p
    refine rc σ F1 H _ _ s2 vr (PoS.exprB ⟨h.ext.hh, h.ext.fh⟩ back p fun d v F2 H2 F3 hr e q s g p' => ?_)
    obtain rfl : v = d := q
    cases v with
    | true =>
      refine iteT ⟨fun σ' H' => ∃ (F : Hp) (ρ : En), StR X.K F0 H0 F H' o σ' ρ ∧ PoS X.K X.mg W ob o F0 H0 F (whileGo t b m ρ) Dn, fun σ' H' hN => ⟨m, Nat.lt_succ_self _, hN⟩, F0, H0, F3, ρ, g, ?_⟩
      rw [if_pos rfl] at p'
      cases hb' : b ρ with
      | nx ρ2 =>
        rw [hb'] at p'
        exact fun σ3 F4 H3 s3 h3 => ⟨F4, ρ2, h3, p'.mono (s.trans s3)⟩
      | rt d => rw [hb'] at p'; exact p'
      | bk ρ2 =>
        rw [hb'] at p'
        exact fun σ3 F4 H3 s3 h3 => p' σ3 F4 H3 (s.trans s3) h3
      | ct ρ2 =>
        rw [hb'] at p'
        exact fun σ3 F4 H3 s3 h3 => ⟨F4, ρ2, h3, p'.mono (s.trans s3)⟩
      | ex c =>
        rw [hb'] at p'
        exact fun C σ3 H3 h0 hb3 m => p' C σ3 H3 h0 (s.trans hb3) m
      | st => rw [hb'] at p'; exact p'
    | false => exact iteF (p' σ F3 H2 s g)
/-! ### x = [..]: a comprehension given to a name -/
section
variable {tg iter elt : Expr} {ifs : List Expr} {scope : Scope} {own : List (Str × Nat)} {pos : Pos} {gi : GA} {td : TgD} {gt : GT} {ge : G}
theorem ds_setLc {i : Nat} {y : Str} {py spos : Pos} (hc : X.calm = true) (hN : X.N.Nodup) (hi : DI X W tg iter gi) (ok : BlkOk X.N X.env.scope scope own)
    (hg : ∀ (s : Shared) (H : Hp) (C : Addr) (cl : List (Str × Addr)) (fp : List Addr), DG (X.blk s H scope (compEnvC scope cl C X.env) fp) tg td) (ht : ∀ (s : Shared) (H : Hp) (C : Addr) (cl : List (Str × Addr)) (fp : List Addr), DTs (X.blk s H scope (compEnvC scope cl C X.env) fp) W0 ifs gt)
    (he : ∀ (s : Shared) (H : Hp) (C : Addr) (cl : List (Str × Addr)) (fp : List Addr), DE (X.blk s H scope (compEnvC scope cl C X.env) fp) W0 elt ge) (ho : ∀ j, ow o' j = if j = i then 1 else ow o j) (hy : X.N[i]? = some y := by rfl) (hyl : X.env.scope.names.lookup y = some .local := by rfl)
    (hsw : swapsWith (.ListComp elt [⟨tg, iter, ifs, 0⟩] scope pos) (some (.Name y py)) spos.line X.env = pure true := by exact sw_true rfl rfl rfl (by decide +kernel)) (hsub : ∀ i ∈ td.is, i ∈ own.map Prod.snd := by decide) (hs : ∀ x, foldedSetIterable iter X.env x = pure x := by intro _; rfl) :
    DS X W ob o o' (.Assign [.Name y py] (.ListComp elt [⟨tg, iter, ifs, 0⟩] scope pos) spos) (sSet (o.map Prod.fst) (tgN i) (gLc gi td gt ge (own.map Prod.snd))) := by
  obtain ⟨wi, pi, ri⟩ := hi
  exact ps_imp (ps_setLc (g := canG X.K td) (tt := canT X.K X.mg W0 gt) (te := canE X.K X.mg W0 ge) hc hN hy hyl hsw pi ok hg ht (fun s H C cl fp => (he s H C cl fp).can) hs) fun Dn σ H ⟨F0, H0, F, ρ, h, p⟩ =>
    lc_rd0 ri hsub h.ext.fh h.vr (PoS.exprN h p fun d v F' H' S e q hS p' => p' _ F' H' e.ff (h.setN e q hS ho))
theorem ds_setLc1 {i : Nat} {y : Str} {py spos : Pos} (hc : X.calm = true) (hN : X.N.Nodup) (hi : DI X W tg iter gi) (ok : BlkOk X.N X.env.scope scope own)
    (hg : ∀ (s : Shared) (H : Hp) (C : Addr) (cl : List (Str × Addr)) (fp : List Addr), DG (X.blk s H scope (compEnvC scope cl C X.env) fp) tg td) (ht : ∀ (s : Shared) (H : Hp) (C : Addr) (cl : List (Str × Addr)) (fp : List Addr), DTs (X.blk s H scope (compEnvC scope cl C X.env) fp) W0 ifs gt)
    (he : ∀ (s : Shared) (H : Hp) (C : Addr) (cl : List (Str × Addr)) (fp : List Addr), DN (X.blk s H scope (compEnvC scope cl C X.env) fp) W0 1 elt ge) (ho : ∀ j, ow o' j = if j = i then 2 else ow o j) (hy : X.N[i]? = some y := by rfl) (hyl : X.env.scope.names.lookup y = some .local := by rfl)
    (hsw : swapsWith (.ListComp elt [⟨tg, iter, ifs, 0⟩] scope pos) (some (.Name y py)) spos.line X.env = pure true := by exact sw_true rfl rfl rfl (by decide +kernel)) (hsub : ∀ i ∈ td.is, i ∈ own.map Prod.snd := by decide) (hs : ∀ x, foldedSetIterable iter X.env x = pure x := by intro _; rfl) :
    DS X W ob o o' (.Assign [.Name y py] (.ListComp elt [⟨tg, iter, ifs, 0⟩] scope pos) spos) (sSet (o.map Prod.fst) (tgN i) (gLc gi td gt ge (own.map Prod.snd))) := by
  obtain ⟨wi, pi, ri⟩ := hi
  exact ps_imp (ps_setLc (g := canG X.K td) (tt := canT X.K X.mg W0 gt) (te := canN X.K X.mg W0 1 ge) hc hN hy hyl hsw pi ok hg ht he hs) fun Dn σ H ⟨F0, H0, F, ρ, h, p⟩ =>
    lc_rd1 ri hsub h.ext.fh h.vr (PoS.exprN h p fun d v F' H' S e q hS p' => p' _ F' H' e.ff (h.setN e q hS ho))
end
/-! ### a def -/
theorem start_vr {K : PySem.W.Frag} {F : Hp} {N : List Str} {vs : List V} {ds : List D} (a : DrAll K F vs ds) (hl : ds.length ≤ N.length) : Vr K F (L2.start N vs) (startE N.length ds) := by
  refine ⟨?_, fun i d h => ?_⟩
  · unfold L2.start startE
    simp only [List.length_append, List.length_map, List.length_replicate, a.len]
  · unfold startE at h
    unfold L2.start
    by_cases hi : i < ds.length
    · rw [List.getElem?_append_left (by simpa using hi), List.getElem?_map] at h
      cases e : ds[i]? with
      | none =>
        rw [e] at h
        cases h
      | some d' =>
        rw [e] at h
        cases h
        obtain ⟨v, hv, q⟩ := a.get e
        exact ⟨v, by rw [List.getElem?_append_left (by rw [List.length_map, a.len]; exact hi), List.getElem?_map, hv]; rfl, q⟩
    · rw [List.getElem?_append_right (by simpa using hi), List.getElem?_replicate] at h
      split at h <;> cases h
theorem StR.start {K : PySem.W.Frag} {F H : Hp} {σ : St} {ρ : En} (s : Same F H) (v : Vr K F σ ρ) : StR K F H F H [] σ ρ :=
  ⟨Ext.refl s, v.len, fun _ => [], fun i d h => (fun ⟨u, h1, h2⟩ => ⟨u, h1, .z h2⟩) (v.get i d h), (fun i a z => (nomatch z)), (fun i j a _ z => (nomatch z)), fun _ _ => rfl⟩
theorem fnD_of {P : Program} {w : World} {K : PySem.W.Frag} {mg : Str → Option Value} {base : Heap} {x qual : Str} {st : Stmt} {f : Addr} {fd : FuncData} {N ps : List Str} {k : Nat} {g : List D → Rz D} {m : GS} {o' : Ow} (Fn : Fun K x qual st f fd) (S : FnScope N ps (defScope st)) (hl : ps.length ≤ N.length)
    (hb : ∀ (cdv : Value) (A : Around) (outer : List Env) (s : Shared) (H : Hp) (E : XK), Room k (A.deeper (envOfC qual (defScope st) s.heap.objs.size f cdv)) →
      DSs (cxOf (L2.CX P w) P w K mg base N qual (defScope st) f cdv A outer s H E) (fun cls d _ H' => E cls d H') [] [] o' (defBody st) m)
    (hg : ∀ ds, ds.length = ps.length → g ds = .st ∨ (m (startE N.length ds)).rz = g ds) : FnD P w K mg base (k + 1) f fd ps g := by
  refine Fn.okX S (fun vs H Q E h => ?_) (fun cdv A outer s H vs Q E hr h => ⟨_, hb cdv A outer s H E hr, ?_⟩)
  · obtain ⟨F, ds, _, a, n, _⟩ := h
    rw [a.len, n]
  · obtain ⟨F, ds, sm, a, n, p⟩ := h
    refine ⟨F, H, F, startE N.length ds, StR.start sm (start_vr a (by rw [n]; exact hl)), ?_⟩
    rcases hg ds n with z | z
    · rw [z] at p
      exact p.elim
    · cases hm : m (startE N.length ds) with
      | nx ρ =>
        rw [hm] at z
        rw [← z] at p
        have p : Po (Dr K) mg (fun cls d _ H' => E cls d H') [] F H (.ok .none) Q := p
        exact fun σ' F' H' s' h' => (show Q V.non H' from p V.non F' H' h'.ext Dr.non)
      | rt d =>
        rw [hm] at z
        rw [← z] at p
        exact fun v F' H' e q => Po.ok p e q
      | bk ρ =>
        rw [hm] at z
        rw [← z] at p
        exact p.elim
      | ct ρ =>
        rw [hm] at z
        rw [← z] at p
        exact p.elim
      | ex c =>
        rw [hm] at z
        rw [← z] at p
        exact fun C σ' H' s' _ h' => p C H' s' h'
      | st =>
        rw [hm] at z
        rw [← z] at p
        exact p.elim
end
end DL
/-! part DLs9 -/
namespace DL
open PySem PySem.Spec PyProof.Rows L2
/-! ### sets of ints: len(set(xs)) -/
theorem addU_mem {l : List Int} {x y : Int} : y ∈ addU l x ↔ y ∈ l ∨ y = x := by
  unfold addU
  by_cases h : l.any (· == x) = true
  · rw [if_pos h]
    obtain ⟨z, hz, e⟩ := List.any_eq_true.mp h
    have e : z = x := eq_of_beq e
    subst e
    exact ⟨.inl, fun q => q.elim id fun q => q ▸ hz⟩
  · rw [if_neg h, List.mem_append, List.mem_singleton]
theorem addU_nodup {l : List Int} {x : Int} (h : l.Nodup) : (addU l x).Nodup := by
  unfold addU
  by_cases c : l.any (· == x) = true
  · rw [if_pos c]
    exact h
  · rw [if_neg c]
    refine List.nodup_append.mpr ⟨h, List.nodup_cons.mpr ⟨(fun z => (nomatch z)), List.nodup_nil⟩, fun a ha b hb e => c ?_⟩
    have eb : b = x := by simpa using hb
    exact List.any_eq_true.mpr ⟨a, ha, by rw [e, eb]; exact beq_self_eq_true _⟩
theorem foldU_mem : ∀ (ns l : List Int) (y : Int), y ∈ ns.foldl addU l ↔ y ∈ l ∨ y ∈ ns
  | [], l, y => by simp
  | n :: ns, l, y => by
    rw [List.foldl_cons, foldU_mem ns, addU_mem, List.mem_cons, or_assoc]
theorem foldU_nodup : ∀ (ns l : List Int), l.Nodup → (ns.foldl addU l).Nodup
  | [], _, h => h
  | n :: ns, _, h => foldU_nodup ns _ (addU_nodup h)
theorem uniqI_mem (ns : List Int) (y : Int) : y ∈ uniqI ns ↔ y ∈ ns := by
  unfold uniqI
  rw [foldU_mem]
  simp
theorem uniqI_nodup (ns : List Int) : (uniqI ns).Nodup := foldU_nodup ns [] List.nodup_nil
theorem nodup_len {l m : List Int} (h1 : l.Nodup) (h2 : ∀ x ∈ l, x ∈ m) : l.length ≤ m.length := by
  induction l generalizing m with
  | nil => exact Nat.zero_le _
  | cons a l ih =>
    obtain ⟨na, nl⟩ := List.nodup_cons.mp h1
    have hm : a ∈ m := h2 a List.mem_cons_self
    have := ih (m := m.erase a) nl fun x hx => (List.mem_erase_of_ne fun e => na (by rw [← e]; exact hx)).mpr (h2 x (List.mem_cons_of_mem _ hx))
    rw [List.length_erase_of_mem hm] at this
    have := List.length_pos_of_mem hm
    rw [List.length_cons]
    omega
theorem firstMet_uniq (ns : List Int) : firstMet (fun i => ns.getD i 0) ns.length = uniqI ns := by
  unfold firstMet uniqI
  have : (List.range ns.length).map (fun i => ns.getD i 0) = ns := by
    apply List.ext_getElem
    · simp
    · intro i h1 h2
      simp at h1
      simp [h1]
  rw [this]
  rfl
section
variable {X : Cx} {W : WX} {ob o o' o2 : Ow}
/-- len(set(xs)) -/
theorem de_lenSet {a : Expr} {ga : G} {p p2 q pos : Pos} (hm : X.mg "len" = none) (hm2 : X.mg "set" = none) (ha : DE X W a ga) (hc : X.calm = true := by rfl) (hg : Gl X "len" := by rfl) (hg2 : Gl X "set" := by rfl) (na : starEach [a] X.env = (false, eval a X.env) :: starEach [] X.env := by rfl) :
    DE X W (.Call (.Name "len" p) [.Call (.Name "set" p2) [a] [] q] [] pos) (g1 dLenSet ga) := by
  obtain ⟨t, pa, ra⟩ := ha
  refine de_of ⟨fun pins s σ H Q I h => ?_⟩
  obtain ⟨F, ρ, sm, hV, h⟩ := h
  refine Call_ (ld_blt I hg hm PySem.boot_len ?_)
  refine PyProof.Rows.callWith_builtin1 (PyProof.Rows.args_cons ?_ rfl) rfl rfl
  refine Call_ (ld_blt I hg2 hm2 boot_set ?_)
  refine PyProof.Rows.callWith_type1 (PyProof.Rows.args_cons (thn (pa.run pins s σ H _ I (ra σ F H ρ (fun x H1 => ∃ (F1 : Hp) (d : D), Same F1 H1 ∧ Dr X.K F1 x d ∧ Po (Dr X.K) X.mg W σ F1 H1 (dLenSet d) Q) sm hV (Po.bind h fun d x F1 H1 e1 q1 h1 => ⟨F1, d, e1.fh, q1, h1⟩))) fun v s1 ⟨x, H1, I1, r1, F1, d, sm1, q1, h1⟩ => PyProof.Rows.args_nil ?_) na) na rfl
  cases q1 with
  | @lst a1 xs ds e1 a2 =>
    have h1 : Po (Dr X.K) X.mg W σ F1 H1 ((orSt (intsD ds)).bind fun ns => if ns.length ≤ 1000 then .ok (.int (uniqI ns).length) else .st) Q := h1
    obtain ⟨ns, hn, h2⟩ := Po.orSt h1
    clear h1
    have z := intsD_map hn
    subst z
    have z := DrAll.of_ints a2
    subst z
    obtain ⟨hl, h3⟩ := Po.ifst h2
    cases r1
    obtain ⟨its, r, pl, hz⟩ := I1.list (SqL.of (sm1 _ _ e1))
    have hlen : its.toArray.size = ns.length := by rw [List.size_toArray, ← r.length, List.length_map]
    refine call_set_list (I1.ok.hd hc) pl.isList (by simpa using RZ.intsAre_vals r) (by rw [hlen]; unfold scanBound; omega) fun h' tk hS hk => ?_
    refine PyProof.Rows.args_nil ?_
    rw [hlen, firstMet_uniq] at hS
    obtain ⟨o, es, ep, t, ho, hex, hd, _, _, _, hf, hn⟩ := hS
    have I2 : Inv X pins σ H1 { s1 with heap := h', toks := tk } := I1.kept fun b o e => hk b o (Heap.lt_size e) e
    have hle : (uniqI ns).length ≤ ns.length := nodup_len (uniqI_nodup ns) fun x hx => (uniqI_mem ns x).mp hx
    exact call_len_set ho hex hd hf (by rw [hn] <;> omega) ⟨.int (uniqI ns).length, H1, I2.tok _, ⟨_, by rw [hn]⟩, Po.okh h3 sm1 (.int _)⟩
  | @tup a1 xs ds e1 a2 =>
    have h1 : Po (Dr X.K) X.mg W σ F1 H1 ((orSt (intsD ds)).bind fun ns => if ns.length ≤ 1000 then .ok (.int (uniqI ns).length) else .st) Q := h1
    obtain ⟨ns, hn, h2⟩ := Po.orSt h1
    clear h1
    have z := intsD_map hn
    subst z
    have z := DrAll.of_ints a2
    subst z
    obtain ⟨hl, h3⟩ := Po.ifst h2
    cases r1
    obtain ⟨its, r, pl, hz⟩ := I1.tuple (sqT_same sm1 e1.sq)
    refine call_set_tupI ns (I1.ok.hd hc) pl (by simpa using RZ.intsAre_vals r) (by unfold scanBound; omega) fun h' tk c hS hcl hk => ?_
    refine PyProof.Rows.args_nil ?_
    obtain ⟨o, es, ep, t, ho, hex, hd, _, nd, mem, _, hf, hn, _⟩ := hS
    have I2 : Inv X pins σ H1 { s1 with heap := h', toks := tk } := I1.kept hk
    have hle : (uniqI ns).length ≤ ns.length := nodup_len (uniqI_nodup ns) fun x hx => (uniqI_mem ns x).mp hx
    have hec : es.size = (uniqI ns).length := by
      have l1 : (es.toList.map keyOf).length ≤ (uniqI ns).length := nodup_len nd fun x hx => by
        have := (mem x).mpr hx
        exact (uniqI_mem ns x).mpr (of_decide_eq_true this)
      have l2 : (uniqI ns).length ≤ (es.toList.map keyOf).length := nodup_len (uniqI_nodup ns) fun x hx => (mem x).mp (decide_eq_true ((uniqI_mem ns x).mp hx))
      rw [List.length_map] at l1 l2
      have e3 : es.toList.length = es.size := Array.length_toList
      omega
    have hfit : (es.size : Int) < 2 ^ 63 := by omega
    exact call_len_set ho hex hd hf hfit ⟨.int (uniqI ns).length, H1, I2.tok _, ⟨_, by rw [hec]⟩, Po.okh h3 sm1 (.int _)⟩
  | _ => exact False.elim h1
/-! ### sum -/
theorem cr_sumT (hc : X.calm = true) : CallR X (.builtin "sum") (fun vs H Q => ∃ (a : Addr) (ns : List Int), vs = [V.ref a] ∧ SqT X.K H a (ns.map V.int) ∧ Q (.int ns.sum) H) := by
  intro pins s σ H vs us Q I r h
  obtain ⟨a, ns, rfl, hs, q⟩ := h
  obtain ⟨its, rv, hl, _⟩ := I.tuple hs
  rw [Vals.ref1 r]
  have hi := rv.ints
  have hl : s.heap.IsTuple a its.toArray := hl
  obtain ⟨xs, hx⟩ := hi.allInts.items
  have hn : numsOf its.toArray.toList = ns := by rw [show its.toArray.toList = its from rfl, hi.numsOf]
  rw [hx] at hl hn
  rw [nums_intItems] at hn
  refine PySem.W.ktm_sumG (I.ok.hd hc) hl fun h' tk t' hk => ?_
  rw [preSum_eq, List.take_of_length_le (by simp), hn]
  exact ⟨.int _, H, I.kept hk, ⟨_, rfl⟩, q⟩
theorem cd_sum (hc : X.calm = true) : CaD X W (.builtin "sum") (on1 dSum) := .on1 ((cr_sum hc).or (cr_sumT hc)) fun σ F H x d Q s q h => by
  cases q with
  | @lst a xs ds e a2 =>
    have h1 : Po (Dr X.K) X.mg W σ F H ((orSt (intsD ds)).bind fun ns => .ok (.int ns.sum)) Q := h
    obtain ⟨ns, hn, h2⟩ := Po.orSt h1
    clear h1 h
    have z := intsD_map hn
    subst z
    have z := DrAll.of_ints a2
    subst z
    exact .inl ⟨a, ns, rfl, SqL.of (s _ _ e), Po.okh h2 s (.int _)⟩
  | @tup a xs ds e a2 =>
    have h1 : Po (Dr X.K) X.mg W σ F H ((orSt (intsD ds)).bind fun ns => .ok (.int ns.sum)) Q := h
    obtain ⟨ns, hn, h2⟩ := Po.orSt h1
    clear h1 h
    have z := intsD_map hn
    subst z
    have z := DrAll.of_ints a2
    subst z
    exact .inr ⟨a, ns, rfl, sqT_same s e.sq, Po.okh h2 s (.int _)⟩
  | _ => exact False.elim h
/-! ### a, b = e, f -/
theorem ds_par {i j : Nat} {x y : Str} {a b : Expr} {ga : GA} {px py pt pos : Pos} {kt k2 pt2} (ha : DA X W [a, b] ga) (hc : X.calm = true) (hN : X.N.Nodup) (hij : i ≠ j := by decide) (oi : ow o i = 0 := by rfl) (oj : ow o j = 0 := by rfl) (hi : X.N[i]? = some x := by rfl) (hj : X.N[j]? = some y := by rfl)
    (hx : X.env.scope.names.lookup x = some .local := by rfl) (hy : X.env.scope.names.lookup y = some .local := by rfl)
    (hw : swappedStores [.Tuple [.Name x px, .Name y py] kt pt] (.Tuple [a, b] k2 pt2) X.env = pure (some [x, y]) := by rfl)
    (hs : swapsWithSole [.Tuple [.Name x px, .Name y py] kt pt] (.Tuple [a, b] k2 pt2) pos.line X.env = pure false := by rfl) :
    DS X W ob o o (.Assign [.Tuple [.Name x px, .Name y py] kt pt] (.Tuple [a, b] k2 pt2) pos) (sPar (o.map Prod.fst) i j ga) := by
  obtain ⟨t, pa, ra⟩ := ha
  refine ps_imp (ps_par hc hN hi hj hij hx hy pa hw hs) fun Dn σ H ⟨F0, H0, F, ρ, h, p⟩ => ra σ F H _ _ h.ext.fh h.vr (PoS.expr h p fun ds vs F' H' e q h' p' => ?_)
  have up : ∀ {i : Nat}, ow o i = 0 → ∀ j, ow o j = if j = i then 0 else ow o j := fun {i} oi j => by
    by_cases e : j = i
    · rw [if_pos e, e]
      exact oi
    · rw [if_neg e]
  cases q with
  | nil => exact p'.elim
  | cons q1 q2 => cases q2 with
    | nil => exact p'.elim
    | cons q2 q3 => cases q3 with
      | nil => exact ⟨_, _, rfl, p' _ F' H' e.ff ((h'.set0 q1 (up oi)).set0 q2 (up oj))⟩
      | cons _ _ => exact p'.elim
end
/-! ### what stands in the module -/
/-- a def of the text at a name -/
structure FunAt (K : PySem.W.Frag) (mg : Str → Option Value) (x : Str) (st : Stmt) (ps : List Str) : Prop where
  ex : ∃ (f : Addr) (fd : FuncData), Fun K x x st f fd ∧ mg x = some (.ref f) ∧ Binds K fd ps []
/-- a def that keeps g -/
structure Cal (P : Program) (w : World) (K : PySem.W.Frag) (mg : Str → Option Value) (base : Heap) (k : Nat) (x : Str) (ps : List Str) (g : List D → Rz D) : Prop where
  ex : ∃ (f : Addr) (fd : FuncData), FnD P w K mg base k f fd ps g ∧ mg x = some (.ref f) ∧ PySem.W.keepIn K (.ref f) = true ∧ Binds K fd ps []
theorem Cal.mono {P : Program} {w : World} {K : PySem.W.Frag} {mg : Str → Option Value} {base : Heap} {j k : Nat} {x : Str} {ps : List Str} {g : List D → Rz D} (c : Cal P w K mg base j x ps g) (h : j ≤ k) : Cal P w K mg base k x ps g := by
  obtain ⟨f, fd, a, b⟩ := c.ex
  exact ⟨f, fd, a.mono h, b⟩
theorem Cal.imp {P : Program} {w : World} {K : PySem.W.Frag} {mg : Str → Option Value} {base : Heap} {k : Nat} {x : Str} {ps : List Str} {f g : List D → Rz D} (c : Cal P w K mg base k x ps f) (hg : ∀ ds, ds.length = ps.length → g ds = .st ∨ f ds = g ds) : Cal P w K mg base k x ps g := by
  obtain ⟨f, fd, a, b⟩ := c.ex
  exact ⟨f, fd, FnD.imp a hg, b⟩
theorem cal_of {P : Program} {w : World} {K : PySem.W.Frag} {mg : Str → Option Value} {base : Heap} {x : Str} {st : Stmt} {N ps : List Str} {k : Nat} {g : List D → Rz D} {m : GS} {o' : Ow} (Fn : FunAt K mg x st ps) (S : FnScope N ps (defScope st)) (hl : ps.length ≤ N.length)
    (hb : ∀ (f : Addr) (cdv : Value) (A : Around) (outer : List Env) (s : Shared) (H : Hp) (E : XK), Room k (A.deeper (envOfC x (defScope st) s.heap.objs.size f cdv)) →
      Takes (cxOf (L2.CX P w) P w K mg base N x (defScope st) f cdv A outer s H E) (fun cls d _ H' => E cls d H') →
      PassesOwn (model P w) (A.deeper (envOfC x (defScope st) s.heap.objs.size f cdv)) (envOfC x (defScope st) s.heap.objs.size f cdv) (cxOf (L2.CX P w) P w K mg base N x (defScope st) f cdv A outer s H E).xe →
      DSs (cxOf (L2.CX P w) P w K mg base N x (defScope st) f cdv A outer s H E) (fun cls d _ H' => E cls d H') [] [] o' (defBody st) m)
    (hg : ∀ ds, ds.length = ps.length → g ds = .st ∨ (m (startE N.length ds)).rz = g ds) : Cal P w K mg base (k + 1) x ps g := by
  obtain ⟨f, fd, F, m1, b⟩ := Fn.ex
  exact ⟨f, fd, fnD_of F S hl (fun cdv A outer s H E hr => hb f cdv A outer s H E hr (takes_of (X := cxOf (L2.CX P w) P w K mg base N x (defScope st) f cdv A outer s H E) rfl rfl rfl rfl) (passes_of (X := cxOf (L2.CX P w) P w K mg base N x (defScope st) f cdv A outer s H E) rfl)) hg, m1, F.kp, b⟩
/-- an own class of exceptions -/
structure ExcF (K : PySem.W.Frag) (mg : Str → Option Value) (c : Str) (C : Addr) : Prop where
  g : mg c = some (.ref C)
  x : PySem.W.excIn K C [.type "ValueError", .type "Exception", .type "BaseException", .type "object"] "ValueError.__new__" = true
  k : PySem.W.keepIn K (.ref C) = true
  b : PySem.W.subIn K (.ref C) (.type "BaseException") = some true
  t : PySem.W.typeIn K (.ref C) = some (.type "type")
section
variable {X : Cx} {W : WX} {ob o o' o2 : Ow}
theorem de_cal {k : Nat} {ps : List Str} {f : List D → Rz D} {x : Str} {p pos : Pos} {e : Expr} {es : List Expr} {gs : GA} (c : Cal X.prog X.w X.K X.mg X.base k x ps f) (hr : Room k X.A) (tk : Takes X W) (ha : DA X W (e :: es) gs) (hl : (e :: es).length = ps.length := by rfl) (hg : Gl X x := by rfl) (hdb : (x == ("__debug__" : Str)) = false := by decide)
    (he : starEach (e :: es) X.env = (false, eval e X.env) :: starEach es X.env := by rfl) (hpl : (backTo pos (starEach es X.env)).any (·.1) = false := by rfl) (hn : ∀ ρ ds, gs ρ = .ok ds → ds.length = (e :: es).length := by (intro ρ ds h; first | exact aLen_cons h fun _ h => aLen_nil h | exact aLen_cons h fun _ h => aLen_cons h fun _ h => aLen_nil h | exact aLen_cons h fun _ h => aLen_cons h fun _ h => aLen_cons h fun _ h => aLen_nil h | exact aLen_cons h fun _ h => aLen_cons h fun _ h => aLen_cons h fun _ h => aLen_cons h fun _ h => aLen_nil h)) :
    DE X W (.Call (.Name x p) (e :: es) [] pos) (gCall f gs) := by
  obtain ⟨fa, fd, F, hm, hk, hb⟩ := c.ex
  exact de_call F hr hm hk hb tk ha hl hg hdb he hpl hn
theorem ds_raiseT {c m : Str} {C : Addr} {j : Nat} {p p2 q pos : Pos} (x : ExcF X.K X.mg c C) (tk : Takes X W) (hc : X.calm = true) (hg : Gl X c := by rfl) (hdb : (c == ("__debug__" : Str)) = false := by decide) : DS X W ob o o' (.Raise (some (.Call (.Name c p) [.Constant (.str m) j p2] [] q)) none pos) (sRaise c) :=
  ds_raise hc tk x.g (pmk_own PySem.F.excBase_ValueError x.x x.g x.k (raises_own x.b x.t) hg hdb)
end
theorem u65 {k : Nat} {A : Around} (r : Room k A) : A.units + 65 < cLine := by
  have := r.un
  omega
end DL
/-! part DLs10 -/
/-! ### enumerate(tuple) -/
namespace PySem
open Sem (wp)
set_option maxHeartbeats 1000000 in
theorem dl_meets_enumT {v : Value} {o : Obj} {H : Heap → Prop} (B : Begins v o H) :
    Meets (Builtin.«enumerate.__new__» ⟨[.type "enumerate", v], []⟩) (fun _ R s => H s.heap ∧
      R (.ok (.ret (.ref (s.heap.push o).objs.size))) { s with heap := (s.heap.push o).push { cls := .type "enumerate", data := .fields #[.none, .bool false, .ref s.heap.objs.size, rawInt 0, .none, .none] } }) :=
  .of_wp fun prog w A R s h => by
    obtain ⟨hp, g, d, tk, os⟩ := s
    obtain ⟨h1, h⟩ := h
    have hsub := sub_enumerate
    have q1 : ∀ {A' : Around} {E : Value → Shared → Prop} {Q : Value → Shared → Prop}, Q (.ref hp.objs.size) ⟨hp.push o, g, d, tk, os⟩ → wpAny (model prog w) A' (pyIter v) Q E ⟨hp, g, d, tk, os⟩ :=
      fun q => B.iter prog w _ _ ⟨hp, g, d, tk, os⟩ _ h1 q
    wp_walk using q1
    refine wpAny_stack_any fun st => wpAny_pure ?_
    split
    · rename_i c _ _ _ _ _
      cases (c == Value.type "enumerate")
      · wp_walk using q1
        exact ⟨_, rfl, h⟩
      · wp_walk using q1
        exact ⟨_, rfl, h⟩
    · wp_walk using q1
      exact ⟨_, rfl, h⟩
section
variable {prog : Program} {w : World} {A : Around} {E : Value → Shared → Prop} {s : Shared}
theorem dl_call_enumT {v : Value} {o : Obj} {H : Heap → Prop} {Q : Value → Shared → Prop} (B : Begins v o H) (h1 : H s.heap)
    (h : ∀ h', IsEnum h' (s.heap.objs.size + 1) s.heap.objs.size 0 .none → h'.get? s.heap.objs.size = some o → h'.objs.size = s.heap.objs.size + 2 →
      (∀ b o, s.heap.get? b = some o → h'.get? b = some o) → Q (.ref (s.heap.objs.size + 1)) { s with heap := h' }) :
    wpAny (model prog w) A (call (.type "enumerate") [v]) Q E s := by
  refine callType_new F.called_enumerate (by decide) (F.typeCall_enumerate_1 _) (F.newCall_enumerate_1 _) (fun obj => F.args_object_init_2 obj _) F.entry_enumerate_new
    (dl_meets_enumT B) ⟨h1, ?_⟩
  have hz : (s.heap.push o).objs.size = s.heap.objs.size + 1 := Heap.size_push ..
  show _ ∧ _
  rw [hz]
  have he : IsEnum ((s.heap.push o).push { cls := .type "enumerate", data := .fields #[.none, .bool false, .ref s.heap.objs.size, rawInt 0, .none, .none] }) (s.heap.objs.size + 1) s.heap.objs.size 0 .none := by
    have := Heap.get?_push_size (s.heap.push o) (o := { cls := .type "enumerate", data := .fields #[.none, .bool false, .ref s.heap.objs.size, rawInt 0, .none, .none] }) rfl
    rw [hz] at this; exact this
  refine ⟨⟨_, he, rfl⟩, h _ he (Heap.get?_push_of_some _ (Heap.get?_push_size _ B.free)) (by rw [Heap.size_push, hz]) fun b o x => Heap.get?_push_of_some _ (Heap.get?_push_of_some _ x)⟩
theorem dl_enumT_end {e it l : Addr} {i : Nat} {items : Array Value} {old : Value} {Q : Option Value → Shared → Prop} (hh : A.handled = none)
    (he : IsEnum s.heap e it i old) (hit : s.heap.IsTupleIter it l i) (hl : s.heap.IsTuple l items) (hx : items[i]? = none) (hne : l ≠ it)
    (hQ : ∀ h', Heap.ExtBut it s.heap h' → Q none { s with heap := h' }) : wpAny (model prog w) A (pyNext (.ref e)) Q E s := by
  have hT : s.TypeIs (.ref e) "enumerate" := ⟨_, he, rfl⟩
  unfold pyNext
  refine wpAny_bind (wpAny_attempt (wpAny_callSpecial?_slot (name := Str.ofString "__next__") hT F.slot_enumerate_next
    (wpAny_call_entry F.slot_enumerate_next hT F.entry_enumerate_next ?_ (F.args_enumerate_next_1 _))))
  show wpAny _ _ (field (.ref e) 2 >>= _) _ _ _
  refine wpAny_bind (wpAny_field he rfl (x := .ref it) rfl ?_)
  refine wpAny_bind (wpAny_nextOf_tuple_end hh hit hl hx fun h' x he' hx' => ?_)
  obtain ⟨o, ho, hc⟩ := hx'
  refine wpAny_bind (wpAny_isInstance (T := "StopIteration") (b := true) ⟨o, ho, hc⟩ isSubtype_stop ?_)
  exact wpAny_pure (hQ _ he')
end
end PySem
namespace DL
open PySem PySem.Spec PyProof.Rows L2
def IteT (K : PySem.W.Frag) (a : Addr) : It :=
  ⟨fun i H => ∃ (xs : List V) (x : V), SqT K H a xs ∧ xs[i]? = some x, fun i H v H' => ∃ T x, v = .ref T ∧ H T = none ∧ H' = upd H T (.tup [.int (i : Nat), x]) ∧ ∀ xs, SqT K H a xs → xs[i]? = some x, fun i H => ∃ xs : List V, SqT K H a xs ∧ xs.length ≤ i⟩
theorem turn_enumT {P : Program} {w : World} {K : PySem.W.Frag} {elts : List Expr} {kk : Nat} {tpos : Pos} (a e it : Addr) :
    Turn P w K (.Tuple elts kk tpos) (IteT K a) [e, it] e (fun i h => (∃ old, IsEnum h e it ((i : Nat) : Int) old) ∧ h.IsTupleIter it a i ∧ e ≠ it ∧ a ≠ it ∧ a ≠ e) where
  mem := by simp
  obj := fun i h st b hb => by
    obtain ⟨⟨old, he⟩, ⟨o, ho, hc, hd⟩, _⟩ := st
    have e' : b = e ∨ b = it := by simpa using hb
    rcases e' with z | z
    · rw [z]; exact ⟨_, he, fun v q => nomatch q⟩
    · rw [z]; exact ⟨o, ho, fun v q => by rw [hd] at q; cases q⟩
  keep := fun i h h' st k => let ⟨⟨old, he⟩, hi, hne⟩ := st; ⟨⟨old, k e (by simp) _ he⟩, hi.at fun o q => k it (by simp) o q, hne⟩
  item := by
    intro X hP hw hK hc i pins s σ H E I hf st hg
    subst hP hw hK
    obtain ⟨⟨old, he⟩, hit, hne, hai, hae⟩ := st
    obtain ⟨xs, x, hq, hx⟩ := hg
    obtain ⟨its, rv, p, hz⟩ := I.tuple hq
    obtain ⟨u, hu, ru⟩ := rv.get hx
    have hel : e < s.heap.objs.size := Heap.lt_size he
    have hil : it < s.heap.objs.size := by obtain ⟨_, q, _⟩ := hit; exact Heap.lt_size q
    have hlt : i < its.toArray.size := by
      have := (List.getElem?_eq_some_iff.mp hu).1
      simpa using this
    refine wpAny_pyNext_enum_itemD (Draws.tuple (prog := X.prog) (w := X.w) (A := X.A.in1) (I.ok.hd hc) it a hai its.toArray) he ⟨hit, p⟩ hlt hne (fun z => ?_) fun y h' tk hy ho st' hT hsz hk => ?_
    · have z : e = it ∨ e = a := by simpa using z
      rcases z with z | z
      · exact hne z
      · exact hae z.symm
    have ey : y = u := by
      have h1 : its[i]? = some y := by simpa using hy
      exact Option.some.inj (h1.symm.trans hu)
    subst ey
    refine ⟨_, rfl, wpAny_letOwnedTupleGo_enum (s := { s with heap := h', toks := tk + 1 }) ho fun h'' he' sb => ?_⟩
    have hT2 : h''.get? s.heap.objs.size = some { cls := .type "tuple", data := .seq #[.int i tk, y] } := (sb.2 _ (Nat.ne_of_gt hel)).trans hT
    have new : ObjOk X.prog X.w (upd H s.heap.objs.size (.tup [.int (i : Nat), x])) h'' s.heap.objs.size (.tup [.int (i : Nat), x]) :=
      ⟨by show 2 ≤ sizeLine; decide, [.int i tk, y], .cons ⟨_, rfl⟩ (.cons ru .nil), ⟨_, hT2, rfl, _, rfl⟩⟩
    have I1 : Inv X pins σ (upd H s.heap.objs.size (.tup [.int (i : Nat), x])) { s with heap := h'', toks := tk + 1 } :=
      I.turnedNew (t' := tk + 1) (ch := [e, it]) (fun b ob hb q => (sb.2 b (fun z => hb (by simp [z]))).trans (hk b ob (fun z => hb (by simp [z])) (fun z => hb (by simp [z])) q)) hf (Nat.le_refl _) new
    refine ⟨.ref s.heap.objs.size, _, I1, rfl, ⟨_, x, rfl, I.hok.fresh (Nat.le_refl _), rfl, fun ys hy => by rw [I.tuple_inj hy hq]; exact hx⟩, ⟨⟨y, ?_⟩, st'.1.at fun o q => (sb.2 it (Ne.symm hne)).trans q, hne, hai, hae⟩, fun b hb => ?_⟩
    · have e1 : ((i + 1 : Nat) : Int) = (i : Int) + 1 := by omega
      rw [e1]; exact he'
    · have hb' : b < s.heap.objs.size := by
        have e' : b = e ∨ b = it := by simpa using hb
        rcases e' with z | z
        · rw [z]; exact hel
        · rw [z]; exact hil
      rw [upd_ne (Nat.ne_of_lt hb')]
      exact (hf b hb).1
  done := by
    intro X hP hw hK hc i pins s σ H E I hf st hg
    subst hP hw hK
    obtain ⟨⟨old, he⟩, hit, hne, hai, hae⟩ := st
    obtain ⟨xs, hq, hx⟩ := hg
    obtain ⟨its, rv, p, hz⟩ := I.tuple hq
    obtain ⟨f0, f1, f2, f3, f4, f5⟩ := hf it (by simp)
    have hl := rv.length
    exact dl_enumT_end (I.ok.hd hc) he hit p (by simp; omega) hai fun h' eb => ⟨rfl, I.turned (t' := s.toks) (fun b o hb q => eb b o hb q) f0 f1 f3 f4 f5⟩
  self := fun A i s Q E st h => let ⟨⟨_, he⟩, _⟩ := st; wpAny_pyIter_enum he h
def iEnumT (K : PySem.W.Frag) (ta : TA) : TI := fun σ H R => ta σ H fun vs H1 => ∃ a xs, vs = [.ref a] ∧ SqT K H1 a xs ∧ R (IteT K a) H1
theorem pi_enumT {X : Cx} {e : Expr} {ta : TA} {p pos tpos : Pos} {elts : List Expr} {kk : Nat} (hg : Gl X "enumerate") (hm : X.mg "enumerate" = none) (ha : PA X [e] ta) (hs : starEach [e] X.env = [(false, eval e X.env)] := by rfl) :
    PI X (.Tuple elts kk tpos) (.Call (.Name "enumerate" p) [e] [] pos) (iEnumT X.K ta) := by
  refine ⟨fun pins s σ H R I h => ?_⟩
  refine Call_ (ld_blt I hg hm boot_enumerate (PyProof.Rows.callWith_type1 (thn (ha.run pos pins s σ H _ I h) fun us s1 ⟨vs, H1, I1, r1, q1⟩ => ?_) hs rfl))
  obtain ⟨a, xs, ex, hq, q⟩ := q1
  subst ex
  cases r1 with
  | cons r rr =>
    cases rr
    cases r
    obtain ⟨its, rv, p', hz⟩ := I1.tuple hq
    have pt : s1.heap.IsTuple a its.toArray := p'
    refine dl_call_enumT (begins_tuple a its.toArray) pt fun h' he hit hsz hk => wpAny_pyIter_enum he ?_
    have I2 : Inv X pins σ H1 { s1 with heap := h' } := I1.kept (t' := s1.toks) hk
    have hal : a < s1.heap.objs.size := by
      obtain ⟨o, ho, _⟩ := pt
      exact Heap.lt_size ho
    have ha1 : a ≠ s1.heap.objs.size := Nat.ne_of_lt hal
    have ha2 : a ≠ s1.heap.objs.size + 1 := Nat.ne_of_lt (Nat.lt_succ_of_lt hal)
    refine ⟨s1.heap.objs.size + 1, [s1.heap.objs.size + 1, s1.heap.objs.size], _, _, H1, rfl, I2, turn_enumT a (s1.heap.objs.size + 1) s1.heap.objs.size, ⟨⟨.none, he⟩, ⟨_, hit, rfl, rfl⟩, Nat.succ_ne_self _, ha1, ha2⟩, fun b hb => ?_, q⟩
    have e' : b = s1.heap.objs.size + 1 ∨ b = s1.heap.objs.size := by simpa using hb
    have hle : s1.heap.objs.size ≤ b := by
      rcases e' with z | z
      · rw [z]; exact Nat.le_add_right _ _
      · rw [z]; exact Nat.le_refl _
    exact I1.fpOk hle (I1.hok.fresh hle)
theorem ylds_enumT {K : PySem.W.Frag} {F : Hp} {a : Addr} {xs : List V} {ds : List D} (e : SqT K F a xs) (q : DrAll K F xs ds) : Ylds K F (IteT K a) (enumOf ds) := fun F' H' s1 s2 i => by
  have hq : SqT K H' a xs := sqT_same s2 (sqT_same s1 e)
  refine ⟨fun d hd => ?_, fun h => ⟨xs, hq, by rw [q.len]; unfold enumOf at h; rw [List.length_map, List.length_zipIdx] at h; exact h⟩⟩
  obtain ⟨y, hy, rfl⟩ := enum_get hd
  obtain ⟨v, hv, qv⟩ := q.get hy
  refine ⟨⟨xs, v, hq, hv⟩, fun x H2 hy => ?_⟩
  obtain ⟨T, x', rfl, nT, rfl, f⟩ := hy
  have ev : x' = v := Option.some.inj ((f xs hq).symm.trans hv)
  subst ev
  exact dr_pair s2 nT (.int _) (qv.same s1)
section
variable {X : Cx} {W : WX}
theorem di_enum {e : Expr} {g : G} {p pos tpos : Pos} {elts : List Expr} {kk : Nat} (hm : X.mg "enumerate" = none) (h : DE X W e g) (hg : Gl X "enumerate" := by rfl) (hs : starEach [e] X.env = [(false, eval e X.env)] := by rfl) (n2 : starEach (e :: []) X.env = (false, eval e X.env) :: starEach [] X.env := by rfl) :
    DI X W (.Tuple elts kk tpos) (.Call (.Name "enumerate" p) [e] [] pos) (iEn g) := by
  have h := h.can
  refine ⟨_, pi_or (pi_enum hg hm (pa_cons h pa_nil n2) hs) (pi_enumT hg hm (pa_cons h pa_nil n2) hs), fun σ F H ρ R s hV q => ?_⟩
  have q : Po (Ylds X.K) X.mg W σ F H ((g ρ).bind fun x => (seqOf x).bind fun xs => .ok (enumOf xs)) R := q
  cases hgr : g ρ with
  | ok d =>
    rw [hgr] at q
    have q : Po (Ylds X.K) X.mg W σ F H ((seqOf d).bind fun xs => .ok (enumOf xs)) R := q
    cases d with
    | list ds =>
      refine .inl ⟨F, ρ, s, hV, ?_⟩
      rw [hgr]
      intro v F1 H1 e1 q1
      cases q1 with
      | lst ea aa => exact ⟨_, _, rfl, SqL.of (e1.fh _ _ ea), Po.ok q e1 (ylds_enumL ea aa)⟩
    | tuple ds =>
      refine .inr ⟨F, ρ, s, hV, ?_⟩
      rw [hgr]
      intro v F1 H1 e1 q1
      cases q1 with
      | tup ea aa => exact ⟨_, _, rfl, sqT_same e1.fh ea.sq, Po.ok q e1 (ylds_enumT ea.sq aa)⟩
    | _ => exact q.elim
  | ex c =>
    rw [hgr] at q
    refine .inl ⟨F, ρ, s, hV, ?_⟩
    rw [hgr]
    exact q
  | st =>
    rw [hgr] at q
    exact q.elim
end
end DL
/-! part DLs11 -/
namespace DL
open PySem PySem.Spec PyProof.Rows L2
/-! ### what the except clauses ask of the classes -/
structure Cat (K : PySem.W.Frag) (mg : Str → Option Value) (cl : List Str) : Prop where
  gl : ∀ c ∈ cl, ∃ C, mg c = some (.ref C) ∧ ExcC K C ∧ PySem.W.kitOne K (.ref C) (.type "ValueError") = some true
  su : ∀ c ∈ cl, ∀ S ∈ ("SquareError" : Str) :: cl, ∃ C CS, mg c = some (.ref C) ∧ mg S = some (.ref CS) ∧ PySem.W.exmOne K (.ref C) (.ref CS) = some (subN c S) ∧ PySem.W.kitOne K (.ref C) (.ref CS) = some (subN c S)
section
variable {X : Cx} {W : WX} {ob o o' o2 : Ow}
theorem de_never {e : Expr} : DE X W e (fun _ => .st) := ⟨fun _ _ _ => False, ⟨fun pins s σ H Q I h => h.elim⟩, fun σ F H ρ Q s hV h => h⟩
theorem exE_vr {K : PySem.W.Frag} {F : Hp} {σ : St} {n i : Nat} {a : Addr} {c : Str} (h : σ.length = n) : Vr K F (σ.set i (some (.ref a))) ((List.replicate n none).set i (some (exD a c))) := by
  have v : Vr K F σ (List.replicate n none) := ⟨by rw [List.length_replicate, h], fun j d z => by
    rw [List.getElem?_replicate] at z
    split at z <;> cases z⟩
  exact v.set i (.exc a c)
theorem noE_vr {K : PySem.W.Frag} {F : Hp} {σ : St} {n : Nat} (h : σ.length = n) : Vr K F σ (List.replicate n none) := ⟨by rw [List.length_replicate, h], fun j d z => by
    rw [List.getElem?_replicate] at z
    split at z <;> cases z⟩
theorem StR.ofVr {K : PySem.W.Frag} {F0 H0 F H : Hp} {σ : St} {ρ : En} (e : Ext F0 H0 F H) (v : Vr K F σ ρ) : StR K F0 H0 F H [] σ ρ :=
  ⟨e, v.len, fun _ => [], fun i d h => (fun ⟨u, h1, h2⟩ => ⟨u, h1, .z h2⟩) (v.get i d h), (fun i a z => (nomatch z)), (fun i j a _ z => (nomatch z)), fun _ _ => rfl⟩
theorem ext_catch {F0 H0 F H H' F2 H2 : Hp} (h : Ext F0 H0 F H) (sH : Same H0 H') (e : Ext F H' F2 H2) : Ext F0 H0 F2 H2 :=
  ⟨sH.trans e.hh, h.ff.trans e.ff, e.fh, fun a ob z n => e.nf a ob (sH _ _ z) (h.nf a ob z n), h.s0⟩
theorem ds_try {cl : List Str} {S n : Str} {i : Nat} {body suite : List Stmt} {b₀ : Stmt} {np pos pos' : Pos} {b : GS} {su : Nat → Str → GS} (Cf : Cat X.K X.mg cl) (tk : Takes X W) (hS : S ∈ ("SquareError" : Str) :: cl) (hne : cl ≠ []) (hN : X.N.Nodup)
    (hb : ∀ (W : WX) (pn : List (Addr × Obj)) (xe : Value → Shared → Prop), Takes (X.tr pn xe) W → PassesOwn (model X.prog X.w) X.A X.env xe → DSs (X.tr pn xe) W [] [] [] body b)
    (hsu : ∀ (a : Addr) (c : Str) (C : Addr) (oe : Obj) (pn : List (Addr × Obj)), c ∈ cl → X.mg c = some (.ref C) → Zc (.ref C) none oe → (∃ vs, oe.data = .fields vs) → DSs (X.suite a ((a, oe) :: pn)) W0 [] [] [] (b₀ :: suite) (su a c))
    {ρ0 : En} (hu : ∀ a c, dropE i (su a c (ρ0.set i (some (exD a c)))) = dropE i (su 0 c (ρ0.set i (some (exD 0 c)))))
    (hρ : List.replicate X.N.length none = ρ0 := by rfl)
    (hs : X.stack = X.env :: X.outer := by rfl) (hf : X.env.frame = some X.env.locals := by rfl) (hi : X.N[i]? = some n := by rfl) (hln : X.env.kindOf n = some .local := by rfl) (hg : Gl X S := by rfl) (hdb : (S == ("__debug__" : Str)) = false := by decide) :
    DS X W [] [] [] (.Try body [.ExceptHandler (some (.Name S np)) (some n) (b₀ :: suite) pos'] [] [] pos) (sTry cl S i b su) := by
  subst hρ
  obtain ⟨c0, hc0⟩ : ∃ c, c ∈ cl := by
    cases cl with
    | nil => exact absurd rfl hne
    | cons a r => exact ⟨a, List.mem_cons_self⟩
  obtain ⟨_, CS, _, hm, _⟩ := Cf.su c0 hc0 S hS
  have key := ps_try_as (c := .ref CS) (i := i) (Wout := W) (tb := fun W' => canS X.K X.mg W' [] [] [] b) (body := body) (suite := suite) (b₀ := b₀) (np := np) (pos := pos) (pos' := pos')
    (ts := fun a cls d D σ H => ∃ c C, cls = .ref C ∧ d = none ∧ c ∈ cl ∧ X.mg c = some (.ref C) ∧ (σ.length = X.N.length → canS X.K X.mg W0 [] [] [] (su a c) D σ H))
    hs hf hN hi hln ⟨hg, hdb, .inl hm⟩ tk (fun W pn xe tk po => hb W pn xe tk po) (fun a oe cls d pn hz hfl => ⟨fun pins s σ H D I h => by
      obtain ⟨c, C1, rfl, rfl, hc, hmc, hh⟩ := h
      exact (hsu a c C1 oe pn hc hmc hz hfl).run pins s σ H D I (hh I.len)⟩)
  refine ⟨fun pins s σ H Dn I ⟨F0, H0, F, ρ, h, p⟩ => key.run pins s σ H Dn I ⟨F0, H0, F, ρ, h, ?_⟩⟩
  have hlr : ρ.length = X.N.length := h.len.symm.trans I.len
  have p : PoS X.K X.mg W [] [] F0 H0 F (match b ρ with
    | .ex c => if cl.contains c then (if subN c S then dropE i (su 0 c ((List.replicate ρ.length none).set i (some (exD 0 c)))) else .ex c) else .st
    | o => o) Dn := p
  cases hb' : b ρ with
  | ex c =>
    rw [hb'] at p
    have p : PoS X.K X.mg W [] [] F0 H0 F (if cl.contains c then (if subN c S then dropE i (su 0 c ((List.replicate ρ.length none).set i (some (exD 0 c)))) else .ex c) else .st) Dn := p
    by_cases hc : cl.contains c = true
    · rw [if_pos hc] at p
      have hc' : c ∈ cl := by simpa using hc
      obtain ⟨C', CS', hC', hCS', e1, e2⟩ := Cf.su c hc' S hS
      rw [hm] at hCS'
      cases hCS'
      intro C σ' H' sH sF hmC
      rw [hC'] at hmC
      cases hmC
      refine ⟨_, e1, fun hy a na => ?_, fun hn => ?_⟩
      · rw [if_pos hy] at p
        refine ⟨c, _, rfl, rfl, hc', hC', fun hlen => ?_⟩
        have hlen : σ'.length = X.N.length := by simpa using hlen
        refine ⟨F, H', F, (List.replicate X.N.length none).set i (some (exD a c)), StR.start sF (exE_vr hlen), ?_⟩
        rw [hlr, ← hu a c] at p
        cases hsr : su a c ((List.replicate X.N.length none).set i (some (exD a c))) with
        | nx ρ2 =>
          rw [hsr] at p
          exact fun σ2 F2 H2 s2 h2 => p _ F2 H2 s2 (StR.ofVr (ext_catch h.ext sH h2.ext) (h2.vr.unset i))
        | rt d =>
          rw [hsr] at p
          exact fun v F2 H2 e q => p v F2 H2 (ext_catch h.ext sH e) q
        | bk ρ2 =>
          rw [hsr] at p
          exact fun σ2 F2 H2 s2 h2 => p _ F2 H2 s2 (StR.ofVr (ext_catch h.ext sH h2.ext) (h2.vr.unset i))
        | ct ρ2 =>
          rw [hsr] at p
          exact fun σ2 F2 H2 s2 h2 => p _ F2 H2 s2 (StR.ofVr (ext_catch h.ext sH h2.ext) (h2.vr.unset i))
        | ex c2 =>
          rw [hsr] at p
          exact p.elim
        | st =>
          rw [hsr] at p
          exact p
      · rw [if_neg (by rw [hn]; exact Bool.false_ne_true)] at p
        exact p _ σ' H' sH sF hC'
    · rw [if_neg hc] at p
      exact p.elim
  | nx ρ1 => rw [hb'] at p; exact p
  | rt d => rw [hb'] at p; exact p
  | bk ρ1 => rw [hb'] at p; exact p
  | ct ρ1 => rw [hb'] at p; exact p
  | st => rw [hb'] at p; exact p
theorem ds_try0 {cl : List Str} {S : Str} {body suite : List Stmt} {b₀ : Stmt} {np pos pos' : Pos} {b su : GS} (Cf : Cat X.K X.mg cl) (tk : Takes X W) (hS : S ∈ ("SquareError" : Str) :: cl) (hne : cl ≠ [])
    (hb : ∀ (W : WX) (pn : List (Addr × Obj)) (xe : Value → Shared → Prop), Takes (X.tr pn xe) W → PassesOwn (model X.prog X.w) X.A X.env xe → DSs (X.tr pn xe) W [] [] [] body b)
    (hsu : ∀ (a : Addr) (oe : Obj) (pn : List (Addr × Obj)), DSs (X.suite a ((a, oe) :: pn)) W0 [] [] [] (b₀ :: suite) su)
    (hs : X.stack = X.env :: X.outer := by rfl) (hf : X.env.frame = some X.env.locals := by rfl) (hg : Gl X S := by rfl) (hdb : (S == ("__debug__" : Str)) = false := by decide) :
    DS X W [] [] [] (.Try body [.ExceptHandler (some (.Name S np)) none (b₀ :: suite) pos'] [] [] pos) (sTry0 cl S b su) := by
  obtain ⟨c0, hc0⟩ : ∃ c, c ∈ cl := by
    cases cl with
    | nil => exact absurd rfl hne
    | cons a r => exact ⟨a, List.mem_cons_self⟩
  obtain ⟨_, CS, _, hm, _⟩ := Cf.su c0 hc0 S hS
  have key := ps_try_only (c := .ref CS) (Wout := W) (tb := fun W' => canS X.K X.mg W' [] [] [] b) (body := body) (suite := suite) (b₀ := b₀) (np := np) (pos := pos) (pos' := pos')
    (ts := fun a cls d D σ H => (σ.length = X.N.length → canS X.K X.mg W0 [] [] [] su D σ H))
    hs hf ⟨hg, hdb, .inl hm⟩ tk (fun W pn xe tk po => hb W pn xe tk po) (fun a oe cls d pn hz hfl => ⟨fun pins s σ H D I h => (hsu a oe pn).run pins s σ H D I (h I.len)⟩)
  refine ⟨fun pins s σ H Dn I ⟨F0, H0, F, ρ, h, p⟩ => key.run pins s σ H Dn I ⟨F0, H0, F, ρ, h, ?_⟩⟩
  have hlr : ρ.length = X.N.length := h.len.symm.trans I.len
  have p : PoS X.K X.mg W [] [] F0 H0 F (match b ρ with
    | .ex c => if cl.contains c then (if subN c S then noEx (su (List.replicate ρ.length none)) else .ex c) else .st
    | o => o) Dn := p
  cases hb' : b ρ with
  | ex c =>
    rw [hb'] at p
    have p : PoS X.K X.mg W [] [] F0 H0 F (if cl.contains c then (if subN c S then noEx (su (List.replicate ρ.length none)) else .ex c) else .st) Dn := p
    by_cases hc : cl.contains c = true
    · rw [if_pos hc] at p
      have hc' : c ∈ cl := by simpa using hc
      obtain ⟨C', CS', hC', hCS', e1, e2⟩ := Cf.su c hc' S hS
      rw [hm] at hCS'
      cases hCS'
      intro C σ' H' sH sF hmC
      rw [hC'] at hmC
      cases hmC
      refine ⟨_, e1, fun hy a na => ?_, fun hn => ?_⟩
      · rw [if_pos hy] at p
        intro hlen
        refine ⟨F, H', F, List.replicate X.N.length none, StR.start sF (noE_vr hlen), ?_⟩
        rw [hlr] at p
        cases hsr : su (List.replicate X.N.length none) with
        | nx ρ2 =>
          rw [hsr] at p
          exact fun σ2 F2 H2 s2 h2 => p _ F2 H2 s2 (StR.ofVr (ext_catch h.ext sH h2.ext) h2.vr)
        | rt d =>
          rw [hsr] at p
          exact fun v F2 H2 e q => p v F2 H2 (ext_catch h.ext sH e) q
        | bk ρ2 =>
          rw [hsr] at p
          exact fun σ2 F2 H2 s2 h2 => p _ F2 H2 s2 (StR.ofVr (ext_catch h.ext sH h2.ext) h2.vr)
        | ct ρ2 =>
          rw [hsr] at p
          exact fun σ2 F2 H2 s2 h2 => p _ F2 H2 s2 (StR.ofVr (ext_catch h.ext sH h2.ext) h2.vr)
        | ex c2 =>
          rw [hsr] at p
          exact p.elim
        | st =>
          rw [hsr] at p
          exact p
      · rw [if_neg (by rw [hn]; exact Bool.false_ne_true)] at p
        exact p _ σ' H' sH sF hC'
    · rw [if_neg hc] at p
      exact p.elim
  | nx ρ1 => rw [hb'] at p; exact p
  | rt d => rw [hb'] at p; exact p
  | bk ρ1 => rw [hb'] at p; exact p
  | ct ρ1 => rw [hb'] at p; exact p
  | st => rw [hb'] at p; exact p
/-! ### isinstance(e, T), e caught -/
theorem de_isE {cl : List Str} {T : Str} {a : Addr} {c : Str} {C : Addr} {oe : Obj} {pn : List (Addr × Obj)} {e : Expr} {ga : G} {p q pos : Pos} (Cf : Cat X.K X.mg cl) (hc : c ∈ cl) (hmc : X.mg c = some (.ref C)) (hz : Zc (.ref C) none oe) (hfl : ∃ vs, oe.data = .fields vs) (hT : T ∈ ("SquareError" : Str) :: cl) (hm : X.mg "isinstance" = none) (ha : DE (X.suite a ((a, oe) :: pn)) W0 e ga)
    (hg : Gl X "isinstance" := by rfl) (hg2 : Gl X T := by rfl) (hdb : (T == ("__debug__" : Str)) = false := by decide)
    (n1 : starEach [e, Expr.Name T q] X.env = (false, eval e X.env) :: starEach [Expr.Name T q] X.env := by rfl) (n2 : starEach [Expr.Name T q] X.env = (false, eval (Expr.Name T q) X.env) :: starEach [] X.env := by rfl) (hpl : (backTo pos (starEach [Expr.Name T q] X.env)).any (·.1) = false := by rfl) :
    DE (X.suite a ((a, oe) :: pn)) W0 (.Call (.Name "isinstance" p) [e, .Name T q] [] pos) (g1 (dIsE a c T) ga) := by
  obtain ⟨C', CT, h1, h2, e1, e2⟩ := Cf.su c hc T hT
  obtain ⟨C2, h3, hE, _⟩ := Cf.gl c hc
  rw [hmc] at h1 h3
  cases h1
  cases h3
  obtain ⟨ta, pa, ra⟩ := ha
  refine ⟨_, pe_callB (X := X.suite a ((a, oe) :: pn)) (call_isE hE hz hfl) hg hm (by decide +kernel) (pa_cons pa (pa_cons (pe_glob (X := X.suite a ((a, oe) :: pn)) (v := .ref CT) hg2 h2 rfl hdb) pa_nil n2) n1) (by decide) (by decide) n1 hpl, fun σ F H ρ Q s hV h => ?_⟩
  refine ra σ F H ρ _ s hV (Po.bind h fun d x F1 H1 e3 q1 h1 => ?_)
  cases q1 with
  | exc b c' =>
    have h1 : Po (Dr X.K) X.mg W0 σ F1 H1 (if (b : Int) = (a : Int) ∧ c' = c then .ok (.bool (subN c T)) else .st) Q := h1
    obtain ⟨⟨hb, hc'⟩, h2⟩ := Po.ifst h1
    have hb : b = a := by exact_mod_cast hb
    subst hb
    exact ⟨.ref CT, .ref CT, subN c T, rfl, fun u hu => hu, e2, Po.okh h2 e3.fh (.bl _)⟩
  | _ => exact False.elim h1
theorem de_isEV {cl : List Str} {a : Addr} {c : Str} {C : Addr} {oe : Obj} {pn : List (Addr × Obj)} {e : Expr} {ga : G} {p q pos : Pos} (Cf : Cat X.K X.mg cl) (hc : c ∈ cl) (hmc : X.mg c = some (.ref C)) (hz : Zc (.ref C) none oe) (hfl : ∃ vs, oe.data = .fields vs) (hm : X.mg "isinstance" = none) (hm2 : X.mg "ValueError" = none) (ha : DE (X.suite a ((a, oe) :: pn)) W0 e ga)
    (hg : Gl X "isinstance" := by rfl) (hg2 : Gl X "ValueError" := by rfl)
    (n1 : starEach [e, Expr.Name "ValueError" q] X.env = (false, eval e X.env) :: starEach [Expr.Name "ValueError" q] X.env := by rfl) (n2 : starEach [Expr.Name "ValueError" q] X.env = (false, eval (Expr.Name "ValueError" q) X.env) :: starEach [] X.env := by rfl) (hpl : (backTo pos (starEach [Expr.Name "ValueError" q] X.env)).any (·.1) = false := by rfl) :
    DE (X.suite a ((a, oe) :: pn)) W0 (.Call (.Name "isinstance" p) [e, .Name "ValueError" q] [] pos) (g1 (dIsE a c "ValueError") ga) := by
  obtain ⟨C2, h3, hE, e2⟩ := Cf.gl c hc
  rw [hmc] at h3
  cases h3
  obtain ⟨ta, pa, ra⟩ := ha
  refine ⟨_, pe_callB (X := X.suite a ((a, oe) :: pn)) (call_isE hE hz hfl) hg hm (by decide +kernel) (pa_cons pa (pa_cons (pe_bltn (X := X.suite a ((a, oe) :: pn)) (v := .ty "ValueError") hg2 hm2 (by decide +kernel) rfl (by decide) (by decide)) pa_nil n2) n1) (by decide) (by decide) n1 hpl, fun σ F H ρ Q s hV h => ?_⟩
  refine ra σ F H ρ _ s hV (Po.bind h fun d x F1 H1 e3 q1 h1 => ?_)
  cases q1 with
  | exc b c' =>
    have h1 : Po (Dr X.K) X.mg W0 σ F1 H1 (if (b : Int) = (a : Int) ∧ c' = c then .ok (.bool (subN c "ValueError")) else .st) Q := h1
    obtain ⟨⟨hb, hc'⟩, h2⟩ := Po.ifst h1
    have hb : b = a := by exact_mod_cast hb
    subst hb
    have e4 : subN c "ValueError" = true := by
      unfold subN
      rw [show (("ValueError" : Str) == "ValueError") = true from by decide, Bool.or_true]
    rw [e4] at h2
    exact ⟨.ty "ValueError", .type "ValueError", true, rfl, fun u hu => hu, e2, Po.okh h2 e3.fh (.bl _)⟩
  | _ => exact False.elim h1
end
end DL
/-! part DLpt -/
namespace DL
open PySem
/-! ### texts -/
def dSplit : D → D → Rz D
  | .str a, .str b => if (!(b.length == 0)) && decide (a.length ≤ 1000000) then .ok (.list ((Txt.split a b).map .str)) else .st
  | _, _ => .st
def strsD : List D → Option (List Str)
  | [] => some []
  | .str i :: r => (strsD r).map (i :: ·)
  | _ => none
def dJoin : D → D → Rz D
  | .str a, .list ds => (orSt (strsD ds)).bind fun ys => if (ys.map (·.length)).sum + ys.length * a.length ≤ 1000000 then .ok (.str (Txt.join a ys)) else .st
  | .str a, .tuple ds => (orSt (strsD ds)).bind fun ys => if (ys.map (·.length)).sum + ys.length * a.length ≤ 1000000 then .ok (.str (Txt.join a ys)) else .st
  | _, _ => .st
def dSindex : D → D → Rz D
  | .str a, .str b => match Builtin.Str.occurrences a b 0 a.length 1 with
    | i :: _ => .ok (.int (i : Nat)) | [] => .st
  | _, _ => .st
/-! ### sorted -/
def srtOk (ds : List D) : Bool := (ds.all fun d => ds.all fun d' => PySem.W.alike d d') && ((ds.all fun d => match d with
  | .tuple (_ :: _) => true | _ => false) || ds.all fun d => match d with
  | .none => false | .tuple _ => false | _ => true) && (ds.all fun d => d.canLay0 && decide (d.depth ≤ 60)) && decide (ds.length ≤ lim)
/-- two data that `<` orders -/
def cmpOk (d e : D) : Bool := PySem.W.alike d e && !(match d with
  | .none => true | _ => false) && decide (d.depth ≤ 60) && d.canLay0 && e.canLay0
def dLtD (d e : D) : Rz D := if cmpOk d e then .ok (.bool (PySem.W.dataLt d e)) else .st
def dSorted : D → Rz D
  | .list ds => if srtOk ds then .ok (.list (ds.mergeSort (PySem.W.dataLe false fun d => d))) else .st
  | .tuple ds => if srtOk ds then .ok (.list (ds.mergeSort (PySem.W.dataLe false fun d => d))) else .st
  | _ => .st
/-! ### places, counts -/
def dTindex : D → D → Rz D
  | .tuple ds, .int k => (orSt (intsD ds)).bind fun ns => if k ∈ ns then .ok (.int (ns.idxOf k : Nat)) else .st
  | _, _ => .st
def dLindex : D → D → Rz D
  | .list ds, d => if SeqAt.shaped d && SeqAt.shaped (.list ds) then (match ds.findIdx? fun z => PyData.eqv z d with
    | some j => .ok (.int (j : Nat)) | none => .st) else .st
  | _, _ => .st
def dLcount : D → D → Rz D
  | .list ds, .int k => (orSt (intsD ds)).bind fun ns => .ok (.int (ns.count k : Nat))
  | _, _ => .st
end DL
/-! part DLs12 -/
namespace DL
open PySem PySem.Spec PyProof.Rows L2
section
variable {X : Cx} {W : WX}
theorem strs_dr {K : PySem.W.Frag} {F : Hp} : ∀ ys : List Str, DrAll K F (ys.map V.str) (ys.map PyData.str)
  | [] => .nil
  | y :: r => .cons (.str y) (strs_dr r)
theorem strsD_vals {K : PySem.W.Frag} {F : Hp} : ∀ {ds : List D} {vs : List V} {ys : List Str}, DrAll K F vs ds → strsD ds = some ys → vs = ys.map V.str
  | [], _, ys, .nil, h => by
    cases h
    rfl
  | .str i :: r, _, ys, .cons q a, h => by
    simp only [strsD, Option.map_eq_some_iff] at h
    obtain ⟨zs, h1, rfl⟩ := h
    cases q
    rw [strsD_vals a h1]
    rfl
  | .none :: _, _, _, _, h => by simp [strsD] at h
  | .bool _ :: _, _, _, _, h => by simp [strsD] at h
  | .int _ :: _, _, _, _, h => by simp [strsD] at h
  | .list _ :: _, _, _, _, h => by simp [strsD] at h
  | .tuple _ :: _, _, _, _, h => by simp [strsD] at h
  | .dict _ :: _, _, _, _, h => by simp [strsD] at h
theorem dss_never {ob o o' : Ow} {sts : List Stmt} : DSs X W ob o o' sts sNever := ⟨fun pins s σ H D I ⟨F0, H0, F, ρ, h, p⟩ => p.elim⟩
theorem isStrD_eq {d : D} (h : isStrD d = true) : ∃ a, d = .str a := by
  cases d with
  | str a => exact ⟨a, rfl⟩
  | _ => cases h
/-- o.m(e), o a text -/
theorem de_str1 {id : String} {name : Str} {r : V → List V → Hp → VK → Prop} {op : D → D → Rz D} {o e : Expr} {go ge : G} {apos pos : Pos} (slot : Slot "str" name id) (ty : typeOf (.builtin id) = pure (.type "method_descriptor")) (rule : MtR X id r) (ho : DE X W o go) (he : DE X W e ge)
    (hr : ∀ (σ : St) (F H : Hp) (a : Str) (y : V) (d : D) (Q : VK), Same F H → Dr X.K F y d → Po (Dr X.K) X.mg W σ F H (op (.str a) d) Q → r (.str a) [y] H Q)
    (hs : starEach [e] X.env = [(false, eval e X.env)] := by rfl) (hbase : attributeBase o name X.env (eval o X.env) = eval o X.env := by rfl) (hline : (apos.endLine == pos.line) = true := by rfl) :
    DE X W (.Call (.Attribute o name apos) [e] [] pos) (gM isStrD op go ge) := by
  obtain ⟨to, po, ro⟩ := ho
  obtain ⟨te, pe, re⟩ := he
  refine ⟨_, pe_m1 slot ty rule po pe hs hbase hline, fun σ F H ρ Q s hV h => ?_⟩
  refine ro σ F H ρ _ s hV (Po.bind h fun d x F1 H1 e1 q1 h1 => ?_)
  have h1 : Po (Dr X.K) X.mg W σ F1 H1 (if isStrD d = true then (ge ρ).bind fun y => op d y else .st) Q := h1
  obtain ⟨hd, h1⟩ := Po.ifst h1
  obtain ⟨a, rfl⟩ := isStrD_eq hd
  cases q1
  exact ⟨⟨a, rfl⟩, re σ F1 H1 ρ _ e1.fh (hV.same e1.ff) (Po.bind h1 fun d2 y F2 H2 e2 q2 h2 => hr σ F2 H2 a y d2 Q e2.fh q2 h2)⟩
theorem de_m_split {o e : Expr} {go ge : G} {apos pos : Pos} (ho : DE X W o go) (he : DE X W e ge) (hs : starEach [e] X.env = [(false, eval e X.env)] := by rfl) (hbase : attributeBase o "split" X.env (eval o X.env) = eval o X.env := by rfl) (hline : (apos.endLine == pos.line) = true := by rfl) :
    DE X W (.Call (.Attribute o "split" apos) [e] [] pos) (gM isStrD dSplit go ge) :=
  de_str1 F.slot_str_split F.type_str_split mt_split ho he (fun σ F H a y d Q s q h => by
    cases q with
    | str b =>
      have h : Po (Dr X.K) X.mg W σ F H (if ((!(b.length == 0)) && decide (a.length ≤ 1000000)) = true then .ok (.list ((Txt.split a b).map .str)) else .st) Q := h
      obtain ⟨hc, h3⟩ := Po.ifst h
      simp only [Bool.and_eq_true, Bool.not_eq_true', decide_eq_true_eq] at hc
      refine ⟨a, b, rfl, rfl, hc.1, ?_, fun p hp => ?_⟩
      · have := hc.2
        rw [sizeLine_eq]
        omega
      · exact Po.ok h3 (Ext.new s hp) (.lst upd_same (strs_dr _))
    | _ => exact False.elim h) hs hbase hline
theorem de_m_join {o e : Expr} {go ge : G} {apos pos : Pos} (ho : DE X W o go) (he : DE X W e ge) (hs : starEach [e] X.env = [(false, eval e X.env)] := by rfl) (hbase : attributeBase o "join" X.env (eval o X.env) = eval o X.env := by rfl) (hline : (apos.endLine == pos.line) = true := by rfl) :
    DE X W (.Call (.Attribute o "join" apos) [e] [] pos) (gM isStrD dJoin go ge) :=
  de_str1 F.slot_str_join F.type_str_join mt_join ho he (fun σ F H a y d Q s q h => by
    cases q with
    | @lst p xs ds e1 a2 =>
      have h : Po (Dr X.K) X.mg W σ F H ((orSt (strsD ds)).bind fun ys => if (ys.map (·.length)).sum + ys.length * a.length ≤ 1000000 then .ok (.str (Txt.join a ys)) else .st) Q := h
      obtain ⟨ys, hy, h2⟩ := Po.orSt h
      obtain ⟨hc, h3⟩ := Po.ifst h2
      have z := strsD_vals a2 hy
      subst z
      exact ⟨a, p, ys, rfl, rfl, .inl (SqL.of (s _ _ e1)), by omega, Po.okh h3 s (.str _)⟩
    | @tup p xs ds e1 a2 =>
      have h : Po (Dr X.K) X.mg W σ F H ((orSt (strsD ds)).bind fun ys => if (ys.map (·.length)).sum + ys.length * a.length ≤ 1000000 then .ok (.str (Txt.join a ys)) else .st) Q := h
      obtain ⟨ys, hy, h2⟩ := Po.orSt h
      obtain ⟨hc, h3⟩ := Po.ifst h2
      have z := strsD_vals a2 hy
      subst z
      exact ⟨a, p, ys, rfl, rfl, .inr (sqT_same s e1.sq), by omega, Po.okh h3 s (.str _)⟩
    | _ => exact False.elim h) hs hbase hline
theorem de_m_sindex {o e : Expr} {go ge : G} {apos pos : Pos} (ho : DE X W o go) (he : DE X W e ge) (hs : starEach [e] X.env = [(false, eval e X.env)] := by rfl) (hbase : attributeBase o "index" X.env (eval o X.env) = eval o X.env := by rfl) (hline : (apos.endLine == pos.line) = true := by rfl) :
    DE X W (.Call (.Attribute o "index" apos) [e] [] pos) (gM isStrD dSindex go ge) :=
  de_str1 F.slot_str_index F.type_str_index mt_sindex ho he (fun σ F H a y d Q s q h => by
    cases q with
    | str b =>
      have h : Po (Dr X.K) X.mg W σ F H (match Builtin.Str.occurrences a b 0 a.length 1 with
        | i :: _ => .ok (.int (i : Nat)) | [] => .st) Q := h
      cases ho : Builtin.Str.occurrences a b 0 a.length 1 with
      | nil =>
        rw [ho] at h
        exact h.elim
      | cons i rest =>
        rw [ho] at h
        exact ⟨a, b, i, rest, rfl, rfl, ho, Po.okh h s (.int _)⟩
    | _ => exact False.elim h) hs hbase hline
end
end DL
/-! part DLs13 -/
namespace DL
open PySem PySem.Spec PyProof.Rows L2
/-! ### sorted, of a list or tuple of alike data -/
theorem srtOk_all {ds : List D} (h : srtOk ds = true) : PySem.W.AllAlike ds ∧ PySem.W.Sortable ds ∧ (∀ d ∈ ds, d.canLay0 = true ∧ d.depth ≤ 60) ∧ ds.length ≤ lim := by
  unfold srtOk at h
  simp only [Bool.and_eq_true, Bool.or_eq_true, List.all_eq_true, decide_eq_true_eq] at h
  obtain ⟨⟨⟨h1, h2⟩, h3⟩, h4⟩ := h
  refine ⟨fun d hd d' hd' => h1 d hd d' hd', ?_, h3, h4⟩
  rcases h2 with h2 | h2
  · refine .inl fun d hd => ?_
    have := h2 d hd
    cases d with
    | tuple xs => cases xs with
      | nil => cases this
      | cons x r => exact ⟨x, r, rfl⟩
    | _ => cases this
  · refine .inr fun d hd => ?_
    have := h2 d hd
    cases d with
    | none => cases this
    | tuple xs => cases this
    | _ => exact ⟨(fun z => by cases z), (fun xs z => by cases z)⟩
theorem lay_all : ∀ {ds : List D}, (∀ d ∈ ds, d.canLay0 = true) → PyData.canLayAll0 ds = true
  | [], _ => by simp [PyData.canLayAll0]
  | d :: ds, h => by
    simp only [PyData.canLayAll0, Bool.and_eq_true]
    exact ⟨h d List.mem_cons_self, lay_all fun e he => h e (List.mem_cons_of_mem _ he)⟩
section
variable {X : Cx} {W : WX} {K : PySem.W.Frag}
theorem pairs_fst {α β : Type} : ∀ {xs : List α} {ys : List β}, xs.length = ys.length → (xs.zip ys).map Prod.fst = xs
  | [], [], _ => rfl
  | x :: xs, y :: ys, h => by
    rw [List.zip_cons_cons, List.map_cons, pairs_fst (by simpa using h)]
theorem pairs_snd {α β : Type} : ∀ {xs : List α} {ys : List β}, xs.length = ys.length → (xs.zip ys).map Prod.snd = ys
  | [], [], _ => rfl
  | x :: xs, y :: ys, h => by
    rw [List.zip_cons_cons, List.map_cons, pairs_snd (by simpa using h)]
theorem drAll_of_pairs {F : Hp} : ∀ {ps : List (V × D)}, (∀ p ∈ ps, Dr K F p.1 p.2) → DrAll K F (ps.map Prod.fst) (ps.map Prod.snd)
  | [], _ => .nil
  | p :: ps, h => .cons (h p List.mem_cons_self) (drAll_of_pairs fun q hq => h q (List.mem_cons_of_mem _ hq))
theorem drAll_pair {F : Hp} : ∀ {vs : List V} {ds : List D}, DrAll K F vs ds → ∀ p ∈ vs.zip ds, Dr K F p.1 p.2
  | _, _, .nil, p, hp => by cases hp
  | _, _, .cons h a, p, hp => by
    rw [List.zip_cons_cons] at hp
    rcases List.mem_cons.mp hp with rfl | hp
    · exact h
    · exact drAll_pair a p hp
abbrev vd (p : V × D) : D := p.2
theorem each_vals : ∀ {vs : List V} {us : List Value} {ds : List D}, Vals vs us → vs.length = ds.length → PySem.W.EachIs (fun (u : Value) (p : V × D) => RelV p.1 u) us (vs.zip ds)
  | [], [], [], .nil, _ => .nil
  | v :: vs, u :: us, d :: ds, .cons r t, h => by
    rw [List.zip_cons_cons]
    exact .cons r (each_vals t (by simpa using h))
theorem each_rd {h : Heap} : ∀ {vs : List V} {us : List Value} {ds : List D} {as : List Addr}, ReadsAll h us ds as → vs.length = ds.length → PySem.W.EachIs (fun (u : Value) (p : V × D) => ∃ as, Reads h u (vd p) as) us (vs.zip ds)
  | [], _, [], _, r, _ => by
    cases r
    exact .nil
  | v :: vs, _, d :: ds, _, r, h => by
    cases r with
    | cons h1 h2 =>
      rw [List.zip_cons_cons]
      exact .cons ⟨_, h1⟩ (each_rd h2 (by simpa using h))
theorem vals_each : ∀ {us : List Value} {ps : List (V × D)}, PySem.W.EachIs (fun (u : Value) (p : V × D) => RelV p.1 u) us ps → Vals (ps.map Prod.fst) us
  | _, _, .nil => .nil
  | _, _, .cons h t => .cons h (vals_each t)
def rSortD (K : PySem.W.Frag) : List V → Hp → VK → Prop := fun vs H Q => ∃ (a : Addr) (xs : List V) (ds : List D), vs = [.ref a] ∧ SqL K H a xs ∧ DpAll K H xs ds ∧ xs.length = ds.length ∧ srtOk ds = true ∧
  ∀ p, H p = none → Q (.ref p) (L2.upd H p (.lst (((xs.zip ds).mergeSort (PySem.W.dataLe false vd)).map Prod.fst)))
theorem cr_sortD (hu : X.A.units + 65 < cLine) : CallR X (.builtin "sorted") (rSortD X.K) := by
  intro pins s σ H vs us Q I r h
  obtain ⟨a, xs, ds, rfl, hs, hd, hl, hok, q⟩ := h
  obtain ⟨al, so, dep, hn⟩ := srtOk_all hok
  obtain ⟨its, rv, pl, hz⟩ := I.list hs
  rw [Vals.ref1 r]
  obtain ⟨as, hr⟩ := Dp.readsAll I ds xs its hd rv
  have em : (xs.zip ds).map vd = ds := pairs_snd hl
  have lz : (xs.zip ds).length = ds.length := by rw [← em, List.length_map, em]
  refine PySem.W.sorted_data (enc := vd) (bs := xs.zip ds) (R := fun (u : Value) (p : V × D) => RelV p.1 u) pl.isList (each_vals rv hl) (each_rd hr hl) (by rw [em]; exact al) (by rw [em]; exact so) (by rw [lz]; exact sz_lim hn) (fun b hb => ?_) fun out ho eo => ?_
  · have hm : vd b ∈ ds := by rw [← em]; exact List.mem_map_of_mem hb
    have := (dep _ hm).2
    omega
  · obtain ⟨ep, he⟩ := PyProof.Rows.sortedAll_at s.heap its out.toArray
    have hlen : (((xs.zip ds).mergeSort (PySem.W.dataLe false vd)).map Prod.fst).length ≤ sizeLine := by
      rw [List.length_map, List.length_mergeSort, lz]
      exact sz_lim hn
    exact ⟨.ref _, L2.upd H (s.heap.objs.size + 1) (.lst (((xs.zip ds).mergeSort (PySem.W.dataLe false vd)).map Prod.fst)), I.laid (t' := s.toks) (fun _ _ => PyProof.Rows.sortedAll_old) (Nat.le_succ _) ⟨hlen, out, ep, vals_each eo, he⟩, rfl, q _ (I.hok.fresh (Nat.le_succ _))⟩
theorem sort_dr {F : Hp} {xs : List V} {ds : List D} (a : DrAll K F xs ds) : DrAll K F (((xs.zip ds).mergeSort (PySem.W.dataLe false vd)).map Prod.fst) (ds.mergeSort (PySem.W.dataLe false fun d => d)) := by
  have e : ds.mergeSort (PySem.W.dataLe false fun d => d) = ((xs.zip ds).mergeSort (PySem.W.dataLe false vd)).map Prod.snd := by
    have z := List.map_mergeSort (r := PySem.W.dataLe false vd) (s := PySem.W.dataLe false fun d : D => d) (f := Prod.snd) (l := xs.zip ds) fun a _ b _ => rfl
    rw [z, pairs_snd a.len]
  rw [e]
  exact drAll_of_pairs fun p hp => drAll_pair a p ((List.mergeSort_perm _ _).mem_iff.mp hp)
theorem readsAll_up {h h' : Heap} (k : ∀ b o, h.get? b = some o → h'.get? b = some o) {us : List Value} {ds : List D} {as : List Addr} (r : ReadsAll h us ds as) : ReadsAll h' us ds as := PyProof.Rows.ReadsAll.keeps k r
/-- a list's beginning, filled -/
abbrev fillH (h : Heap) (us : List Value) : Heap := (h.push (PyProof.Rows.seqObj "list" #[] 0)).update h.objs.size (Obj.mapSeq (· ++ us.toArray))
theorem fill_size (h : Heap) (us : List Value) : (fillH h us).objs.size = h.objs.size + 1 := by
  rw [Heap.size_update, PyProof.Rows.size_push']
theorem fill_old {h : Heap} {us : List Value} {b : Addr} {o : Obj} (e : h.get? b = some o) : (fillH h us).get? b = some o := (Heap.get?_update_ne _ _ _ _ (Nat.ne_of_lt (Heap.lt_size e))).trans (Heap.get?_push_of_some _ e)
theorem collect_tup {prog : Program} {w : World} {A : Around} {E : Value → Shared → Prop} {s : Shared} {l : Addr} {o : Obj} {us : List Value} {n : Nat} {Q : List Value → Shared → Prop} (ho : s.heap.get? l = some o) (hc : o.cls = .type "tuple") (hd : o.data = .seq us.toArray n) (hz : us.length ≤ sizeLine)
    (h : Q us { s with heap := fillH s.heap us }) : wpAny (model prog w) A (collect (.ref l)) Q E s := by
  have h0 : (s.heap.push (PyProof.Rows.seqObj "list" #[] 0)).get? s.heap.objs.size = some (PyProof.Rows.seqObj "list" #[] 0) := Heap.get?_push_size _ rfl
  have h1 : (s.heap.push (PyProof.Rows.seqObj "list" #[] 0)).get? l = some o := Heap.get?_push_of_some _ ho
  have hT : (Value.type "tuple" == Value.type "tuple") = true := rfl
  have hzz : ((#[] : Array Value) ++ us.toArray).size ≤ sizeLine + 1 := by
    simp only [Array.size_append, List.size_toArray, List.length_nil]
    omega
  unfold collect
  refine wpAny_bind (wpAny_runValue (codeAny_builtin PyProof.Rows.entry_proto_collect' (show wpAny _ _ (do again (.builtin "list.__iadd__" ⟨[← newList [], .ref l], []⟩)) _ _ s from wpAny_bind (wpAny_newList (wpAny_pure ⟨Code.quiet_builtin _ (by decide +kernel), codeAny_builtin PyProof.Rows.entry_list_iadd' ?_⟩)))))
  show wpAny _ _ (Builtin.List.listExtendWith (.ref s.heap.objs.size) (.ref l) (.ref s.heap.objs.size)) _ _ { s with heap := s.heap.push (PyProof.Rows.seqObj "list" #[] 0) }
  unfold Builtin.List.listExtendWith
  refine wpAny_bind (wpAny_typeOf (T := "tuple") ⟨o, h1, hc⟩ ?_)
  rw [if_pos (by rw [hT, Bool.or_true])]
  refine wpAny_bind (PyProof.Rows.listItems_at h1 hd (wpAny_bind (PyProof.Rows.listItems_at (xs := #[]) (n := 0) h0 rfl ?_)))
  rw [if_neg (by simp)]
  refine wpAny_bind (PyProof.Rows.listUpdate_at (xs := #[]) (n := 0) h0 rfl (wpAny_pure ?_) (Nat.zero_le _) hzz)
  refine wpAny_bind (wpAny_load (PyProof.Rows.get?_update_seq h0 _) (wpAny_pure ?_))
  have e : ((#[] : Array Value) ++ us.toArray).toList = us := by simp
  show Q ((#[] : Array Value) ++ us.toArray).toList _
  rw [e]
  exact h
/-- sorted(t), t a tuple of alike data -/
theorem sorted_tup {prog : Program} {w : World} {A : Around} {E : Value → Shared → Prop} {s : Shared} {l : Addr} {o : Obj} {us : List Value} {n : Nat} {vs : List V} {ds : List D} {as : List Addr} {Q : Value → Shared → Prop}
    (ho : s.heap.get? l = some o) (hc : o.cls = .type "tuple") (hd : o.data = .seq us.toArray n) (rv : Vals vs us) (hl : vs.length = ds.length) (hr : ReadsAll s.heap us ds as) (hok : srtOk ds = true) (hu : A.units + 65 < cLine)
    (hq : ∀ (h' : Heap) (d : Addr) (out : List Value) (c : Nat), (∀ b o, s.heap.get? b = some o → h'.get? b = some o) → s.heap.objs.size ≤ d → h'.get? d = some (PyProof.Rows.seqObj "list" out.toArray c) →
      PySem.W.EachIs (fun (u : Value) (p : V × D) => RelV p.1 u) out ((vs.zip ds).mergeSort (PySem.W.dataLe false vd)) → Q (.ref d) { s with heap := h' }) : wpAny (model prog w) A (call (.builtin "sorted") [.ref l]) Q E s := by
  obtain ⟨al, so, dep, hn⟩ := srtOk_all hok
  have em : (vs.zip ds).map vd = ds := pairs_snd hl
  have lu : us.length = ds.length := rv.length.symm.trans hl
  have hz : us.length ≤ sizeLine := by rw [lu]; exact sz_lim hn
  refine Calls.call_function_entry PyProof.Rows.kind_sorted PyProof.Rows.plain_sorted PyProof.Rows.entry_sorted (PyProof.Rows.args_sorted1 _) ?_
  unfold Builtin.«sorted»
  refine wpAny_bind (wpAny_pure (wpAny_bind (collect_tup ho hc hd hz (wpAny_bind (wpAny_newList ?_ hz)))))
  have ht := Heap.get?_push_size (fillH s.heap us) (o := PyProof.Rows.seqObj "list" us.toArray 0) rfl
  have k2 : ∀ b o, s.heap.get? b = some o → ((fillH s.heap us).push (PyProof.Rows.seqObj "list" us.toArray 0)).get? b = some o := fun b o e => Heap.get?_push_of_some _ (fill_old e)
  have lt1 : ∀ b o, s.heap.get? b = some o → b < (fillH s.heap us).objs.size := fun b o e => Heap.lt_size (fill_old (us := us) e)
  have kS : ∀ b o, s.heap.get? b = some o → (PySem.W.sortingHeap ((fillH s.heap us).push (PyProof.Rows.seqObj "list" us.toArray 0)) (fillH s.heap us).objs.size us).get? b = some o := fun b o e => PySem.W.sortingHeap_old (Nat.ne_of_lt (lt1 b o e)) (k2 b o e)
  have er := each_rd (readsAll_up kS hr) hl
  have S := PySem.W.SortsAt.data (prog := prog) (w := w) (A := A.in1.in1) (s := { s with heap := PySem.W.sortingHeap ((fillH s.heap us).push (PyProof.Rows.seqObj "list" us.toArray 0)) (fillH s.heap us).objs.size us }) (vs := us) (ds := (vs.zip ds).map vd)
    (PySem.W.each_map (R := fun v d => ∃ as, Reads (PySem.W.sortingHeap ((fillH s.heap us).push (PyProof.Rows.seqObj "list" us.toArray 0)) (fillH s.heap us).objs.size us) v d as) vd er) (by rw [em]; exact al) (by rw [em]; exact so) (by rw [em]; intro d hd; have z := (dep d hd).2; show A.units + 1 + 1 + d.depth < cLine; omega)
  have eo := PySem.W.sortVals_data (h' := PySem.W.sortingHeap ((fillH s.heap us).push (PyProof.Rows.seqObj "list" us.toArray 0)) (fillH s.heap us).objs.size us) (R := fun (u : Value) (p : V × D) => RelV p.1 u) (enc := vd) false (each_vals rv hl) er (by rw [em]; exact al)
  refine wpAny_bind (wpAny_holding (wpAny_call_entry PyProof.Rows.slot_list_sort ⟨_, ht, rfl⟩ PyProof.Rows.entry_list_sort (PySem.W.list_sort_vals (s := { s with heap := (fillH s.heap us).push (PyProof.Rows.seqObj "list" us.toArray 0) }) ht S hz ⟨_, rfl, ?_⟩) (PyProof.Rows.args_list_sort _)))
  obtain ⟨ep, he⟩ := PyProof.Rows.sortedHeap_at (vs := us) (out := (PySem.W.sortVals (PySem.W.dataKind (PySem.W.sortingHeap ((fillH s.heap us).push (PyProof.Rows.seqObj "list" us.toArray 0)) (fillH s.heap us).objs.size us) ((vs.zip ds).map vd)) false us us).toArray) ht
  exact wpAny_pure ⟨_, rfl, hq _ _ _ ep (fun b o e => by rw [PyProof.Rows.sortedHeap_old (Nat.ne_of_lt (lt1 b o e)) (Heap.lt_size (k2 b o e))]; exact k2 b o e) (by rw [fill_size]; omega) he eo⟩
def rSortT (K : PySem.W.Frag) : List V → Hp → VK → Prop := fun vs H Q => ∃ (a : Addr) (xs : List V) (ds : List D), vs = [.ref a] ∧ SqT K H a xs ∧ DpAll K H xs ds ∧ xs.length = ds.length ∧ srtOk ds = true ∧
  ∀ p, H p = none → Q (.ref p) (L2.upd H p (.lst (((xs.zip ds).mergeSort (PySem.W.dataLe false vd)).map Prod.fst)))
theorem cr_sortT (hu : X.A.units + 65 < cLine) : CallR X (.builtin "sorted") (rSortT X.K) := by
  intro pins s σ H vs us Q I r h
  obtain ⟨a, xs, ds, rfl, hs, hd, hl, hok, q⟩ := h
  obtain ⟨its, rv, ⟨ob, ho, hc, n, hdt⟩, hz⟩ := I.tuple hs
  rw [Vals.ref1 r]
  obtain ⟨as, hr⟩ := Dp.readsAll I ds xs its hd rv
  refine sorted_tup ho hc hdt rv hl hr hok hu fun h' d out c k hd' he eo => ?_
  have hlen : (((xs.zip ds).mergeSort (PySem.W.dataLe false vd)).map Prod.fst).length ≤ sizeLine := by
    rw [List.length_map, List.length_mergeSort, List.length_zip, hl, Nat.min_self]
    exact sz_lim (srtOk_all hok).2.2.2
  exact ⟨.ref d, L2.upd H d (.lst (((xs.zip ds).mergeSort (PySem.W.dataLe false vd)).map Prod.fst)), I.laid (t' := s.toks) k hd' ⟨hlen, out, c, vals_each eo, he⟩, rfl, q _ (I.hok.fresh hd')⟩
theorem cd_sorted (hu : X.A.units + 65 < cLine) : CaD X W (.builtin "sorted") (on1 dSorted) := .on1 ((cr_sortD hu).or (cr_sortT hu)) fun σ F H x d Q s q h => by
  cases q with
  | @lst a xs ds e a2 =>
    have h1 : Po (Dr X.K) X.mg W σ F H (if srtOk ds = true then .ok (.list (ds.mergeSort (PySem.W.dataLe false fun d => d))) else .st) Q := h
    obtain ⟨hok, h2⟩ := Po.ifst h1
    refine .inl ⟨a, xs, ds, rfl, SqL.of (s _ _ e), (DrAll.same s a2).dp (lay_all fun d hd => ((srtOk_all hok).2.2.1 d hd).1), a2.len, hok, fun p hp => ?_⟩
    exact Po.ok h2 (Ext.new s hp) (.lst upd_same ((sort_dr a2).same (same_upd (s.free hp))))
  | @tup a xs ds e a2 =>
    have h1 : Po (Dr X.K) X.mg W σ F H (if srtOk ds = true then .ok (.list (ds.mergeSort (PySem.W.dataLe false fun d => d))) else .st) Q := h
    obtain ⟨hok, h2⟩ := Po.ifst h1
    refine .inr ⟨a, xs, ds, rfl, sqT_same s e.sq, (DrAll.same s a2).dp (lay_all fun d hd => ((srtOk_all hok).2.2.1 d hd).1), a2.len, hok, fun p hp => ?_⟩
    exact Po.ok h2 (Ext.new s hp) (.lst upd_same ((sort_dr a2).same (same_upd (s.free hp))))
  | _ => exact False.elim h
/-! ### the orders of alike data -/
theorem or_dataCmp {c : CmpOp} {op : D → D → Rz D} {ans : D → D → Bool}
    (hc : ∀ {prog : Program} {w : World} {A : Around} {E : Value → Shared → Prop} {s : Shared} {a b : Value} {da db : D} {as bs : List Addr} {Q : Value → Shared → Prop}, Reads s.heap a da as → Reads s.heap b db bs → PySem.W.alike da db = true → da ≠ .none → A.units + min da.depth db.depth < cLine → Q (.bool (ans da db)) s → wpAny (model prog w) A (compareOp c a b) Q E s)
    (ho : ∀ d e, op d e = if cmpOk d e then .ok (.bool (ans d e)) else .st) (hu : X.A.units + 65 < cLine) : OpD X W (compareOp c) op := by
  refine ⟨fun x y H Q => ∃ (d e : D), Dp X.K H x d ∧ Dp X.K H y e ∧ cmpOk d e = true ∧ Q (.bl (ans d e)) H, ?_, fun σ F H x y d e Q s q1 q2 h => ?_⟩
  · intro pins s σ H x y v u Q I rx ry h
    obtain ⟨d, e, hd, he, ok, q⟩ := h
    obtain ⟨as, r1⟩ := Dp.reads I d x v hd rx
    obtain ⟨bs, r2⟩ := Dp.reads I e y u he ry
    unfold cmpOk at ok
    simp only [Bool.and_eq_true, decide_eq_true_eq] at ok
    obtain ⟨⟨⟨⟨k1, k2⟩, k3⟩, k4⟩, k5⟩ := ok
    refine hc r1 r2 k1 (by intro z; rw [z] at k2; cases k2) (by omega) ⟨.bl _, H, I, rfl, q⟩
  · rw [ho] at h
    obtain ⟨ok, h2⟩ := Po.ifst h
    have ok' := ok
    unfold cmpOk at ok
    simp only [Bool.and_eq_true, decide_eq_true_eq] at ok
    obtain ⟨⟨⟨⟨k1, k2⟩, k3⟩, k4⟩, k5⟩ := ok
    exact ⟨d, e, (q1.same s).dp k4, (q2.same s).dp k5, ok', Po.okh h2 s (.bl _)⟩
theorem od_ltD (hu : X.A.units + 65 < cLine) : OpD X W (compareOp .Lt) dLtD := or_dataCmp (ans := PySem.W.dataLt) (fun a b c d e f => PySem.W.lt_data a b c d e f) (fun _ _ => rfl) hu
end
end DL
/-! part DLs14 -/
namespace DL
open PySem PySem.Spec PyProof.Rows L2
section
variable {X : Cx} {W : WX}
theorem isTupD_eq {d : D} (h : isTupD d = true) : ∃ a, d = .tuple a := by
  cases d with
  | tuple a => exact ⟨a, rfl⟩
  | _ => cases h
theorem isLstD_eq {d : D} (h : isLstD d = true) : ∃ a, d = .list a := by
  cases d with
  | list a => exact ⟨a, rfl⟩
  | _ => cases h
/-- t.index(k), a tuple of ints -/
theorem de_m_tindex {o e : Expr} {go ge : G} {apos pos : Pos} (ho : DE X W o go) (he : DE X W e ge) (hs : starEach [e] X.env = [(false, eval e X.env)] := by rfl) (hbase : attributeBase o "index" X.env (eval o X.env) = eval o X.env := by rfl) (hline : (apos.endLine == pos.line) = true := by rfl) :
    DE X W (.Call (.Attribute o "index" apos) [e] [] pos) (gM isTupD dTindex go ge) := by
  obtain ⟨to, po, ro⟩ := ho
  obtain ⟨te, pe, re⟩ := he
  refine de_of ⟨fun pins s σ H Q I h => ?_⟩
  obtain ⟨F, ρ, sm, hV, h⟩ := h
  refine PySem.Call_method1 hbase hs hline (thn (po.run pins s σ H _ I (ro σ F H ρ (fun x H1 => ∃ (F1 : Hp) (d : D), Same F1 H1 ∧ Vr X.K F1 σ ρ ∧ Dr X.K F1 x d ∧ Po (Dr X.K) X.mg W σ F1 H1 (if isTupD d = true then (ge ρ).bind fun y => dTindex d y else .st) Q) sm hV (Po.bind h fun d x F1 H1 e1 q1 h1 => ⟨F1, d, e1.fh, hV.same e1.ff, q1, h1⟩))) fun v s1 hh => ?_)
  obtain ⟨x, H1, I1, r1, F1, d, sm1, hV1, q1, h1⟩ := hh
  obtain ⟨hd, h1⟩ := Po.ifst h1
  obtain ⟨ds, rfl⟩ := isTupD_eq hd
  cases q1 with
  | @tup a xs _ ft da =>
    obtain rfl : v = Value.ref a := r1
    obtain ⟨ob, hob, hdict⟩ := fz_same sm1 ft
    obtain ⟨hg, _, _, _, ob2, hg2, hcl, _⟩ := (show ObjOk X.prog X.w H1 s1.heap a (.frz ob (.tup xs)) from I1.hok a _ hob)
    rw [hg] at hg2
    cases hg2
    refine ⟨"tuple", _, PySem.F.plainAttrs_tuple, PySem.F.slot_tuple_index, PySem.F.type_tuple_index, ⟨_, hg, hcl⟩, (fun b e => by cases e; exact ⟨_, hg, hdict⟩), Calls.callWith_builtin rfl (Calls.evalArgs_plain (Calls.spliced_cons ?_))⟩
    refine thn (pe.run pins s1 σ H1 _ I1 (re σ F1 H1 ρ (fun y H2 => ∃ (F2 : Hp) (d2 : D), Same F2 H2 ∧ FzT F2 a xs ∧ DrAll X.K F2 xs ds ∧ Dr X.K F2 y d2 ∧ Po (Dr X.K) X.mg W σ F2 H2 (dTindex (.tuple ds) d2) Q) sm1 hV1 (Po.bind h1 fun d2 y F2 H2 e2 q2 h2 => ⟨F2, d2, e2.fh, fz_same e2.ff ft, da.same e2.ff, q2, h2⟩))) fun u s2 hh => Calls.spliced_nil ?_
    obtain ⟨y, H2, I2, r2, F2, d2, sm2, ft2, da2, q2, h2⟩ := hh
    cases q2 with
    | int k =>
      obtain ⟨t, rfl⟩ := r2
      have h2 : Po (Dr X.K) X.mg W σ F2 H2 ((orSt (intsD ds)).bind fun ns => if k ∈ ns then .ok (.int (ns.idxOf k : Nat)) else .st) Q := h2
      obtain ⟨ns, hn, h3⟩ := Po.orSt h2
      obtain ⟨hk, h4⟩ := Po.ifst h3
      have z := intsD_map hn
      subst z
      have z := DrAll.of_ints da2
      subst z
      obtain ⟨its, rv, pl, hz⟩ := I2.tuple (sqT_same sm2 ft2.sq)
      exact SeqAt.tuple_index_ints pl rv.ints hk ⟨.int (ns.idxOf k : Nat), H2, I2.tok _, ⟨_, rfl⟩, Po.okh h4 sm2 (.int _)⟩
    | _ => exact False.elim h2
/-- l.index(x) -/
theorem de_m_lindex {o e : Expr} {go ge : G} {apos pos : Pos} (hu : X.A.units + 65 < cLine) (ho : DE X W o go) (he : DE X W e ge) (hbase : attributeBase o "index" X.env (eval o X.env) = eval o X.env := by rfl)
    (hfew : ((backTo pos (starEach [e] X.env)).all (fun x => !x.1) && (backToKw pos (keywordEach [] X.env)).all (fun x => x.1.isSome) && decide (([e] : List Expr).length + ([] : List Keyword).length + (if ([] : List Keyword).isEmpty then 0 else 1) < 30)) = true := by rfl)
    (hline : (apos.endLine == pos.line) = true := by rfl) (hs : starEach [e] X.env = (false, eval e X.env) :: starEach [] X.env := by rfl) (hplain : (backTo pos (starEach [] X.env)).any (·.1) = false := by rfl) :
    DE X W (.Call (.Attribute o "index" apos) [e] [] pos) (gM isLstD dLindex go ge) := by
  obtain ⟨to, po, ro⟩ := ho
  obtain ⟨te, pe, re⟩ := he
  refine ⟨_, pe_bm PySem.F.plainAttrs_list PySem.F.slot_list_index PySem.F.type_list_index (mt_indexD hu) po (pa_cons pe pa_nil hs) hbase hfew hline hs hplain, fun σ F H ρ Q s hV h => ?_⟩
  refine ro σ F H ρ _ s hV (Po.bind h fun d x F1 H1 e1 q1 h1 => ?_)
  have h1 : Po (Dr X.K) X.mg W σ F1 H1 (if isLstD d = true then (ge ρ).bind fun y => dLindex d y else .st) Q := h1
  obtain ⟨hd, h1⟩ := Po.ifst h1
  obtain ⟨ds, rfl⟩ := isLstD_eq hd
  cases q1 with
  | @lst a xs _ ea da =>
    refine ⟨.inl ⟨rfl, xs, SqL.of (e1.fh _ _ ea)⟩, re σ F1 H1 ρ _ e1.fh (hV.same e1.ff) (Po.bind h1 fun d2 y F2 H2 e2 q2 h2 => ?_)⟩
    have h2 : Po (Dr X.K) X.mg W σ F2 H2 (if (SeqAt.shaped d2 && SeqAt.shaped (.list ds)) = true then (match ds.findIdx? fun z => PyData.eqv z d2 with
      | some j => .ok (.int (j : Nat)) | none => .st) else .st) Q := h2
    obtain ⟨hc, h3⟩ := Po.ifst h2
    obtain ⟨c1, c2⟩ := Bool.and_eq_true_iff.mp hc
    cases hf : ds.findIdx? (fun z => PyData.eqv z d2) with
    | none =>
      rw [hf] at h3
      exact h3.elim
    | some j =>
      rw [hf] at h3
      obtain ⟨hj, hz, hno⟩ := List.findIdx?_eq_some_iff_getElem.mp hf
      have l1 := (Dr.lst (e2.ff _ _ ea) (da.same e2.ff) : Dr X.K F2 (.ref a) (.list ds))
      exact ⟨a, y, d2, ds, j, ds[j], rfl, rfl, (l1.same e2.fh).dp (SeqAt.canLay_of_shaped c2), (q2.same e2.fh).dp (SeqAt.canLay_of_shaped c1), c2, c1, List.getElem?_eq_getElem hj, hz, (fun m z' hm hz' => by
        have hml : m < ds.length := by omega
        rw [List.getElem?_eq_getElem hml] at hz'
        cases hz'
        simpa using hno m hm), Po.okh h3 e2.fh (.int _)⟩
/-- l.count(k), ints -/
theorem de_m_lcount {o e : Expr} {go ge : G} {apos pos : Pos} (ho : DE X W o go) (he : DE X W e ge) (hbase : attributeBase o "count" X.env (eval o X.env) = eval o X.env := by rfl)
    (hfew : ((backTo pos (starEach [e] X.env)).all (fun x => !x.1) && (backToKw pos (keywordEach [] X.env)).all (fun x => x.1.isSome) && decide (([e] : List Expr).length + ([] : List Keyword).length + (if ([] : List Keyword).isEmpty then 0 else 1) < 30)) = true := by rfl)
    (hline : (apos.endLine == pos.line) = true := by rfl) (hs : starEach [e] X.env = (false, eval e X.env) :: starEach [] X.env := by rfl) (hplain : (backTo pos (starEach [] X.env)).any (·.1) = false := by rfl) :
    DE X W (.Call (.Attribute o "count" apos) [e] [] pos) (gM isLstD dLcount go ge) := by
  obtain ⟨to, po, ro⟩ := ho
  obtain ⟨te, pe, re⟩ := he
  refine ⟨_, pe_bm PySem.F.plainAttrs_list PySem.F.slot_list_count PySem.F.type_list_count mt_lcount po (pa_cons pe pa_nil hs) hbase hfew hline hs hplain, fun σ F H ρ Q s hV h => ?_⟩
  refine ro σ F H ρ _ s hV (Po.bind h fun d x F1 H1 e1 q1 h1 => ?_)
  have h1 : Po (Dr X.K) X.mg W σ F1 H1 (if isLstD d = true then (ge ρ).bind fun y => dLcount d y else .st) Q := h1
  obtain ⟨hd, h1⟩ := Po.ifst h1
  obtain ⟨ds, rfl⟩ := isLstD_eq hd
  cases q1 with
  | @lst a xs _ ea da =>
    refine ⟨.inl ⟨rfl, xs, SqL.of (e1.fh _ _ ea)⟩, re σ F1 H1 ρ _ e1.fh (hV.same e1.ff) (Po.bind h1 fun d2 y F2 H2 e2 q2 h2 => ?_)⟩
    cases q2 with
    | int k =>
      have h2 : Po (Dr X.K) X.mg W σ F2 H2 ((orSt (intsD ds)).bind fun ns => .ok (.int (ns.count k : Nat))) Q := h2
      obtain ⟨ns, hn, h3⟩ := Po.orSt h2
      have z := intsD_map hn
      subst z
      have z := DrAll.of_ints da
      subst z
      exact ⟨a, ns, k, rfl, rfl, SqL.of (e2.fh _ _ (e2.ff _ _ ea)), Po.okh h3 e2.fh (.int _)⟩
    | _ => exact False.elim h2
end
theorem cal_st {P : Program} {w : World} {K : PySem.W.Frag} {mg : Str → Option Value} {base : Heap} {k : Nat} {x : Str} {st : Stmt} {ps : List Str} (Fn : FunAt K mg x st ps) : Cal P w K mg base k x ps (fun _ => .st) := by
  obtain ⟨f, fd, F, m1, b⟩ := Fn.ex
  exact ⟨f, fd, ⟨fun vs H Q E ⟨F, ds, _, a, n, _⟩ => by rw [a.len, n], fun A outer s H args us vs Q E hr h0 hb hv hs => (fun ⟨F, ds, _, a, n, p⟩ => p.elim) hs⟩, m1, F.kp, b⟩
end DL
/-! part DLs15 -/
namespace DL
open PySem PySem.Spec PyProof.Rows L2
/-! ### two places of an owned list of lists, stored at once -/
def put2v (i : Nat) (j k : G) (d : D) (ρ : En) : Option En := match ρ[i]?, j ρ, k ρ with
  | some (some (.list xs)), .ok (.int jj), .ok (.int kk) => (match ixR xs.length (.int jj) with
    | some p => (match xs[p]? with
      | some (.list ys) => (match ixR ys.length (.int kk) with
        | some q => some (ρ.set i (some (.list (xs.set p (.list (ys.set q d))))))
        | none => none)
      | _ => none)
    | none => none)
  | _, _, _ => none
def sSwp (i : Nat) (j1 k1 j2 k2 a b : G) : GS := fun ρ => match a ρ, b ρ with
  | .ok d1, .ok d2 => if isSc d1 && isSc d2 then (match put2v i j1 k1 d1 ρ with
    | some ρ1 => (match put2v i j2 k2 d2 ρ1 with
      | some ρ2 => .nx ρ2
      | none => .st)
    | none => .st) else .st
  | _, _ => .st
section
variable {K : PySem.W.Frag} {mg : Str → Option Value} {W : WX} {o : Ow} {F0 H0 F H : Hp} {σ : St} {ρ : En}
theorem put2_tg {i : Nat} {gj gk : G} {tj tk : TE}
    (rj : ∀ (σ : St) (F H : Hp) (ρ : En) (Q : VK), Same F H → Vr K F σ ρ → Po (Dr K) mg W σ F H (gj ρ) Q → tj σ H Q)
    (rk : ∀ (σ : St) (F H : Hp) (ρ : En) (Q : VK), Same F H → Vr K F σ ρ → Po (Dr K) mg W σ F H (gk ρ) Q → tk σ H Q)
    {d : D} {v : V} (hv : ∀ F, Dr K F v d) (ho : ow o i = 2) (g : StR K F0 H0 F H o σ ρ) {ρ' : En} (hp : put2v i gj gk d ρ = some ρ') {Q : St → Hp → Prop}
    (hQ : ∀ F' H', Same F F' → Same H H' ∨ True → StR K F0 H0 F' H' o σ ρ' → Q σ H') : gSub (tOp (rIxL K) (tVar i) tj) tk rSetL v σ H Q := by
  unfold put2v at hp
  split at hp
  · rename_i xs jj kk hd ej ek
    cases hx : ixR xs.length (.int jj) with
    | none => rw [hx] at hp; cases hp
    | some pl =>
      rw [hx] at hp
      simp only at hp
      split at hp
      · rename_i ys hy
        cases hx2 : ixR ys.length (.int kk) with
        | none => rw [hx2] at hp; cases hp
        | some ql =>
          rw [hx2] at hp
          cases hp
          obtain ⟨a, ps, hσ, hH, hin⟩ := g.own2 hd ho
          refine ⟨_, hσ, ?_⟩
          obtain ⟨G1, t1, t2, y1, vr2, back2⟩ := g.borrow
          refine rj σ G1 H ρ _ t2 vr2 ?_
          rw [ej]
          intro jw F4 H4 e4 q4
          obtain ⟨F5, s4, g4⟩ := back2 F4 H4 e4
          cases q4
          obtain ⟨jj', ejj, hij⟩ := ix_eq hx
          cases ejj
          obtain ⟨a', ps', hσ', hH', hin'⟩ := g4.own2 hd ho
          rw [hσ] at hσ'
          cases hσ'
          obtain ⟨qa, us, hqa, hqH, hqd⟩ := hin'.get hy
          have hat : L2.atI (ps'.map V.ref) jj = some (.ref qa) := by
            refine atI_of (p := pl) ?_ ?_
            · have hl : ∀ {ps : List Addr} {xs : List D}, Inner K F5 H4 ps xs → ps.length = xs.length := by
                intro ps xs h
                induction h with
                | nil => rfl
                | cons _ _ _ ih => simp [ih]
              rw [List.length_map, hl hin']
              exact hij
            · rw [List.getElem?_map, hqa]
              rfl
          refine ⟨a, _, jj, .ref qa, rfl, rfl, SqL.of hH', hat, ?_⟩
          obtain ⟨I1, u1, u2, z1, vr3, back3⟩ := g4.borrow
          refine rk σ I1 H4 ρ _ u2 vr3 ?_
          rw [ek]
          intro kw F6 H6 e6 q6
          obtain ⟨F7, s6, g6⟩ := back3 F6 H6 e6
          cases q6
          obtain ⟨kk', ekk, hik⟩ := ix_eq hx2
          cases ekk
          have hq6 : H6 qa = some (.lst us) := e6.hh _ _ hqH
          refine ⟨qa, us, kk, ql, rfl, rfl, hq6, by rw [hqd.len]; exact hik, ?_⟩
          refine hQ F7 _ (s4.trans s6) (.inr trivial) (g6.upd2 hd ho hσ (e6.hh _ _ hH') hqa ?_)
          exact DrAll.set (hv F7) ql (hqd.same s6)
      · cases hp
  · cases hp
end
section
variable {X : Cx} {W : WX} {ob o o' : Ow}
theorem ds_swp {i : Nat} {x : Str} {j1 k1 j2 k2 a b : Expr} {gj1 gk1 gj2 gk2 ga gb : G} {p1 p2 p3 p4 p5 p6 pt pv pos : Pos} {kt kv : Nat}
    (hc : X.calm = true) (ha : DE X W a ga) (hb : DE X W b gb) (hj1 : DE X W j1 gj1) (hk1 : DE X W k1 gk1) (hj2 : DE X W j2 gj2) (hk2 : DE X W k2 gk2) (ho : ow o i = 2 := by rfl) (hN : X.N[i]? = some x := by rfl)
    (hv : Vis X.env.scope x := by first | exact Or.inl rfl | exact Or.inr (Or.inl rfl) | exact Or.inr (Or.inr rfl)) (hd : (x == ("__debug__" : Str)) = false := by decide) (hcd : (x == ("__classdict__" : Str)) = false := by decide) (hpl1 : PlainIx j1 := by exact fun _ _ => rfl) (hpl2 : PlainIx j2 := by exact fun _ _ => rfl)
    (h1 : ∀ v, assign (.Subscript (.Subscript (.Name x p1) j1 p2) k1 p3) X.env v = (do
      let ov ← holding [v] (eval (.Subscript (.Name x p1) j1 p2) X.env)
      let iv ← holding [v, ov] (eval k1 X.env)
      standAt p3
      holding [v, ov, iv] (setItem ov iv v)
      release [v, ov, iv] []) := by intro _; rfl)
    (h2 : ∀ v, assign (.Subscript (.Subscript (.Name x p4) j2 p5) k2 p6) X.env v = (do
      let ov ← holding [v] (eval (.Subscript (.Name x p4) j2 p5) X.env)
      let iv ← holding [v, ov] (eval k2 X.env)
      standAt p6
      holding [v, ov, iv] (setItem ov iv v)
      release [v, ov, iv] []) := by intro _; rfl)
    (hs : swapsWithSole [.Tuple [.Subscript (.Subscript (.Name x p1) j1 p2) k1 p3, .Subscript (.Subscript (.Name x p4) j2 p5) k2 p6] kt pt] (.Tuple [a, b] kv pv) pos.line X.env = pure false := by rfl)
    (hw : swappedStores [.Tuple [.Subscript (.Subscript (.Name x p1) j1 p2) k1 p3, .Subscript (.Subscript (.Name x p4) j2 p5) k2 p6] kt pt] (.Tuple [a, b] kv pv) X.env = pure none := by rfl)
    (h3 : (assignEach [.Tuple [.Subscript (.Subscript (.Name x p1) j1 p2) k1 p3, .Subscript (.Subscript (.Name x p4) j2 p5) k2 p6] kt pt] X.env).map (·.2) = [assign (.Tuple [.Subscript (.Subscript (.Name x p1) j1 p2) k1 p3, .Subscript (.Subscript (.Name x p4) j2 p5) k2 p6] kt pt) X.env] := by rfl)
    (hsA : starEach [a, b] X.env = (false, eval a X.env) :: starEach [b] X.env := by rfl) (hsB : starEach [b] X.env = (false, eval b X.env) :: starEach [] X.env := by rfl)
    (h4 : (assignEach [.Subscript (.Subscript (.Name x p1) j1 p2) k1 p3, .Subscript (.Subscript (.Name x p4) j2 p5) k2 p6] X.env).length = 2 := by rfl) (h5 : (assignEach [.Subscript (.Subscript (.Name x p1) j1 p2) k1 p3, .Subscript (.Subscript (.Name x p4) j2 p5) k2 p6] X.env).findIdx? (·.1) = none := by rfl)
    (h6 : (assignEach [.Subscript (.Subscript (.Name x p1) j1 p2) k1 p3, .Subscript (.Subscript (.Name x p4) j2 p5) k2 p6] X.env).map (·.2) = assign (.Subscript (.Subscript (.Name x p1) j1 p2) k1 p3) X.env :: (assignEach [.Subscript (.Subscript (.Name x p4) j2 p5) k2 p6] X.env).map (·.2) := by rfl)
    (h7 : (assignEach [.Subscript (.Subscript (.Name x p4) j2 p5) k2 p6] X.env).map (·.2) = assign (.Subscript (.Subscript (.Name x p4) j2 p5) k2 p6) X.env :: (assignEach [] X.env).map (·.2) := by rfl) :
    DS X W ob o o (.Assign [.Tuple [.Subscript (.Subscript (.Name x p1) j1 p2) k1 p3, .Subscript (.Subscript (.Name x p4) j2 p5) k2 p6] kt pt] (.Tuple [a, b] kv pv) pos) (sSwp i gj1 gk1 gj2 gk2 ga gb) := by
  obtain ⟨te, pe, re⟩ := de_tup (x1 := kv) (pos := pv) (da_cons ha (da_cons hb da_nil hsB) hsA)
  obtain ⟨tj1, pj1, rj1⟩ := hj1
  obtain ⟨tk1, pk1, rk1⟩ := hk1
  obtain ⟨tj2, pj2, rj2⟩ := hj2
  obtain ⟨tk2, pk2, rk2⟩ := hk2
  refine ps_imp (ps_asg pe (pg_tup hc (pgs_cons (pg_sub (pe_ix ix_list (pe_var hN hv hd hcd) pj1 hpl1) pk1 set_list h1) (pgs_cons (pg_sub (pe_ix ix_list (pe_var hN hv hd hcd) pj2 hpl2) pk2 set_list h2) pgs_nil h7) h6) h4 h5) hs hw h3) fun Dn σ H ⟨F0, H0, F, ρ, h, p⟩ => ?_
  obtain ⟨F1, s1, s2, x1, vr, back⟩ := h.borrow
  refine re σ F1 H ρ _ s2 vr ?_
  unfold sSwp at p
  split at p
  · rename_i d1 d2 e1 e2
    by_cases hsc : (isSc d1 && isSc d2) = true
    · rw [if_pos hsc] at p
      rw [Bool.and_eq_true] at hsc
      have eg : gTup (aCons ga (aCons gb aNil)) ρ = .ok (.tuple [d1, d2]) := by
        unfold gTup aCons aNil
        rw [e1, e2]
        rfl
      rw [eg]
      intro v F2 H2 e q
      obtain ⟨F3, s3, g3⟩ := back F2 H2 e
      cases q with
      | @tup ad us _ hf al =>
        cases al with
        | @cons u1 w1 _ _ q1 al2 =>
          cases al2 with
          | @cons u2 w2 _ _ q2 al3 =>
            cases al3
            cases hp1 : put2v i gj1 gk1 d1 ρ with
            | none => rw [hp1] at p; exact p.elim
            | some ρ1 =>
              rw [hp1] at p
              simp only at p
              cases hp2 : put2v i gj2 gk2 d2 ρ1 with
              | none => rw [hp2] at p; exact p.elim
              | some ρ2 =>
                rw [hp2] at p
                refine ⟨ad, _, rfl, sqT_same e.fh hf.sq, rfl, ?_⟩
                refine ⟨_, _, rfl, ?_⟩
                refine put2_tg rj1 rk1 (fun F => isSc_dr q1 hsc.1) ho g3 hp1 fun F4 H4 s4 _ g4 => ?_
                refine ⟨_, _, rfl, ?_⟩
                refine put2_tg rj2 rk2 (fun F => isSc_dr q2 hsc.2) ho g4 hp2 fun F5 H5 s5 _ g5 => ?_
                exact ⟨rfl, p σ F5 H5 ((s3.trans s4).trans s5) g5⟩
    · rw [if_neg hsc] at p
      exact p.elim
  · exact p.elim
end
end DL
/-! part DLs16 -/
namespace DL
open PySem PySem.Spec PyProof.Rows L2
/-! ### t * 1 is t -/
def dMulK : D → D → Rz D
  | .tuple a, .int k => if k = 1 then .ok (.tuple a) else dMul (.tuple a) (.int k)
  | x, y => dMul x y
theorem tuple_mul1 (l : Addr) (items : Array Value) (n : Nat) (dd : Option Addr) (sl : Array (Option Value)) (u : Tok) :
    Meets (Builtin.«tuple.__mul__» ⟨[.ref l, .int 1 u], []⟩) (fun _ R s => s.heap.get? l = some { cls := .type "tuple", dict := dd, data := .seq items n, slots := sl } ∧ R (.ok (.ret (Value.ref l))) s) :=
  .of_wp fun prog w A R s h => by
    obtain ⟨hp, g, d, tk, os⟩ := s
    obtain ⟨hl, h⟩ := h
    have f1 := AutoSeq1.idx_int
    have c1 : (items.isEmpty || (1 : Int) == 1) = true := by simp
    wp_walk using wpAny_loadPart' hl
    exact ⟨_, rfl, h⟩
section
variable {X : Cx} {W : WX}
def rRep1 (K : PySem.W.Frag) : R2 := fun x y H Q => ∃ l xs, x = .ref l ∧ y = .int 1 ∧ SqT K H l xs ∧ Q (.ref l) H
theorem op_rep1 : OpR X (binaryOp .Mult) (rRep1 X.K) := by
  intro pins s σ H x y v u Q I rx ry h
  obtain ⟨l, xs, rfl, rfl, hT, q⟩ := h
  cases rx
  obtain ⟨t, rfl⟩ := ry
  obtain ⟨its, r, ⟨⟨cls, dd, data, sl⟩, ho, hc, n, hd⟩, hs⟩ := I.tuple hT
  simp only at hc hd
  subst hc hd
  have W := tuple_mul1 l its.toArray n dd sl t
  exact wpAny_binaryOp_repeat_ref (T := "tuple") (U := "int") (by decide) ⟨_, ho, rfl⟩ (fun s' => typeIs_int s' 1 t) noFill_tuple_mul F.fills_int_mul F.slot_int_rmul repeat_tuple F.slot_int_index.lookup
    (call_meets F.slot_int_rmul (typeIs_int s 1 t) F.entry_int_rmul (F.args_int_rmul_2 _ _) (int_rmul_tuple 1 t l its.toArray n dd sl) ⟨ho, rfl, ⟨_, ho, rfl⟩, call_meets F.slot_tuple_mul ⟨_, ho, rfl⟩ F.entry_tuple_mul (F.args_tuple_mul_2 _ _) W
      ⟨ho, ⟨.ref l, H, I, rfl, q⟩⟩⟩)
theorem od_mulK : OpD X W (binaryOp .Mult) dMulK := by
  obtain ⟨r, h1, h2⟩ := od_mul (X := X) (W := W)
  refine .of (h1.or op_rep1) fun σ F H x y d e Q s q1 q2 h => ?_
  cases d with
  | tuple a => cases e with
    | int k =>
      by_cases hk : k = 1
      · subst hk
        cases q1 with
        | tup ea da => cases q2 with
          | int _ => exact .inr ⟨_, _, rfl, rfl, sqT_same s ea.sq, Po.okh h s (.tup ea da)⟩
      · exact .inl (h2 σ F H x y _ _ Q s q1 q2 (by simpa only [dMulK, if_neg hk] using h))
    | _ => exact .inl (h2 σ F H x y _ _ Q s q1 q2 h)
  | _ => exact .inl (h2 σ F H x y _ _ Q s q1 q2 h)
end
end DL
/-! part DLs17 -/
namespace DL
open PySem PySem.Spec PyProof.Rows L2 RZ
/-! ### list(zip(a, b)), a and b tuples -/
section
variable {prog : Program} {w : World} {A : Around} {E : Value → Shared → Prop} {s : Shared}
theorem zipT_held_item {z TI TO T i1 i2 l1 l2 : Addr} {f : Bool} {oT : Obj} {k1 k2 : Nat} {xs ys : Array Value} {x y : Value} {Q : Value → Shared → Prop} (D : ZipApart z TI TO i1 i2 l1 l2)
    (hz : IsZipHeld s.heap z TI TO T f) (hT : s.heap.get? T = some oT) (hTI : IsPair s.heap TI (.ref i1) (.ref i2))
    (h1 : s.heap.IsTupleIter i1 l1 k1) (h2 : s.heap.IsTupleIter i2 l2 k2) (hl1 : s.heap.IsTuple l1 xs) (hl2 : s.heap.IsTuple l2 ys) (hx : xs[k1]? = some x) (hy : ys[k2]? = some y)
    (hQ : ∀ h', IsZipHeld h' z TI TO T true → h'.IsTupleIter i1 l1 (k1 + 1) → h'.IsTupleIter i2 l2 (k2 + 1) → IsPair h' s.heap.objs.size x y → h'.objs.size = s.heap.objs.size + 1 →
      (∀ c o, c ≠ z → c ≠ i1 → c ≠ i2 → s.heap.get? c = some o → h'.get? c = some o) → Q (.ref s.heap.objs.size) { s with heap := h' }) :
    wpAny (model prog w) A (Builtin.«zip.__next__» ⟨[.ref z], []⟩) (fun fin s' => ∃ v, fin = .done (.ret v) ∧ Q v s') E s := by
  show wpAny _ _ (field (.ref z) 2 >>= _) _ _ _
  refine wpAny_bind (wpAny_field hz rfl (x := .bool false) rfl ?_)
  show wpAny _ _ (field (.ref z) 3 >>= _) _ _ _
  refine wpAny_bind (wpAny_field hz rfl (x := .ref TI) rfl ?_)
  refine wpAny_bind (wpAny_seqItems hTI rfl ?_)
  show wpAny _ _ (Builtin.SmallTypes.ownedTupleIsFree (.ref z) >>= _) _ _ _
  refine wpAny_bind (wpAny_tupleHeld_zip hz hT fun h₁ hz₁ hs₁ => ?_)
  simp only [Bool.false_eq_true, if_false]
  refine wpAny_bind ?_
  rw [← Array.forIn_toList]
  simp only [List.forIn_cons, List.forIn_nil]
  refine wpAny_bind (wpAny_bind (wpAny_holding ?_))
  show wpAny _ _ (Builtin.SmallTypes.nextOf (.ref i1) >>= _) _ _ _
  refine wpAny_bind (nextOf_tuple_item (s := { s with heap := h₁ }) (h1.extBut hs₁.extBut D.i1z) (hl1.extBut hs₁.extBut D.l1z) hx fun h₂ h1₂ hs₂ => wpAny_pure ?_)
  refine wpAny_pure ?_
  refine wpAny_bind (wpAny_bind (wpAny_holding ?_))
  show wpAny _ _ (Builtin.SmallTypes.nextOf (.ref i2) >>= _) _ _ _
  refine wpAny_bind (nextOf_tuple_item (s := { s with heap := h₂ }) ((h2.extBut hs₁.extBut D.i2z).extBut hs₂.extBut D.i12.symm) ((hl2.extBut hs₁.extBut D.l2z).extBut hs₂.extBut D.l2i1) hy fun h₃ h2₃ hs₃ => wpAny_pure ?_)
  refine wpAny_pure (wpAny_pure ?_)
  show wpAny _ _ (newTuple [x, y] >>= _) _ _ _
  refine wpAny_bind (wpAny_newTuple ?_)
  have hsz : h₃.objs.size = s.heap.objs.size := by rw [hs₃.1, hs₂.1, hs₁.1]
  have hz₃ : IsZipHeld h₃ z TI TO T true := hs₃.extBut _ _ D.i2z.symm (hs₂.extBut _ _ D.i1z.symm hz₁)
  have hk : ∀ c o, c ≠ z → c ≠ i1 → c ≠ i2 → s.heap.get? c = some o → h₃.get? c = some o := fun c o c1 c2 c3 e => hs₃.extBut _ _ c3 (hs₂.extBut _ _ c2 (hs₁.extBut _ _ c1 e))
  have h1₃ : h₃.IsTupleIter i1 l1 (k1 + 1) := h1₂.extBut hs₃.extBut D.i12
  refine wpAny_pure ⟨_, rfl, ?_⟩
  show Q (.ref h₃.objs.size) _
  have hp : IsPair (h₃.push { cls := .type "tuple", data := .seq #[x, y] }) h₃.objs.size x y := Heap.get?_push_size _ rfl
  have hz4 : (h₃.push { cls := .type "tuple", data := .seq #[x, y] }).objs.size = h₃.objs.size + 1 := Heap.size_push ..
  rw [hsz] at hp hz4 ⊢
  exact hQ _ (Heap.get?_push_of_some _ hz₃) (h1₃.at fun o e => Heap.get?_push_of_some _ e) (h2₃.at fun o e => Heap.get?_push_of_some _ e) hp hz4 fun c o c1 c2 c3 e => Heap.get?_push_of_some _ (hk c o c1 c2 c3 e)
theorem zipT_held_end {z TI TO T i1 i2 l1 l2 : Addr} {f : Bool} {oT : Obj} {k1 k2 : Nat} {xs ys : Array Value} {Q : Fin → Shared → Prop} (hh : A.handled = none) (D : ZipApart z TI TO i1 i2 l1 l2)
    (hz : IsZipHeld s.heap z TI TO T f) (hT : s.heap.get? T = some oT) (hTI : IsPair s.heap TI (.ref i1) (.ref i2))
    (h1 : s.heap.IsTupleIter i1 l1 k1) (h2 : s.heap.IsTupleIter i2 l2 k2) (hl1 : s.heap.IsTuple l1 xs) (hl2 : s.heap.IsTuple l2 ys) (hend : xs[k1]? = none ∨ ys[k2]? = none)
    (hE : ∀ h' e, (∀ c o, c ≠ z → c ≠ i1 → c ≠ i2 → s.heap.get? c = some o → h'.get? c = some o) → (∃ o, h'.get? e = some o ∧ o.cls = .type "StopIteration") → E (.ref e) { s with heap := h' }) :
    wpAny (model prog w) A (Builtin.«zip.__next__» ⟨[.ref z], []⟩) Q E s := by
  show wpAny _ _ (field (.ref z) 2 >>= _) _ _ _
  refine wpAny_bind (wpAny_field hz rfl (x := .bool false) rfl ?_)
  show wpAny _ _ (field (.ref z) 3 >>= _) _ _ _
  refine wpAny_bind (wpAny_field hz rfl (x := .ref TI) rfl ?_)
  refine wpAny_bind (wpAny_seqItems hTI rfl ?_)
  show wpAny _ _ (Builtin.SmallTypes.ownedTupleIsFree (.ref z) >>= _) _ _ _
  refine wpAny_bind (wpAny_tupleHeld_zip hz hT fun h₁ hz₁ hs₁ => ?_)
  simp only [Bool.false_eq_true, if_false]
  refine wpAny_bind ?_
  rw [← Array.forIn_toList]
  simp only [List.forIn_cons, List.forIn_nil]
  refine wpAny_bind (wpAny_bind (wpAny_holding ?_))
  show wpAny _ _ (Builtin.SmallTypes.nextOf (.ref i1) >>= _) _ _ _
  cases hx : xs[k1]? with
  | none =>
    refine wpAny_bind (nextOf_tuple_end (s := { s with heap := h₁ }) hh (h1.extBut hs₁.extBut D.i1z) (hl1.extBut hs₁.extBut D.l1z) hx fun h₂ e hs₂ he => ?_)
    exact hE h₂ e (fun c o c1 c2 _ x => hs₂ _ _ c2 (hs₁.extBut _ _ c1 x)) he
  | some x =>
    have hy : ys[k2]? = none := by rcases hend with h | h; rw [hx] at h; cases h; exact h
    refine wpAny_bind (nextOf_tuple_item (s := { s with heap := h₁ }) (h1.extBut hs₁.extBut D.i1z) (hl1.extBut hs₁.extBut D.l1z) hx fun h₂ h1₂ hs₂ => wpAny_pure ?_)
    refine wpAny_pure ?_
    refine wpAny_bind (wpAny_bind (wpAny_holding ?_))
    show wpAny _ _ (Builtin.SmallTypes.nextOf (.ref i2) >>= _) _ _ _
    refine wpAny_bind (nextOf_tuple_end (s := { s with heap := h₂ }) hh ((h2.extBut hs₁.extBut D.i2z).extBut hs₂.extBut D.i12.symm) ((hl2.extBut hs₁.extBut D.l2z).extBut hs₂.extBut D.l2i1) hy fun h₃ e hs₃ he => ?_)
    exact hE h₃ e (fun c o c1 c2 c3 x => hs₃ _ _ c3 (hs₂.extBut _ _ c2 (hs₁.extBut _ _ c1 x))) he
theorem pyNext_zipT_held {z TI TO T i1 i2 l1 l2 : Addr} {f : Bool} {oT : Obj} {k1 k2 : Nat} {xs ys : Array Value} {x y : Value} {Q : Option Value → Shared → Prop} (D : ZipApart z TI TO i1 i2 l1 l2)
    (hz : IsZipHeld s.heap z TI TO T f) (hT : s.heap.get? T = some oT) (hTI : IsPair s.heap TI (.ref i1) (.ref i2))
    (h1 : s.heap.IsTupleIter i1 l1 k1) (h2 : s.heap.IsTupleIter i2 l2 k2) (hl1 : s.heap.IsTuple l1 xs) (hl2 : s.heap.IsTuple l2 ys) (hx : xs[k1]? = some x) (hy : ys[k2]? = some y)
    (hQ : ∀ h', IsZipHeld h' z TI TO T true → h'.IsTupleIter i1 l1 (k1 + 1) → h'.IsTupleIter i2 l2 (k2 + 1) → IsPair h' s.heap.objs.size x y → h'.objs.size = s.heap.objs.size + 1 →
      (∀ c o, c ≠ z → c ≠ i1 → c ≠ i2 → s.heap.get? c = some o → h'.get? c = some o) → Q (some (.ref s.heap.objs.size)) { s with heap := h' }) :
    wpAny (model prog w) A (pyNext (.ref z)) Q E s := by
  have hTy : s.TypeIs (.ref z) "zip" := ⟨_, hz, rfl⟩
  unfold pyNext
  exact wpAny_bind (wpAny_attempt (wpAny_callSpecial?_slot (name := Str.ofString "__next__") hTy F.slot_zip_next
    (wpAny_call_entry F.slot_zip_next hTy F.entry_zip_next
      (zipT_held_item D hz hT hTI h1 h2 hl1 hl2 hx hy fun h' a1 a3 a4 a5 a6 a7 => wpAny_pure (hQ h' a1 a3 a4 a5 a6 a7)) (F.args_zip_next_1 _))))
theorem pyNext_zipT_held_end {z TI TO T i1 i2 l1 l2 : Addr} {f : Bool} {oT : Obj} {k1 k2 : Nat} {xs ys : Array Value} {Q : Option Value → Shared → Prop} (hh : A.handled = none) (D : ZipApart z TI TO i1 i2 l1 l2)
    (hz : IsZipHeld s.heap z TI TO T f) (hT : s.heap.get? T = some oT) (hTI : IsPair s.heap TI (.ref i1) (.ref i2))
    (h1 : s.heap.IsTupleIter i1 l1 k1) (h2 : s.heap.IsTupleIter i2 l2 k2) (hl1 : s.heap.IsTuple l1 xs) (hl2 : s.heap.IsTuple l2 ys) (hend : xs[k1]? = none ∨ ys[k2]? = none)
    (hQ : ∀ h', (∀ c o, c ≠ z → c ≠ i1 → c ≠ i2 → s.heap.get? c = some o → h'.get? c = some o) → Q none { s with heap := h' }) : wpAny (model prog w) A (pyNext (.ref z)) Q E s := by
  have hTy : s.TypeIs (.ref z) "zip" := ⟨_, hz, rfl⟩
  unfold pyNext
  refine wpAny_bind (wpAny_attempt (wpAny_callSpecial?_slot (name := Str.ofString "__next__") hTy F.slot_zip_next
    (wpAny_call_entry F.slot_zip_next hTy F.entry_zip_next (zipT_held_end hh D hz hT hTI h1 h2 hl1 hl2 hend fun h' e hk he => ?_) (F.args_zip_next_1 _))))
  obtain ⟨o, ho, hc⟩ := he
  refine wpAny_bind (wpAny_isInstance (T := "StopIteration") (b := true) ⟨o, ho, hc⟩ isSubtype_stop ?_)
  exact wpAny_pure (hQ _ hk)
end
end DL
/-! part DLs18 -/
namespace DL
open PySem PySem.Spec PyProof.Rows L2 RZ
def zipT (xs ys : List D) : List D := List.zipWith (fun a b => .tuple [a, b]) xs ys
/-- a zip in the midst of a list's making -/
structure ZS (z TI TO i1 i2 l1 l2 S : Addr) (i : Nat) (h : Heap) : Prop where
  st : (∃ a b, IsZip h z TI TO .none ∧ IsPair h TO a b) ∨ ∃ T f oT, IsZipHeld h z TI TO T f ∧ h.get? T = some oT ∧ T ∉ [z, TI, TO, i1, i2, S]
  ti : IsPair h TI (.ref i1) (.ref i2)
  j1 : h.IsTupleIter i1 l1 i
  j2 : h.IsTupleIter i2 l2 i
theorem ZS.put {z TI TO i1 i2 l1 l2 S : Addr} {i : Nat} {h h' : Heap} (Z : ZS z TI TO i1 i2 l1 l2 S i h) (hS : S ∉ [z, TI, TO, i1, i2]) (k : ∀ b o, b ≠ S → h.get? b = some o → h'.get? b = some o) : ZS z TI TO i1 i2 l1 l2 S i h' := by
  simp only [List.mem_cons, List.not_mem_nil, or_false, not_or] at hS
  obtain ⟨n1, n2, n3, n4, n5⟩ := hS
  refine ⟨?_, k _ _ (Ne.symm n2) Z.ti, Z.j1.at fun o e => k _ o (Ne.symm n4) e, Z.j2.at fun o e => k _ o (Ne.symm n5) e⟩
  rcases Z.st with ⟨a, b, h1, h2⟩ | ⟨T, f, oT, h1, h2, h3⟩
  · exact .inl ⟨a, b, k _ _ (Ne.symm n1) h1, k _ _ (Ne.symm n3) h2⟩
  · exact .inr ⟨T, f, oT, k _ _ (Ne.symm n1) h1, k _ _ (fun e => h3 (by simp [e])) h2, h3⟩
section
variable {prog : Program} {w : World} {A : Around} {E : Value → Shared → Prop} {s : Shared}
theorem zs_item {z TI TO i1 i2 l1 l2 S : Addr} {k : Nat} {xs ys : Array Value} {x y : Value} {Q : Option Value → Shared → Prop} (D : ZipApart z TI TO i1 i2 l1 l2) (Z : ZS z TI TO i1 i2 l1 l2 S k s.heap) (hSl : S < s.heap.objs.size)
    (hl1 : s.heap.IsTuple l1 xs) (hl2 : s.heap.IsTuple l2 ys) (hx : xs[k]? = some x) (hy : ys[k]? = some y) (hzl : ∀ b ∈ [z, TI, TO, i1, i2], b < s.heap.objs.size)
    (hQ : ∀ h', ZS z TI TO i1 i2 l1 l2 S (k + 1) h' → IsPair h' s.heap.objs.size x y → h'.objs.size = s.heap.objs.size + 1 → (∀ c o, c ∉ [z, TI, TO, i1, i2] → s.heap.get? c = some o → h'.get? c = some o) → Q (some (.ref s.heap.objs.size)) { s with heap := h' }) :
    wpAny (model prog w) A (pyNext (.ref z)) Q E s := by
  have fr : s.heap.objs.size ∉ [z, TI, TO, i1, i2, S] := fun hm => by
    have : ∀ b ∈ [z, TI, TO, i1, i2, S], b < s.heap.objs.size := fun b hb => by
      rcases List.mem_append.mp (show b ∈ [z, TI, TO, i1, i2] ++ [S] from hb) with h | h
      · exact hzl b h
      · rw [List.mem_singleton.mp h]; exact hSl
    exact absurd (this _ hm) (Nat.lt_irrefl _)
  rcases Z.st with ⟨a, b, h1, h2⟩ | ⟨T, f, oT, h1, h2, h3⟩
  · refine pyNext_zipT_item D h1 Z.ti h2 Z.j1 Z.j2 hl1 hl2 hx hy fun h' a1 a2 a3 a4 a5 a6 a7 => ?_
    refine hQ h' ⟨.inr ⟨_, false, _, a1, a5, fr⟩, a7 _ _ D.TIz D.TITO D.TIi1 D.TIi2 Z.ti, a3, a4⟩ a5 a6 fun c o hc e => ?_
    simp only [List.mem_cons, List.not_mem_nil, or_false, not_or] at hc
    exact a7 c o hc.1 hc.2.2.1 hc.2.2.2.1 hc.2.2.2.2 e
  · refine pyNext_zipT_held D h1 h2 Z.ti Z.j1 Z.j2 hl1 hl2 hx hy fun h' a1 a3 a4 a5 a6 a7 => ?_
    have h3' := h3
    simp only [List.mem_cons, List.not_mem_nil, or_false, not_or] at h3'
    refine hQ h' ⟨.inr ⟨T, true, oT, a1, a7 _ _ h3'.1 h3'.2.2.2.1 h3'.2.2.2.2.1 h2, h3⟩, a7 _ _ D.TIz D.TIi1 D.TIi2 Z.ti, a3, a4⟩ a5 a6 fun c o hc e => ?_
    simp only [List.mem_cons, List.not_mem_nil, or_false, not_or] at hc
    exact a7 c o hc.1 hc.2.2.2.1 hc.2.2.2.2 e
theorem zs_end {z TI TO i1 i2 l1 l2 S : Addr} {k : Nat} {xs ys : Array Value} {Q : Option Value → Shared → Prop} (hh : A.handled = none) (D : ZipApart z TI TO i1 i2 l1 l2) (Z : ZS z TI TO i1 i2 l1 l2 S k s.heap)
    (hl1 : s.heap.IsTuple l1 xs) (hl2 : s.heap.IsTuple l2 ys) (he : xs[k]? = none ∨ ys[k]? = none)
    (hQ : ∀ h', (∀ c o, c ∉ [z, TI, TO, i1, i2] → s.heap.get? c = some o → h'.get? c = some o) → Q none { s with heap := h' }) :
    wpAny (model prog w) A (pyNext (.ref z)) Q E s := by
  rcases Z.st with ⟨a, b, h1, h2⟩ | ⟨T, f, oT, h1, h2, h3⟩
  · refine pyNext_zipT_end hh D h1 Z.ti h2 Z.j1 Z.j2 hl1 hl2 he fun h' a7 => hQ h' fun c o hc e => ?_
    simp only [List.mem_cons, List.not_mem_nil, or_false, not_or] at hc
    exact a7 c o hc.1 hc.2.2.1 hc.2.2.2.1 hc.2.2.2.2 e
  · refine pyNext_zipT_held_end hh D h1 h2 Z.ti Z.j1 Z.j2 hl1 hl2 he fun h' a7 => hQ h' fun c o hc e => ?_
    simp only [List.mem_cons, List.not_mem_nil, or_false, not_or] at hc
    exact a7 c o hc.1 hc.2.2.2.1 hc.2.2.2.2 e
end
section
variable {X : Cx}
theorem fp_upd {pins : List (Addr × Obj)} {H H' : Hp} {b : Addr} (f : FpOk X pins H b) (h : H' b = none) : FpOk X pins H' b := ⟨h, f.2⟩
theorem drAll_get {K : PySem.W.Frag} {F : Hp} {vs : List V} {ds : List D} {i : Nat} {v : V} (a : DrAll K F vs ds) (h : vs[i]? = some v) : ∃ d, ds[i]? = some d ∧ Dr K F v d := by
  have hi : i < vs.length := (List.getElem?_eq_some_iff.mp h).1
  have hd : ds[i]? = some (ds[i]'(by rw [← a.len]; exact hi)) := List.getElem?_eq_getElem _
  obtain ⟨w, e, q⟩ := a.get hd
  rw [h] at e
  cases e
  exact ⟨_, hd, q⟩
theorem zipT_take {xs ys : List D} {i : Nat} {a b : D} (h1 : xs[i]? = some a) (h2 : ys[i]? = some b) : (zipT xs ys).take (i + 1) = (zipT xs ys).take i ++ [.tuple [a, b]] := by
  have : (zipT xs ys)[i]? = some (.tuple [a, b]) := by
    unfold zipT
    rw [List.getElem?_zipWith, h1, h2]
  rw [List.take_succ, this]
  rfl
theorem zip_loop {pins : List (Addr × Obj)} {σ : St} {z TI TO i1 i2 l1 l2 S : Addr} {R : Result → Shared → Prop} {A : Around} {res : Value} (hh : A.in1.handled = none) (Da : ZipApart z TI TO i1 i2 l1 l2) (hS : S ∉ [z, TI, TO, i1, i2])
    {n : Nat} {xs ys : List V} {ds es : List D} (hx : xs.length = n) (hy : ys.length = n) (hn : n ≤ 1000) {F0 H0 : Hp} (dx : DrAll X.K F0 xs ds) (dy : DrAll X.K F0 ys es) (hq1 : SqT X.K H0 l1 xs) (hq2 : SqT X.K H0 l2 ys) (hcalm : X.calm = true) (hS0 : H0 S = none)
    (hR : ∀ (s' : Shared) (F H : Hp) (Ts : List Addr), Inv X pins σ H s' → Ext F0 H0 F H → F S = none → H S = some (.lst (Ts.map V.ref)) → DrAll X.K F (Ts.map V.ref) (zipT ds es) → R (.ok (.ret res)) s') :
    ∀ (k i : Nat) (s : Shared) (F H : Hp) (Ts : List Addr), n - i = k → i ≤ n → Inv X pins σ H s → Ext F0 H0 F H → F S = none → H S = some (.lst (Ts.map V.ref)) → Ts.length = i → DrAll X.K F (Ts.map V.ref) ((zipT ds es).take i) →
      ZS z TI TO i1 i2 l1 l2 S i s.heap → (∀ b ∈ [z, TI, TO, i1, i2], FpOk X pins H b ∧ b < s.heap.objs.size) →
      codeAny (model X.prog X.w) A (.builtin "list.extend.loop" ⟨[.ref S, .ref z, res], []⟩) R s := by
  have lz : (zipT ds es).length = n := by
    have a := dx.len
    have b := dy.len
    unfold zipT
    rw [List.length_zipWith]
    omega
  intro k
  induction k with
  | zero =>
    intro i s F H Ts hk hi I Ex hFS hHS hT dT Z fp
    have hin : i = n := by omega
    subst hin
    refine codeAny_builtin PySem.F.entry_extend_loop ?_
    rw [Around.under_plainId PySem.F.plain_extend_loop _]
    show wpAny _ A.in1 (pyNext (.ref z) >>= _) _ _ s
    obtain ⟨its, rv, p, _⟩ := I.tuple (sqT_same Ex.hh hq1)
    obtain ⟨its2, rv2, p2, _⟩ := I.tuple (sqT_same Ex.hh hq2)
    have e1 := rv.length
    refine wpAny_bind (zs_end hh Da Z p p2 (.inl (by simp; omega)) fun h' a7 => ?_)
    have I2 : Inv X pins σ H { s with heap := h' } := I.turnedL (t' := s.toks) (ch := [z, TI, TO, i1, i2]) a7 fun b hb => (fp b hb).1
    refine wpAny_pure (hR _ F H Ts I2 Ex hFS hHS ?_)
    rw [List.take_of_length_le (by rw [lz]; exact Nat.le_refl _)] at dT
    exact dT
  | succ k ih =>
    intro i s F H Ts hk hi I Ex hFS hHS hT dT Z fp
    have hlt : i < n := by omega
    refine codeAny_builtin PySem.F.entry_extend_loop ?_
    rw [Around.under_plainId PySem.F.plain_extend_loop _]
    show wpAny _ A.in1 (pyNext (.ref z) >>= _) _ _ s
    obtain ⟨its, rv, p, _⟩ := I.tuple (sqT_same Ex.hh hq1)
    obtain ⟨its2, rv2, p2, _⟩ := I.tuple (sqT_same Ex.hh hq2)
    have gx : xs[i]? = some (xs[i]'(by omega)) := List.getElem?_eq_getElem _
    have gy : ys[i]? = some (ys[i]'(by omega)) := List.getElem?_eq_getElem _
    generalize xs[i]'(by omega) = x at gx
    generalize ys[i]'(by omega) = y at gy
    obtain ⟨u, hu, ru⟩ := rv.get gx
    obtain ⟨u2, hu2, ru2⟩ := rv2.get gy
    obtain ⟨d, gd, dd⟩ := drAll_get dx gx
    obtain ⟨e, ge, de⟩ := drAll_get dy gy
    have OS := I.hok S _ hHS
    obtain ⟨hSz, itS, cS, rS, hSg⟩ := id OS
    have hSl : S < s.heap.objs.size := Heap.lt_size hSg
    refine wpAny_bind (zs_item Da Z hSl p p2 (x := u) (y := u2) (by simpa using hu) (by simpa using hu2) (fun b hb => (fp b hb).2) fun h' Z' hT' hsz hk' => ?_)
    have hTn : H s.heap.objs.size = none := I.hok.fresh (Nat.le_refl _)
    have ST : S ≠ s.heap.objs.size := Nat.ne_of_lt hSl
    have I1 : Inv X pins σ (upd H s.heap.objs.size (.frz { cls := .type "tuple", data := .seq #[u, u2] } (.tup [x, y]))) { s with heap := h' } :=
      I.turnedNew (t' := s.toks) (ch := [z, TI, TO, i1, i2]) hk' (fun b hb => (fp b hb).1) (Nat.le_refl _)
        ⟨hT', by show 2 ≤ sizeLine; decide, [u, u2], .cons ru (.cons ru2 .nil), ⟨_, hT', rfl, _, rfl⟩⟩
    have E1 : Ext F0 H0 (upd F s.heap.objs.size (.frz { cls := .type "tuple", data := .seq #[u, u2] } (.tup [x, y]))) (upd H s.heap.objs.size (.frz { cls := .type "tuple", data := .seq #[u, u2] } (.tup [x, y]))) := Ex.trans (Ext.new Ex.fh hTn)
    have hS' : h'.get? S = some { cls := .type "list", data := .seq itS.toArray cS } := hk' S _ hS hSg
    have lS : itS.length = i := by
      have := rS.length
      rw [List.length_map] at this
      omega
    show wpAny _ A.in1 (updateSeq S (·.push (Value.ref s.heap.objs.size)) >>= _) _ _ _
    refine wpAny_bind ?_
    have hTF : FzT (upd F s.heap.objs.size (.frz { cls := .type "tuple", data := .seq #[u, u2] } (.tup [x, y]))) s.heap.objs.size [x, y] := .at rfl
    generalize hH1 : upd H s.heap.objs.size (.frz { cls := .type "tuple", data := .seq #[u, u2] } (.tup [x, y])) = H1 at I1 E1
    have hF1S : (upd F s.heap.objs.size (.frz { cls := .type "tuple", data := .seq #[u, u2] } (.tup [x, y]))) S = none := by rw [upd_ne ST]; exact hFS
    have sF : Same F (upd F s.heap.objs.size (.frz { cls := .type "tuple", data := .seq #[u, u2] } (.tup [x, y]))) := same_upd (Ex.fh.free hTn)
    generalize upd F s.heap.objs.size (.frz { cls := .type "tuple", data := .seq #[u, u2] } (.tup [x, y])) = F1 at E1 hTF hF1S sF
    have hH1S : H1 S = some (.lst (Ts.map V.ref)) := by rw [← hH1, upd_ne ST]; exact hHS
    obtain ⟨c2, hg2⟩ : ∃ c2, (h'.update S (Obj.mapSeq (·.push (Value.ref s.heap.objs.size)))).get? S = some { cls := .type "list", data := .seq (itS ++ [Value.ref s.heap.objs.size]).toArray c2 } := by
      have q := Heap.get?_update_self (Obj.mapSeq (·.push (Value.ref s.heap.objs.size))) hS' rfl
      obtain ⟨c2, q2⟩ : ∃ c2, Obj.mapSeq (·.push (Value.ref s.heap.objs.size)) { cls := Value.type "list", data := Data.seq itS.toArray cS } = { cls := .type "list", data := .seq (itS.toArray.push (Value.ref s.heap.objs.size)) c2 } := ⟨_, rfl⟩
      rw [q2, List.push_toArray] at q
      exact ⟨c2, q⟩
    have I2 : Inv X pins σ (upd H1 S (.lst ((Ts ++ [s.heap.objs.size]).map V.ref))) { s with heap := h'.update S (Obj.mapSeq (·.push (Value.ref s.heap.objs.size))) } := by
      refine I1.write (t' := s.toks) (e := S) (by rw [hH1S]; trivial) (.inl rfl) (fun b u hb e => (Heap.get?_update_other _ _ (Ne.symm hb)).trans e) ⟨_, hg2⟩ ⟨?_, itS ++ [Value.ref s.heap.objs.size], c2, ?_, hg2⟩
      · rw [List.length_map, List.length_append, hT, List.length_singleton, sizeLine_eq]
        omega
      · rw [List.map_append]
        exact rS.append (.cons rfl .nil)
    refine wpAny_updateSeq hS' rfl (wpAny_pure ⟨plainId_quiet PySem.F.plain_extend_loop _, ih (i + 1) _ F1 _ (Ts ++ [s.heap.objs.size]) (by omega) (by omega) I2 ?_ hF1S upd_same (by rw [List.length_append, hT]; rfl) ?_ ?_ fun b hb => ?_⟩) ?_ ?_
    · refine ⟨fun b o e => ?_, E1.ff, fun b o e => ?_, E1.nf, E1.s0⟩
      · rw [upd_ne (ne_of_none e hS0)]
        exact E1.hh b o e
      · rw [upd_ne (ne_of_none e hF1S)]
        exact E1.fh b o e
    · rw [zipT_take gd ge, List.map_append]
      exact (dT.same sF).append (.cons (.tup hTF (.cons (dd.same E1.ff) (.cons (de.same E1.ff) .nil))) .nil)
    · exact Z'.put hS fun b o hb e => (Heap.get?_update_other _ _ (Ne.symm hb)).trans e
    · have f := fp b hb
      refine ⟨fp_upd f.1 ?_, ?_⟩
      · rw [upd_ne (fun e => hS (by rw [← e]; exact hb)), ← hH1, upd_ne (Nat.ne_of_lt f.2)]
        exact f.1.1
      · show b < (h'.update S _).objs.size
        rw [Heap.size_update, hsz]
        exact Nat.lt_succ_of_lt f.2
    · rw [List.size_toArray, lS, sizeLine_eq]
      omega
    · rw [Array.size_push, List.size_toArray, lS, sizeLine_eq]
      omega
end
end DL
/-! part DLs19 -/
namespace DL
open PySem PySem.Spec PyProof.Rows L2 RZ
theorem nolen_zip : typeLookup (.type "zip") "__len__" = pure none := by rw [typeLookup_type, builtinLookup_eq_fast]; kernel_rfl
theorem nohint_zip : typeLookup (.type "zip") "__length_hint__" = pure none := by rw [typeLookup_type, builtinLookup_eq_fast]; kernel_rfl
section
variable {X : Cx}
theorem zip_extend {pins : List (Addr × Obj)} {σ : St} {z TI TO i1 i2 l1 l2 S : Addr} {R : Result → Shared → Prop} {A : Around} {s : Shared} (hh : A.in1.handled = none) (Da : ZipApart z TI TO i1 i2 l1 l2) (hS : S ∉ [z, TI, TO, i1, i2])
    {n c : Nat} {xs ys : List V} {ds es : List D} (hx : xs.length = n) (hy : ys.length = n) (hn : n ≤ 1000) {F0 H0 : Hp} (dx : DrAll X.K F0 xs ds) (dy : DrAll X.K F0 ys es) (hq1 : SqT X.K H0 l1 xs) (hq2 : SqT X.K H0 l2 ys) (hcalm : X.calm = true) (hS0 : H0 S = none)
    {F H : Hp} (I : Inv X pins σ H s) (Ex : Ext F0 H0 F H) (hFS : F S = none) (hHS : H S = some (.lst [])) (hg : s.heap.get? S = some { cls := .type "list", data := .seq #[] c })
    (Z : ZS z TI TO i1 i2 l1 l2 S 0 s.heap) (hz : IsZip s.heap z TI TO .none) (fp : ∀ b ∈ [z, TI, TO, i1, i2], FpOk X pins H b ∧ b < s.heap.objs.size)
    (hR : ∀ (s' : Shared) (F H : Hp) (Ts : List Addr), Inv X pins σ H s' → Ext F0 H0 F H → F S = none → H S = some (.lst (Ts.map V.ref)) → DrAll X.K F (Ts.map V.ref) (zipT ds es) → R (.ok (.ret .none)) s') :
    wpAny (model X.prog X.w) A.in1 (Builtin.List.listExtendWith (.ref S) (.ref z) .none)
      (fun fin s' => match fin with | .done f => R (.ok f) s' | .again c' => c'.quiet = true ∧ codeAny (model X.prog X.w) A c' R s') (fun e s' => R (.error e) s') s := by
  have hSz : S ≠ z := fun e => hS (by simp [e])
  have ty : ∀ {h : Heap}, ZS z TI TO i1 i2 l1 l2 S 0 h → ∀ {s : Shared}, s.heap = h → s.TypeIs (.ref z) "zip" := fun Z s e => by
    subst e
    rcases Z.st with ⟨_, _, h1, _⟩ | ⟨_, _, _, h1, _⟩
    · exact ⟨_, h1, rfl⟩
    · exact ⟨_, h1, rfl⟩
  unfold Builtin.List.listExtendWith
  refine wpAny_bind (wpAny_typeOf (ty Z rfl) ?_)
  have h1 : Builtin.List.listSameRef (.ref S) (.ref z) = false := by simp [Builtin.List.listSameRef, hSz]
  have h2 : (Value.type "zip" == Value.type "list") = false := by decide
  have h3 : (Value.type "zip" == Value.type "tuple") = false := by decide
  simp only [h1, h2, h3, Bool.or_false, Bool.false_eq_true, if_false]
  have itz : ∀ {Q : Value → Shared → Prop} {E : Value → Shared → Prop}, Q (.ref z) s → wpAny (model X.prog X.w) A.in1 (pyIter (.ref z)) Q E s := fun q => by
    exact wpAny_pyIter_zip hz q
  refine wpAny_bind (itz ?_)
  refine wpAny_bind (wpAny_holding ?_)
  unfold Builtin.List.listLengthHint
  refine wpAny_bind (wpAny_specialOf (ty Z rfl) nolen_zip ?_)
  show wpAny _ A.in1 (specialOf (Value.ref z) (Str.ofString "__length_hint__") >>= _) _ _ _
  refine wpAny_bind (wpAny_specialOf (ty Z rfl) nohint_zip ?_)
  refine wpAny_pure ?_
  show wpAny _ A.in1 (rule "list.extend.makes-room" >>= fun _ => Builtin.List.listTouch (.ref S) >>= fun _ =>
    again (.builtin "list.extend.loop" ⟨[.ref S, .ref z, .none], []⟩)) _ _ _
  refine wpAny_bind (wpAny_rule ?_)
  refine wpAny_bind ?_
  show wpAny _ A.in1 (updateSeq S (·.push .none) >>= fun _ => updateSeq S (·.pop)) _ _ _
  refine wpAny_bind (wpAny_updateSeq hg rfl ?_)
  have hS₂ := Heap.get?_update_self (Obj.mapSeq (·.push Value.none)) hg rfl
  refine wpAny_updateSeq (hz := by seq_fits) hS₂ rfl ?_
  have hS₃ := Heap.get?_update_self (Obj.mapSeq (·.pop)) hS₂ rfl
  have oth : ∀ b o, b ≠ S → s.heap.get? b = some o → ((s.heap.update S (Obj.mapSeq (·.push Value.none))).update S (Obj.mapSeq (·.pop))).get? b = some o :=
    fun b o hb e => (Heap.get?_update_other _ _ (Ne.symm hb)).trans ((Heap.get?_update_other _ _ (Ne.symm hb)).trans e)
  have I2 : Inv X pins σ (upd H S (.lst [])) { s with heap := (s.heap.update S (Obj.mapSeq (·.push Value.none))).update S (Obj.mapSeq (·.pop)) } :=
    I.write (t' := s.toks) (e := S) (by rw [hHS]; trivial) (.inl rfl) (fun b u hb e => oth b u hb e) ⟨_, hS₃⟩ ⟨Nat.zero_le _, [], _, .nil, hS₃⟩
  refine wpAny_pure ⟨plainId_quiet PySem.F.plain_extend_loop _, zip_loop hh Da hS hx hy hn dx dy hq1 hq2 hcalm hS0 hR n 0 _ F _ [] (Nat.sub_zero _) (Nat.zero_le _) I2 ?_ hFS upd_same rfl (by rw [List.take_zero]; exact .nil) (Z.put hS oth) fun b hb => ?_⟩
  · refine ⟨fun b o e => ?_, Ex.ff, fun b o e => ?_, Ex.nf, Ex.s0⟩
    · rw [upd_ne (ne_of_none e hS0)]
      exact Ex.hh b o e
    · rw [upd_ne (ne_of_none e hFS)]
      exact Ex.fh b o e
  · refine ⟨fp_upd (fp b hb).1 ?_, ?_⟩
    · rw [upd_ne (fun e => hS (by rw [← e]; exact hb))]
      exact (fp b hb).1.1
    · show b < ((s.heap.update S _).update S _).objs.size
      rw [Heap.size_update, Heap.size_update]
      exact (fp b hb).2
theorem call_list_zip {pins : List (Addr × Obj)} {σ : St} {z TI TO i1 i2 l1 l2 : Addr} {A : Around} {s : Shared} {Q : Value → Shared → Prop} {E : Value → Shared → Prop} (hh : A.handled = none) (Da : ZipApart z TI TO i1 i2 l1 l2)
    {n : Nat} {xs ys : List V} {ds es : List D} (hx : xs.length = n) (hy : ys.length = n) (hn : n ≤ 1000) {F0 H0 : Hp} (dx : DrAll X.K F0 xs ds) (dy : DrAll X.K F0 ys es) (hq1 : SqT X.K H0 l1 xs) (hq2 : SqT X.K H0 l2 ys) (hcalm : X.calm = true)
    (I : Inv X pins σ H0 s) (sm : Same F0 H0) (hz : IsZip s.heap z TI TO .none) (hTI : IsPair s.heap TI (.ref i1) (.ref i2)) (hTO : IsPair s.heap TO .none .none) (h1 : s.heap.IsTupleIter i1 l1 0) (h2 : s.heap.IsTupleIter i2 l2 0)
    (fp : ∀ b ∈ [z, TI, TO, i1, i2], FpOk X pins H0 b ∧ b < s.heap.objs.size)
    (hQ : ∀ (s' : Shared) (F H : Hp) (S : Addr), Inv X pins σ H s' → Ext F0 H0 F H → Dr X.K F (.ref S) (.list (zipT ds es)) → Q (.ref S) s') :
    wpAny (model X.prog X.w) A (call (.type "list") [.ref z]) Q E s := by
  refine callType_codes (Q₁ := fun obj s₁ => obj = .ref s.heap.objs.size ∧ s₁ = { s with heap := s.heap.push { cls := .type "list", data := .seq #[] } }) PySem.F.called_list (PySem.F.typeCall_list_1 _) PySem.F.entry_list_init
    (code_list_new _ ⟨rfl, rfl⟩) fun obj s₁ h₁ => ?_
  obtain ⟨rfl, rfl⟩ := h₁
  have hg : (s.heap.push { cls := .type "list", data := .seq #[] }).get? s.heap.objs.size = some { cls := .type "list", data := .seq #[] } := Heap.get?_push_size _ rfl
  have hS : s.heap.objs.size ∉ [z, TI, TO, i1, i2] := fun hm => absurd (fp _ hm).2 (Nat.lt_irrefl _)
  have hn0 : H0 s.heap.objs.size = none := I.hok.fresh (Nat.le_refl _)
  refine ⟨⟨_, hg, rfl⟩, PySem.F.args_list_init_2 _ _, ?_⟩
  show wpAny _ A.in1.in1 (do let old ← Builtin.List.listItems (.ref s.heap.objs.size); Builtin.List.listUpdate (.ref s.heap.objs.size) (fun _ => #[]); letGo old.toList.reverse; Builtin.List.listExtendWith (.ref s.heap.objs.size) (.ref z) .none) _ _ _
  refine wpAny_bind ?_
  unfold Builtin.List.listItems
  refine wpAny_bind (wpAny_seqItems hg rfl (wpAny_pure ?_))
  show wpAny _ A.in1.in1 (updateSeq s.heap.objs.size (fun _ => #[]) >>= fun _ => letGo (#[] : Array Value).toList.reverse >>= fun _ => Builtin.List.listExtendWith (.ref s.heap.objs.size) (.ref z) .none) _ _ _
  refine wpAny_bind (wpAny_updateSeq hg rfl ?_)
  have hS₂ := Heap.get?_update_self (Obj.mapSeq (fun _ => (#[] : Array Value))) hg rfl
  have oth : ∀ b o, b ≠ s.heap.objs.size → s.heap.get? b = some o → ((s.heap.push { cls := .type "list", data := .seq #[] }).update s.heap.objs.size (Obj.mapSeq (fun _ => (#[] : Array Value)))).get? b = some o :=
    fun b o hb e => (Heap.get?_update_other _ _ (Ne.symm hb)).trans (Heap.get?_push_of_some _ e)
  refine wpAny_bind (wpAny_letGo ?_)
  have I1 : Inv X pins σ (upd H0 s.heap.objs.size (.lst [])) { s with heap := (s.heap.push { cls := .type "list", data := .seq #[] }).update s.heap.objs.size (Obj.mapSeq (fun _ => (#[] : Array Value))) } :=
    I.laid (t' := s.toks) (fun b u e => oth b u (Nat.ne_of_lt (Heap.lt_size e)) e) (Nat.le_refl _) ⟨Nat.zero_le _, [], _, .nil, hS₂⟩
  refine zip_extend (A := A.in1) hh Da hS hx hy hn dx dy hq1 hq2 hcalm hn0 I1 ⟨same_upd hn0, Same.refl _, fun b o e => ?_, fun _ _ _ e => e, sm⟩ (sm.free hn0) upd_same hS₂ ⟨.inl ⟨_, _, oth _ _ (Nat.ne_of_lt (Heap.lt_size hz)) hz, oth _ _ (Nat.ne_of_lt (Heap.lt_size hTO)) hTO⟩, oth _ _ (Nat.ne_of_lt (Heap.lt_size hTI)) hTI, h1.at fun o e => oth _ _ (Nat.ne_of_lt (Heap.lt_size e)) e, h2.at fun o e => oth _ _ (Nat.ne_of_lt (Heap.lt_size e)) e⟩
    (oth _ _ (Nat.ne_of_lt (Heap.lt_size hz)) hz) (fun b hb => ⟨fp_upd (fp b hb).1 ?_, ?_⟩) fun s' F H Ts I' Ex hFS hHS dT => ?_
  · rw [upd_ne (ne_of_none e (sm.free hn0))]
    exact sm b o e
  · rw [upd_ne (Nat.ne_of_lt (fp b hb).2)]
    exact (fp b hb).1.1
  · show b < ((s.heap.push _).update _ _).objs.size
    rw [Heap.size_update, Heap.size_push]
    exact Nat.lt_succ_of_lt (fp b hb).2
  · refine ⟨rfl, hQ s' (upd F s.heap.objs.size (.lst (Ts.map V.ref))) H s.heap.objs.size I' ⟨Ex.hh, Ex.ff.trans (same_upd hFS), fun b o e => ?_, fun a o e1 e2 => ?_, Ex.s0⟩ (.lst upd_same (dT.same (same_upd hFS)))⟩
    · by_cases hb : b = s.heap.objs.size
      · subst hb
        rw [upd_same] at e
        rw [hHS]
        exact e
      · rw [upd_ne hb] at e
        exact Ex.fh b o e
    · rw [upd_ne (ne_of_none e1 hn0)]
      exact Ex.nf a o e1 e2
end
end DL
/-! part DLs20 -/
namespace DL
open PySem PySem.Spec PyProof.Rows L2 RZ
def dZipL : List D → Rz D
  | [.tuple xs, .tuple ys] => if xs.length = ys.length ∧ xs.length ≤ 1000 then .ok (.list (zipT xs ys)) else .st
  | _ => .st
section
variable {X : Cx} {W : WX}
theorem zip_apart5 {m a b : Nat} (ha : a < m) (hb : b < m) : ZipApart (m + 4) (m + 2) (m + 3) m (m + 1) a b := PySem.W.ktu_apart m a b ha hb
/-- list(zip(a, b)) -/
theorem de_listZip {e e2 : Expr} {ga : GA} {p p2 q pos : Pos} (hm : X.mg "list" = none) (hm2 : X.mg "zip" = none) (ha : DA X W [e, e2] ga) (hc : X.calm = true := by rfl) (hg : Gl X "list" := by rfl) (hg2 : Gl X "zip" := by rfl)
    (hs : starEach [e, e2] X.env = (false, eval e X.env) :: starEach [e2] X.env := by rfl) (hpl : (backTo q (starEach [e2] X.env)).any (·.1) = false := by rfl) :
    DE X W (.Call (.Name "list" p) [.Call (.Name "zip" p2) [e, e2] [] q] [] pos) (gCall dZipL ga) := by
  obtain ⟨t, pa, ra⟩ := ha
  refine de_of ⟨fun pins s σ H Q I h => ?_⟩
  obtain ⟨F, ρ, sm, hV, h⟩ := h
  refine Call_ (ld_blt I hg hm PyProof.Rows.boot_list ?_)
  refine PyProof.Rows.callWith_type1 (PyProof.Rows.args_cons ?_ rfl) rfl rfl
  refine Call_ (ld_blt I hg2 hm2 PyProof.Rows.boot_zip (PyProof.Rows.callWith_type1 (thn (pa.run q pins s σ H _ I (ra σ F H ρ (fun xs H1 => ∃ (F1 : Hp) (ds : List D), Same F1 H1 ∧ DrAll X.K F1 xs ds ∧ Po (Dr X.K) X.mg W σ F1 H1 (dZipL ds) Q) sm hV (Po.bind h fun d x F1 H1 e1 q1 h1 => ⟨F1, d, e1.fh, q1, h1⟩))) fun us s1 ⟨xs, H1, I1, r1, F1, ds, sm1, q1, h1⟩ => ?_) hs hpl))
  match ds, q1, h1 with
  | [.tuple da, .tuple db], q1, h1 =>
    obtain ⟨⟨hl, hn⟩, h2⟩ := Po.ifst h1
    cases q1 with
    | cons qa q1 => cases q1 with
      | cons qb q1 =>
        cases q1
        cases qa with
        | tup ea aa => cases qb with
          | tup eb ab =>
            cases r1 with
            | cons ra rr => cases rr with
              | cons rb rr =>
                cases rr
                cases ra
                cases rb
                have hq1 := sqT_same (K := X.K) sm1 ea.sq
                have hq2 := sqT_same (K := X.K) sm1 eb.sq
                obtain ⟨its, rv, p1, _⟩ := I1.tuple hq1
                obtain ⟨its2, rv2, p2, _⟩ := I1.tuple hq2
                obtain ⟨o1, ho1, _⟩ := id p1
                obtain ⟨o2, ho2, _⟩ := id p2
                refine call_zipT p1 p2 fun h' hz hTI hTO g1 g2 hsz hk => ?_
                refine PyProof.Rows.args_nil ?_
                have I2 : Inv X pins σ H1 { s1 with heap := h' } := I1.kept (t' := s1.toks) hk
                refine call_list_zip (I1.ok.hd hc) (zip_apart5 (Heap.lt_size ho1) (Heap.lt_size ho2)) (n := da.length) aa.len (ab.len.trans hl.symm) hn aa ab hq1 hq2 hc I2 sm1 hz hTI hTO g1 g2 (fun b hb => ?_) fun s' F2 H2 S I' Ex hD => ?_
                · have hb' : b = s1.heap.objs.size + 4 ∨ b = s1.heap.objs.size + 2 ∨ b = s1.heap.objs.size + 3 ∨ b = s1.heap.objs.size ∨ b = s1.heap.objs.size + 1 := by simpa using hb
                  have hle : s1.heap.objs.size ≤ b := by
                    rcases hb' with z | z | z | z | z <;> (rw [z]; omega)
                  refine ⟨I1.fpOk hle (I1.hok.fresh hle), ?_⟩
                  show b < h'.objs.size
                  rw [hsz]
                  rcases hb' with z | z | z | z | z <;> (rw [z]; first | exact Nat.lt_add_of_pos_right (by decide) | exact Nat.add_lt_add_left (by decide) _)
                · exact ⟨.ref S, H2, I', rfl, h2.ok Ex hD⟩
end
end DL
/-! part DLs21 -/
namespace DL
open PySem PySem.Spec PyProof.Rows L2
/-! ### sets of tuples of ints -/
def tupsD : List D → Option (List (List Int))
  | [] => some []
  | .tuple xs :: r => match intsD xs, tupsD r with
    | some x, some m => some (x :: m) | _, _ => none
  | _ :: _ => none
def tI (k : List Int) : D := .tuple (k.map .int)
theorem tupsD_inv : ∀ {ds : List D} {ks : List (List Int)}, tupsD ds = some ks → ds = ks.map tI
  | [], ks, h => by
    cases h
    rfl
  | .tuple xs :: r, ks, h => by
    unfold tupsD at h
    cases h1 : intsD xs with
    | none => rw [h1] at h; cases h
    | some x =>
      cases h2 : tupsD r with
      | none => rw [h1, h2] at h; cases h
      | some m =>
        rw [h1, h2] at h
        cases h
        rw [intsD_map h1, tupsD_inv h2]
        rfl
  | .none :: _, _, h => by cases h
  | .int _ :: _, _, h => by cases h
  | .bool _ :: _, _, h => by cases h
  | .str _ :: _, _, h => by cases h
  | .list _ :: _, _, h => by cases h
  | .dict _ :: _, _, h => by cases h
def uniqG (ks : List (List Int)) : List (List Int) := ks.foldl (fun l x => if x ∈ l then l else l ++ [x]) []
theorem foldG_mem (ks : List (List Int)) : ∀ (l : List (List Int)) (y : List Int), y ∈ ks.foldl (fun l x => if x ∈ l then l else l ++ [x]) l ↔ y ∈ l ∨ y ∈ ks := by
  induction ks with
  | nil => intro l y; simp
  | cons k ks ih =>
    intro l y
    rw [List.foldl_cons, ih]
    by_cases h : k ∈ l
    · rw [if_pos h, List.mem_cons]
      constructor
      · rintro (a | a)
        · exact .inl a
        · exact .inr (.inr a)
      · rintro (a | rfl | a)
        · exact .inl a
        · exact .inl h
        · exact .inr a
    · rw [if_neg h, List.mem_append, List.mem_singleton, List.mem_cons, or_assoc]
theorem foldG_nodup (ks : List (List Int)) : ∀ l : List (List Int), l.Nodup → (ks.foldl (fun l x => if x ∈ l then l else l ++ [x]) l).Nodup := by
  induction ks with
  | nil => intro l h; exact h
  | cons k ks ih =>
    intro l h
    rw [List.foldl_cons]
    refine ih _ ?_
    by_cases hk : k ∈ l
    · rw [if_pos hk]; exact h
    · rw [if_neg hk]
      exact List.nodup_append.mpr ⟨h, by simp, fun a ha b hb e => hk (by rw [List.mem_singleton] at hb; rw [← hb, ← e]; exact ha)⟩
theorem uniqG_mem (ks : List (List Int)) (y : List Int) : y ∈ uniqG ks ↔ y ∈ ks := by
  unfold uniqG
  rw [foldG_mem]
  simp
theorem uniqG_nodup (ks : List (List Int)) : (uniqG ks).Nodup := foldG_nodup ks [] List.nodup_nil
theorem nodup_lenG {l m : List (List Int)} (h1 : l.Nodup) (h2 : ∀ x ∈ l, x ∈ m) : l.length ≤ m.length := by
  induction l generalizing m with
  | nil => exact Nat.zero_le _
  | cons a l ih =>
    obtain ⟨na, nl⟩ := List.nodup_cons.mp h1
    have hm : a ∈ m := h2 a List.mem_cons_self
    have := ih (m := m.erase a) nl fun x hx => (List.mem_erase_of_ne fun e => na (by rw [← e]; exact hx)).mpr (h2 x (List.mem_cons_of_mem _ hx))
    rw [List.length_erase_of_mem hm] at this
    have := List.length_pos_of_mem hm
    rw [List.length_cons]
    omega
theorem uniqG_len {ks L : List (List Int)} (hn : L.Nodup) (h1 : ∀ x ∈ L, x ∈ ks) (h2 : ∀ x ∈ ks, x ∈ L) : L.length = (uniqG ks).length :=
  Nat.le_antisymm (nodup_lenG hn fun x hx => (uniqG_mem ks x).mpr (h1 x hx)) (nodup_lenG (uniqG_nodup ks) fun x hx => h2 x ((uniqG_mem ks x).mp hx))
theorem drAll_tups {K : PySem.W.Frag} {F : Hp} : ∀ {ks : List (List Int)} {xs : List V}, DrAll K F xs (ks.map tI) → ∃ ps : List (Addr × List Int), xs = ps.map (fun p => V.ref p.1) ∧ ps.map (·.2) = ks ∧ ∀ p ∈ ps, FzT F p.1 (p.2.map V.int) := by
  intro ks
  induction ks with
  | nil =>
    intro xs h
    cases h
    exact ⟨[], rfl, rfl, fun p hp => by cases hp⟩
  | cons k ks ih =>
    intro xs h
    cases h with
    | cons q a =>
      obtain ⟨ps, e1, e2, e3⟩ := ih a
      cases q with
      | @tup b vs _ hF av =>
        have z := DrAll.of_ints av
        subst z
        exact ⟨(b, k) :: ps, by rw [e1]; rfl, by rw [List.map_cons, e2], fun p hp => by
          rcases List.mem_cons.mp hp with rfl | hp
          · exact hF
          · exact e3 p hp⟩
def dLenSetT : D → Rz D
  | .list ds => (orSt (tupsD ds)).bind fun ks => if ks.length < 64 then .ok (.int (uniqG ks).length) else .st
  | _ => .st
section
variable {X : Cx} {W : WX}
/-- len(set(xs)), xs a list of tuples of ints -/
theorem de_lenSetT {a : Expr} {ga : G} {p p2 q pos : Pos} (hu : X.A.units + 65 < cLine) (hm : X.mg "len" = none) (hm2 : X.mg "set" = none) (ha : DE X W a ga) (hc : X.calm = true := by rfl) (hg : Gl X "len" := by rfl) (hg2 : Gl X "set" := by rfl) (na : starEach [a] X.env = (false, eval a X.env) :: starEach [] X.env := by rfl) :
    DE X W (.Call (.Name "len" p) [.Call (.Name "set" p2) [a] [] q] [] pos) (g1 dLenSetT ga) := by
  obtain ⟨t, pa, ra⟩ := ha
  refine de_of ⟨fun pins s σ H Q I h => ?_⟩
  obtain ⟨F, ρ, sm, hV, h⟩ := h
  refine Call_ (ld_blt I hg hm PySem.boot_len ?_)
  refine PyProof.Rows.callWith_builtin1 (PyProof.Rows.args_cons ?_ rfl) rfl rfl
  refine Call_ (ld_blt I hg2 hm2 boot_set ?_)
  refine PyProof.Rows.callWith_type1 (PyProof.Rows.args_cons (thn (pa.run pins s σ H _ I (ra σ F H ρ (fun x H1 => ∃ (F1 : Hp) (d : D), Same F1 H1 ∧ Dr X.K F1 x d ∧ Po (Dr X.K) X.mg W σ F1 H1 (dLenSetT d) Q) sm hV (Po.bind h fun d x F1 H1 e1 q1 h1 => ⟨F1, d, e1.fh, q1, h1⟩))) fun v s1 ⟨x, H1, I1, r1, F1, d, sm1, q1, h1⟩ => PyProof.Rows.args_nil ?_) na) na rfl
  cases q1 with
  | @lst a1 xs ds e1 a2 =>
    have h1 : Po (Dr X.K) X.mg W σ F1 H1 ((orSt (tupsD ds)).bind fun ks => if ks.length < 64 then .ok (.int (uniqG ks).length) else .st) Q := h1
    obtain ⟨ks, hn, h2⟩ := Po.orSt h1
    clear h1
    have z := tupsD_inv hn
    subst z
    obtain ⟨hl, h3⟩ := Po.ifst h2
    obtain ⟨ps, z, e2, e3⟩ := drAll_tups a2
    subst z
    have lp : ps.length = ks.length := by rw [← e2, List.length_map]
    cases r1
    obtain ⟨its, rv, pl, hz⟩ := I1.list (SqL.of (sm1 _ _ e1))
    refine call_set_tups (P := X.prog) (w := X.w) ps (I1.ok.hd hc) pl.isList (by simpa using refs_of_vals rv) (fun p hp => I1.isT (sqT_same sm1 (e3 p hp).sq)) (by omega) (by omega) fun h' tk L es ep t R g k => ?_
    refine PyProof.Rows.args_nil ?_
    obtain ⟨o, ho, hex, hd⟩ := R.ob
    have I2 : Inv X pins σ H1 { s1 with heap := h', toks := tk } := I1.kept k
    have hsz := SetTR.size (s := { s1 with heap := h', toks := tk }) R
    have few := R.few
    have el : L.length = (uniqG ks).length := by
      have := uniqG_len (ks := ks) R.nd (fun x hx => by
        obtain ⟨p, hp, rfl⟩ := List.mem_map.mp hx
        rw [← e2]
        exact List.mem_map.mpr ⟨p, List.mem_of_mem_take (g.sub p hp), rfl⟩) (fun x hx => by
        rw [← e2] at hx
        obtain ⟨p, hp, rfl⟩ := List.mem_map.mp hx
        exact g.all p (by rw [List.take_length]; exact hp))
      rw [List.length_map] at this
      exact this
    exact call_len_set ho hex hd (SetTR.fits (s := { s1 with heap := h', toks := tk }) R) (by rw [hsz]; omega) ⟨.int (uniqG ks).length, H1, I2.tok _, ⟨_, by rw [hsz, el]⟩, Po.okh h3 sm1 (.int _)⟩
  | _ => exact False.elim h1
end
end DL
/-! part DLs22 -/
namespace DL
open PySem PySem.Spec PyProof.Rows L2
/-! ### l.count(x), l.index(x, a) of data -/
def dLcountD : D → D → Rz D
  | .list ds, d => if SeqAt.shaped d && SeqAt.shaped (.list ds) then .ok (.int (ds.countP fun z => PyData.eqv z d : Nat)) else .st
  | _, _ => .st
def dLindex3 : D → D → D → Rz D
  | .list ds, d, .int a => if SeqAt.shaped d && SeqAt.shaped (.list ds) && decide (0 ≤ a) then (match (ds.drop a.toNat).findIdx? fun z => PyData.eqv z d with
    | some j => .ok (.int (a.toNat + j : Nat)) | none => .st) else .st
  | _, _, _ => .st
def gM2 (k : D → Bool) (op : D → D → D → Rz D) (a b c : G) : G := fun ρ => (a ρ).bind fun x => if k x = true then (b ρ).bind fun y => (c ρ).bind fun z => op x y z else .st
section
variable {X : Cx} {W : WX}
def rCountD (K : PySem.W.Frag) : V → List V → Hp → VK → Prop := fun x xs H Q => ∃ (a : Addr) (y : V) (d : PyData) (ds : List PyData), x = V.ref a ∧ xs = [y] ∧ Dp K H (V.ref a) (.list ds) ∧ Dp K H y d ∧
  SeqAt.shaped (.list ds) = true ∧ SeqAt.shaped d = true ∧ Q (.int (ds.countP fun z => PyData.eqv z d : Nat)) H
theorem mt_countD (hu : X.A.units + 65 < cLine) : MtR X "list.count" (rCountD X.K) := by
  intro pins s σ H x xs v us Q I rx rxs h
  obtain ⟨a, y, d, ds, rfl, rfl, hl, hy, sl, sd, q⟩ := h
  cases rx
  obtain ⟨uy, rfl, ry⟩ := rxs.one
  obtain ⟨bs, r1⟩ := Dp.reads I d y uy hy ry
  have hxs : PyData.canLayAll0 ds = true := SeqAt.canLay_of_shaped sl
  have hroom : X.A.units + 1 + min (PyData.depthAll ds) d.depth < cLine := room_in_shaped sd hu
  cases hl with
  | lst hs ha =>
    obtain ⟨its, rv, ⟨⟨cls, dd, data, sls⟩, n, ho, hc, hdn, hdt⟩, hlen⟩ := I.list hs
    simp only at hc hdt
    subst hc hdt
    obtain ⟨as, h4⟩ := Dp.readsAll I ds _ its ha rv
    have hmap : its.map (SeqAt.readOf s.heap) = ds := SeqAt.readsAll_map ds its as hxs h4
    refine call_meets PySem.F.slot_list_count ⟨_, ho, rfl⟩ PySem.F.entry_list_count (PySem.F.args_list_count_2 _ _)
      (SeqAt.list_countAt a its.toArray n dd sls uy (fun u => PyData.eqv (SeqAt.readOf s.heap u) d)) ⟨ho, SeqAt.items_eqAt (vs := its.toArray) (show ReadsAll s.heap its.toArray.toList ds as from h4) r1 hxs (SeqAt.canLay_of_shaped sd) hroom, ?_⟩
    have ec : its.toArray.toList.countP (fun u => PyData.eqv (SeqAt.readOf s.heap u) d) = ds.countP fun z => PyData.eqv z d := by
      rw [← hmap, List.countP_map]
      rfl
    refine ⟨.int (ds.countP fun z => PyData.eqv z d : Nat), H, I.tok _, ⟨s.toks, ?_⟩, q⟩
    show Value.int ((its.toArray.toList.countP (fun u => PyData.eqv (SeqAt.readOf s.heap u) d) : Nat) : Int) s.toks = Value.int ((ds.countP fun z => PyData.eqv z d : Nat) : Int) s.toks
    rw [ec]
def rIndex3 (K : PySem.W.Frag) : V → List V → Hp → VK → Prop := fun x xs H Q => ∃ (a : Addr) (y : V) (d : PyData) (ds : List PyData) (b j : Nat) (z : PyData), x = V.ref a ∧ xs = [y, .int (b : Int)] ∧ Dp K H (V.ref a) (.list ds) ∧ Dp K H y d ∧
  SeqAt.shaped (.list ds) = true ∧ SeqAt.shaped d = true ∧ b ≤ j ∧ ds[j]? = some z ∧ PyData.eqv z d = true ∧ (∀ (m : Nat) (z' : PyData), b ≤ m → m < j → ds[m]? = some z' → PyData.eqv z' d = false) ∧ Q (.int (j : Nat)) H
theorem mt_index3 (hu : X.A.units + 65 < cLine) : MtR X "list.index" (rIndex3 X.K) := by
  intro pins s σ H x xs v us Q I rx rxs h
  obtain ⟨a, y, d, ds, b, j, z, rfl, rfl, hl, hy, sl, sd, hbj, hz, hzj, hno, q⟩ := h
  cases rx
  cases rxs with
  | cons ry rt => cases rt with
    | cons rb rt =>
      rename_i uy ub ut
      cases rt
      obtain ⟨t, rfl⟩ := rb
      obtain ⟨bs, r1⟩ := Dp.reads I d y uy hy ry
      have hxs : PyData.canLayAll0 ds = true := SeqAt.canLay_of_shaped sl
      have hroom : X.A.units + 1 + min (PyData.depthAll ds) d.depth < cLine := room_in_shaped sd hu
      cases hl with
      | lst hs ha =>
        obtain ⟨its, rv, ⟨⟨cls, dd, data, sls⟩, n, ho, hc, hdn, hdt⟩, hlen⟩ := I.list hs
        simp only at hc hdt
        subst hc hdt
        obtain ⟨as, h4⟩ := Dp.readsAll I ds _ its ha rv
        have hn : its.length = ds.length := SeqAt.ReadsAll.length ds its as h4
        have hmap : its.map (SeqAt.readOf s.heap) = ds := SeqAt.readsAll_map ds its as hxs h4
        have hvl := rv.length
        have hsl := sizeLine_eq
        obtain ⟨hjd, _⟩ := List.getElem?_eq_some_iff.mp hz
        have hj : j < its.toArray.size := by simpa using (by omega : j < its.length)
        have at_ : ∀ (m : Nat) (hm : m < its.toArray.size) (z' : PyData), ds[m]? = some z' → SeqAt.readOf s.heap its.toArray[m] = z' := by
          intro m hm z' hz'
          have hml : m < its.length := by simpa using hm
          rw [← hmap, List.getElem?_map, List.getElem?_eq_getElem hml] at hz'
          have e1 : SeqAt.readOf s.heap its[m] = z' := Option.some.inj (show some (SeqAt.readOf s.heap its[m]) = some z' from hz')
          simpa using e1
        have sf : SeqAt.searchFrom (b : Int) its.toArray.size = b := SeqAt.searchFrom_nat b _
        have EQ := SeqAt.items_eqAt (A := X.A) (vs := its.toArray) (show ReadsAll s.heap its.toArray.toList ds as from h4) r1 hxs (SeqAt.canLay_of_shaped sd) hroom
        refine call_meets PySem.F.slot_list_index ⟨_, ho, rfl⟩ PySem.F.entry_list_index (PySem.F.args_list_index_3 _ _ _)
          (SeqAt.list_index3_found a its.toArray n dd sls uy (fun m => PyData.eqv (SeqAt.readOf s.heap (its.toArray.getD m .none)) d) (b : Int) t j hj (by rw [sf]; exact hbj) (by omega) ?_ ?_) ⟨ho, fun m hm => ?_, ?_⟩
        · show PyData.eqv (SeqAt.readOf s.heap (its.toArray.getD j .none)) d = true
          rw [Array.getD_eq_getD_getElem?, Array.getElem?_eq_getElem hj, Option.getD_some, at_ j hj z hz]
          exact hzj
        · intro m hm h1 h2
          rw [sf] at h1
          have hml : m < its.length := by simpa using hm
          have hz' : ds[m]? = some (ds[m]'(by omega)) := List.getElem?_eq_getElem _
          show PyData.eqv (SeqAt.readOf s.heap (its.toArray.getD m .none)) d = false
          rw [Array.getD_eq_getD_getElem?, Array.getElem?_eq_getElem hm, Option.getD_some, at_ m hm _ hz']
          exact hno m _ h1 h2 hz'
        · have e := EQ its.toArray[m] (Array.getElem_mem hm)
          have hv : its.toArray.getD m Value.none = its.toArray[m] := by rw [Array.getD_eq_getD_getElem?, Array.getElem?_eq_getElem hm, Option.getD_some]
          simp only [hv]
          exact e
        · exact ⟨.int (j : Nat), H, I.tok _, ⟨_, rfl⟩, q⟩

theorem de_m_lcountD {o e : Expr} {go ge : G} {apos pos : Pos} (hu : X.A.units + 65 < cLine) (ho : DE X W o go) (he : DE X W e ge) (hbase : attributeBase o "count" X.env (eval o X.env) = eval o X.env := by rfl)
    (hfew : ((backTo pos (starEach [e] X.env)).all (fun x => !x.1) && (backToKw pos (keywordEach [] X.env)).all (fun x => x.1.isSome) && decide (([e] : List Expr).length + ([] : List Keyword).length + (if ([] : List Keyword).isEmpty then 0 else 1) < 30)) = true := by rfl)
    (hline : (apos.endLine == pos.line) = true := by rfl) (hs : starEach [e] X.env = (false, eval e X.env) :: starEach [] X.env := by rfl) (hplain : (backTo pos (starEach [] X.env)).any (·.1) = false := by rfl) :
    DE X W (.Call (.Attribute o "count" apos) [e] [] pos) (gM isLstD dLcountD go ge) := by
  obtain ⟨to, po, ro⟩ := ho
  obtain ⟨te, pe, re⟩ := he
  refine ⟨_, pe_bm PySem.F.plainAttrs_list PySem.F.slot_list_count PySem.F.type_list_count (mt_countD hu) po (pa_cons pe pa_nil hs) hbase hfew hline hs hplain, fun σ F H ρ Q s hV h => ?_⟩
  refine ro σ F H ρ _ s hV (Po.bind h fun d x F1 H1 e1 q1 h1 => ?_)
  have h1 : Po (Dr X.K) X.mg W σ F1 H1 (if isLstD d = true then (ge ρ).bind fun y => dLcountD d y else .st) Q := h1
  obtain ⟨hd, h1⟩ := Po.ifst h1
  obtain ⟨ds, rfl⟩ := isLstD_eq hd
  cases q1 with
  | @lst a xs _ ea da =>
    refine ⟨.inl ⟨rfl, xs, SqL.of (e1.fh _ _ ea)⟩, re σ F1 H1 ρ _ e1.fh (hV.same e1.ff) (Po.bind h1 fun d2 y F2 H2 e2 q2 h2 => ?_)⟩
    have h2 : Po (Dr X.K) X.mg W σ F2 H2 (if (SeqAt.shaped d2 && SeqAt.shaped (.list ds)) = true then .ok (.int (ds.countP fun z => PyData.eqv z d2 : Nat)) else .st) Q := h2
    obtain ⟨hc, h3⟩ := Po.ifst h2
    obtain ⟨c1, c2⟩ := Bool.and_eq_true_iff.mp hc
    have l1 := (Dr.lst (e2.ff _ _ ea) (da.same e2.ff) : Dr X.K F2 (.ref a) (.list ds))
    exact ⟨a, y, d2, ds, rfl, rfl, (l1.same e2.fh).dp (SeqAt.canLay_of_shaped c2), (q2.same e2.fh).dp (SeqAt.canLay_of_shaped c1), c2, c1, Po.okh h3 e2.fh (.int _)⟩
theorem de_m_lindex3 {o e f : Expr} {go ge gf : G} {apos pos : Pos} (hu : X.A.units + 65 < cLine) (ho : DE X W o go) (he : DE X W e ge) (hf : DE X W f gf) (hbase : attributeBase o "index" X.env (eval o X.env) = eval o X.env := by rfl)
    (hfew : ((backTo pos (starEach [e, f] X.env)).all (fun x => !x.1) && (backToKw pos (keywordEach [] X.env)).all (fun x => x.1.isSome) && decide (([e, f] : List Expr).length + ([] : List Keyword).length + (if ([] : List Keyword).isEmpty then 0 else 1) < 30)) = true := by rfl)
    (hline : (apos.endLine == pos.line) = true := by rfl) (hs : starEach [e, f] X.env = (false, eval e X.env) :: starEach [f] X.env := by rfl) (hs2 : starEach [f] X.env = (false, eval f X.env) :: starEach [] X.env := by rfl) (hplain : (backTo pos (starEach [f] X.env)).any (·.1) = false := by rfl) :
    DE X W (.Call (.Attribute o "index" apos) [e, f] [] pos) (gM2 isLstD dLindex3 go ge gf) := by
  obtain ⟨to, po, ro⟩ := ho
  obtain ⟨te, pe, re⟩ := he
  obtain ⟨tf, pf, rf⟩ := hf
  refine ⟨_, pe_bm PySem.F.plainAttrs_list PySem.F.slot_list_index PySem.F.type_list_index (mt_index3 hu) po (pa_cons pe (pa_cons pf pa_nil hs2) hs) hbase hfew hline hs hplain, fun σ F H ρ Q s hV h => ?_⟩
  refine ro σ F H ρ _ s hV (Po.bind h fun d x F1 H1 e1 q1 h1 => ?_)
  have h1 : Po (Dr X.K) X.mg W σ F1 H1 (if isLstD d = true then (ge ρ).bind fun y => (gf ρ).bind fun z => dLindex3 d y z else .st) Q := h1
  obtain ⟨hd, h1⟩ := Po.ifst h1
  obtain ⟨ds, rfl⟩ := isLstD_eq hd
  cases q1 with
  | @lst a xs _ ea da =>
    refine ⟨.inl ⟨rfl, xs, SqL.of (e1.fh _ _ ea)⟩, re σ F1 H1 ρ _ e1.fh (hV.same e1.ff) (Po.bind h1 fun d2 y F2 H2 e2 q2 h2 => ?_)⟩
    refine rf σ F2 H2 ρ _ e2.fh ((hV.same e1.ff).same e2.ff) (Po.bind h2 fun d3 y3 F3 H3 e3 q3 h3 => ?_)
    cases q3 with
    | int b =>
      have h3 : Po (Dr X.K) X.mg W σ F3 H3 (if (SeqAt.shaped d2 && SeqAt.shaped (.list ds) && decide (0 ≤ b)) = true then (match (ds.drop b.toNat).findIdx? fun z => PyData.eqv z d2 with
        | some j => .ok (.int (b.toNat + j : Nat)) | none => .st) else .st) Q := h3
      obtain ⟨hc, h4⟩ := Po.ifst h3
      obtain ⟨hc, c3⟩ := Bool.and_eq_true_iff.mp hc
      obtain ⟨c1, c2⟩ := Bool.and_eq_true_iff.mp hc
      have c3 := of_decide_eq_true c3
      obtain ⟨b, rfl⟩ : ∃ n : Nat, b = (n : Int) := ⟨b.toNat, by omega⟩
      rw [Int.toNat_natCast] at h4
      cases hf : (ds.drop b).findIdx? (fun z => PyData.eqv z d2) with
      | none =>
        rw [hf] at h4
        exact h4.elim
      | some j =>
        rw [hf] at h4
        obtain ⟨hj, hz, hno⟩ := List.findIdx?_eq_some_iff_getElem.mp hf
        rw [List.getElem_drop] at hz
        rw [List.length_drop] at hj
        have l1 := (Dr.lst (e3.ff _ _ (e2.ff _ _ ea)) ((da.same e2.ff).same e3.ff) : Dr X.K F3 (.ref a) (.list ds))
        exact ⟨a, y, d2, ds, b, b + j, ds[b + j]'(by omega), rfl, rfl, (l1.same e3.fh).dp (SeqAt.canLay_of_shaped c2), ((q2.same e3.ff).same e3.fh).dp (SeqAt.canLay_of_shaped c1), c2, c1, Nat.le_add_right _ _, List.getElem?_eq_getElem _, hz, (fun m z' hb hm hz' => by
          have hml : m < ds.length := by omega
          rw [List.getElem?_eq_getElem hml] at hz'
          cases hz'
          have := hno (m - b) (by omega)
          rw [List.getElem_drop] at this
          have e : b + (m - b) = m := by omega
          simpa [e] using this), Po.okh h4 e3.fh (.int _)⟩
    | _ => exact False.elim h3
end
end DL
/-! part DLs23 -/
namespace DL
open PySem PySem.Spec PyProof.Rows L2
/-! ### sorted(set(xs)), xs a list of pairs -/
def pairOk : List Int → Bool
  | [x, y] => decide (0 ≤ x) && decide (x < 64) && decide (0 ≤ y) && decide (y < 64)
  | _ => false
def srtP (l : List (List Int)) : List (List Int) := l.mergeSort fun a b => decide (TS.code 64 a ≤ TS.code 64 b)
def dSortSetT : D → Rz D
  | .list ds => (orSt (tupsD ds)).bind fun ks => if ks.length < 64 ∧ ks.all pairOk = true then .ok (.list ((srtP (uniqG ks)).map tI)) else .st
  | _ => .st
theorem pairOk_inv {k : List Int} (h : pairOk k = true) : ∃ x y, k = [x, y] ∧ (0 ≤ x ∧ x < 64) ∧ (0 ≤ y ∧ y < 64) := by
  match k, h with
  | [x, y], h =>
    simp only [pairOk, Bool.and_eq_true, decide_eq_true_eq] at h
    exact ⟨x, y, rfl, ⟨h.1.1.1, h.1.1.2⟩, ⟨h.1.2, h.2⟩⟩
theorem code_inj {a b : List Int} (ha : pairOk a = true) (hb : pairOk b = true) (h1 : TS.code 64 a ≤ TS.code 64 b) (h2 : TS.code 64 b ≤ TS.code 64 a) : a = b := by
  obtain ⟨x, y, rfl, hx, hy⟩ := pairOk_inv ha
  obtain ⟨u, v, rfl, hu, hv⟩ := pairOk_inv hb
  rw [code_pair, code_pair] at h1 h2
  have e : x = u := by omega
  have f : y = v := by omega
  rw [e, f]
theorem srtP_pw (l : List (List Int)) : (srtP l).Pairwise fun a b => TS.code 64 a ≤ TS.code 64 b := by
  have := List.pairwise_mergeSort (le := fun a b => decide (TS.code 64 a ≤ TS.code 64 b)) (fun a b c h1 h2 => by
    rw [decide_eq_true_eq] at h1 h2 ⊢
    omega) (fun a b => by
    rw [Bool.or_eq_true, decide_eq_true_eq, decide_eq_true_eq]
    omega) l
  exact this.imp fun h => of_decide_eq_true h
theorem drAll_refs {K : PySem.W.Frag} {F : Hp} : ∀ {L : List (Addr × List Int)}, (∀ p ∈ L, FzT F p.1 (p.2.map V.int)) → DrAll K F (L.map fun p => V.ref p.1) ((L.map (·.2)).map tI)
  | [], _ => .nil
  | p :: L, h => .cons (.tup (h p List.mem_cons_self) (DrAll.intsA p.2)) (drAll_refs fun q hq => h q (List.mem_cons_of_mem _ hq))
section
variable {X : Cx} {W : WX}
theorem de_sortSet {a : Expr} {ga : G} {p p2 q pos : Pos} (hu : X.A.units + 65 < cLine) (hm : X.mg "sorted" = none) (hm2 : X.mg "set" = none) (ha : DE X W a ga) (hc : X.calm = true := by rfl) (hg : Gl X "sorted" := by rfl) (hg2 : Gl X "set" := by rfl)
    (na : starEach [a] X.env = (false, eval a X.env) :: starEach [] X.env := by rfl) (nb : starEach [.Call (.Name "set" p2) [a] [] q] X.env = (false, eval (.Call (.Name "set" p2) [a] [] q) X.env) :: starEach [] X.env := by rfl)
    (hpl : (backTo q (starEach [] X.env)).any (·.1) = false := by rfl) (hpl2 : (backTo pos (starEach [] X.env)).any (·.1) = false := by rfl) :
    DE X W (.Call (.Name "sorted" p) [.Call (.Name "set" p2) [a] [] q] [] pos) (g1 dSortSetT ga) := by
  obtain ⟨t, pa, ra⟩ := ha
  refine ⟨_, pe_callB (cr_sortedT hc) hg hm boot_sorted (pa_cons (pe_callTy (cr_setOfT hc (by omega)) hg2 hm2 boot_set (pa_cons pa pa_nil na) (by decide) (by decide) na hpl) pa_nil nb) (by decide) (by decide) nb hpl2, fun σ F H ρ Q s hV h => ?_⟩
  refine ra σ F H ρ _ s hV (Po.bind h fun d x F1 H1 e1 q1 h1 => ?_)
  have sm1 := e1.fh
  cases q1 with
  | @lst a1 xs ds ea a2 =>
    have h1 : Po (Dr X.K) X.mg W σ F1 H1 ((orSt (tupsD ds)).bind fun ks => if ks.length < 64 ∧ ks.all pairOk = true then .ok (.list ((srtP (uniqG ks)).map tI)) else .st) Q := h1
    obtain ⟨ks, hn, h2⟩ := Po.orSt h1
    clear h1
    have z := tupsD_inv hn
    subst z
    obtain ⟨⟨hl, hok⟩, h3⟩ := Po.ifst h2
    obtain ⟨ps, z, e2, e3⟩ := drAll_tups a2
    subst z
    have lp : ps.length = ks.length := by rw [← e2, List.length_map]
    have okp : ∀ p ∈ ps, pairOk p.2 = true := fun p hp => List.all_eq_true.mp hok _ (by rw [← e2]; exact List.mem_map.mpr ⟨p, hp, rfl⟩)
    refine ⟨a1, ps, rfl, SqL.of (sm1 _ _ ea), fun p hp => sqT_same sm1 (e3 p hp).sq, by omega, fun b L hb hsub hall => ?_⟩
    refine ⟨b, L, 2, 64, rfl, upd_same, fun p hp => sqT_same (sm1.trans (same_upd hb)) (e3 p (hsub p hp)).sq, by decide, fun p hp => ?_, fun L' c pm nd' few' pw hcn => ?_⟩
    · obtain ⟨x, y, e, hx, hy⟩ := pairOk_inv (okp p (hsub p hp))
      rw [e]
      refine ⟨rfl, fun z hz => ?_⟩
      rcases List.mem_cons.mp hz with rfl | hz
      · exact hx
      · rw [List.mem_singleton.mp hz]; exact hy
    · have sub' : ∀ p ∈ L', p ∈ ps := fun p hp => hsub p (pm.mem_iff.mp hp)
      have E1 : Ext F1 H1 (upd F1 b (SetTO X.prog X.w b L)) (upd H1 b (SetTO X.prog X.w b L)) := Ext.new sm1 hb
      have E2 := E1.trans (Ext.new (o := .lst (L'.map fun q => V.ref q.1)) E1.fh hcn)
      have em : L'.map (·.2) = srtP (uniqG ks) := by
        refine List.Perm.eq_of_pairwise (le := fun a b => TS.code 64 a ≤ TS.code 64 b) (fun a b ha hb h1 h2 => ?_) (List.pairwise_map.mpr pw) (srtP_pw _) ?_
        · obtain ⟨p, hp, rfl⟩ := List.mem_map.mp ha
          have hb : b ∈ ks := (uniqG_mem ks b).mp ((List.mergeSort_perm _ _).mem_iff.mp hb)
          exact code_inj (okp p (sub' p hp)) (List.all_eq_true.mp hok _ hb) h1 h2
        · refine List.Perm.trans ?_ (List.mergeSort_perm _ _).symm
          refine (List.perm_ext_iff_of_nodup nd' (uniqG_nodup ks)).mpr fun k => ?_
          rw [uniqG_mem, ← e2]
          constructor
          · intro hk
            obtain ⟨p, hp, rfl⟩ := List.mem_map.mp hk
            exact List.mem_map.mpr ⟨p, sub' p hp, rfl⟩
          · intro hk
            obtain ⟨p, hp, rfl⟩ := List.mem_map.mp hk
            exact (pm.map (·.2)).mem_iff.mpr (hall p hp)
      refine Po.ok h3 E2 (.lst upd_same ?_)
      rw [← em]
      exact drAll_refs fun p hp => fz_same E2.ff (e3 p (sub' p hp))
  | _ => exact False.elim h1
end
end DL
/-! part DLs24 -/
namespace DL
open PySem PySem.Spec PyProof.Rows L2
def dDivmod : List D → Rz D
  | [.int i, .int j] => if 0 ≤ i ∧ i ≤ 1000000 ∧ 0 < j ∧ j ≤ 1000000 then .ok (.tuple [.int (i / j), .int (i % j)]) else .st
  | _ => .st
section
variable {X : Cx} {W : WX}
theorem call_divmodF : CallR X (.builtin "divmod") (fun xs H Q => ∃ i j, xs = [.int i, .int j] ∧ (0 ≤ i ∧ i ≤ 1000000 ∧ 0 < j ∧ j ≤ 1000000) ∧ NewT [.int (i / j), .int (i % j)] H Q) := by
  intro pins s σ H xs us Q I r h
  obtain ⟨i, j, rfl, ⟨h0, h1, h2, h3⟩, q⟩ := h
  obtain ⟨u, w', rfl, ⟨t, rfl⟩, ⟨t', rfl⟩⟩ := vals2 r
  refine divmod_int (by omega) ?_ (.inl (PyProof.noPylong_small (by omega)))
  rw [Int.fdiv_eq_ediv_of_nonneg i (by omega), Int.fmod_eq_emod_of_nonneg i (by omega)]
  exact laidT (s := s) (h' := s.heap) (xs := [.int (i / j), .int (i % j)]) (I.tok _) (.cons ⟨_, rfl⟩ (.cons ⟨_, rfl⟩ .nil)) (by show 2 ≤ sizeLine; decide) q
theorem cd_divmod : CaD X W (.builtin "divmod") dDivmod := by
  refine ⟨_, call_divmodF, fun σ F H xs ds Q s q h => ?_⟩
  match ds, q, h with
  | [.int i, .int j], q, h =>
    obtain ⟨hc, h2⟩ := Po.ifst h
    cases q with
    | cons q1 q => cases q with
      | cons q2 q =>
        cases q
        cases q1
        cases q2
        exact ⟨i, j, rfl, hc, fun p o hp hd => Po.ok h2 (Ext.new s hp) (.tup (.at hd) (.cons (.int _) (.cons (.int _) .nil)))⟩
end
end DL
/-! part DLs25 -/
namespace DL
open PySem PySem.Spec PyProof.Rows L2
section
variable {prog : Program} {w : World} {A : Around} {E : Value → Shared → Prop} {s : Shared} {T : String} {r d : Addr} {n : Nat} {P : Nat → Value → Prop} {OK : Heap → Prop}
/-- the keys of a dict, in a list -/
theorem collect_kdl {R : List Value → Shared → Prop} (K : PySem.W.KdlSrc prog w T r d n P OK) (hh : A.handled = none) (hok : OK s.heap) (hn : n ≤ sizeLine)
    (h : ∀ (h' : Heap) (tk : Nat) (acc : Array Value), (∀ b o, s.heap.get? b = some o → h'.get? b = some o) → s.heap.objs.size < h'.objs.size → ItemsOf P acc n → R acc.toList { s with heap := h', toks := tk }) :
    wpAny (model prog w) A (collect (.ref r)) R E s := by
  have hr := (K.there _ hok).1
  have hd := (K.there _ hok).2
  unfold collect
  refine wpAny_bind (wpAny_runValue (codeAny_builtin PySem.F.entry_proto_collect ?_))
  rw [Around.under_plainId PySem.F.plain_proto_collect _]
  show wpAny _ A.in1 (newList [] >>= fun l => again (.builtin "list.__iadd__" ⟨[l, .ref r], []⟩)) _ _ s
  refine wpAny_bind (wpAny_newObj_type ?_)
  refine wpAny_pure ⟨plainId_quiet PySem.F.plain_list_iadd _, codeAny_builtin PySem.F.entry_list_iadd ?_⟩
  rw [Around.under_plainId PySem.F.plain_list_iadd _]
  have hS₁ : (s.heap.push { cls := .type "list", data := .seq ([] : List Value).toArray }).get? s.heap.objs.size = some { cls := .type "list", data := .seq #[] } := Heap.get?_push_size _ rfl
  show wpAny _ A.in1 (Builtin.List.listExtendWith (.ref s.heap.objs.size) (.ref r) (.ref s.heap.objs.size)) _ _ _
  have key := PySem.W.kdl_extend (prog := prog) (w := w) (A := A) (s := { s with heap := s.heap.push { cls := .type "list", data := .seq ([] : List Value).toArray } })
    (R := fun (q : Result) (s' : Shared) => ∃ (h' : Heap) (tk : Nat) (acc' : Array Value) (c' : Nat), q = .ok (.ret (.ref s.heap.objs.size)) ∧ s' = { s with heap := h', toks := tk } ∧
      (∀ b o, s.heap.get? b = some o → h'.get? b = some o) ∧ h'.get? s.heap.objs.size = some { cls := .type "list", dict := none, data := .seq acc' c', slots := #[] } ∧ ItemsOf P acc' n)
    K hh (K.keep _ _ hok fun b _ o e => Heap.get?_push_of_some _ e) s.heap.objs.size (Nat.ne_of_gt hr) (Nat.ne_of_gt hd) (.ref s.heap.objs.size) 0 hS₁
    (fun h' tk acc' c' hk hS' hacc => ⟨h', tk, acc', c', rfl, rfl, fun b o e => hk b o (Nat.ne_of_lt (Heap.lt_size e)) (Heap.get?_push_of_some _ e), hS', hacc⟩) hn
  refine wpAny_mono key (fun fin s' x => ?_) fun e s' x => ?_
  · cases fin with
    | done f =>
      obtain ⟨h', tk, acc', c', e, rfl, hk, hS', hacc⟩ := x
      cases e
      show wpAny _ A (load s.heap.objs.size >>= _) _ _ _
      refine wpAny_bind (wpAny_load hS' ?_)
      exact wpAny_pure (h h' tk acc' hk (Heap.lt_size hS') hacc)
    | again c₁ =>
      refine ⟨x.1, codeAny_mono x.2 fun q s₂ y => ?_⟩
      obtain ⟨h', tk, acc', c', rfl, rfl, hk, hS', hacc⟩ := y
      show wpAny _ A (load s.heap.objs.size >>= _) _ _ _
      refine wpAny_bind (wpAny_load hS' ?_)
      exact wpAny_pure (h h' tk acc' hk (Heap.lt_size hS') hacc)
  · obtain ⟨_, _, _, _, e', _⟩ := x
    cases e'
end

theorem perm_map_ex {α β : Type} [DecidableEq α] {f : α → β} : ∀ {l : List β} {L : List α}, l.Perm (L.map f) → ∃ L' : List α, L'.Perm L ∧ l = L'.map f
  | [], L, h => by
    have := h.length_eq
    rw [List.length_map] at this
    cases L with
    | nil => exact ⟨[], .refl _, rfl⟩
    | cons a b => cases this
  | v :: l, L, h => by
    obtain ⟨x, hx, e⟩ := List.mem_map.mp (h.mem_iff.mp List.mem_cons_self)
    subst e
    have p := List.perm_cons_erase hx
    obtain ⟨L', q, e⟩ := perm_map_ex (List.Perm.cons_inv (h.trans (p.map f)))
    exact ⟨x :: L', (q.cons x).trans p.symm, by rw [e]; rfl⟩
section
variable {X : Cx}
def rSortDT : List V → Hp → VK → Prop := fun vs H Q => ∃ (a : Addr) (kvs : List (List L2.Key × V)) (ns : List (List Int)) (d : Nat) (B : Int), vs = [V.ref a] ∧ H a = some (.dT kvs) ∧ kvs.map (·.1) = ns.map (fun k => k.map Sum.inl) ∧ kvs.length < 64 ∧ 1 ≤ d ∧ (∀ k ∈ ns, k.length = d ∧ TS.Bd B k) ∧
  ∀ (L' : List (Addr × List Int)) (p : Addr), (L'.map (·.2)).Perm ns → L'.Pairwise (fun q r => TS.code B q.2 ≤ TS.code B r.2) → (∀ q ∈ L', H q.1 = some (.tup (q.2.map V.int))) → H p = none → Q (.ref p) (upd H p (.lst (L'.map fun q => V.ref q.1)))
theorem paired_L {H : Hp} : ∀ {kvs : List (List L2.Key × V)} {xs : List (List L2.Key × Addr × Value)} {ns : List (List Int)}, Paired (fun (p : List L2.Key × V) (q : List L2.Key × Addr × Value) => p.1 = q.1 ∧ H q.2.1 = some (.tup (p.1.map kV)) ∧ RelV p.2 q.2.2) kvs xs → kvs.map (·.1) = ns.map (fun k => k.map Sum.inl) →
    ∃ L : List (Addr × List Int), L.map (·.2) = ns ∧ xs.map (fun x => x.2.1) = L.map (·.1) ∧ ∀ q ∈ L, H q.1 = some (.tup (q.2.map V.int))
  | [], _, ns, .nil, e => by
    cases ns with
    | nil => exact ⟨[], rfl, rfl, fun q hq => by cases hq⟩
    | cons _ _ => cases e
  | p :: kvs, x :: xs, ns, .cons h t, e => by
    cases ns with
    | nil => cases e
    | cons k ns =>
      injection e with e1 e2
      obtain ⟨L, a, b, c⟩ := paired_L t e2
      refine ⟨(x.2.1, k) :: L, by rw [List.map_cons, a], by rw [List.map_cons, b]; rfl, fun q hq => ?_⟩
      rcases List.mem_cons.mp hq with rfl | hq
      · have := h.2.1
        rw [show p.fst = k.map Sum.inl from e1, List.map_map] at this
        exact this
      · exact c q hq
theorem cr_sortDT (hc : X.calm = true) : CallR X (.builtin "sorted") rSortDT := by
  intro pins s σ H vs us Q I r h
  obtain ⟨a, kvs, ns, d, B, rfl, ha, hk, hf, hd, hB, q⟩ := h
  rw [Vals.ref1 r]
  obtain ⟨z, hs, ks, pr, o, es, ep, ho, hx, hdt, he, hn⟩ := (show ObjOk X.prog X.w H s.heap a (.dT kvs) from I.hok a _ ha)
  have l1 : es.size = ks.length := size_of_entries he
  have l2 : kvs.length = ks.length := Paired.length pr
  obtain ⟨L, eL, eA, hL⟩ := paired_L pr hk
  refine Calls.call_function_entry kind_sorted plain_sorted entry_sorted (args_sorted1 _) ?_
  unfold Builtin.«sorted»
  refine wpAny_bind (m := checkCount "sorted" 1 1 _) (wpAny_pure ?_)
  refine wpAny_bind (collect_kdl (A := X.A.in1) (kdl_raw hs hx hdt) (I.ok.hd hc) ho (by omega) fun h' tk acc kp hlt0 it => ?_)
  have ea : acc.toList = L.map fun x => Value.ref x.1 := by
    have hl : acc.toList.length = ks.length := by rw [Array.length_toList, it.1]; exact l1
    have e1 : acc.toList = ks.map fun x => Value.ref x.2.1 := by
      apply List.ext_getElem?
      intro j
      rw [List.getElem?_map]
      cases hj : acc.toList[j]? with
      | none =>
        have h1 := List.getElem?_eq_none_iff.mp hj
        rw [List.getElem?_eq_none (by omega)]
        rfl
      | some v =>
        obtain ⟨en, hen, hv⟩ := it.2 j v (by rw [← Array.getElem?_toList]; exact hj)
        have qe := entry_at he j
        rw [hen] at qe
        cases hb : ks[j]? with
        | none =>
          rw [hb] at qe
          cases qe
        | some b =>
          rw [hb] at qe
          have e2 : en = entryOfKey (tupleKind (mixKind X.prog X.w)) b := Option.some.inj qe
          rw [hv, e2]
          rfl
    rw [e1]
    have := congrArg (List.map Value.ref) eA
    rw [List.map_map, List.map_map] at this
    exact this
  rw [ea]
  have lL : L.length = kvs.length := by
    have e1 := congrArg List.length eL
    have e2 := congrArg List.length hk
    rw [List.length_map] at e1 e2
    rw [List.length_map] at e2
    omega
  refine wpAny_bind (wpAny_newList ?_ (by rw [List.length_map, sizeLine_eq]; omega))
  generalize hvs : L.map (fun x => Value.ref x.1) = vs
  have hvl : vs.length < 64 := by rw [← hvs, List.length_map]; omega
  have hoL : (h'.push (seqObj "list" vs.toArray 0)).get? h'.objs.size = some (seqObj "list" vs.toArray 0) := Heap.get?_push_size _ rfl
  have I1 : Inv X pins σ H { s with heap := h'.push (seqObj "list" vs.toArray 0), toks := tk } := I.kept fun b u e => Heap.get?_push_of_some _ (kp b u e)
  have tkk : ∀ q ∈ L, TS.TupInts (h'.push (seqObj "list" vs.toArray 0)) (.ref q.1) q.2 := fun q hq => tupI_raw (s := { s with heap := h'.push (seqObj "list" vs.toArray 0), toks := tk }) I1 (.inl (.inl (hL q hq)))
  have x : TS.TupsOk (h'.push (seqObj "list" vs.toArray 0)) d B vs := fun v hv => by
    rw [← hvs] at hv
    obtain ⟨q, hq, e⟩ := List.mem_map.mp hv
    rw [← e]
    have := hB q.2 (by rw [← eL]; exact List.mem_map.mpr ⟨q, hq, rfl⟩)
    exact ⟨q.2, tkk q hq, this.1, this.2⟩
  refine wpAny_bind (wpAny_holding (TS.call_sort_tups (s := { s with heap := h'.push (seqObj "list" vs.toArray 0), toks := tk }) hoL hvl hd x fun out a1 a2 => ?_))
  obtain ⟨c, hc2⟩ := sortedHeap_at (vs := vs) (out := out) hoL
  rw [← hvs] at a1
  obtain ⟨L', pm, e'⟩ := perm_map_ex a1
  have pw : L'.Pairwise (fun q r => TS.code B q.2 ≤ TS.code B r.2) := by
    rw [e'] at a2
    refine List.Pairwise.imp_of_mem (fun {q r} hq hr hle => ?_) (List.pairwise_map.mp a2)
    have f1 : TS.intsOf (h'.push (seqObj "list" vs.toArray 0)) (.ref q.1) = q.2 := (tkk q (pm.mem_iff.mp hq)).ints
    have f2 : TS.intsOf (h'.push (seqObj "list" vs.toArray 0)) (.ref r.1) = r.2 := (tkk r (pm.mem_iff.mp hr)).ints
    rw [← f1, ← f2]
    exact hle
  have kk : ∀ b u, s.heap.get? b = some u → (sortedHeap (h'.push (seqObj "list" vs.toArray 0)) h'.objs.size vs out).get? b = some u := fun b u e => by
    have q := kp b u e
    have hlt := Heap.lt_size q
    rw [sortedHeap_old (Nat.ne_of_lt hlt) (by rw [size_push']; exact Nat.lt_succ_of_lt hlt)]
    exact Heap.get?_push_of_some _ q
  have hge : s.heap.objs.size ≤ h'.objs.size := Nat.le_of_lt hlt0
  have lo : L'.length < 64 := by rw [pm.length_eq]; omega
  refine wpAny_pure ⟨_, rfl, .ref h'.objs.size, upd H h'.objs.size (.lst (L'.map fun q => V.ref q.1)), I.laid (t' := tk) kk hge ⟨by rw [List.length_map, sizeLine_eq]; omega, out.toList, c, by rw [e']; exact vals_of_refs L', hc2⟩, rfl, q L' h'.objs.size (by rw [← eL]; exact pm.map _) pw (fun q hq => hL q (pm.mem_iff.mp hq)) (I.hok.fresh hge)⟩
end
end DL
/-! part DLs26 -/
namespace DL
open PySem PySem.Spec PyProof.Rows L2
/-! ### a dict whose keys are tuples of ints, the keys tracked as they stand -/
abbrev dfOk (P : Program) (w : World) (a : Addr) (xs : List EnF) (h : Heap) : Prop := df0Ok a xs h
abbrev dfO (P : Program) (w : World) (a : Addr) (xs : List EnF) : HO := df0 a xs
theorem ent0_eq (P : Program) (w : World) : ent0 = entryOfKey (TK P w) := rfl
theorem dfO_new {P : Program} {w : World} {H : Hp} {h : Heap} {a : Addr} {xs : List EnF} (R : dfOk P w a xs h) : ObjOk P w H h a (dfO P w a xs) := by
  have ⟨s, z, o, es, ep, ho, r⟩ := R
  refine ⟨R, ⟨o, ho⟩, fun h1 h2 p k => ?_⟩
  have ⟨s, z, o', es', ep', ho', r'⟩ := p
  exact ⟨s, z, o', es', ep', k o' ho', r'⟩
section
variable {X : Cx} {pins : List (Addr × Obj)} {σ : St} {H : Hp} {s : Shared} {a : Addr} {xs : List EnF}
theorem df_full (I : Inv X pins σ H s) (ha : H a = some (dfO X.prog X.w a xs)) (hk : ∀ x ∈ xs, SqT X.K H x.2.1 (x.1.map V.int)) : (a == sysModules) = false ∧ xs.length ≤ sizeLine ∧ s.heap.DictOfH (TK X.prog X.w) a xs := by
  obtain ⟨z1, z2, o, es, ep, ho, h1, h2, h3, h4⟩ := (I.hok a _ ha).1
  exact ⟨z1, z2, o, es, ep, ho, h1, h2, h3, fun x hx => I.isT (hk x hx), h4⟩
theorem stored_len (k : List Int) (b : Addr) (v : Value) : (storedH xs k b v).length ≤ xs.length + 1 := by
  unfold storedH
  split
  · rw [List.length_map]; omega
  · rw [List.length_append, List.length_singleton]; exact Nat.le_refl _
variable {A : Around} {E : Value → Shared → Prop} {b : Addr} {k : List Int}
theorem df_set {v : Value} {Q : Unit → Shared → Prop} (hu : A.units + 1 < cLine) (I : Inv X pins σ H s) (ha : H a = some (dfO X.prog X.w a xs)) (hk : ∀ x ∈ xs, SqT X.K H x.2.1 (x.1.map V.int)) (hb : SqT X.K H b (k.map V.int)) (hz : xs.length + 1 ≤ sizeLine)
    (h : ∀ s', Inv X pins σ (upd H a (dfO X.prog X.w a (storedH xs k b v))) s' → Q () s') : wpAny (model X.prog X.w) A (setItem (.ref a) (.ref b) v) Q E s := by
  obtain ⟨z1, z2, dd⟩ := df_full I ha hk
  refine wpAny_setItem_heap (hsz := z2) (tupleKind_room_in1 hu) (I.isT hb) dd fun h' dd' hs => h _ ?_
  obtain ⟨q, es, ep, hq, h2, h3, h4, _, h5⟩ := dd'
  have hl := stored_len (xs := xs) k b v
  exact d_write I (by rw [ha]; exact True.intro) hs ⟨q, hq⟩ (dfO_new ⟨z1, by omega, q, es, ep, hq, h2, h3, h4, h5⟩)
theorem df_item {p : Addr × Value} {Q : Value → Shared → Prop} (hu : A.units + 1 < cLine) (I : Inv X pins σ H s) (ha : H a = some (dfO X.prog X.w a xs)) (hk : ∀ x ∈ xs, SqT X.K H x.2.1 (x.1.map V.int)) (hb : SqT X.K H b (k.map V.int)) (hp : atKey xs k = some p)
    (h : ∀ s', Inv X pins σ H s' → Q p.2 s') : wpAny (model X.prog X.w) A (getItem (.ref a) (.ref b)) Q E s := by
  obtain ⟨z1, z2, dd⟩ := df_full I ha hk
  exact wpAny_getItem_heap (tupleKind_room_in1 hu) (I.isT hb) dd hp (h _ (I.tok _))
theorem df_get2 {v : Value} {Q : Value → Shared → Prop} (hu : A.units + 1 < cLine) (I : Inv X pins σ H s) (ha : H a = some (dfO X.prog X.w a xs)) (hk : ∀ x ∈ xs, SqT X.K H x.2.1 (x.1.map V.int)) (hb : SqT X.K H b (k.map V.int))
    (h : ∀ s', Inv X pins σ H s' → Q (((atKey xs k).map (·.2)).getD v) s') : wpAny (model X.prog X.w) A (call (.builtin "dict.get") [.ref a, .ref b, v]) Q E s := by
  obtain ⟨z1, z2, dd⟩ := df_full I ha hk
  exact call_meetsIn PySem.F.slot_dict_get dd.typeIs PySem.F.entry_dict_get (PySem.F.args_dict_get_3 _ _ _) (meetsH_dict_get_default (TK X.prog X.w) a b z1 v) ⟨tupleKind_room_in1 hu, k, xs, I.isT hb, dd, h _ (I.tok _)⟩
end

section
variable {X : Cx}
def rSortDF (K : PySem.W.Frag) (P : Program) (w : World) : List V → Hp → VK → Prop := fun vs H Q => ∃ (a : Addr) (xs : List EnF) (d : Nat) (B : Int), vs = [V.ref a] ∧ H a = some (dfO P w a xs) ∧ (∀ x ∈ xs, SqT K H x.2.1 (x.1.map V.int)) ∧ xs.length < 64 ∧ 1 ≤ d ∧ (∀ x ∈ xs, x.1.length = d ∧ TS.Bd B x.1) ∧
  ∀ (L' : List (Addr × List Int)) (p : Addr), L'.Perm (xs.map fun x => (x.2.1, x.1)) → L'.Pairwise (fun q r => TS.code B q.2 ≤ TS.code B r.2) → H p = none → Q (.ref p) (upd H p (.lst (L'.map fun q => V.ref q.1)))
theorem cr_sortDF (hc : X.calm = true) : CallR X (.builtin "sorted") (rSortDF X.K X.prog X.w) := by
  intro pins s σ H vs us Q I r h
  obtain ⟨a, ks, d, B, rfl, ha, hk, hf, hd, hB, q⟩ := h
  rw [Vals.ref1 r]
  obtain ⟨z1, z2, o, es, ep, ho, hx, hdt, he, hn⟩ := (I.hok a _ ha).1
  rw [ent0_eq X.prog X.w] at he
  have l1 : es.size = ks.length := size_of_entries he
  generalize eL : ks.map (fun x => (x.2.1, x.1)) = L at q
  have hL : ∀ q ∈ L, SqT X.K H q.1 (q.2.map V.int) := fun q hq => by
    rw [← eL] at hq
    obtain ⟨x, hx, rfl⟩ := List.mem_map.mp hq
    exact hk x hx
  have hB' : ∀ q ∈ L, q.2.length = d ∧ TS.Bd B q.2 := fun q hq => by
    rw [← eL] at hq
    obtain ⟨x, hx, rfl⟩ := List.mem_map.mp hq
    exact hB x hx
  refine Calls.call_function_entry kind_sorted plain_sorted entry_sorted (args_sorted1 _) ?_
  unfold Builtin.«sorted»
  refine wpAny_bind (m := checkCount "sorted" 1 1 _) (wpAny_pure ?_)
  refine wpAny_bind (collect_kdl (A := X.A.in1) (kdl_raw z1 hx hdt) (I.ok.hd hc) ho (by omega) fun h' tk acc kp hlt0 it => ?_)
  have ea : acc.toList = L.map fun x => Value.ref x.1 := by
    have hl : acc.toList.length = ks.length := by rw [Array.length_toList, it.1]; exact l1
    have e1 : acc.toList = ks.map fun x => Value.ref x.2.1 := by
      apply List.ext_getElem?
      intro j
      rw [List.getElem?_map]
      cases hj : acc.toList[j]? with
      | none =>
        have h1 := List.getElem?_eq_none_iff.mp hj
        rw [List.getElem?_eq_none (by omega)]
        rfl
      | some v =>
        obtain ⟨en, hen, hv⟩ := it.2 j v (by rw [← Array.getElem?_toList]; exact hj)
        have qe := entry_at he j
        rw [hen] at qe
        cases hb : ks[j]? with
        | none =>
          rw [hb] at qe
          cases qe
        | some b =>
          rw [hb] at qe
          have e2 : en = entryOfKey (TK X.prog X.w) b := Option.some.inj qe
          rw [hv, e2]
          rfl
    rw [e1, ← eL, List.map_map]
    rfl
  rw [ea]
  have lL : L.length = ks.length := by rw [← eL, List.length_map]
  refine wpAny_bind (wpAny_newList ?_ (by rw [List.length_map, sizeLine_eq]; omega))
  generalize hvs : L.map (fun x => Value.ref x.1) = vs
  have hvl : vs.length < 64 := by rw [← hvs, List.length_map]; omega
  have hoL : (h'.push (seqObj "list" vs.toArray 0)).get? h'.objs.size = some (seqObj "list" vs.toArray 0) := Heap.get?_push_size _ rfl
  have I1 : Inv X pins σ H { s with heap := h'.push (seqObj "list" vs.toArray 0), toks := tk } := I.kept fun b u e => Heap.get?_push_of_some _ (kp b u e)
  have tkk : ∀ q ∈ L, TS.TupInts (h'.push (seqObj "list" vs.toArray 0)) (.ref q.1) q.2 := fun q hq => tupI_raw (s := { s with heap := h'.push (seqObj "list" vs.toArray 0), toks := tk }) I1 (hL q hq)
  have x : TS.TupsOk (h'.push (seqObj "list" vs.toArray 0)) d B vs := fun v hv => by
    rw [← hvs] at hv
    obtain ⟨q, hq, e⟩ := List.mem_map.mp hv
    rw [← e]
    have := hB' q hq
    exact ⟨q.2, tkk q hq, this.1, this.2⟩
  refine wpAny_bind (wpAny_holding (TS.call_sort_tups (s := { s with heap := h'.push (seqObj "list" vs.toArray 0), toks := tk }) hoL hvl hd x fun out a1 a2 => ?_))
  obtain ⟨c, hc2⟩ := sortedHeap_at (vs := vs) (out := out) hoL
  rw [← hvs] at a1
  obtain ⟨L', pm, e'⟩ := perm_map_ex a1
  have pw : L'.Pairwise (fun q r => TS.code B q.2 ≤ TS.code B r.2) := by
    rw [e'] at a2
    refine List.Pairwise.imp_of_mem (fun {q r} hq hr hle => ?_) (List.pairwise_map.mp a2)
    have f1 : TS.intsOf (h'.push (seqObj "list" vs.toArray 0)) (.ref q.1) = q.2 := (tkk q (pm.mem_iff.mp hq)).ints
    have f2 : TS.intsOf (h'.push (seqObj "list" vs.toArray 0)) (.ref r.1) = r.2 := (tkk r (pm.mem_iff.mp hr)).ints
    rw [← f1, ← f2]
    exact hle
  have kk : ∀ b u, s.heap.get? b = some u → (sortedHeap (h'.push (seqObj "list" vs.toArray 0)) h'.objs.size vs out).get? b = some u := fun b u e => by
    have q := kp b u e
    have hlt := Heap.lt_size q
    rw [sortedHeap_old (Nat.ne_of_lt hlt) (by rw [size_push']; exact Nat.lt_succ_of_lt hlt)]
    exact Heap.get?_push_of_some _ q
  have hge : s.heap.objs.size ≤ h'.objs.size := Nat.le_of_lt hlt0
  have lo : L'.length < 64 := by rw [pm.length_eq]; omega
  refine wpAny_pure ⟨_, rfl, .ref h'.objs.size, upd H h'.objs.size (.lst (L'.map fun q => V.ref q.1)), I.laid (t' := tk) kk hge ⟨by rw [List.length_map, sizeLine_eq]; omega, out.toList, c, by rw [e']; exact vals_of_refs L', hc2⟩, rfl, q L' h'.objs.size pm pw (I.hok.fresh hge)⟩
end
end DL
/-! part DLs27 -/
namespace DL
open PySem PySem.Spec PyProof.Rows L2
structure DfAt (X : Cx) (H : Hp) (a : Addr) (xs : List EnF) : Prop where
  ob : H a = some (dfO X.prog X.w a xs)
  ks : ∀ x ∈ xs, SqT X.K H x.2.1 (x.1.map V.int)
def tDfNew (P : Program) (w : World) : TE := fun _ H Q => ∀ p, H p = none → Q (.ref p) (upd H p (dfO P w p []))
def tDfGet (X : Cx) (td ty : TE) : TE := fun σ H Q => td σ H fun x H1 => ty σ H1 fun y H2 => ∃ (a b : Addr) (xs : List EnF) (k : List Int) (p : Addr × Value) (v : V), x = .ref a ∧ y = .ref b ∧ DfAt X H2 a xs ∧ SqT X.K H2 b (k.map V.int) ∧ atKey xs k = some p ∧ L2.RelV v p.2 ∧ Q v H2
def tDfPut (X : Cx) (td ty tv : TE) : TS := fun D σ H => tv σ H fun v H1 => td σ H1 fun x H2 => ty σ H2 fun y H3 => ∃ (a b : Addr) (xs : List EnF) (k : List Int), x = .ref a ∧ y = .ref b ∧ DfAt X H3 a xs ∧ SqT X.K H3 b (k.map V.int) ∧ xs.length + 1 ≤ sizeLine ∧
  ∀ u, L2.RelV v u → D.nx σ (upd H3 a (dfO X.prog X.w a (storedH xs k b u)))
section
variable {X : Cx} {o i e f value : Expr} {pos pos' apos cpos : Pos} {td ty tv tx : TE}
theorem pe_dfnew : PE X (.Dict [] [] pos) (tDfNew X.prog X.w) := ⟨fun pins s σ H Q I h =>
  wpAny_Dict_empty ⟨.ref s.heap.objs.size, _, I.laid (a := s.heap.objs.size) (o := dfO X.prog X.w s.heap.objs.size []) (t' := s.toks) (fun _ _ q => Heap.get?_push_of_some _ q) (Nat.le_refl _)
    (dfO_new ⟨beq_eq_false_iff_ne.mpr (Ne.symm (Nat.ne_of_lt I.big)), Nat.zero_le _, _, #[], 0, Heap.get?_push_size _ rfl, ⟨rfl, rfl, rfl⟩, rfl, rfl, List.nodup_nil⟩), rfl, h _ (I.hok.fresh (Nat.le_refl _))⟩⟩
theorem pe_dfget (hu : X.A.units + 1 < cLine) (ho : PE X o td) (hi : PE X i ty) (hs : NoSl i) : PE X (.Subscript o i pos) (tDfGet X td ty) := by
  refine ⟨fun pins s σ H Q I h => ?_⟩
  refine subD_of PySem.F.slot_dict_getitem.lookup hs (thn (ho.run pins s σ H _ I h) fun u s1 ⟨x, H1, I1, rx, q1⟩ => thn (hi.run pins s1 σ H1 _ I1 q1) fun iv s2 ⟨y, H2, I2, ry, a, b, xs, k, p, v, ex, ey, d, hb, hp, rv, q2⟩ => ?_)
  subst ex ey
  obtain rfl : u = Value.ref a := rx
  obtain rfl : iv = Value.ref b := ry
  exact ⟨(df_full I2 d.ob d.ks).2.2.typeIs, df_item hu I2 d.ob d.ks hb hp fun s3 I3 => ⟨v, H2, I3, rv, q2⟩⟩
theorem ps_dfput (hu : X.A.units + 1 < cLine) (ho : PE X o td) (hi : PE X i ty) (hv : PE X value tv) (hs : swapsWith value (some (.Subscript o i pos')) pos.line X.env = pure false) :
    PS X (.Assign [.Subscript o i pos'] value pos) (tDfPut X td ty tv) := by
  refine ⟨fun pins s σ H D I h => ?_⟩
  refine wpAny_Assign_Subscript (thn (hv.run pins s σ H _ I h) fun r s1 ⟨v, H1, I1, rv, q1⟩ => thn (ho.run pins s1 σ H1 _ I1 q1) fun u s2 ⟨x, H2, I2, rx, q2⟩ => thn (hi.run pins s2 σ H2 _ I2 q2) fun iv s3 ⟨y, H3, I3, ry, a, b, xs, k, ex, ey, d, hb, hz, q3⟩ => ?_) hs
  subst ex ey
  obtain rfl : u = Value.ref a := rx
  obtain rfl : iv = Value.ref b := ry
  exact df_set hu I3 d.ob d.ks hb hz fun s4 I4 => ⟨σ, _, I4, q3 r rv⟩
def tDfGet2 (X : Cx) (td ty tx : TE) : TE := fun σ H Q => td σ H fun x H1 => ∃ (a : Addr) (xs1 : List EnF), x = .ref a ∧ DfAt X H1 a xs1 ∧ ty σ H1 fun y H2 => tx σ H2 fun z H3 => ∃ (b : Addr) (xs : List EnF) (k : List Int), y = .ref b ∧ DfAt X H3 a xs ∧ SqT X.K H3 b (k.map V.int) ∧
  (∀ p v, atKey xs k = some p → L2.RelV v p.2 → Q v H3) ∧ (atKey xs k = none → Q z H3) ∧ ∀ p, atKey xs k = some p → ∃ v, L2.RelV v p.2
theorem pe_dfget2 (hu : X.A.units + 1 < cLine) (ho : PE X o td) (he : PE X e ty) (hf : PE X f tx) (m : M2 X o "get" apos e f cpos) : PE X (.Call (.Attribute o "get" apos) [e, f] [] cpos) (tDfGet2 X td ty tx) := by
  refine ⟨fun pins s σ H Q I h => ?_⟩
  refine wpAny_Call_method m.base m.few m.line PySem.F.plainAttrs_dict PySem.F.slot_dict_get PySem.F.type_dict_get (thn (ho.run pins s σ H _ I h) fun u s1 ⟨x, H1, I1, rx, a, xs1, ex, d, q1⟩ => ?_)
  subst ex
  obtain rfl : u = Value.ref a := rx
  obtain ⟨_, _, dd⟩ := df_full I1 d.ob d.ks
  refine ⟨dd.typeIs, fun b q => ?_, ?_⟩
  · cases q
    obtain ⟨ob, _, _, h1, h2, _⟩ := dd
    exact ⟨ob, h1, h2.2.1⟩
  rw [m.trees]
  refine Calls.callWith_builtin rfl (Calls.evalArgs_plain (Calls.spliced_cons (thn (he.run pins s1 σ H1 _ I1 q1) fun iv s2 ⟨y, H2, I2, ry, q2⟩ =>
    Calls.spliced_cons (thn (hf.run pins s2 σ H2 _ I2 q2) fun fv s3 ⟨z, H3, I3, rz, b, xs, k, ey, d3, hb, q3, q4, q5⟩ => Calls.spliced_nil ?_))))
  subst ey
  obtain rfl : iv = Value.ref b := ry
  refine df_get2 hu I3 d3.ob d3.ks hb fun s4 I4 => ?_
  cases hp : atKey xs k with
  | none => exact ⟨z, H3, I4, rz, q4 hp⟩
  | some p =>
    obtain ⟨v, rv⟩ := q5 p hp
    exact ⟨v, H3, I4, rv, q3 p v hp rv⟩
end
end DL
/-! part DLs28 -/
namespace DL
open PySem PySem.Spec PyProof.Rows L2
/-! ### a dict with tuples as keys, as a thing of the DL layer -/
def lkV {α : Type} (ks : List (List Int)) (l : List α) (k : List Int) : Option α := l[ks.idxOf k]?
def putK (ks : List (List Int)) (k : List Int) : List (List Int) := if k ∈ ks then ks else ks ++ [k]
def putV {α : Type} (ks : List (List Int)) (l : List α) (k : List Int) (a : α) : List α := if k ∈ ks then List.zipWith (fun k' x => if k' = k then a else x) ks l else l ++ [a]
theorem relV_fun {v v' : V} {u : Value} (h : L2.RelV v u) (h' : L2.RelV v' u) : v = v' := by
  cases v <;> cases v' <;> simp only [L2.RelV] at h h' <;> first
    | (obtain ⟨t, h⟩ := h; obtain ⟨t', h'⟩ := h'; rw [h] at h'; cases h' <;> rfl)
    | (obtain ⟨t, h⟩ := h; rw [h] at h'; cases h')
    | (obtain ⟨t', h'⟩ := h'; rw [h] at h'; cases h')
    | (rw [h] at h' <;> cases h' <;> rfl)
theorem atKey_lk : ∀ (xs : List EnF) (k : List Int), atKey xs k = (lkV (xs.map (·.1)) xs k).map (·.2)
  | [], k => rfl
  | x :: xs, k => by
    have ih := atKey_lk xs k
    unfold lkV at ih ⊢
    unfold atKey at ih ⊢
    rw [List.map_cons, List.idxOf_cons, List.find?_cons]
    by_cases h : x.1 = k
    · rw [decide_eq_true h, show (x.1 == k) = true from by rw [h]; exact beq_self_eq_true _]
      rfl
    · rw [decide_eq_false h, show (x.1 == k) = false from by rw [beq_eq_false_iff_ne]; exact h]
      exact ih
theorem lkV_map {α β : Type} (f : α → β) (ks : List (List Int)) (l : List α) (k : List Int) : lkV ks (l.map f) k = (lkV ks l k).map f := by
  unfold lkV
  rw [List.getElem?_map]
theorem lkV_none {α : Type} {ks : List (List Int)} {l : List α} {k : List Int} (h : l.length = ks.length) : lkV ks l k = none ↔ k ∉ ks := by
  unfold lkV
  rw [List.getElem?_eq_none_iff, h, ← List.idxOf_lt_length_iff]
  omega
theorem atKey_some_iff {xs : List EnF} {k : List Int} : (atKey xs k).isSome = true ↔ k ∈ xs.map (·.1) := by
  rw [atKey_lk, Option.isSome_map, Option.isSome_iff_ne_none]
  rw [Ne, lkV_none (by rw [List.length_map])]
  exact Decidable.not_not
theorem stored_keys (xs : List EnF) (k : List Int) (b : Addr) (u : Value) : (storedH xs k b u).map (·.1) = putK (xs.map (·.1)) k := by
  unfold storedH putK
  by_cases h : k ∈ xs.map (·.1)
  · rw [if_pos (atKey_some_iff.mpr h), if_pos h, keys_map_putAt]
  · rw [if_neg fun z => h (atKey_some_iff.mp z), if_neg h, List.map_append]
    rfl
theorem putAt_vals (k : List Int) (u : Value) : ∀ xs : List EnF, (xs.map (putAt k u)).map (fun x => x.2.2) = List.zipWith (fun k' x => if k' = k then u else x) (xs.map (·.1)) (xs.map fun x => x.2.2)
  | [] => rfl
  | x :: xs => by
    rw [List.map_cons, List.map_cons, List.map_cons, List.map_cons, List.zipWith_cons_cons, putAt_vals k u xs]
    congr 1
    unfold putAt
    split <;> rfl
theorem stored_vals (xs : List EnF) (k : List Int) (b : Addr) (u : Value) : (storedH xs k b u).map (fun x => x.2.2) = putV (xs.map (·.1)) (xs.map fun x => x.2.2) k u := by
  unfold storedH putV
  by_cases h : k ∈ xs.map (·.1)
  · rw [if_pos (atKey_some_iff.mpr h), if_pos h, putAt_vals]
  · rw [if_neg fun z => h (atKey_some_iff.mp z), if_neg h, List.map_append]
    rfl
theorem stored_all {P : EnF → Prop} {xs : List EnF} {k : List Int} {b : Addr} {u : Value} (h : ∀ x ∈ xs, P x) (hp : ∀ x, P x → ∀ v, P (x.1, x.2.1, v)) (hk : P (k, b, u)) : ∀ x ∈ storedH xs k b u, P x := by
  intro x hx
  unfold storedH at hx
  split at hx
  · obtain ⟨y, hy, rfl⟩ := List.mem_map.mp hx
    unfold putAt
    split
    · exact hp y (h y hy) u
    · exact h y hy
  · rcases List.mem_append.mp hx with z | z
    · exact h x z
    · rw [List.mem_singleton.mp z]
      exact hk
theorem vals_zw {k : List Int} {v : V} {u : Value} (r : L2.RelV v u) : ∀ {ks : List (List Int)} {vs : List V} {us : List Value}, Vals vs us → Vals (List.zipWith (fun k' x => if k' = k then v else x) ks vs) (List.zipWith (fun k' x => if k' = k then u else x) ks us)
  | [], _, _, _ => .nil
  | _ :: _, _, _, .nil => .nil
  | k' :: ks, _, _, .cons q t => by
    rw [List.zipWith_cons_cons, List.zipWith_cons_cons]
    refine .cons ?_ (vals_zw r t)
    by_cases h : k' = k
    · rw [if_pos h, if_pos h]; exact r
    · rw [if_neg h, if_neg h]; exact q
theorem vals_put {ks : List (List Int)} {k : List Int} {v : V} {u : Value} (r : L2.RelV v u) {vs : List V} {us : List Value} (h : Vals vs us) : Vals (putV ks vs k v) (putV ks us k u) := by
  unfold putV
  split
  · exact vals_zw r h
  · exact h.append (.cons r .nil)
theorem drAll_zw {K : PySem.W.Frag} {F : Hp} {k : List Int} {v : V} {d : D} (r : Dr K F v d) : ∀ {ks : List (List Int)} {vs : List V} {ds : List D}, DrAll K F vs ds → DrAll K F (List.zipWith (fun k' x => if k' = k then v else x) ks vs) (List.zipWith (fun k' x => if k' = k then d else x) ks ds)
  | [], _, _, _ => .nil
  | _ :: _, _, _, .nil => .nil
  | k' :: ks, _, _, .cons q t => by
    rw [List.zipWith_cons_cons, List.zipWith_cons_cons]
    refine .cons ?_ (drAll_zw r t)
    by_cases h : k' = k
    · rw [if_pos h, if_pos h]; exact r
    · rw [if_neg h, if_neg h]; exact q
theorem drAll_put {K : PySem.W.Frag} {F : Hp} {ks : List (List Int)} {k : List Int} {v : V} {d : D} (r : Dr K F v d) {vs : List V} {ds : List D} (h : DrAll K F vs ds) : DrAll K F (putV ks vs k v) (putV ks ds k d) := by
  unfold putV
  split
  · exact drAll_zw r h
  · exact h.append (.cons r .nil)
theorem tI_inj {a b : List Int} (h : (PyData.tuple (a.map .int)) = .tuple (b.map .int)) : a = b := by
  injection h with h
  exact (List.map_inj_right (fun x y z => by injection z)).mp h
theorem tIs_inj {a b : List (List Int)} (h : (a.map fun k => (PyData.tuple (k.map .int))) = b.map fun k => .tuple (k.map .int)) : a = b := (List.map_inj_right (fun x y z => tI_inj z)).mp h
/-- what a dict's datum tells -/
theorem Dr.dct_inv {K : PySem.W.Frag} {F : Hp} {v : V} {kd ds : List D} (h : Dr K F v (.dict [(.bool false, .list kd), (.bool false, .list ds)])) :
    ∃ (a : Addr) (xs : List EnF) (vs : List V), v = .ref a ∧ F a = some (df0 a xs) ∧ (∀ x ∈ xs, FzT F x.2.1 (x.1.map V.int)) ∧ Vals vs (xs.map fun x => x.2.2) ∧ DrAll K F vs ds ∧ kd = (xs.map (·.1)).map fun k => .tuple (k.map .int) := by
  cases h with
  | dct e k r a => exact ⟨_, _, _, rfl, e, k, r, a, rfl⟩
theorem OwnV.dct_inv {K : PySem.W.Frag} {F H : Hp} {v : V} {d : D} {S : List Addr} (h : OwnV K F H 3 v d S) :
    ∃ (a : Addr) (xs : List EnF) (vs : List V) (ds : List D), v = .ref a ∧ S = [a] ∧ d = dctD (xs.map (·.1)) ds ∧ H a = some (df0 a xs) ∧ (∀ x ∈ xs, FzT F x.2.1 (x.1.map V.int)) ∧ Vals vs (xs.map fun x => x.2.2) ∧ DrAll K F vs ds := by
  cases h with
  | dct e k r a => exact ⟨_, _, _, _, rfl, rfl, rfl, e, k, r, a⟩
/-! ### rules -/
def dGetK (d k : D) : Rz D := match d with
  | .dict [(.bool false, .list kd), (.bool false, .list ds)] => (match k with
    | .tuple kk => (orSt (tupsD kd)).bind fun ks => (orSt (intsD kk)).bind fun ki => orSt (lkV ks ds ki)
    | _ => .st)
  | _ => .st
theorem tupsD_of' : ∀ ks : List (List Int), tupsD (ks.map fun k => .tuple (k.map .int)) = some ks
  | [] => rfl
  | k :: ks => by
    show tupsD (PyData.tuple (k.map .int) :: ks.map fun k => .tuple (k.map .int)) = _
    have h : ∀ k : List Int, intsD (k.map .int) = some k := by
      intro k
      induction k with
      | nil => rfl
      | cons n r ih => rw [List.map_cons]; unfold intsD; rw [ih]; rfl
    unfold tupsD
    rw [h, tupsD_of' ks]
/-- what stands at a key -/
theorem lk_val {xs : List EnF} {vs : List V} {k : List Int} {p : Addr × Value} (r : Vals vs (xs.map fun x => x.2.2)) (h : atKey xs k = some p) : ∃ v, lkV (xs.map (·.1)) vs k = some v ∧ L2.RelV v p.2 := by
  rw [atKey_lk] at h
  obtain ⟨x, hx, rfl⟩ := Option.map_eq_some_iff.mp h
  unfold lkV at hx ⊢
  cases hv : vs[(xs.map (·.1)).idxOf k]? with
  | none =>
    have := r.none_of hv
    rw [List.getElem?_map, hx] at this
    cases this
  | some v =>
    obtain ⟨u, h1, h2⟩ := r.get hv
    rw [List.getElem?_map, hx] at h1
    cases h1
    exact ⟨v, rfl, h2⟩
theorem lk_no {xs : List EnF} {vs : List V} {k : List Int} (r : Vals vs (xs.map fun x => x.2.2)) (h : atKey xs k = none) : lkV (xs.map (·.1)) vs k = none := by
  rw [atKey_lk] at h
  have hx := Option.map_eq_none_iff.mp h
  unfold lkV at hx ⊢
  have := r.length
  rw [List.length_map] at this
  exact List.getElem?_eq_none_iff.mpr (by have := List.getElem?_eq_none_iff.mp hx; omega)
theorem DrAll.getR {K : PySem.W.Frag} {H : Hp} : ∀ {ds : List D} {vs : List V} {i : Nat} {v : V}, DrAll K H vs ds → vs[i]? = some v → ∃ d, ds[i]? = some d ∧ Dr K H v d
  | _, _, _, _, .nil, e => by simp at e
  | _, _, 0, _, .cons h _, e => by
    simp at e
    subst e
    exact ⟨_, rfl, h⟩
  | _, _, i + 1, v, .cons _ a, e => by
    obtain ⟨d, h1, h2⟩ := DrAll.getR (i := i) (v := v) a (by simpa using e)
    exact ⟨d, by simpa using h1, h2⟩
section
variable {X : Cx} {W : WX} {ob o o' : Ow}
theorem de_dget {a b : Expr} {ga gb : G} {pos : Pos} (hu : X.A.units + 65 < cLine) (ha : DE X W a ga) (hb : DE X W b gb) (hs : NoSl b) : DE X W (.Subscript a b pos) (g2 dGetK ga gb) := by
  obtain ⟨ta, pa, ra⟩ := ha
  obtain ⟨tb, pb, rb⟩ := hb
  refine ⟨_, pe_dfget (by omega) pa pb hs, fun σ F H ρ Q s hV h => ra σ F H ρ _ s hV (Po.bind h fun d x F1 H1 e1 q1 h1 => rb σ F1 H1 ρ _ e1.fh (hV.same e1.ff) (Po.bind h1 fun e y F2 H2 e2 q2 h2 => ?_))⟩
  have q1 := q1.same e2.ff
  cases q1 with
  | @dct a xs vs ds ea ka rv da =>
    cases q2 with
    | @tup b ys ks eb db =>
      have h2 : Po (Dr X.K) X.mg W σ F2 H2 ((orSt (tupsD ((xs.map (·.1)).map fun k => .tuple (k.map .int)))).bind fun kk => (orSt (intsD ks)).bind fun ki => orSt (lkV kk ds ki)) Q := h2
      rw [tupsD_of', orSt_some, Rz.bind_ok] at h2
      obtain ⟨ki, hki, h3⟩ := Po.orSt h2
      have z := intsD_map hki
      subst z
      have z := DrAll.of_ints db
      subst z
      cases hl : lkV (xs.map (·.1)) ds ki with
      | none => rw [hl] at h3; exact h3.elim
      | some d =>
        rw [hl] at h3
        obtain ⟨v, hv, qv⟩ := da.get hl
        cases hp : atKey xs ki with
        | none =>
          have := lk_no rv hp
          unfold lkV at this
          rw [hv] at this
          cases this
        | some p =>
          obtain ⟨v', hv', rv'⟩ := lk_val rv hp
          unfold lkV at hv'
          rw [hv] at hv'
          cases hv'
          exact ⟨a, b, xs, ki, p, v, rfl, rfl, ⟨e2.fh _ _ ea, fun x hx => sqT_same e2.fh (ka x hx).sq⟩, sqT_same e2.fh eb.sq, hp, rv', Po.okh h3 e2.fh qv⟩
    | _ => exact False.elim h2
  | _ => exact False.elim h2
/-- x = {} -/
theorem dn_dict {pos : Pos} : DN X W 3 (.Dict [] [] pos) (gC (dctD [] [])) := pe_imp pe_dfnew fun σ H Q ⟨F, ρ, s, hV, h⟩ p hp => by
  have h : PoN X.K X.mg W 3 σ F H (.ok (dctD [] [])) Q := h
  refine h _ F _ [p] ⟨same_upd hp, Same.refl _, s.trans (same_upd hp), fun _ _ _ z => z, s⟩ (.dct (xs := []) (vs := []) (ds := []) upd_same (fun x hx => nomatch hx) .nil .nil) fun b hb => ?_
  have : b = p := by simpa using hb
  subst this
  exact ⟨hp, s.free hp⟩
/-- x[k] = x.get(k, []) + e -/
def dDAdd (kd ds : List D) (k e : D) : Option D := match tupsD kd, k, e with
  | some ks, .tuple kk, .list es => (intsD kk).bind fun ki => if ks.length < lim then (match lkV ks ds ki with
    | some (.list old) => if old.length + es.length ≤ lim then some (dctD (putK ks ki) (putV ks ds ki (.list (old ++ es)))) else none
    | none => if es.length ≤ lim then some (dctD (putK ks ki) (putV ks ds ki (.list ([] ++ es)))) else none
    | _ => none) else none
  | _, _, _ => none
theorem dDAdd_inv {ks : List (List Int)} {ds : List D} {kk e d : D} (h : dDAdd (ks.map fun k => .tuple (k.map .int)) ds kk e = some d) : ∃ kl es ki old, kk = .tuple kl ∧ e = .list es ∧ intsD kl = some ki ∧ ks.length < lim ∧ (lkV ks ds ki = some (.list old) ∨ lkV ks ds ki = none ∧ old = []) ∧ old.length + es.length ≤ lim ∧ d = dctD (putK ks ki) (putV ks ds ki (.list (old ++ es))) := by
  unfold dDAdd at h
  rw [tupsD_of'] at h
  split at h
  · rename_i ks' kl es e1
    cases e1
    obtain ⟨ki, h1, h2⟩ := Option.bind_eq_some_iff.mp h
    split at h2
    · rename_i hlt
      split at h2
      · rename_i old ho
        split at h2
        · rename_i hle
          cases h2
          exact ⟨kl, es, ki, old, rfl, rfl, h1, hlt, .inl ho, hle, rfl⟩
        · cases h2
      · rename_i ho
        split at h2
        · rename_i hle
          cases h2
          exact ⟨kl, es, ki, [], rfl, rfl, h1, hlt, .inr ⟨ho, rfl⟩, by simpa using hle, rfl⟩
        · cases h2
      · cases h2
    · cases h2
  · cases h
def sDAdd (os : List Nat) (i : Nat) (gk ge : G) : GS := fun ρ => match ρ[i]? with
  | some (some (.dict [(.bool false, .list kd), (.bool false, .list ds)])) => (match gk (mk os ρ), ge (mk os ρ) with
    | .ok k, .ok e => (match dDAdd kd ds k e with
      | some d => .nx (ρ.set i (some d)) | none => .st)
    | _, _ => .st)
  | _ => .st
theorem StR.own3 {K : PySem.W.Frag} {F0 H0 F H : Hp} {σ : St} {ρ : En} {i : Nat} (h : StR K F0 H0 F H o σ ρ) {d : D} (hd : ρ[i]? = some (some d)) (ho : ow o i = 3) :
    ∃ (a : Addr) (xs : List EnF) (vs : List V) (ds : List D), σ[i]? = some (some (.ref a)) ∧ d = dctD (xs.map (·.1)) ds ∧ H a = some (df0 a xs) ∧ (∀ x ∈ xs, FzT F x.2.1 (x.1.map V.int)) ∧ Vals vs (xs.map fun x => x.2.2) ∧ DrAll K F vs ds := by
  obtain ⟨fp, k, _⟩ := h.own
  obtain ⟨v, hv, q⟩ := k i _ hd
  rw [ho] at q
  obtain ⟨a, xs, vs, ds, rfl, _, e, h1, h2, h3, h4⟩ := q.dct_inv
  exact ⟨a, xs, vs, ds, hv, e, h1, h2, h3, h4⟩
theorem StR.upd3 {K : PySem.W.Frag} {F0 H0 F H : Hp} {σ : St} {ρ : En} {i : Nat} (h : StR K F0 H0 F H o σ ρ) {d : D} {a : Addr} {xs : List EnF} {vs : List V} {ds : List D} (hd : ρ[i]? = some (some d)) (ho : ow o i = 3) (hp : σ[i]? = some (some (.ref a)))
    (h2 : ∀ x ∈ xs, FzT F x.2.1 (x.1.map V.int)) (h3 : Vals vs (xs.map fun x => x.2.2)) (h4 : DrAll K F vs ds) : StR K F0 H0 F (L2.upd H a (df0 a xs)) o σ (ρ.set i (some (dctD (xs.map (·.1)) ds))) := by
  refine h.upd hd fun v S hv q hS => ⟨S, rfl, ?_⟩
  rw [hp] at hv
  cases hv
  rw [ho] at q ⊢
  obtain ⟨a', xs', vs', ds', e1, e2, _⟩ := q.dct_inv
  cases e1
  subst e2
  exact ⟨.dct upd_same h2 h3 h4, fun b hb => upd_ne fun z => hb (by rw [z]; exact List.mem_cons_self)⟩
theorem ds_dadd {i : Nat} {x : Str} {k k2 e : Expr} {gk ge : G} {p1 p2 p3 apos cpos lpos bpos pos : Pos} (hu : X.A.units + 65 < cLine) (hk : DE X W k gk) (hk2 : DE X W k2 gk) (he : DE X W e ge) (ho : ow o i = 3 := by rfl) (hN : X.N[i]? = some x := by rfl) (hv : Vis X.env.scope x := by first | exact Or.inl rfl | exact Or.inr (Or.inl rfl) | exact Or.inr (Or.inr rfl)) (hd : (x == ("__debug__" : Str)) = false := by decide) (hcd : (x == ("__classdict__" : Str)) = false := by decide)
    (m : M2 X (.Name x p2) "get" apos k2 (.List [] lpos) cpos := by exact ⟨rfl, rfl, rfl, rfl⟩)
    (hs : swapsWith (.BinOp (.Call (.Attribute (.Name x p2) "get" apos) [k2, .List [] lpos] [] cpos) .Add e bpos) (some (.Subscript (.Name x p1) k p3)) pos.line X.env = pure false := by rfl) :
    DS X W ob o o (.Assign [.Subscript (.Name x p1) k p3] (.BinOp (.Call (.Attribute (.Name x p2) "get" apos) [k2, .List [] lpos] [] cpos) .Add e bpos) pos) (sDAdd (o.map Prod.fst) i gk ge) := by
  obtain ⟨tk, pk, rk⟩ := hk
  obtain ⟨tk2, pk2, rk2⟩ := hk2
  obtain ⟨te, pe, re⟩ := he
  obtain ⟨r, op1, op2⟩ := (od_add : OpD X W (binaryOp .Add) dAdd)
  have hu : X.A.units + 1 < cLine := by omega
  refine ps_imp (ps_dfput hu (pe_var hN hv hd hcd) pk (pe_op op1 (pe_dfget2 hu (pe_var hN hv hd hcd) pk2 (pe_lst pa_nil) m) pe) hs) fun Dn σ H ⟨F0, H0, F, ρ, h, p⟩ => ?_
  have p : PoS X.K X.mg W ob o F0 H0 F (match ρ[i]? with
    | some (some (.dict [(.bool false, .list kd), (.bool false, .list ds)])) => (match gk (mk (o.map Prod.fst) ρ), ge (mk (o.map Prod.fst) ρ) with
      | .ok k, .ok e => (match dDAdd kd ds k e with
        | some d => .nx (ρ.set i (some d)) | none => .st)
      | _, _ => .st)
    | _ => .st) Dn := p
  split at p
  · rename_i kd ds hρ
    obtain ⟨a, xs, vs, ds', hσ, ed, hH, hx, hr, ha⟩ := h.own3 hρ ho
    have e1 : kd = (xs.map (·.1)).map fun k => .tuple (k.map .int) := by
      injection ed with ed
      injection ed with ed _
      injection ed with _ ed
      injection ed
    have e2 : ds = ds' := by
      injection ed with ed
      injection ed with _ ed
      injection ed with ed _
      injection ed with _ ed
      injection ed
    subst e1 e2
    refine ⟨_, hσ, a, xs, rfl, ⟨hH, fun x hx' => sqT_same h.ext.fh (hx x hx').sq⟩, ?_⟩
    split at p
    · rename_i kk e' hgk hge
      cases hdd : dDAdd ((xs.map (·.1)).map fun k => .tuple (k.map .int)) ds kk e' with
      | none => rw [hdd] at p; exact p.elim
      | some dn =>
        rw [hdd] at p
        obtain ⟨kl, es, ki, old, rfl, rfl, hki, hlt, hlk, hle, rfl⟩ := dDAdd_inv hdd
        refine rk2 σ F H _ _ h.ext.fh h.vr ?_
        rw [hgk]
        intro y F1 H1 x1 qk
        cases qk with
        | @tup b ys _ eb db =>
          have z := intsD_map hki
          subst z
          have z := DrAll.of_ints db
          subst z
          refine ⟨Nat.zero_le _, fun pl hpl => ?_⟩
          have x2 : Ext F1 H1 (upd F1 pl (.lst [])) (upd H1 pl (.lst [])) := Ext.new x1.fh hpl
          have E2 := x1.trans x2
          have h2 := h.grow E2
          have tail : ∀ w, Dr X.K (upd F1 pl (.lst [])) w (.list old) → te σ (upd H1 pl (.lst [])) fun y H2 => r w y H2 fun v H1 => tVar i σ H1 fun x H2 => tk σ H2 fun y H3 => ∃ (a b : Addr) (xs : List EnF) (k : List Int), x = .ref a ∧ y = .ref b ∧ DfAt X H3 a xs ∧ SqT X.K H3 b (k.map V.int) ∧ xs.length + 1 ≤ sizeLine ∧
              ∀ u, L2.RelV v u → Dn.nx σ (upd H3 a (dfO X.prog X.w a (storedH xs k b u))) := by
            intro w qw
            refine re σ _ _ _ _ h2.ext.fh h2.vr ?_
            rw [hge]
            intro ev F3 H3 x3 qe
            refine op2 σ F3 H3 w ev (.list old) (.list es) _ x3.fh (qw.same x3.ff) qe ?_
            have ea : dAdd (.list old) (.list es) = .ok (.list (old ++ es)) := if_pos hle
            rw [ea]
            intro rv F4 H4 x4 qr
            have E4 := (E2.trans x3).trans x4
            have h4 := h.grow E4
            refine ⟨_, hσ, rk σ F4 H4 _ _ h4.ext.fh h4.vr ?_⟩
            rw [hgk]
            intro y' F5 H5 x5 qk'
            have E5 := E4.trans x5
            have h5 := h.grow E5
            cases qk' with
            | @tup b' ys' _ eb' db' =>
              have z := DrAll.of_ints db'
              subst z
              refine ⟨a, b', xs, ki, rfl, rfl, ⟨E5.hh _ _ hH, fun x hx' => sqT_same h5.ext.fh (fz_same E5.ff (hx x hx')).sq⟩, sqT_same h5.ext.fh eb'.sq, ?_, fun u ru => p σ F5 _ E5.ff ?_⟩
              · rw [List.length_map] at hlt
                exact Nat.lt_of_lt_of_le hlt (sz_lim (Nat.le_refl _))
              · have h6 := h5.upd3 (xs := storedH xs ki b' u) (vs := putV (xs.map (·.1)) vs ki rv) (ds := putV (xs.map (·.1)) ds ki (.list (old ++ es))) hρ ho hσ
                  (stored_all (P := fun x => FzT F5 x.2.1 (x.1.map V.int)) (fun x hx' => fz_same E5.ff (hx x hx')) (fun x hx v => hx) eb') (by rw [stored_vals]; exact vals_put ru hr) (drAll_put (qr.same x5.ff) (ha.same E5.ff))
                rw [stored_keys] at h6
                exact h6
          refine ⟨b, xs, ki, rfl, ⟨E2.hh _ _ hH, fun x hx' => sqT_same h2.ext.fh (fz_same E2.ff (hx x hx')).sq⟩, sqT_same x2.fh (sqT_same x2.ff eb.sq), fun pv v hp rv => tail v ?_, fun hp => tail _ ?_, fun pv hp => ?_⟩
          · obtain ⟨v', hv', rv'⟩ := lk_val hr hp
            cases relV_fun rv rv'
            obtain ⟨d', hd', qd⟩ := ha.getR hv'
            rcases hlk with z | ⟨z, rfl⟩
            · unfold lkV at z
              rw [z] at hd'
              cases hd'
              exact qd.same E2.ff
            · unfold lkV at z
              rw [z] at hd'
              cases hd'
          · have hv' := lk_no hr hp
            rcases hlk with z | ⟨z, rfl⟩
            · obtain ⟨v', h1, _⟩ := ha.get z
              unfold lkV at hv'
              rw [hv'] at h1
              cases h1
            · exact .lst upd_same .nil
          · obtain ⟨v', _, rv'⟩ := lk_val hr hp
            exact ⟨v', rv'⟩
    · exact p.elim
  · exact p.elim
/-- sorted(x) -/
def dSortDct : D → Rz D
  | .dict [(.bool false, .list kd), (.bool false, .list _)] => (orSt (tupsD kd)).bind fun ks => if ks.length < 64 ∧ ks.all pairOk = true then .ok (.list ((srtP ks).map tI)) else .st
  | _ => .st
theorem de_sortDct {a : Expr} {ga : G} {p pos : Pos} (hm : X.mg "sorted" = none) (ha : DE X W a ga) (hc : X.calm = true := by rfl) (hg : Gl X "sorted" := by rfl) (na : starEach [a] X.env = (false, eval a X.env) :: starEach [] X.env := by rfl) (hpl : (backTo pos (starEach [] X.env)).any (·.1) = false := by rfl) :
    DE X W (.Call (.Name "sorted" p) [a] [] pos) (g1 dSortDct ga) := by
  obtain ⟨t, pa, ra⟩ := ha
  refine ⟨_, pe_callB (cr_sortDF hc) hg hm boot_sorted (pa_cons pa pa_nil na) (by decide) (by decide) na hpl, fun σ F H ρ Q s hV h => ?_⟩
  refine ra σ F H ρ _ s hV (Po.bind h fun d x F1 H1 e1 q1 h1 => ?_)
  have sm1 := e1.fh
  cases q1 with
  | @dct a1 xs vs ds ea ka rv da =>
    have h1 : Po (Dr X.K) X.mg W σ F1 H1 ((orSt (tupsD ((xs.map (·.1)).map fun k => .tuple (k.map .int)))).bind fun ks => if ks.length < 64 ∧ ks.all pairOk = true then .ok (.list ((srtP ks).map tI)) else .st) Q := h1
    rw [tupsD_of', orSt_some, Rz.bind_ok] at h1
    obtain ⟨⟨hl, hok⟩, h3⟩ := Po.ifst h1
    rw [List.length_map] at hl
    have okp : ∀ x ∈ xs, pairOk x.1 = true := fun x hx => List.all_eq_true.mp hok _ (List.mem_map.mpr ⟨x, hx, rfl⟩)
    refine ⟨a1, xs, 2, 64, rfl, sm1 _ _ ea, fun x hx => sqT_same sm1 (ka x hx).sq, hl, by decide, fun x hx => ?_, fun L' c pm pw hcn => ?_⟩
    · obtain ⟨u, v, e, hx, hy⟩ := pairOk_inv (okp x hx)
      rw [e]
      refine ⟨rfl, fun z hz => ?_⟩
      rcases List.mem_cons.mp hz with rfl | hz
      · exact hx
      · rw [List.mem_singleton.mp hz]; exact hy
    · have E1 : Ext F1 H1 (upd F1 c (.lst (L'.map fun q => V.ref q.1))) (upd H1 c (.lst (L'.map fun q => V.ref q.1))) := Ext.new sm1 hcn
      have sub' : ∀ q ∈ L', ∃ x ∈ xs, q = (x.2.1, x.1) := fun q hq => by
        obtain ⟨x, hx, e⟩ := List.mem_map.mp (pm.mem_iff.mp hq)
        exact ⟨x, hx, e.symm⟩
      have em : L'.map (·.2) = srtP (xs.map (·.1)) := by
        refine List.Perm.eq_of_pairwise (le := fun a b => TS.code 64 a ≤ TS.code 64 b) (fun a b ha hb h1 h2 => ?_) (List.pairwise_map.mpr pw) (srtP_pw _) ?_
        · obtain ⟨p, hp, rfl⟩ := List.mem_map.mp ha
          obtain ⟨x, hx, rfl⟩ := sub' p hp
          have hb : b ∈ xs.map (·.1) := (List.mergeSort_perm _ _).mem_iff.mp hb
          exact code_inj (okp x hx) (List.all_eq_true.mp hok _ hb) h1 h2
        · refine List.Perm.trans ?_ (List.mergeSort_perm _ _).symm
          have := pm.map (·.2)
          rw [List.map_map] at this
          exact this
      refine Po.ok h3 E1 (.lst upd_same ?_)
      rw [← em]
      exact drAll_refs fun p hp => by
        obtain ⟨x, hx, rfl⟩ := sub' p hp
        exact fz_same E1.ff (ka x hx)
  | _ => exact False.elim h1
end
end DL
/-! part DLs29 -/
namespace DL
open PySem PySem.Spec PyProof.Rows L2
/-! ### lists that are copied and emptied -/
/-- F without its lists -/
def noL (F : Hp) : Hp := fun a => match F a with | some (.lst _) => none | o => o
theorem noL_same (F : Hp) : Same (noL F) F := fun a o e => by
  unfold noL at e
  split at e
  · cases e
  · exact e
theorem noL_lst {F : Hp} {a : Addr} {xs : List V} (h : F a = some (.lst xs)) : noL F a = none := by
  unfold noL
  rw [h]
theorem noL_none {F : Hp} {a : Addr} (h : F a = none) : noL F a = none := by
  unfold noL
  rw [h]
theorem noL_frz {F : Hp} {a : Addr} {o : Obj} {u : HO} (h : F a = some (.frz o u)) : noL F a = some (.frz o u) := by
  unfold noL
  rw [h]
/-- what noL drops of F are lists -/
theorem noL_drop {F : Hp} {a : Addr} {o : HO} (h : F a = some o) (n : noL F a = none) : ∃ xs, o = .lst xs := by
  unfold noL at n
  split at n
  · rename_i xs e
    rw [h] at e
    cases e
    exact ⟨xs, rfl⟩
  · rw [h] at n
    cases n
theorem noL_not {F : Hp} {a : Addr} {xs : List V} : noL F a ≠ some (.lst xs) := fun e => by
  unfold noL at e
  split at e
  · cases e
  · rename_i hne
    exact hne _ e
theorem noL_keep {F F1 : Hp} (s : Same (noL F) F1) {a : Addr} {o : HO} (h : noL F a = some o) : noL F1 a = some o := by
  have e := s _ _ h
  unfold noL
  rw [e]
  cases o with
  | lst xs => exact absurd h noL_not
  | _ => rfl
mutual
def nolD : D → Bool
  | .list _ => false
  | .dict _ => false
  | .tuple ds => nolAll ds
  | _ => true
def nolAll : List D → Bool
  | [] => true
  | d :: ds => nolD d && nolAll ds
end
mutual
theorem Dr.noL {K : PySem.W.Frag} {F : Hp} : ∀ {d : D} {v : V}, Dr K F v d → nolD d = true → Dr K (DL.noL F) v d
  | _, _, .non, _ => .non
  | _, _, .bl b, _ => .bl b
  | _, _, .int i, _ => .int i
  | _, _, .str x, _ => .str x
  | _, _, .lst h a, q => by simp [nolD] at q
  | _, _, .wk _ _, q => by simp [nolD] at q
  | _, _, .tup h a, q => by
    obtain ⟨o, ho, hd⟩ := h
    exact .tup ⟨o, noL_frz ho, hd⟩ (DrAll.noL a (by simpa [nolD] using q))
  | _, _, .ro _, q => by simp [nolD] at q
  | _, _, .exc _ _, q => by simp [nolD] at q
  | _, _, .dct _ _ _ _, q => by simp [nolD] at q
  | _, _, .mat _ _ _ _, q => by simp [nolD] at q
theorem DrAll.noL {K : PySem.W.Frag} {F : Hp} : ∀ {ds : List D} {vs : List V}, DrAll K F vs ds → nolAll ds = true → DrAll K (DL.noL F) vs ds
  | _, _, .nil, _ => .nil
  | _, _, .cons h a, q => by
    simp [nolAll] at q
    exact .cons (Dr.noL h q.1) (DrAll.noL a q.2)
end
/-- lists of lists .. of such things -/
def dpD : Nat → D → Bool
  | 0, d => nolD d
  | k + 1, .list ds => decide (ds.length ≤ lim) && ds.all (dpD k)
  | _ + 1, d => nolD d
theorem dpD_cases {k : Nat} {d : D} (h : dpD k d = true) : nolD d = true ∨ ∃ j ds, k = j + 1 ∧ d = .list ds ∧ ds.length ≤ lim ∧ ∀ e ∈ ds, dpD j e = true := by
  cases k with
  | zero => exact .inl h
  | succ j =>
    cases d with
    | list ds =>
      right
      have h : (decide (ds.length ≤ lim) && ds.all (dpD j)) = true := h
      rw [Bool.and_eq_true, decide_eq_true_eq, List.all_eq_true] at h
      exact ⟨j, ds, rfl, rfl, h.1, h.2⟩
    | _ => exact .inl h
/-- two parts of a heap together -/
def jn (G F : Hp) : Hp := fun a => match G a with | some o => some o | none => F a
theorem jn_l (G F : Hp) : Same G (jn G F) := fun a o e => by unfold jn; rw [e]
theorem jn_r {G F : Hp} (h : ∀ a o o', G a = some o → F a = some o' → o = o') : Same F (jn G F) := fun a o e => by
  unfold jn
  cases g : G a with
  | none => exact e
  | some o' => rw [h a o' o g e]
theorem jn_none {G F : Hp} {a : Addr} (h : G a = none) (h' : F a = none) : jn G F a = none := by unfold jn; rw [h]; exact h'
theorem jn_sub {G F H : Hp} (h : Same G H) (h' : Same F H) : Same (jn G F) H := fun a o e => by
  unfold jn at e
  cases g : G a with
  | none => rw [g] at e; exact h' _ _ e
  | some o' => rw [g] at e; cases e; exact h _ _ g
/-! the test isinstance(x, list), x in slot 0 -/
def tIsL (K : PySem.W.Frag) : TT := tB (tCB (rIsi K) (tCons (tVar 0) (tCons (tC (.ty "list")) tNil)))
theorem isL_leaf {K : PySem.W.Frag} {F H : Hp} {σ : St} {v : V} {d : D} {Q : Bool → Hp → Prop} (hσ : σ[0]? = some (some v)) (s : Same F H) (q : Dr K F v d) (n : nolD d = true) (h : Q false H) : tIsL K σ H Q := by
  have hd : ∀ kvs, d ≠ .dict kvs := fun kvs e => by
    subst e
    simp [nolD] at n
  have hs : subTy (tyD d) "list" = false := by
    cases d with
    | list ds => simp [nolD] at n
    | dict ds => simp [nolD] at n
    | _ => rfl
  refine ⟨v, hσ, v, .ty "list", .type (tyD d), .type "list", subTy (tyD d) "list", rfl, .ty "list", ty_of s q hd, kit_ty (kit_one (by decide) hd), false, by rw [hs], h⟩
theorem isL_list {K : PySem.W.Frag} {H : Hp} {σ : St} {a : Addr} {xs : List V} {Q : Bool → Hp → Prop} (hσ : σ[0]? = some (some (.ref a))) (e : H a = some (.lst xs)) (h : Q true H) : tIsL K σ H Q :=
  ⟨_, hσ, _, .ty "list", .type "list", .type "list", true, rfl, .ty "list", .base (.lst e), kit_ty (by decide +kernel), true, rfl, h⟩
/-! ### the copy -/
def spTw (K : PySem.W.Frag) (k : Nat) : Sp := fun vs H Q _ => ∃ (F : Hp) (v : V) (d : D), vs = [v] ∧ Same F H ∧ Dr K F v d ∧ dpD k d = true ∧ ∀ v' F2 H2, Ext (noL F) H F2 H2 → Dr K F2 v' d → Q v' H2
def spTwN (K : PySem.W.Frag) : Nat → Sp
  | 0 => fun _ _ _ _ => False
  | k + 1 => spTw K k
theorem tw_read {K : PySem.W.Frag} {W : WX} {k : Nat} {v : V} {H : Hp} {D : Ends} {E : XK} (h : spTwN K (k + 1) [v] H D.rt E) :
    tSeq (tIfS (tNot (tIsL K)) (tRet (tVar 0)) tNext) (tRet (tLc (iList K (tVar 0)) (gName 1) tYes (tCallS (spTwN K k) (WE W) (tCons (tVar 1) tNil)) [1])) D [some v, none] H := by
  obtain ⟨F, v', d, e, s, q, dp, hQ⟩ := h
  cases e
  rcases dpD_cases dp with n | ⟨j, ds, ej, rfl, hl, hds⟩
  · exact isL_leaf (K := K) rfl s q n (iteT ⟨v, rfl, hQ v (noL F) H (Ext.refl ((noL_same F).trans s)) (q.noL n)⟩)
  · subst ej
    cases q with
    | @lst a xs _ ea aa =>
      have eH : H a = some (.lst xs) := s _ _ ea
      refine isL_list (K := K) rfl eH (iteF ?_)
      refine ⟨_, rfl, a, rfl, ⟨xs, SqL.of eH⟩, fun L hL => ?_⟩
      have fL : F L = none := s.free hL
      have len := aa.len
      refine ⟨fun i m H' => m = xs.length - i ∧ i ≤ xs.length ∧ ∃ (G : Hp) (acc : List V), Same (noL F) G ∧ Same G H' ∧ G L = none ∧ H' L = some (.lst acc) ∧ acc.length = i ∧ DrAll K G acc (ds.take i) ∧ Same H H' ∧ ∀ b o, H b = some o → noL F b = none → G b = none,
        ⟨xs.length, rfl, Nat.zero_le _, noL F, [], Same.refl _, ((noL_same F).trans s).trans (same_upd hL), noL_none fL, upd_same, rfl, .nil, same_upd hL, fun _ _ _ n => n⟩, ?_⟩
      rintro i m H' ⟨rfl, hi, G, acc, g1, g2, g3, g4, g5, g6, g7, g8⟩
      have eH' : H' a = some (.lst xs) := g7 _ _ eH
      by_cases hlt : i < xs.length
      · right
        refine ⟨⟨xs, xs[i], SqL.of eH', List.getElem?_eq_getElem hlt⟩, fun H' => ∃ (G : Hp) (acc : List V), Same (noL F) G ∧ Same G H' ∧ G L = none ∧ H' L = some (.lst acc) ∧ acc.length = i + 1 ∧ DrAll K G acc (ds.take (i + 1)) ∧ Same H H' ∧ ∀ b o, H b = some o → noL F b = none → G b = none,
          fun H' hN => ⟨xs.length - (i + 1), by omega, rfl, hlt, hN⟩, fun x H'' hy => ?_⟩
        obtain ⟨rfl, f⟩ := hy
        have hx := f xs (SqL.of eH')
        have hds' : ds[i]? = some ds[i] := List.getElem?_eq_getElem (by omega)
        obtain ⟨x', hx', qx⟩ := aa.get hds'
        rw [hx] at hx'
        cases hx'
        refine ⟨rfl, ?_⟩
        unfold tYes
        dsimp only
        try rw [if_pos rfl]
        refine ⟨x, rfl, F, x, ds[i], rfl, s.trans g7, qx, hds _ (List.getElem_mem _), fun y F2 H4 e2 qy => ?_⟩
        have nL : noL F L = none := noL_none fL
        have F2L : F2 L = none := e2.nf L _ g4 nL
        have cons : ∀ b o o', G b = some o → F2 b = some o' → o = o' := fun b o o' z z' => by
          cases w : noL F b with
          | none => rw [e2.nf b o (g2 _ _ z) w] at z'; cases z'
          | some u =>
            have h1 := g1 _ _ w
            have h2 := e2.ff _ _ w
            rw [z] at h1
            rw [z'] at h2
            exact (Option.some.inj h1).trans (Option.some.inj h2).symm
        have jL : jn G F2 L = none := jn_none g3 F2L
        have js : Same (jn G F2) H4 := jn_sub (g2.trans e2.hh) e2.fh
        have up : ∀ {P : Hp}, Same P H4 → P L = none → Same P (upd H4 L (.lst (acc ++ [y]))) := fun {P} g gd b o z => by
          rw [upd_ne (ne_of_none z gd)]
          exact g _ _ z
        refine ⟨acc, e2.hh _ _ g4, by rw [g5]; exact small_lt (n := ds.length) hl (by omega), jn G F2, acc ++ [y], g1.trans (jn_l _ _), up js jL, jL, upd_same, by rw [List.length_append, g5]; rfl, ?_, up (g7.trans e2.hh) hL, fun b o z n => jn_none (g8 b o z n) (e2.nf b o (g7 _ _ z) n)⟩
        rw [List.take_succ, hds']
        exact (g6.same (jn_l _ _)).append (.cons (qy.same (jn_r cons)) .nil)
      · left
        have ei : i = xs.length := by omega
        subst ei
        refine ⟨⟨xs, SqL.of eH', Nat.le_refl _⟩, ?_⟩
        rw [len, List.take_length] at g6
        have sG : Same G (upd G L (.lst acc)) := same_upd g3
        refine hQ (.ref L) (upd G L (.lst acc)) H' ⟨g7, g1.trans sG, fun b o z => ?_, fun b o z n => ?_, (noL_same F).trans s⟩ (.lst upd_same (g6.same sG))
        · by_cases hb : b = L
          · subst hb
            rw [upd_same] at z
            cases z
            exact g4
          · rw [upd_ne hb] at z
            exact g2 _ _ z
        · rw [upd_ne (ne_of_none z hL)]
          exact g8 b o z n
/-! ### the emptying: S the lists, r their heights -/
def Lz (K : PySem.W.Frag) (F : Hp) (S : Addr → Prop) (r : Addr → Nat) (n : Nat) (x : V) : Prop := (∃ d, Dr K F x d ∧ nolD d = true) ∨ ∃ b, x = .ref b ∧ S b ∧ r b < n
def Reg (K : PySem.W.Frag) (F : Hp) (S : Addr → Prop) (r : Addr → Nat) (H : Hp) : Prop := ∀ a, S a → ∃ xs, H a = some (.lst xs) ∧ ∀ x ∈ xs, Lz K F S r (r a) x
def Kept (S : Addr → Prop) (r : Addr → Nat) (n : Nat) (H H' : Hp) : Prop := ∀ a o, H a = some o → (¬ S a ∨ n ≤ r a) → H' a = some o
def spEm (K : PySem.W.Frag) (k : Nat) : Sp := fun vs H Q _ => ∃ (F : Hp) (S : Addr → Prop) (r : Addr → Nat) (n : Nat) (v : V), vs = [v] ∧ Same F H ∧ (∀ a, S a → F a = none) ∧ Reg K F S r H ∧ n ≤ k ∧ Lz K F S r n v ∧ ∀ H', Kept S r n H H' → Reg K F S r H' → Q .non H'
def spEmN (K : PySem.W.Frag) : Nat → Sp
  | 0 => fun _ _ _ _ => False
  | k + 1 => spEm K k
theorem em_read {K : PySem.W.Frag} {W : WX} {k : Nat} {v : V} {H : Hp} {D : Ends} {E : XK} (h : spEmN K (k + 1) [v] H (fun u H' => u = .non ∧ ∀ x, D.nx [some v, x] H') E) :
    tIfS (tIsL K) (tSeq (tFor (iList K (tCB (fun xs H Q => ∃ p ys, xs = [.ref p] ∧ (SqL K H p ys ∨ SqT K H p ys) ∧ ∀ l, H l = none → Q (.ref l) (upd H l (.lst ys))) (tCons (tVar 0) tNil))) (gName 1) (tDrop (tCallS (spEmN K k) (WE W) (tCons (tVar 1) tNil)))) (tDrop (tBM0 K "list" rClear (tVar 0)))) tNext D [some v, none] H := by
  obtain ⟨F, S, r, n, v', e, s, sF, hR, hn, hz, hQ⟩ := h
  cases e
  rcases hz with ⟨d, q, nd⟩ | ⟨b, rfl, hb, hbn⟩
  · exact isL_leaf (K := K) rfl s q nd (iteF ((hQ H (fun _ _ z _ => z) hR).2 _))
  · obtain ⟨xs, eH, hxs⟩ := hR b hb
    obtain ⟨k, rfl⟩ : ∃ k', k = k' + 1 := ⟨k - 1, by omega⟩
    refine isL_list (K := K) rfl eH (iteT ?_)
    refine ⟨_, rfl, b, xs, rfl, .inl (SqL.of eH), fun l hl => ⟨l, rfl, ⟨xs, SqL.of upd_same⟩, ?_⟩⟩
    have hSl : ¬ S l := fun z => by
      obtain ⟨ys, ey, _⟩ := hR l z
      rw [hl] at ey
      cases ey
    refine ⟨fun i m σ' H' => m = xs.length - i ∧ i ≤ xs.length ∧ ∃ x, σ' = [some (.ref b), x] ∧ H' l = some (.lst xs) ∧ Kept S r (r b) H H' ∧ Reg K F S r H', ⟨xs.length, rfl, Nat.zero_le _, none, rfl, upd_same, fun a o z _ => by rw [upd_ne (ne_of_none z hl)]; exact z, fun a ha => ?_⟩, ?_⟩
    · obtain ⟨ys, ey, hy⟩ := hR a ha
      exact ⟨ys, by rw [upd_ne (ne_of_none ey hl)]; exact ey, hy⟩
    rintro i m σ' H' ⟨rfl, hi, x0, rfl, el, hk, hR'⟩
    by_cases hlt : i < xs.length
    · right
      refine ⟨⟨xs, xs[i], SqL.of el, List.getElem?_eq_getElem hlt⟩, fun σ' H' => ∃ x, σ' = [some (.ref b), x] ∧ H' l = some (.lst xs) ∧ Kept S r (r b) H H' ∧ Reg K F S r H', fun σ' H' hN => ⟨xs.length - (i + 1), by omega, rfl, hlt, hN⟩, fun x H'' hy => ?_⟩
      obtain ⟨rfl, f⟩ := hy
      have hx := f xs (SqL.of el)
      have hm : x ∈ xs := List.mem_of_getElem? hx
      refine ⟨x, rfl, F, S, r, r b, x, rfl, fun a o z => hk a o (s _ _ z) (.inl fun w => by rw [sF a w] at z; cases z), sF, hR', by omega, hxs x hm, fun H3 k3 r3 => ?_⟩
      exact ⟨_, rfl, k3 l _ el (.inl hSl), fun a o z w => k3 a o (hk a o z w) w, r3⟩
    · left
      have ei : i = xs.length := by omega
      subst ei
      refine ⟨⟨xs, SqL.of el, Nat.le_refl _⟩, ?_⟩
      have eb := hk b _ eH (.inr (Nat.le_refl _))
      refine ⟨_, rfl, .inl ⟨rfl, xs, SqL.of eb⟩, b, xs, rfl, rfl, eb, ?_⟩
      refine (hQ _ (fun a o z w => ?_) fun a ha => ?_).2 _
      · have hne : a ≠ b := fun e => by
          subst e
          rcases w with w | w
          · exact w hb
          · omega
        rw [upd_ne hne]
        exact hk a o z (w.imp id fun w => by omega)
      · by_cases e : a = b
        · subst e
          exact ⟨[], upd_same, fun x hx => nomatch hx⟩
        · rw [upd_ne e]
          exact hR' a ha
/-! ### a def that promises more than a denotation -/
structure CalS (P : Program) (w : World) (K : PySem.W.Frag) (mg : Str → Option Value) (base : Heap) (k : Nat) (x : Str) (ps : List Str) (sp : Sp) : Prop where
  ex : ∃ (f : Addr) (fd : FuncData), FnOk P w K mg base (L2.CX P w) k f fd ps sp ∧ mg x = some (.ref f) ∧ PySem.W.keepIn K (.ref f) = true ∧ Binds K fd ps []
theorem pe_calS {X : Cx} {W : WX} {k : Nat} {ps : List Str} {sp : Sp} {x : Str} {p pos : Pos} {e : Expr} {es : List Expr} {t : TA} (c : CalS X.prog X.w X.K X.mg X.base k x ps sp) (hr : Room k X.A) (tk : Takes X W) (ha : PA X (e :: es) t) (hg : Gl X x := by rfl) (hdb : (x == ("__debug__" : Str)) = false := by decide)
    (he : starEach (e :: es) X.env = (false, eval e X.env) :: starEach es X.env := by rfl) (hpl : (backTo pos (starEach es X.env)).any (·.1) = false := by rfl) : PE X (.Call (.Name x p) (e :: es) [] pos) (tCallS sp (WE W) t) := by
  obtain ⟨fa, fd, F, hm, hk, hb⟩ := c.ex
  exact pe_callS (E := WE W) F hr hg hm hk hb (fun σ => passAt tk σ) ha hdb he hpl
/-! ### heights -/
def Dep (K : PySem.W.Frag) (F : Hp) : Nat → V → Prop
  | 0, x => ∃ d, Dr K F x d ∧ nolD d = true
  | k + 1, x => (∃ d, Dr K F x d ∧ nolD d = true) ∨ ∃ a xs, x = .ref a ∧ F a = some (.lst xs) ∧ ∀ y ∈ xs, Dep K F k y
theorem drAll_mem {K : PySem.W.Frag} {F : Hp} : ∀ {vs : List V} {ds : List D}, DrAll K F vs ds → ∀ v ∈ vs, ∃ d ∈ ds, Dr K F v d
  | _, _, .cons h a, v, hv => by
    rcases List.mem_cons.mp hv with rfl | hv
    · exact ⟨_, List.mem_cons_self, h⟩
    · obtain ⟨d, h1, h2⟩ := drAll_mem a v hv
      exact ⟨d, List.mem_cons_of_mem _ h1, h2⟩
theorem dep_of {K : PySem.W.Frag} {F : Hp} : ∀ {k : Nat} {v : V} {d : D}, Dr K F v d → dpD k d = true → Dep K F k v
  | 0, v, d, q, h => ⟨d, q, h⟩
  | k + 1, v, d, q, h => by
    rcases dpD_cases h with n | ⟨j, ds, ej, rfl, _, hds⟩
    · exact .inl ⟨d, q, n⟩
    · cases ej
      cases q with
      | lst ea aa =>
        refine .inr ⟨_, _, rfl, ea, fun y hy => ?_⟩
        obtain ⟨d', h1, h2⟩ := drAll_mem aa y hy
        exact dep_of h2 (hds d' h1)
theorem leaf_no {K : PySem.W.Frag} {F : Hp} {a : Addr} {xs : List V} {d : D} (e : F a = some (.lst xs)) (q : Dr K F (.ref a) d) (n : nolD d = true) : False := by
  cases q with
  | tup h _ =>
    obtain ⟨o, h, _⟩ := h
    rw [e] at h
    cases h
  | _ => simp [nolD] at n
theorem leastN {p : Nat → Prop} (h : ∃ n, p n) : ∃ k, p k ∧ ∀ j, j < k → ¬ p j := by
  obtain ⟨n, hn⟩ := h
  obtain ⟨k, _, h1, h2⟩ := st_least n hn
  exact ⟨k, h1, h2⟩
open Classical in
noncomputable def hgt (K : PySem.W.Frag) (F : Hp) (a : Addr) : Nat := if h : ∃ k, Dep K F k (.ref a) then Classical.choose (leastN h) else 0
theorem hgt_spec {K : PySem.W.Frag} {F : Hp} {a : Addr} {k : Nat} (h : Dep K F k (.ref a)) : Dep K F (hgt K F a) (.ref a) ∧ hgt K F a ≤ k := by
  have hx : ∃ k, Dep K F k (.ref a) := ⟨k, h⟩
  have e : hgt K F a = Classical.choose (leastN hx) := dif_pos hx
  have sp := Classical.choose_spec (leastN hx)
  rw [e]
  refine ⟨sp.1, ?_⟩
  rcases Nat.lt_or_ge k (Classical.choose (leastN hx)) with z | z
  · exact absurd h (sp.2 k z)
  · exact z
def lstS (K : PySem.W.Frag) (F : Hp) (a : Addr) : Prop := (∃ xs, F a = some (.lst xs)) ∧ ∃ k, Dep K F k (.ref a)
theorem lz_of {K : PySem.W.Frag} {F : Hp} {k : Nat} {y : V} (h : Dep K F k y) : Lz K (noL F) (lstS K F) (hgt K F) (k + 1) y := by
  have leaf : (∃ d, Dr K F y d ∧ nolD d = true) → Lz K (noL F) (lstS K F) (hgt K F) (k + 1) y := fun ⟨d, q, n⟩ => .inl ⟨d, q.noL n, n⟩
  cases k with
  | zero => exact leaf h
  | succ k =>
    rcases h with h | ⟨a, xs, rfl, e, hx⟩
    · exact leaf h
    · have hd : Dep K F (k + 1) (.ref a) := .inr ⟨a, xs, rfl, e, hx⟩
      exact .inr ⟨a, rfl, ⟨⟨xs, e⟩, _, hd⟩, Nat.lt_succ_of_le (hgt_spec hd).2⟩
theorem reg_of {K : PySem.W.Frag} {F H : Hp} (s : Same F H) : Reg K (noL F) (lstS K F) (hgt K F) H := fun a ⟨⟨xs, e⟩, k, hk⟩ => by
  refine ⟨xs, s _ _ e, fun x hx => ?_⟩
  have hd := (hgt_spec hk).1
  cases hh : hgt K F a with
  | zero =>
    rw [hh] at hd
    obtain ⟨d, q, n⟩ := hd
    exact (leaf_no e q n).elim
  | succ j =>
    rw [hh] at hd
    rcases hd with ⟨d, q, n⟩ | ⟨b, ys, eb, e2, hy⟩
    · exact (leaf_no e q n).elim
    · cases eb
      rw [e] at e2
      cases e2
      exact lz_of (hy x hx)
/-! ### rows = f(..); due = twin(rows); for one in rows: emptied(one) -/
def rsE (ρ : En) : En := ρ.map fun o => match o with
  | some d => if nolD d then some d else none
  | none => none
theorem Vr.rs {K : PySem.W.Frag} {F : Hp} {σ : St} {ρ : En} (h : Vr K F σ ρ) : Vr K (noL F) σ (rsE ρ) := by
  refine ⟨by unfold rsE; rw [List.length_map, h.len], fun i d e => ?_⟩
  unfold rsE at e
  rw [List.getElem?_map] at e
  obtain ⟨o, ho, e⟩ := Option.map_eq_some_iff.mp e
  cases o with
  | none => cases e
  | some d' =>
    by_cases n : nolD d' = true
    · have e : (if nolD d' = true then some d' else none) = some d := e
      rw [if_pos n] at e
      cases e
      obtain ⟨v, hv, q⟩ := h.get i d ho
      exact ⟨v, hv, q.noL n⟩
    · have e : (if nolD d' = true then some d' else none) = some d := e
      rw [if_neg n] at e
      cases e
def sRows (ir idue ione : Nat) (g : G) : GS := fun ρ => match g (rsE ρ) with
  | .ok (.list ds) => if (dpD 3 (.list ds) && decide (ir < ρ.length ∧ idue < ρ.length ∧ ione < ρ.length)) then .nx (((ρ.set ir none).set idue (some (.list ds))).set ione none) else .st
  | _ => .st
section
variable {X : Cx} {W : WX} {ob o' o2 : Ow}
theorem dss_rows {ir idue ione kt ke : Nat} {xr xd xo : Str} {call : Expr} {g : G} {rest : List Stmt} {u : GS} {q1 q2 q3 q4 q5 q6 q7 q8 q9 q10 q11 q12 q13 q14 : Pos} {pst pse : List Str}
    (hp : PassesOwn (model X.prog X.w) X.A X.env X.xe) (hc : X.calm = true) (hN : X.N.Nodup) (h1 : DE X W call g) (tw : CalS X.prog X.w X.K X.mg X.base kt "_law_twin" pst (spTwN X.K 4)) (hrt : Room kt X.A) (em : CalS X.prog X.w X.K X.mg X.base ke "_law_emptied" pse (spEmN X.K 4)) (hre : Room ke X.A) (tk : Takes X W)
    (hrest : DSs X W ob [] o2 rest u) (n1 : ir ≠ idue := by decide) (n2 : ir ≠ ione := by decide) (n3 : idue ≠ ione := by decide)
    (i1 : X.N[ir]? = some xr := by rfl) (i2 : X.N[idue]? = some xd := by rfl) (i3 : X.N[ione]? = some xo := by rfl)
    (l1 : X.env.scope.names.lookup xr = some .local := by rfl) (l2 : X.env.scope.names.lookup xd = some .local := by rfl) (l3 : X.env.scope.names.lookup xo = some .local := by rfl)
    (db1 : (xr == ("__debug__" : Str)) = false := by decide) (db3 : (xo == ("__debug__" : Str)) = false := by decide) (cd1 : (xr == ("__classdict__" : Str)) = false := by decide) (cd3 : (xo == ("__classdict__" : Str)) = false := by decide)
    (s1 : swapsWith call (some (.Name xr q1)) q2.line X.env = pure false := by rfl)
    (s2 : swapsWith (.Call (.Name "_law_twin" q3) [.Name xr q4] [] q5) (some (.Name xd q6)) q7.line X.env = pure false := by rfl)
    (g2 : Gl X "_law_twin" := by rfl) (g3 : Gl X "_law_emptied" := by rfl)
    (s3 : swapsWith (.Call (.Name "_law_emptied" q10) [.Name xo q11] [] q12) none q13.line X.env = pure false := by rfl)
    (e2 : starEach (Expr.Name xr q4 :: []) X.env = (false, eval (Expr.Name xr q4) X.env) :: starEach [] X.env := by rfl) (e3 : starEach (Expr.Name xo q11 :: []) X.env = (false, eval (Expr.Name xo q11) X.env) :: starEach [] X.env := by rfl)
    (b2 : (backTo q5 (starEach [] X.env)).any (·.1) = false := by rfl) (b3 : (backTo q12 (starEach [] X.env)).any (·.1) = false := by rfl) :
    DSs X W ob [] o2 (.Assign [.Name xr q1] call q2 :: .Assign [.Name xd q6] (.Call (.Name "_law_twin" q3) [.Name xr q4] [] q5) q7 :: .For (.Name xo q8) (.Name xr q9) [.Expr (.Call (.Name "_law_emptied" q10) [.Name xo q11] [] q12) q13] [] q14 :: rest) (sSeq (sRows ir idue ione g) u) := by
  obtain ⟨te, pe, re⟩ := h1
  refine pss_imp (pss_cons (ps_set hN i1 (.inl l1) pe s1 (.inr l1)) (pss_cons (ps_set hN i2 (.inl l2) (pe_calS tw hrt tk (pa_cons (pe_var i1 (.inl l1) db1 cd1) pa_nil e2) g2 (by decide) e2 b2) s2 (.inr l2))
    (pss_cons (ps_for hp hc (pi_list (pe_var i1 (.inl l1) db1 cd1)) (pg_name hN i3 (.inl l3) (.inr l3)) (pss_one (ps_expr (pe_calS em hre tk (pa_cons (pe_var i3 (.inl l3) db3 cd3) pa_nil e3) g3 (by decide) e3 b3) s3))) hrest))) fun Dn σ H ⟨F0, H0, F, ρ, h, p⟩ => ?_
  have hV : Vr X.K F σ ρ := by
    have := h.vr
    exact this
  have p : PoS X.K X.mg W ob o2 F0 H0 F ((match g (rsE ρ) with
    | .ok (.list ds) => if (dpD 3 (.list ds) && decide (ir < ρ.length ∧ idue < ρ.length ∧ ione < ρ.length)) then .nx (((ρ.set ir none).set idue (some (.list ds))).set ione none) else .st
    | _ => .st : Out).andThen u) Dn := p
  have fH : Same (noL F) H := (noL_same F).trans h.ext.fh
  split at p
  · rename_i ds hg
    by_cases dp : (dpD 3 (.list ds) && decide (ir < ρ.length ∧ idue < ρ.length ∧ ione < ρ.length)) = true
    · rw [if_pos dp] at p
      rw [Bool.and_eq_true, decide_eq_true_eq] at dp
      obtain ⟨dp, k1, k2, k3⟩ := dp
      have hl := h.len
      refine re σ (noL F) H (rsE ρ) _ fH hV.rs ?_
      rw [hg]
      intro v F1 H1 x1 q1
      have f1L : ∀ a o, H a = some o → noL F a = none → F1 a = none := x1.nf
      have hs1 : (σ.set ir (some v))[ir]? = some (some v) := List.getElem?_set_self (by omega)
      refine ⟨v, hs1, F1, v, .list ds, rfl, x1.fh, q1, dp, fun v' F2 H2 x2 q2 => ?_⟩
      have hs2 : ((σ.set ir (some v)).set idue (some v'))[ir]? = some (some v) := by rw [List.getElem?_set_ne (Ne.symm n1)]; exact hs1
      have hdep := dep_of q1 dp
      cases q1 with
      | @lst a xs _ ea aa =>
        have e1 : H1 a = some (.lst xs) := x1.fh _ _ ea
        have e2 : H2 a = some (.lst xs) := x2.hh _ _ e1
        have hh := hgt_spec hdep
        have hS : lstS X.K F1 a := ⟨⟨xs, ea⟩, 3, hdep⟩
        have hreg : Reg X.K (noL F1) (lstS X.K F1) (hgt X.K F1) H2 := reg_of (x1.fh.trans x2.hh)
        obtain ⟨xs', ex', hxs⟩ := hreg a hS
        rw [e2] at ex'
        cases ex'
        have sS : ∀ b, lstS X.K F1 b → noL F1 b = none := fun b hb => by
          obtain ⟨⟨ys, ey⟩, _⟩ := hb
          exact noL_lst ey
        -- S stands apart from what was there ahead
        have newS : ∀ b, lstS X.K F1 b → H b = none := fun b hb => by
          obtain ⟨⟨ys, ey⟩, _⟩ := hb
          cases z : H b with
          | none => rfl
          | some o =>
            cases y : noL F b with
            | none =>
              rw [f1L b o z y] at ey
              cases ey
            | some o' =>
              have := x1.ff _ _ y
              rw [ey] at this
              cases this
              exact absurd y noL_not
        refine ⟨_, hs2, a, rfl, ⟨xs, SqL.of e2⟩, ?_⟩
        generalize hσ2 : (σ.set ir (some (.ref a))).set idue (some v') = σ2 at hs2
        have l2 : σ2.length = σ.length := by rw [← hσ2, List.length_set, List.length_set]
        have F2S : ∀ b, lstS X.K F1 b → F2 b = none := fun b hb => by
          obtain ⟨⟨ys, ey⟩, w⟩ := hb
          exact x2.nf b _ (x1.fh _ _ ey) (noL_lst ey)
        have old2 : ∀ b o, H b = some o → noL F b = none → F2 b = none := fun b o z y => x2.nf b o (x1.hh _ _ z) (noL_none (f1L b o z y))
        have cons : ∀ b o o', F b = some o → F2 b = some o' → o = o' := fun b o o' z z' => by
          cases y : noL F b with
          | none =>
            rw [old2 b o (h.ext.fh _ _ z) y] at z'
            cases z'
          | some u =>
            have y1 := (noL_same F) _ _ y
            have y2 := x2.ff _ _ (noL_keep x1.ff y)
            rw [z] at y1
            rw [z'] at y2
            exact (Option.some.inj y1).trans (Option.some.inj y2).symm
        refine ⟨fun i m σ' H' => m = xs.length - i ∧ i ≤ xs.length ∧ σ'.length = σ2.length ∧ (∀ j, j ≠ ione → σ'[j]? = σ2[j]?) ∧ Kept (lstS X.K F1) (hgt X.K F1) (hgt X.K F1 a) H2 H' ∧ Reg X.K (noL F1) (lstS X.K F1) (hgt X.K F1) H', ⟨xs.length, rfl, Nat.zero_le _, rfl, fun _ _ => rfl, fun _ _ z _ => z, hreg⟩, ?_⟩
        rintro i m σ' H' ⟨rfl, hi, hlen, hoff, hk, hR'⟩
        have e' : H' a = some (.lst xs) := hk a _ e2 (.inr (Nat.le_refl _))
        have stay : ∀ b o, H b = some o → H' b = some o := fun b o z => hk b o (x2.hh _ _ (x1.hh _ _ z)) (.inl fun w => by rw [newS b w] at z; cases z)
        by_cases hlt : i < xs.length
        · right
          refine ⟨⟨xs, xs[i], SqL.of e', List.getElem?_eq_getElem hlt⟩, fun σ' H' => σ'.length = σ2.length ∧ (∀ j, j ≠ ione → σ'[j]? = σ2[j]?) ∧ Kept (lstS X.K F1) (hgt X.K F1) (hgt X.K F1 a) H2 H' ∧ Reg X.K (noL F1) (lstS X.K F1) (hgt X.K F1) H', fun σ' H' hN => ⟨xs.length - (i + 1), by omega, rfl, hlt, hN⟩, fun x H'' hy => ?_⟩
          obtain ⟨rfl, f⟩ := hy
          have hx := f xs (SqL.of e')
          refine ⟨x, List.getElem?_set_self (by omega), noL F1, lstS X.K F1, hgt X.K F1, hgt X.K F1 a, x, rfl, fun b o z => ?_, sS, hR', hh.2, hxs x (List.mem_of_getElem? hx), fun H3 k3 r3 => ⟨by rw [List.length_set]; exact hlen, fun j hj => by rw [List.getElem?_set_ne (Ne.symm hj)]; exact hoff j hj, fun b o z w => k3 b o (hk b o z w) w, r3⟩⟩
          exact hk b o (x2.hh _ _ (x1.fh _ _ (noL_same F1 _ _ z))) (.inl fun w => by rw [sS b w] at z; cases z)
        · left
          have ei : i = xs.length := by omega
          subst ei
          refine ⟨⟨xs, SqL.of e', Nat.le_refl _⟩, F0, H0, jn F F2, _, StR.ofVr ⟨fun b o z => stay b o (h.ext.hh _ _ z), h.ext.ff.trans (jn_l F F2), jn_sub (fun b o z => stay b o (h.ext.fh _ _ z)) (fun b o z => hk b o (x2.fh _ _ z) (.inl fun w => by rw [F2S b w] at z; cases z)), fun b o z n => ?_, h.ext.s0⟩ ⟨?_, fun j d hd => ?_⟩, p.mono (jn_l F F2)⟩
          · have n1 := h.ext.nf b o z n
            exact jn_none n1 (old2 b o (h.ext.hh _ _ z) (noL_none n1))
          · rw [hlen, l2, List.length_set, List.length_set, List.length_set, hl]
          · have hj1 : j ≠ ione := fun e => by
              subst e
              rw [List.getElem?_set_self (by rw [List.length_set, List.length_set]; omega)] at hd
              cases hd
            rw [List.getElem?_set_ne (Ne.symm hj1)] at hd
            rw [hoff j hj1, ← hσ2]
            by_cases hj2 : j = idue
            · subst hj2
              rw [List.getElem?_set_self (by rw [List.length_set]; omega)] at hd
              cases hd
              exact ⟨v', List.getElem?_set_self (by rw [List.length_set]; omega), q2.same (jn_r cons)⟩
            · rw [List.getElem?_set_ne (Ne.symm hj2)] at hd ⊢
              have hj3 : j ≠ ir := fun e => by
                subst e
                rw [List.getElem?_set_self (by omega)] at hd
                cases hd
              rw [List.getElem?_set_ne (Ne.symm hj3)] at hd ⊢
              obtain ⟨w, hw, qw⟩ := hV.get j d hd
              exact ⟨w, hw, qw.same (jn_l F F2)⟩
    · rw [if_neg dp] at p
      exact p.elim
  · exact p.elim
end
end DL
/-! part DLend -/
namespace DL
open PySem PySem.Spec PyProof.Rows L2
/-! ### facts of the written part, read by one run -/
def dB {α : Type} [DecidableEq α] (a b : α) : Bool := decide (a = b)
def excCB (K : PySem.W.Frag) (D : Addr) : Bool :=
  He.eqO (PySem.W.findIn K (.ref D) "__getattribute__") (some (some (.builtin "BaseException.__getattribute__"))) && (He.eqO (PySem.W.findIn K (.ref D) "__getattr__") (some none) && (decide (PySem.W.subIn K (.ref D) (.type "BaseException") = some true) &&
  (PySem.W.hasDictIn K D && (He.eqO (PySem.W.findIn K (.ref D) "__class__") (some (some (.builtin "object.__class__"))) && (He.eqO (PySem.W.specialIn K (.builtin "object.__class__") "__get__") (some (some (.builtin "getset_descriptor.__get__"))) &&
  (decide (PySem.W.takesIn K (.builtin "object.__class__") = some true) && decide (PySem.W.mroIn K D (.type "object") = some true)))))))
theorem excCB_ok {K : PySem.W.Frag} {D : Addr} (h : excCB K D = true) : ExcC K D := by
  obtain ⟨h1, h⟩ := He.ba h
  obtain ⟨h2, h⟩ := He.ba h
  obtain ⟨h3, h⟩ := He.ba h
  obtain ⟨h4, h⟩ := He.ba h
  obtain ⟨h5, h⟩ := He.ba h
  obtain ⟨h6, h⟩ := He.ba h
  obtain ⟨h7, h8⟩ := He.ba h
  exact ⟨He.eqO_ok h1, He.eqO_ok h2, of_decide_eq_true h3, h4, He.eqO_ok h5, He.eqO_ok h6, of_decide_eq_true h7, of_decide_eq_true h8⟩
def catB (cl : List Str) (K : PySem.W.Frag) : Bool :=
  (("SquareError" : Str) :: cl).all (fun c => (He.Fa.glo c).ok K) && cl.all fun c => excCB K (He.ga K c) && (decide (PySem.W.kitOne K (.ref (He.ga K c)) (.type "ValueError") = some true) &&
    (("SquareError" : Str) :: cl).all fun S => decide (PySem.W.exmOne K (.ref (He.ga K c)) (.ref (He.ga K S)) = some (subN c S)) && decide (PySem.W.kitOne K (.ref (He.ga K c)) (.ref (He.ga K S)) = some (subN c S)))
theorem catB_ok {K : PySem.W.Frag} {h : Heap} {mg : Str → Option Value} {cl : List Str} (X : K.In h) (G : h.Ns mainGlobals mg) (c : catB cl K = true) : Cat K mg cl := by
  obtain ⟨c1, c2⟩ := He.ba c
  have gl : ∀ S ∈ ("SquareError" : Str) :: cl, mg S = some (.ref (He.ga K S)) := fun S hS => He.glo_ok X G (List.all_eq_true.mp c1 S hS)
  refine ⟨fun c hc => ?_, fun c hc S hS => ?_⟩
  · obtain ⟨k1, k2⟩ := He.ba (List.all_eq_true.mp c2 c hc)
    obtain ⟨k2, k3⟩ := He.ba k2
    exact ⟨_, gl c (List.mem_cons_of_mem _ hc), excCB_ok k1, of_decide_eq_true k2⟩
  · obtain ⟨k1, k2⟩ := He.ba (List.all_eq_true.mp c2 c hc)
    obtain ⟨k2, k3⟩ := He.ba k2
    obtain ⟨k4, k5⟩ := He.ba (List.all_eq_true.mp k3 S hS)
    exact ⟨_, _, gl c (List.mem_cons_of_mem _ hc), gl S hS, of_decide_eq_true k4, of_decide_eq_true k5⟩
abbrev AlX : Type := Bool × He.Al
def obsX (fa : List He.Fa) (fn : List He.FnD) (ex : PySem.W.Frag → Bool) (K : PySem.W.Frag) : AlX := (ex K, He.obsE fa fn K)
def SaysX (fa : List He.Fa) (fn : List He.FnD) (ex : PySem.W.Frag → Bool) (K : PySem.W.Frag) : Prop := obsX fa fn ex K = (true, He.valE fn)
def obsXG (n : Nat) (fa : List He.Fa) (fn : List He.FnD) (ex : PySem.W.Frag → Bool) (g : Addr → Option Obj) : AlX := obsX fa fn ex (He.frG g (He.asG g n))
def hookX (n : Nat) (fa : List He.Fa) (fn : List He.FnD) (ex : PySem.W.Frag → Bool) : PySem.W.Hook where
  α := AlX
  obs := fun s => obsXG n fa fn ex s.heap.get?
  val := fun _ => (true, He.valE fn)
  says := fun _ h => ∃ K : PySem.W.Frag, K.In h ∧ SaysX fa fn ex K
  of := fun _ _ e => ⟨_, He.frG_in, e⟩
  keeps := fun _ _ _ ⟨K, hK, c⟩ k => ⟨K, PySem.W.Frag.In.keeps hK k, c⟩
theorem obsXG_eq {n : Nat} {fa : List He.Fa} {fn : List He.FnD} {ex : PySem.W.Frag → Bool} {g : Addr → Option Obj} {s : Shared} (h : ∀ a, g a = s.heap.get? a) : obsXG n fa fn ex g = (hookX n fa fn ex).obs s := by
  have e : g = s.heap.get? := funext h
  rw [e] <;> rfl
section
variable {fa : List He.Fa} {fn : List He.FnD} {exB : PySem.W.Frag → Bool} {K : PySem.W.Frag} {h : Heap} {mg : Str → Option Value}
theorem SaysX.ex (c : SaysX fa fn exB K) : exB K = true := congrArg (fun z : AlX => z.1) c
theorem SaysX.e (c : SaysX fa fn exB K) : He.SaysE fa fn K := congrArg (fun z : AlX => z.2) c
abbrev defF (x : Str) (st : Stmt) : He.FnD := ⟨(x, none), x, x, defArgs st, defBody st, defScope st⟩
theorem funAt (X : K.In h) (G : h.Ns mainGlobals mg) (c : SaysX fa fn exB K) {x : Str} {st : Stmt} {ps : List Str} (i j k : Nat)
    (hb : ∀ (kV doc pm : Value) (an : Option Addr) (cdv ct : Value) (us : List Value), us.length = ps.length → bindArgs (PySem.W.fnOf x x (defArgs st) (defBody st) (defScope st) .none kV doc pm an cdv ct) ⟨us, []⟩ = pure (ps.zip us))
    (hd : fn[i]? = some (defF x st) := by rfl) (hg : fa[j]? = some (.glo x) := by rfl) (hk : fa[k]? = some (.keep x) := by rfl) : FunAt K mg x st ps := by
  obtain ⟨oc, od, osl, kV, doc, pm, an, cdv, ct, l, cd⟩ := c.e.def_ i hd
  have F : Fun K x x st (He.ga K x) _ := fun_mk l cd (He.keep_ok (c.e.fact k hk))
  exact ⟨_, _, F, He.glo_ok X G (c.e.fact j hg), F.binds hb⟩
theorem excF (X : K.In h) (G : h.Ns mainGlobals mg) (c : SaysX fa fn exB K) {x : Str} (i j : Nat) (hg : fa[i]? = some (.glo x) := by rfl) (he : fa[j]? = some (.exc x) := by rfl) : ExcF K mg x (He.ga K x) := by
  obtain ⟨h1, h2, h3, h4⟩ := He.exc_ok (c.e.fact j he)
  exact ⟨He.glo_ok X G (c.e.fact i hg), h1, h2, h3, h4⟩
end
/-- what the law's def promises -/
def gLaw : List D → Rz D
  | [.dict [(.none, .list ns)]] => if (intsD ns).isSome && decide (ns.length ≤ 63) then .ok (.bool true) else .st
  | _ => .st
theorem intsD_ofE : ∀ ns : List Int, intsD (ns.map .int) = some ns
  | [] => rfl
  | n :: r => by
    rw [List.map_cons]
    unfold intsD
    rw [intsD_ofE r] <;> rfl
theorem gLaw_ok {ns : List Int} (h : ns.length ≤ 63) : gLaw [ro ns] = .ok (.bool true) := by
  show (if (intsD (ns.map PyData.int)).isSome && decide ((ns.map PyData.int).length ≤ 63) then Rz.ok (PyData.bool true) else .st) = _
  rw [intsD_ofE, List.length_map, decide_eq_true h] <;> rfl
/-- the law's def -/
theorem law_of {P : Program} {w : World} {K : PySem.W.Frag} {mg : Str → Option Value} {base : Heap} {x : Str} {st : Stmt} {f : Addr} {fd : FuncData} {N ps : List Str} {k : Nat} {g : List D → Rz D} {m : GS} {o' : Ow} (F : Fun K x x st f fd) (S : FnScope N ps (defScope st)) (hl : ps.length ≤ N.length)
    (hb : ∀ (f : Addr) (cdv : Value) (A : Around) (outer : List Env) (s : Shared) (H : Hp) (E : XK), Room k (A.deeper (envOfC x (defScope st) s.heap.objs.size f cdv)) →
      Takes (cxOf (L2.CX P w) P w K mg base N x (defScope st) f cdv A outer s H E) (fun cls d _ H' => E cls d H') →
      PassesOwn (model P w) (A.deeper (envOfC x (defScope st) s.heap.objs.size f cdv)) (envOfC x (defScope st) s.heap.objs.size f cdv) (cxOf (L2.CX P w) P w K mg base N x (defScope st) f cdv A outer s H E).xe →
      DSs (cxOf (L2.CX P w) P w K mg base N x (defScope st) f cdv A outer s H E) (fun cls d _ H' => E cls d H') [] [] o' (defBody st) m)
    (hg : ∀ ds, ds.length = ps.length → g ds = .st ∨ (m (startE N.length ds)).rz = g ds) : FnD P w K mg base (k + 1) f fd ps g :=
  fnD_of F S hl (fun cdv A outer s H E hr => hb f cdv A outer s H E hr (takes_of (X := cxOf (L2.CX P w) P w K mg base N x (defScope st) f cdv A outer s H E) rfl rfl rfl rfl) (passes_of (X := cxOf (L2.CX P w) P w K mg base N x (defScope st) f cdv A outer s H E) rfl)) hg
theorem walk_ofX {l : PySem.W.OpenLaw} {k : Nat} {q : Program} {loose : List Str} {XP : (Str → Option Value) → Heap → Prop} {fa : List He.Fa} {fn : List He.FnD} {exB : PySem.W.Frag → Bool} {m : Nat} {d : DefRec} {x : Str} {st : Stmt}
    (hn : l.most = some 63) (hdf : d.params.defaults = []) (hr : Room k callerA) (hnm : d.name = ("law" : Str)) (i j kk : Nat) (hd' : fn[i]? = some (defF "law" st)) (hg' : fa[j]? = some (.glo "law")) (hk' : fa[kk]? = some (.keep "law"))
    (hbi : ∀ (kV doc pm : Value) (an : Option Addr) (cdv ct : Value) (us : List Value), us.length = [x].length → bindArgs (PySem.W.fnOf "law" "law" (defArgs st) (defBody st) (defScope st) .none kV doc pm an cdv ct) ⟨us, []⟩ = pure ([x].zip us))
    (F : ∀ (w : World) (K : PySem.W.Frag) (mg : Str → Option Value) (base : Heap) (f : Addr) (fd : FuncData), SaysX fa fn exB K → K.In base → base.Ns mainGlobals mg → Fun K "law" "law" st f fd → FnD l.prog w K mg base k f fd [x] gLaw) :
    PySem.W.WalkO q loose XP (hookX m fa fn exB).says l.row.toRowW d [] (fun f vs => PySem.call f vs) := by
  refine Att.attach_call hn hdf fun w s₀ s₁ mg mb fad o pm cd doc a vs ns G Y ho hd hcd hmg hobj hints hlen hg => ?_
  obtain ⟨K, KX, c⟩ := Y
  have hmg : mg ("law" : Str) = some (.ref fad) := by
    rw [← hnm]
    exact hmg
  have e := hmg.symm.trans (He.glo_ok KX G.T.g (c.e.fact j hg'))
  cases e
  obtain ⟨oc, od, osl, kV, doc', pm', an, cdv, ct, lk, cdk⟩ := c.e.def_ i hd'
  have Fl : Fun K "law" "law" st (He.ga K "law") _ := fun_mk lk cdk (He.keep_ok (c.e.fact kk hk'))
  refine law_call (CX := L2.CX l.prog w) (sp := spD K mg 1 gLaw) (x := x) KX G.T.g G.T.b G.T.builtins G.T.nolimit hg hobj hints (Nat.le_trans hlen (by rw [sizeLine_eq]; omega)) hr (fun base h1 h2 => F w K mg base _ _ c h1 h2 Fl) (fun s u => ?_) (fun H hO hS => ⟨H, [ro ns], Same.refl _, .cons (.ro hS) .nil, rfl, ?_⟩) fun H e s' hx => ?_
  · exact .of_eq (hbi kV doc' pm' an cdv ct [u] rfl)
  · rw [gLaw_ok hlen]
    intro v F' H' e q
    cases q
    rfl
  · obtain ⟨_, _, _, _, _, _, _, _, _, _, _, _, z⟩ := hx
    exact z
end DL
/-! part DLq -/
namespace DL
open PySem
/-! ### plain facts about the operators -/
@[simp] theorem dIsi_none_int  : dIsi "int" .none = .ok (.bool false) := rfl
@[simp] theorem dIsi_none_bool  : dIsi "bool" .none = .ok (.bool false) := rfl
@[simp] theorem dIsi_none_str  : dIsi "str" .none = .ok (.bool false) := rfl
@[simp] theorem dIsi_none_list  : dIsi "list" .none = .ok (.bool false) := rfl
@[simp] theorem dIsi_none_tuple  : dIsi "tuple" .none = .ok (.bool false) := rfl
@[simp] theorem dIsN_none  : dIsN .none = .ok (.bool true) := rfl
@[simp] theorem dNotN_none  : dNotN .none = .ok (.bool false) := rfl
@[simp] theorem isSc_none  : isSc .none = true := rfl
@[simp] theorem dIsi_bool_int (b : Bool) : dIsi "int" (.bool b) = .ok (.bool true) := rfl
@[simp] theorem dIsi_bool_bool (b : Bool) : dIsi "bool" (.bool b) = .ok (.bool true) := rfl
@[simp] theorem dIsi_bool_str (b : Bool) : dIsi "str" (.bool b) = .ok (.bool false) := rfl
@[simp] theorem dIsi_bool_list (b : Bool) : dIsi "list" (.bool b) = .ok (.bool false) := rfl
@[simp] theorem dIsi_bool_tuple (b : Bool) : dIsi "tuple" (.bool b) = .ok (.bool false) := rfl
@[simp] theorem dIsN_bool (b : Bool) : dIsN (.bool b) = .ok (.bool false) := rfl
@[simp] theorem dNotN_bool (b : Bool) : dNotN (.bool b) = .ok (.bool true) := rfl
@[simp] theorem isSc_bool (b : Bool) : isSc (.bool b) = true := rfl
@[simp] theorem dIsi_int_int (i : Int) : dIsi "int" (.int i) = .ok (.bool true) := rfl
@[simp] theorem dIsi_int_bool (i : Int) : dIsi "bool" (.int i) = .ok (.bool false) := rfl
@[simp] theorem dIsi_int_str (i : Int) : dIsi "str" (.int i) = .ok (.bool false) := rfl
@[simp] theorem dIsi_int_list (i : Int) : dIsi "list" (.int i) = .ok (.bool false) := rfl
@[simp] theorem dIsi_int_tuple (i : Int) : dIsi "tuple" (.int i) = .ok (.bool false) := rfl
@[simp] theorem dIsN_int (i : Int) : dIsN (.int i) = .ok (.bool false) := rfl
@[simp] theorem dNotN_int (i : Int) : dNotN (.int i) = .ok (.bool true) := rfl
@[simp] theorem isSc_int (i : Int) : isSc (.int i) = true := rfl
@[simp] theorem dIsi_str_int (x : Str) : dIsi "int" (.str x) = .ok (.bool false) := rfl
@[simp] theorem dIsi_str_bool (x : Str) : dIsi "bool" (.str x) = .ok (.bool false) := rfl
@[simp] theorem dIsi_str_str (x : Str) : dIsi "str" (.str x) = .ok (.bool true) := rfl
@[simp] theorem dIsi_str_list (x : Str) : dIsi "list" (.str x) = .ok (.bool false) := rfl
@[simp] theorem dIsi_str_tuple (x : Str) : dIsi "tuple" (.str x) = .ok (.bool false) := rfl
@[simp] theorem dIsN_str (x : Str) : dIsN (.str x) = .ok (.bool false) := rfl
@[simp] theorem dNotN_str (x : Str) : dNotN (.str x) = .ok (.bool true) := rfl
@[simp] theorem isSc_str (x : Str) : isSc (.str x) = true := rfl
@[simp] theorem dIsi_list_int (xs : List D) : dIsi "int" (.list xs) = .ok (.bool false) := rfl
@[simp] theorem dIsi_list_bool (xs : List D) : dIsi "bool" (.list xs) = .ok (.bool false) := rfl
@[simp] theorem dIsi_list_str (xs : List D) : dIsi "str" (.list xs) = .ok (.bool false) := rfl
@[simp] theorem dIsi_list_list (xs : List D) : dIsi "list" (.list xs) = .ok (.bool true) := rfl
@[simp] theorem dIsi_list_tuple (xs : List D) : dIsi "tuple" (.list xs) = .ok (.bool false) := rfl
@[simp] theorem dIsN_list (xs : List D) : dIsN (.list xs) = .ok (.bool false) := rfl
@[simp] theorem dNotN_list (xs : List D) : dNotN (.list xs) = .ok (.bool true) := rfl
@[simp] theorem isSc_list (xs : List D) : isSc (.list xs) = false := rfl
@[simp] theorem dIsi_tuple_int (xs : List D) : dIsi "int" (.tuple xs) = .ok (.bool false) := rfl
@[simp] theorem dIsi_tuple_bool (xs : List D) : dIsi "bool" (.tuple xs) = .ok (.bool false) := rfl
@[simp] theorem dIsi_tuple_str (xs : List D) : dIsi "str" (.tuple xs) = .ok (.bool false) := rfl
@[simp] theorem dIsi_tuple_list (xs : List D) : dIsi "list" (.tuple xs) = .ok (.bool false) := rfl
@[simp] theorem dIsi_tuple_tuple (xs : List D) : dIsi "tuple" (.tuple xs) = .ok (.bool true) := rfl
@[simp] theorem dIsN_tuple (xs : List D) : dIsN (.tuple xs) = .ok (.bool false) := rfl
@[simp] theorem dNotN_tuple (xs : List D) : dNotN (.tuple xs) = .ok (.bool true) := rfl
@[simp] theorem isSc_tuple (xs : List D) : isSc (.tuple xs) = false := rfl
@[simp] theorem truth_none  : truth .none = .ok false := rfl
@[simp] theorem truth_bool (b : Bool) : truth (.bool b) = .ok b := rfl
@[simp] theorem truth_int (i : Int) : truth (.int i) = .ok (i != 0) := rfl
@[simp] theorem truth_list (xs : List D) : truth (.list xs) = .ok (!xs.isEmpty) := rfl
@[simp] theorem truth_tuple (xs : List D) : truth (.tuple xs) = .ok (!xs.isEmpty) := rfl
@[simp] theorem dAdd_ii (i j : Int) : dAdd (.int i) (.int j) = .ok (.int (i + j)) := rfl
@[simp] theorem dSub_ii (i j : Int) : dSub (.int i) (.int j) = .ok (.int (i - j)) := rfl
@[simp] theorem dLt_ii (i j : Int) : dLt (.int i) (.int j) = .ok (.bool (decide (i < j))) := rfl
@[simp] theorem dLe_ii (i j : Int) : dLe (.int i) (.int j) = .ok (.bool (decide (i ≤ j))) := rfl
@[simp] theorem dGt_ii (i j : Int) : dGt (.int i) (.int j) = .ok (.bool (decide (j < i))) := rfl
@[simp] theorem dGe_ii (i j : Int) : dGe (.int i) (.int j) = .ok (.bool (decide (j ≤ i))) := rfl
@[simp] theorem dAndB_ii (i j : Int) : dAndB (.int i) (.int j) = .ok (.int (Builtin.bitAnd i j)) := rfl
@[simp] theorem dMul_ii (i j : Int) : dMul (.int i) (.int j) = if (sml i || sml j) then .ok (.int (i * j)) else .st := rfl
@[simp] theorem dMod_ii (i j : Int) : dMod (.int i) (.int j) = if 0 < j then .ok (.int (i % j)) else .st := rfl
@[simp] theorem dFdv_ii (i j : Int) : dFdv (.int i) (.int j) = if decide (0 < j) && decide (j ≤ 1000000) then .ok (.int (i / j)) else .st := rfl
@[simp] theorem dNeg_i (i : Int) : dNeg (.int i) = .ok (.int (-i)) := rfl
@[simp] theorem dAdd_ll (xs ys : List D) : dAdd (.list xs) (.list ys) = if xs.length + ys.length ≤ lim then .ok (.list (xs ++ ys)) else .st := rfl
@[simp] theorem dAdd_tt (xs ys : List D) : dAdd (.tuple xs) (.tuple ys) = if xs.length + ys.length ≤ lim then .ok (.tuple (xs ++ ys)) else .st := rfl
@[simp] theorem dRep_li (xs : List D) (k : Int) : dRep (.list xs) (.int k) = if sml k && decide (xs.length * k.toNat ≤ lim) then .ok (.list (List.replicate k.toNat xs).flatten) else .st := rfl
@[simp] theorem dMul_li (xs : List D) (k : Int) : dMul (.list xs) (.int k) = if sml k && decide (xs.length * k.toNat ≤ lim) then .ok (.list (List.replicate k.toNat xs).flatten) else .st := rfl
@[simp] theorem items_list (xs : List D) : items (.list xs) = .ok xs := rfl
@[simp] theorem seqOf_list (xs : List D) : seqOf (.list xs) = .ok xs := rfl
@[simp] theorem dLen_list (xs : List D) : dLen (.list xs) = .ok (.int xs.length) := rfl
@[simp] theorem dTuple_list (xs : List D) : dTuple (.list xs) = .ok (.tuple xs) := rfl
@[simp] theorem dList_list (xs : List D) : dList (.list xs) = .ok (.list xs) := rfl
@[simp] theorem dIx_list (xs : List D) (i : Int) : dIx (.list xs) (.int i) = orSt (atD xs i) := rfl
@[simp] theorem dSl_list (xs : List D) (a b : Option Int) : dSl (.list xs) a b = .ok (.list (cutD xs a b)) := rfl
@[simp] theorem dSum_list (xs : List D) : dSum (.list xs) = (orSt (intsD xs)).bind fun ns => .ok (.int ns.sum) := rfl
@[simp] theorem dLenSet_list (xs : List D) : dLenSet (.list xs) = (orSt (intsD xs)).bind fun ns => if ns.length ≤ 1000 then .ok (.int (uniqI ns).length) else .st := rfl
@[simp] theorem items_tuple (xs : List D) : items (.tuple xs) = .ok xs := rfl
@[simp] theorem seqOf_tuple (xs : List D) : seqOf (.tuple xs) = .ok xs := rfl
@[simp] theorem dLen_tuple (xs : List D) : dLen (.tuple xs) = .ok (.int xs.length) := rfl
@[simp] theorem dTuple_tuple (xs : List D) : dTuple (.tuple xs) = .ok (.tuple xs) := rfl
@[simp] theorem dList_tuple (xs : List D) : dList (.tuple xs) = .ok (.list xs) := rfl
@[simp] theorem dIx_tuple (xs : List D) (i : Int) : dIx (.tuple xs) (.int i) = orSt (atD xs i) := rfl
@[simp] theorem dSl_tuple (xs : List D) (a b : Option Int) : dSl (.tuple xs) a b = .ok (.tuple (cutD xs a b)) := rfl
@[simp] theorem dSum_tuple (xs : List D) : dSum (.tuple xs) = (orSt (intsD xs)).bind fun ns => .ok (.int ns.sum) := rfl
@[simp] theorem dLenSet_tuple (xs : List D) : dLenSet (.tuple xs) = (orSt (intsD xs)).bind fun ns => if ns.length ≤ 1000 then .ok (.int (uniqI ns).length) else .st := rfl
@[simp] theorem dIx_ro (ns : List D) (i : Int) : dIx (.dict [(.none, .list ns)]) (.int i) = orSt (atD ns i) := rfl
@[simp] theorem dLen_ro (ns : List D) : dLen (.dict [(.none, .list ns)]) = .ok (.int ns.length) := rfl
@[simp] theorem on1_one (op : D → Rz D) (d : D) : on1 op [d] = op d := rfl
@[simp] theorem rngOf_1 (j : Int) : rngOf [.int j] = if sml j then .ok (rng 0 j) else .st := rfl
@[simp] theorem rngOf_2 (i j : Int) : rngOf [.int i, .int j] = if sml i && sml j then .ok (rng i j) else .st := rfl
@[simp] theorem zipD_ll (xs ys : List D) : zipD (.list xs) (.list ys) = .ok (zipOf xs ys) := rfl
@[simp] theorem zipD_tt (xs ys : List D) : zipD (.tuple xs) (.tuple ys) = .ok (zipOf xs ys) := rfl
@[simp] theorem dMax_ii (i j : Int) : dMax [.int i, .int j] = .ok (.int (if i < j then j else i)) := rfl
@[simp] theorem dAbs_i (i : Int) : dAbs (.int i) = .ok (.int (if i < 0 then -i else i)) := rfl
@[simp] theorem ixR_i (n : Nat) (i : Int) : ixR n (.int i) = ixD n i := rfl
@[simp] theorem tyD_tuple (xs : List D) : tyD (.tuple xs) = "tuple" := rfl
@[simp] theorem r_gVar (i : Nat) (x : Option D) (ρ : En) : gVar i (x :: ρ) = (match (x :: ρ)[i]? with | some (some d) => .ok d | _ => .st) := rfl
@[simp] theorem r_gC (d : D) (x : Option D) (ρ : En) : gC d (x :: ρ) = (.ok d) := rfl
@[simp] theorem r_g1 (op : D → Rz D) (a : G) (x : Option D) (ρ : En) : g1 op a (x :: ρ) = ((a (x :: ρ)).bind op) := rfl
@[simp] theorem r_g2 (op : D → D → Rz D) (a b : G) (x : Option D) (ρ : En) : g2 op a b (x :: ρ) = ((a (x :: ρ)).bind fun u => (b (x :: ρ)).bind fun y => op u y) := rfl
@[simp] theorem r_gChain (o1 o2 : D → D → Rz D) (a b c : G) (x : Option D) (ρ : En) : gChain o1 o2 a b c (x :: ρ) = ((a (x :: ρ)).bind fun u => (b (x :: ρ)).bind fun y => (o1 u y).bind fun z => (toBl z).bind fun k => if k then (c (x :: ρ)).bind fun w => o2 y w else .ok (.bool false)) := rfl
@[simp] theorem r_gNot (a : G) (x : Option D) (ρ : En) : gNot a (x :: ρ) = ((a (x :: ρ)).bind fun u => (truth u).bind fun k => .ok (.bool !k)) := rfl
@[simp] theorem r_gAnd (a b : G) (x : Option D) (ρ : En) : gAnd a b (x :: ρ) = ((a (x :: ρ)).bind fun u => (truth u).bind fun k => if k then b (x :: ρ) else .ok u) := rfl
@[simp] theorem r_gOr (a b : G) (x : Option D) (ρ : En) : gOr a b (x :: ρ) = ((a (x :: ρ)).bind fun u => (truth u).bind fun k => if k then .ok u else b (x :: ρ)) := rfl
@[simp] theorem r_gTup (a : GA) (x : Option D) (ρ : En) : gTup a (x :: ρ) = ((a (x :: ρ)).bind fun xs => if xs.length ≤ lim then .ok (.tuple xs) else .st) := rfl
@[simp] theorem r_gLst (a : GA) (x : Option D) (ρ : En) : gLst a (x :: ρ) = ((a (x :: ρ)).bind fun xs => if xs.length ≤ lim then .ok (.list xs) else .st) := rfl
@[simp] theorem r_gCall (f : List D → Rz D) (a : GA) (x : Option D) (ρ : En) : gCall f a (x :: ρ) = ((a (x :: ρ)).bind f) := rfl
@[simp] theorem r_gSc (a : G) (x : Option D) (ρ : En) : gSc a (x :: ρ) = ((a (x :: ρ)).bind fun d => if isSc d then .ok d else .st) := rfl
@[simp] theorem r_gSl (a : G) (lo hi : GO) (x : Option D) (ρ : En) : gSl a lo hi (x :: ρ) = ((a (x :: ρ)).bind fun u => (lo (x :: ρ)).bind fun l => (hi (x :: ρ)).bind fun h => dSl u l h) := rfl
@[simp] theorem r_oNo  (x : Option D) (ρ : En) : oNo (x :: ρ) = (.ok none) := rfl
@[simp] theorem r_oSm (a : G) (x : Option D) (ρ : En) : oSm a (x :: ρ) = ((a (x :: ρ)).bind fun d => match d with | .int i => .ok (some i) | _ => .st) := rfl
@[simp] theorem r_tVal (a : G) (x : Option D) (ρ : En) : tVal a (x :: ρ) = ((a (x :: ρ)).bind toBl) := rfl
@[simp] theorem r_tTru (a : G) (x : Option D) (ρ : En) : tTru a (x :: ρ) = ((a (x :: ρ)).bind truth) := rfl
@[simp] theorem r_tNt (t : GT) (x : Option D) (ρ : En) : tNt t (x :: ρ) = ((t (x :: ρ)).bind fun k => .ok !k) := rfl
@[simp] theorem r_tAn (t u : GT) (x : Option D) (ρ : En) : tAn t u (x :: ρ) = ((t (x :: ρ)).bind fun k => if k then u (x :: ρ) else .ok false) := rfl
@[simp] theorem r_tOrr (t u : GT) (x : Option D) (ρ : En) : tOrr t u (x :: ρ) = ((t (x :: ρ)).bind fun k => if k then .ok true else u (x :: ρ)) := rfl
@[simp] theorem r_tCm (op : D → D → Rz D) (a b : G) (x : Option D) (ρ : En) : tCm op a b (x :: ρ) = ((a (x :: ρ)).bind fun u => (b (x :: ρ)).bind fun y => (op u y).bind toBl) := rfl
@[simp] theorem r_tChn (o1 o2 : D → D → Rz D) (a b c : G) (x : Option D) (ρ : En) : tChn o1 o2 a b c (x :: ρ) = ((gChain o1 o2 a b c (x :: ρ)).bind toBl) := rfl
@[simp] theorem r_tYs  (x : Option D) (ρ : En) : tYs (x :: ρ) = (.ok true) := rfl
@[simp] theorem r_iSeq (a : G) (x : Option D) (ρ : En) : iSeq a (x :: ρ) = ((a (x :: ρ)).bind items) := rfl
@[simp] theorem r_iRg (a : GA) (x : Option D) (ρ : En) : iRg a (x :: ρ) = ((a (x :: ρ)).bind rngOf) := rfl
@[simp] theorem r_iEn (a : G) (x : Option D) (ρ : En) : iEn a (x :: ρ) = ((a (x :: ρ)).bind fun u => (seqOf u).bind fun xs => .ok (enumOf xs)) := rfl
@[simp] theorem r_iZp (a b : G) (x : Option D) (ρ : En) : iZp a b (x :: ρ) = ((a (x :: ρ)).bind fun u => (b (x :: ρ)).bind fun y => zipD u y) := rfl
@[simp] theorem r_gLc (it : GA) (tg : TgD) (t : GT) (e : G) (vs : List Nat) (x : Option D) (ρ : En) : gLc it tg t e vs (x :: ρ) = ((it (x :: ρ)).bind fun xs => if xs.length ≤ lim then (lcGo tg t e (wipeE (x :: ρ) vs) xs).bind fun ys => .ok (.list ys) else .st) := rfl
@[simp] theorem r_gListRg (a : GA) (x : Option D) (ρ : En) : gListRg a (x :: ρ) = ((iRg a (x :: ρ)).bind fun xs => .ok (.list xs)) := rfl
@[simp] theorem r_gTupRg (a : GA) (x : Option D) (ρ : En) : gTupRg a (x :: ρ) = ((iRg a (x :: ρ)).bind fun xs => .ok (.tuple xs)) := rfl
@[simp] theorem r_aNil  (x : Option D) (ρ : En) : aNil (x :: ρ) = (.ok []) := rfl
@[simp] theorem r_aCons (a : G) (as : GA) (x : Option D) (ρ : En) : aCons a as (x :: ρ) = ((a (x :: ρ)).bind fun u => (as (x :: ρ)).bind fun xs => .ok (u :: xs)) := rfl
@[simp] theorem r_sNil  (x : Option D) (ρ : En) : sNil (x :: ρ) = (.nx (x :: ρ)) := rfl
@[simp] theorem r_sSeq (s u : GS) (x : Option D) (ρ : En) : sSeq s u (x :: ρ) = ((s (x :: ρ)).andThen u) := rfl
@[simp] theorem r_sSet (os : List Nat) (tg : TgD) (a : G) (x : Option D) (ρ : En) : sSet os tg a (x :: ρ) = ((a (mk os (x :: ρ))).out fun d => match tg.go d (x :: ρ) with | some ρ1 => .nx ρ1 | none => .st) := rfl
@[simp] theorem r_sSetB (i : Nat) (a : G) (x : Option D) (ρ : En) : sSetB i a (x :: ρ) = ((gSc a (x :: ρ)).out fun d => .nx ((x :: ρ).set i (some d))) := rfl
@[simp] theorem r_sPar (os : List Nat) (i j : Nat) (a : GA) (x : Option D) (ρ : En) : sPar os i j a (x :: ρ) = ((a (mk os (x :: ρ))).out fun ds => match ds with | [d, e] => .nx (((x :: ρ).set i (some d)).set j (some e)) | _ => .st) := rfl
@[simp] theorem r_sRet (a : G) (x : Option D) (ρ : En) : sRet a (x :: ρ) = ((a (x :: ρ)).out .rt) := rfl
@[simp] theorem r_sRetN  (x : Option D) (ρ : En) : sRetN (x :: ρ) = (.rt .none) := rfl
@[simp] theorem r_sIf (t : GT) (a b : GS) (x : Option D) (ρ : En) : sIf t a b (x :: ρ) = ((t (x :: ρ)).out fun k => if k then a (x :: ρ) else b (x :: ρ)) := rfl
@[simp] theorem r_sRaise (c : Str) (x : Option D) (ρ : En) : sRaise c (x :: ρ) = (.ex c) := rfl
@[simp] theorem r_sExpr (os : List Nat) (a : G) (x : Option D) (ρ : En) : sExpr os a (x :: ρ) = ((a (mk os (x :: ρ))).out fun _ => .nx (x :: ρ)) := rfl
@[simp] theorem r_sBrk  (x : Option D) (ρ : En) : sBrk (x :: ρ) = (.bk (x :: ρ)) := rfl
@[simp] theorem r_sFor (os : List Nat) (it : GA) (tg : TgD) (b : GS) (x : Option D) (ρ : En) : sFor os it tg b (x :: ρ) = ((it (mk os (x :: ρ))).out fun xs => forGo tg b xs (x :: ρ)) := rfl
@[simp] theorem r_sWhile (n : Nat) (t : GT) (b : GS) (x : Option D) (ρ : En) : sWhile n t b (x :: ρ) = (whileGo t b n (x :: ρ)) := rfl
@[simp] theorem r_sApp (os : List Nat) (i : Nat) (a : G) (x : Option D) (ρ : En) : sApp os i a (x :: ρ) = (match (x :: ρ)[i]? with | some (some (.list xs)) => (a (mk os (x :: ρ))).out fun d => if xs.length < lim then .nx ((x :: ρ).set i (some (.list (xs ++ [d])))) else .st | _ => .st) := rfl
@[simp] theorem r_sExt (os : List Nat) (i : Nat) (a : G) (x : Option D) (ρ : En) : sExt os i a (x :: ρ) = (match (x :: ρ)[i]? with | some (some (.list xs)) => (a (mk os (x :: ρ))).out fun d => (match d with | .list ys => if xs.length + ys.length ≤ lim then .nx ((x :: ρ).set i (some (.list (xs ++ ys)))) else .st | _ => .st) | _ => .st) := rfl
@[simp] theorem r_sPut (os : List Nat) (i : Nat) (j a : G) (x : Option D) (ρ : En) : sPut os i j a (x :: ρ) = ((a (mk os (x :: ρ))).out fun d => match (x :: ρ)[i]? with | some (some (.list xs)) => (gSc j (x :: ρ)).out fun k => (match ixR xs.length k with | some p => .nx ((x :: ρ).set i (some (.list (xs.set p d)))) | none => .st) | _ => .st) := rfl
@[simp] theorem r_sPut2 (i : Nat) (j k a : G) (x : Option D) (ρ : En) : sPut2 i j k a (x :: ρ) = ((gSc a (x :: ρ)).out fun d => match (x :: ρ)[i]? with | some (some (.list xs)) => (gSc j (x :: ρ)).out fun jj => (match ixR xs.length jj with | some p => (match xs[p]? with | some (.list ys) => (gSc k (x :: ρ)).out fun kk => (match ixR ys.length kk with | some q => .nx ((x :: ρ).set i (some (.list (xs.set p (.list (ys.set q d)))))) | none => .st) | _ => .st) | none => .st) | _ => .st) := rfl
@[simp] theorem r_mk (os : List Nat) (ρ : En) : mk os ρ = wipeE ρ os := rfl
@[simp] theorem r_wipe0 (ρ : En) : wipeE ρ [] = ρ := rfl
@[simp] theorem r_wipe1 (ρ : En) (v : Nat) (vs : List Nat) : wipeE ρ (v :: vs) = (wipeE ρ vs).set v none := rfl
@[simp] theorem r_tgT (is : List Nat) (ds : List D) (ρ : En) : (tgT is).go (.tuple ds) ρ = if ds.length = is.length then some (setsE ρ is ds) else none := by
  unfold TgD.go tgT
  by_cases h : ds.length = is.length
  · simp [h]
  · simp [h]
@[simp] theorem r_sets0 (ρ : En) (ds : List D) : setsE ρ [] ds = ρ := by cases ds <;> rfl
@[simp] theorem r_sets1 (ρ : En) (i : Nat) (is : List Nat) (d : D) (ds : List D) : setsE ρ (i :: is) (d :: ds) = setsE (ρ.set i (some d)) is ds := rfl
@[simp] theorem r_for0 (tg : TgD) (b : GS) (ρ : En) : forGo tg b [] ρ = .nx ρ := rfl
theorem shaped_int (i : Int) : SeqAt.shaped (.int i) = true := by rfl
theorem eqv_int (i j : Int) : PyData.eqv (.int i) (.int j) = (i == j) := by
  unfold PyData.eqv
  rfl
@[simp] theorem dEq_int (i j : Int) : dEq (.int i) (.int j) = .ok (.bool (i == j)) := by
  unfold dEq
  rw [shaped_int, shaped_int, eqv_int]
  rfl
@[simp] theorem dNe_int (i j : Int) : dNe (.int i) (.int j) = .ok (.bool (!(i == j))) := by
  unfold dNe
  rw [shaped_int, shaped_int, eqv_int]
  rfl
theorem intsD_of (ns : List Int) : intsD (ns.map .int) = some ns := by
  induction ns with
  | nil => rfl
  | cons n r ih =>
    rw [List.map_cons]
    unfold intsD
    rw [ih]
    rfl
theorem sml_of {i : Int} (h1 : -1000000 ≤ i) (h2 : i ≤ 1000000) : sml i = true := by
  unfold sml
  simp [h1, h2]
theorem atD_nat {α : Type} {xs : List α} {k : Nat} {v : α} (h : xs[k]? = some v) : atD xs (k : Int) = some v := by
  unfold atD ixD
  have hk := (List.getElem?_eq_some_iff.mp h).1
  rw [if_pos (by omega), if_pos (by omega)]
  simpa using h
theorem ixD_nat {n k : Nat} (h : k < n) : ixD n (k : Int) = some k := by
  unfold ixD
  rw [if_pos (by omega), if_pos (by omega)]
  simp
theorem lcGo_filter {tg : TgD} {t : GT} {e : G} {ρ : En} (p : D → Bool) (f : D → D) : ∀ (xs : List D), (∀ d ∈ xs, ∃ ρ1, tg.go d ρ = some ρ1 ∧ t ρ1 = .ok (p d) ∧ (p d = true → e ρ1 = .ok (f d))) → lcGo tg t e ρ xs = .ok ((xs.filter p).map f)
  | [], _ => rfl
  | d :: ds, h => by
    obtain ⟨ρ1, h1, h2, h3⟩ := h d List.mem_cons_self
    have ih := lcGo_filter p f ds fun x hx => h x (List.mem_cons_of_mem _ hx)
    unfold lcGo
    simp only [h1, h2, Rz.nox_ok, Rz.bind_ok]
    cases hp : p d with
    | true => simp [h3 hp, ih, hp]
    | false => simp [ih, hp]
theorem lcGo_map {tg : TgD} {e : G} {ρ : En} (f : D → D) (xs : List D) (h : ∀ d ∈ xs, ∃ ρ1, tg.go d ρ = some ρ1 ∧ e ρ1 = .ok (f d)) : lcGo tg tYs e ρ xs = .ok (xs.map f) := by
  rw [lcGo_filter (t := tYs) (fun _ => true) f xs fun d hd => (fun ⟨ρ1, a, b⟩ => ⟨ρ1, a, rfl, fun _ => b⟩) (h d hd)]
  rw [List.filter_eq_self.mpr fun _ _ => rfl]
/-- a loop that only turns one state: st carries the names -/
theorem forGo_fold {S : Type} {tg : TgD} {b : GS} (st : S → En → Prop) (step : S → D → S) : ∀ (xs : List D) (s : S) (ρ : En), st s ρ → (∀ d ∈ xs, ∀ s ρ, st s ρ → ∃ ρ1 ρ2, tg.go d ρ = some ρ1 ∧ b ρ1 = .nx ρ2 ∧ st (step s d) ρ2) → ∃ ρ', forGo tg b xs ρ = .nx ρ' ∧ st (xs.foldl step s) ρ'
  | [], s, ρ, h, _ => ⟨ρ, rfl, h⟩
  | d :: ds, s, ρ, h, k => by
    obtain ⟨ρ1, ρ2, h1, h2, h3⟩ := k d List.mem_cons_self s ρ h
    obtain ⟨ρ', e, q⟩ := forGo_fold st step ds _ _ h3 fun x hx => k x (List.mem_cons_of_mem _ hx)
    refine ⟨ρ', ?_, q⟩
    unfold forGo
    simp only [h1, h2]
    exact e
@[simp] theorem dIsE_ok (a : Nat) (c X : Str) : dIsE a c X (.dict [(.int (a : Int), .str c)]) = .ok (.bool (subN c X)) := by
  unfold dIsE
  simp
@[simp] theorem dIsE_ok0 (c X : Str) : dIsE 0 c X (.dict [(.int 0, .str c)]) = .ok (.bool (subN c X)) := by
  unfold dIsE
  simp
@[simp] theorem dropE_nx (i : Nat) (ρ : En) : dropE i (.nx ρ) = .nx (ρ.set i none) := rfl
@[simp] theorem dropE_rt (i : Nat) (d : D) : dropE i (.rt d) = .rt d := rfl
@[simp] theorem dropE_st (i : Nat) : dropE i .st = .st := rfl
end DL
/-! part Sq1 -/
namespace DL
open PySem
/-! ### no dict within -/
def nodic : D → Bool
  | .dict _ => false | _ => true
def parts : D → List D
  | .list xs => xs | .tuple xs => xs | _ => []
/-! ### matrices of ints -/
abbrev Mat := List (List Int)
def dRow (r : List Int) : D := .tuple (r.map .int)
def dSq (m : Mat) : D := .tuple (m.map dRow)
def rowI : D → Option (List Int)
  | .tuple xs => intsD xs | _ => none
def rowsI : List D → Option Mat
  | [] => some []
  | r :: rs => match rowI r, rowsI rs with
    | some x, some m => some (x :: m) | _, _ => none
def matI : D → Option Mat
  | .tuple rs => rowsI rs | _ => none
theorem intsD_inv : ∀ {ds : List D} {ns : List Int}, intsD ds = some ns → ds = ns.map .int
  | [], ns, h => by
    simp [intsD] at h
    subst h
    rfl
  | .int i :: r, ns, h => by
    simp only [intsD, Option.map_eq_some_iff] at h
    obtain ⟨ms, h1, rfl⟩ := h
    rw [intsD_inv h1]
    rfl
  | .none :: _, _, h => by simp [intsD] at h
  | .bool _ :: _, _, h => by simp [intsD] at h
  | .str _ :: _, _, h => by simp [intsD] at h
  | .list _ :: _, _, h => by simp [intsD] at h
  | .tuple _ :: _, _, h => by simp [intsD] at h
  | .dict _ :: _, _, h => by simp [intsD] at h
theorem rowI_inv {d : D} {r : List Int} (h : rowI d = some r) : d = dRow r := by
  cases d with
  | tuple xs => exact congrArg PyData.tuple (intsD_inv h)
  | _ => cases h
theorem rowsI_inv : ∀ {ds : List D} {m : Mat}, rowsI ds = some m → ds = m.map dRow
  | [], m, h => by
    cases h
    rfl
  | r :: rs, m, h => by
    unfold rowsI at h
    cases h1 : rowI r with
    | none =>
      rw [h1] at h
      cases h
    | some x =>
      cases h2 : rowsI rs with
      | none =>
        rw [h1, h2] at h
        cases h
      | some m' =>
        rw [h1, h2] at h
        cases h
        rw [rowI_inv h1, rowsI_inv h2]
        rfl
theorem matI_inv {d : D} {m : Mat} (h : matI d = some m) : d = dSq m := by
  cases d with
  | tuple xs => exact congrArg PyData.tuple (rowsI_inv h)
  | _ => cases h
@[simp] theorem rowI_row (r : List Int) : rowI (dRow r) = some r := intsD_of r
@[simp] theorem rowsI_of : ∀ m : Mat, rowsI (m.map dRow) = some m
  | [] => rfl
  | r :: m => by
    rw [List.map_cons]
    unfold rowsI
    rw [rowI_row, rowsI_of m]
@[simp] theorem matI_sq (m : Mat) : matI (dSq m) = some m := rowsI_of m
/-- the j-th column -/
def colM (m : Mat) (j : Nat) : List Int := m.map (·.getD j 0)
def colsM (m : Mat) : Mat := (List.range (m.headD []).length).map (colM m)
/-! ### squares.py -/
def isW (d : D) (lo hi : Int) : Bool := match d with
  | .int i => decide (lo ≤ i) && decide (i ≤ hi) | _ => false
def g_is_within : List D → Rz D
  | [.dict _, _, _] => .st
  | [d, .int lo, .int hi] => .ok (.bool (isW d lo hi))
  | _ => .st
def isOrdI (ns : List Int) (n : Int) : Bool := decide ((ns.length : Int) = n) && ns.all (fun i => decide (0 ≤ i) && decide (i ≤ n - 1)) && decide (((uniqI ns).length : Int) = n)
def isOrdL (xs : List D) (n : Int) : Bool := match intsD xs with
  | some ns => isOrdI ns n | none => false
def isOrd (d : D) (n : Int) : Bool := match d with
  | .tuple xs => isOrdL xs n | _ => false
def ok1 (d : D) : Bool := nodic d && (parts d).all nodic && decide ((parts d).length ≤ 1000)
def g_is_order : List D → Rz D
  | [d, .int n] => if ok1 d then .ok (.bool (isOrd d n)) else .st
  | _ => .st
def m_is_within : GS :=
  (sSeq (sRet (gAnd (g1 (dIsi "int") (gVar 0)) (gAnd (gNot (g1 (dIsi "bool") (gVar 0))) (gChain dLe dLe (gVar 1) (gVar 0) (gVar 2))))) sNil)
theorem eq_is_within : ∀ ds, ds.length = 3 → g_is_within ds = .st ∨ (m_is_within (startE 3 ds)).rz = g_is_within ds
  | [d, a, b], _ => by
    cases a with
    | int lo => cases b with
      | int hi =>
        cases d with
        | dict _ => left; rfl
        | int i =>
          right
          simp [m_is_within, g_is_within, startE, isW]
          by_cases h : lo ≤ i <;> simp [h]
        | _ => right; simp [m_is_within, g_is_within, startE, isW]
      | _ => left; cases d <;> rfl
    | _ => left; cases d <;> rfl
theorem is_within_ok {d : D} (h : nodic d = true) (lo hi : Int) : g_is_within [d, .int lo, .int hi] = .ok (.bool (isW d lo hi)) := by
  cases d with
  | dict _ => cases h
  | _ => rfl
def m_is_order : GS :=
  (sSeq (sIf (tOrr (tNt (tTru (g1 (dIsi "tuple") (gVar 0)))) (tCm dNe (gCall (on1 dLen) (aCons (gVar 0) aNil)) (gVar 1))) (sSeq (sRet (gC (.bool false))) sNil) sNil) (sSeq (sRet (gAnd (gNot (gLc (iSeq (gVar 0)) (tgN 2) (tNt (tTru (gCall g_is_within (aCons (gVar 2) (aCons (gC (.int 0)) (aCons (g2 dSub (gVar 1) (gC (.int 1))) aNil)))))) (gVar 2) [2])) (g2 dEq (g1 dLenSet (gVar 0)) (gVar 1)))) sNil))
theorem isW_ints {lo hi : Int} : ∀ {xs : List D}, xs.filter (fun d => !isW d lo hi) = [] → ∃ ns : List Int, xs = ns.map .int ∧ ns.all (fun i => decide (lo ≤ i) && decide (i ≤ hi)) = true
  | [], _ => ⟨[], rfl, rfl⟩
  | d :: ds, h => by
    rw [List.filter_cons] at h
    cases hw : isW d lo hi with
    | false => simp [hw] at h
    | true =>
      rw [hw] at h
      obtain ⟨ns, e, k⟩ := isW_ints (xs := ds) (by simpa using h)
      cases d with
      | int i => exact ⟨i :: ns, by rw [e]; rfl, by rw [List.all_cons, k, Bool.and_true]; exact hw⟩
      | _ => cases hw
theorem isW_map {lo hi : Int} (ns : List Int) : (ns.map PyData.int).filter (fun d => !isW d lo hi) = (ns.filter fun i => !(decide (lo ≤ i) && decide (i ≤ hi))).map PyData.int := by
  rw [List.filter_map]
  rfl
theorem eq_is_order : ∀ ds, ds.length = 2 → g_is_order ds = .st ∨ (m_is_order (startE 3 ds)).rz = g_is_order ds
  | [d, a], _ => by
    cases a with
    | int n =>
      by_cases hc : ok1 d = true
      · right
        simp only [g_is_order, if_pos hc]
        cases d with
        | tuple xs =>
          have hc2 : xs.length ≤ 1000 := by
            simp [ok1, nodic, parts] at hc
            exact of_decide_eq_true hc.2
          have hn : ∀ d ∈ xs, nodic d = true := by
            simp [ok1, nodic, parts] at hc
            exact hc.1
          have hlim : xs.length ≤ lim := Nat.le_trans hc2 (by decide)
          clear hc
          simp [m_is_order, isOrd, isOrdL, isOrdI, startE]
          by_cases h1 : (xs.length : Int) = n
          · simp [h1, hlim]
            rw [lcGo_filter (fun d => !isW d 0 (n - 1)) id xs fun d hd => ⟨_, tgN_go _ _ _, by simp [is_within_ok (hn d hd)], fun _ => by simp⟩]
            by_cases hall : ∀ a ∈ xs, isW a 0 (n - 1) = true
            · obtain ⟨ns, rfl, k⟩ := isW_ints (xs := xs) (lo := 0) (hi := n - 1) (List.filter_eq_nil_iff.mpr fun a ha => by simp [hall a ha])
              have hf : (ns.map PyData.int).filter (fun d => !isW d 0 (n - 1)) = [] := List.filter_eq_nil_iff.mpr fun a ha => by simp [hall a ha]
              rw [List.length_map] at h1 hc2
              rw [hf]
              have e : (((uniqI ns).length : Int) == n) = decide (((uniqI ns).length : Int) = n) := by
                rw [Bool.eq_iff_iff]
                simp
              simp [intsD_of, hc2, h1, k, e]
            · have hf : xs.filter (fun d => !isW d 0 (n - 1)) ≠ [] := fun z => hall fun a ha => by
                have := List.filter_eq_nil_iff.mp z a ha
                simpa using this
              have hb : (xs.filter (fun d => !isW d 0 (n - 1))).isEmpty = false := by
                cases h : xs.filter (fun d => !isW d 0 (n - 1)) with
                | nil => exact absurd h hf
                | cons a r => rfl
              simp only [List.map_id, Rz.bind_ok, truth_list, hb, Bool.not_false, Bool.not_true, truth_bool, Bool.false_eq_true, if_false, Rz.out_ok, andThen_rt, rz_rt]
              cases hi : intsD xs with
              | none => rfl
              | some ns =>
                have z := intsD_inv hi
                subst z
                have : ns.all (fun i => decide (0 ≤ i) && decide (i ≤ n - 1)) = false := by
                  rw [Bool.eq_false_iff]
                  intro z
                  refine hall fun a ha => ?_
                  obtain ⟨x, hx, rfl⟩ := List.mem_map.mp ha
                  exact List.all_eq_true.mp z x hx
                simp [this]
          · simp [h1]
            cases hi : intsD xs with
            | none => rfl
            | some ns =>
              have z := intsD_inv hi
              subst z
              rw [List.length_map] at h1
              simp [h1]
        | dict _ => cases hc
        | _ => simp [m_is_order, isOrd, startE]
      · left
        simp only [g_is_order, if_neg hc]
    | _ => left; rfl
end DL
/-! part Cm0 -/
namespace DL
open PySem
def m_columns_of : GS :=
  (sSeq (sRet (gLc (iRg (aCons (gCall (on1 dLen) (aCons (g2 dIx (gVar 0) (gC (.int 0))) aNil)) aNil)) (tgN 1) tYs (gCall (on1 dTuple) (aCons (gLc (iSeq (gVar 0)) (tgN 2) tYs (g2 dIx (gVar 2) (gVar 1)) [2]) aNil)) [1])) sNil)
def g_columns_of : List D → Rz D := fun ds => (m_columns_of (startE 3 ds)).rz
theorem eq_columns_of : ∀ ds, ds.length = 1 → g_columns_of ds = .st ∨ (m_columns_of (startE 3 ds)).rz = g_columns_of ds := fun _ _ => .inr rfl
def m_is_square : GS :=
  (sSeq (sIf (tOrr (tNt (tTru (g1 (dIsi "tuple") (gVar 0)))) (tNt (tChn dLe dLe (gC (.int 1)) (gCall (on1 dLen) (aCons (gVar 0) aNil)) (gC (.int 9))))) (sSeq (sRet (gC (.bool false))) sNil) sNil) (sSeq (sIf (tTru (gLc (iSeq (gVar 0)) (tgN 1) (tNt (tTru (gCall g_is_order (aCons (gVar 1) (aCons (gCall (on1 dLen) (aCons (gVar 0) aNil)) aNil))))) (gVar 1) [1])) (sSeq (sRet (gC (.bool false))) sNil) sNil) (sSeq (sRet (gNot (gLc (iSeq (gCall g_columns_of (aCons (gVar 0) aNil))) (tgN 2) (tCm dLt (g1 dLenSet (gVar 2)) (gCall (on1 dLen) (aCons (gVar 0) aNil))) (gVar 2) [2]))) sNil)))
def g_is_square : List D → Rz D := fun ds => (m_is_square (startE 3 ds)).rz
theorem eq_is_square : ∀ ds, ds.length = 1 → g_is_square ds = .st ∨ (m_is_square (startE 3 ds)).rz = g_is_square ds := fun _ _ => .inr rfl
def m_checked : GS :=
  (sSeq (sIf (tNt (tTru (gCall g_is_square (aCons (gVar 0) aNil)))) (sSeq (sRaise "BadSquare") sNil) sNil) (sSeq (sRet (gVar 0)) sNil))
def g_checked : List D → Rz D := fun ds => (m_checked (startE 1 ds)).rz
theorem eq_checked : ∀ ds, ds.length = 1 → g_checked ds = .st ∨ (m_checked (startE 1 ds)).rz = g_checked ds := fun _ _ => .inr rfl
def m__law_cell : GS :=
  (sSeq (sIf (tCm dLt (gVar 1) (gCall (on1 dLen) (aCons (gVar 0) aNil))) (sSeq (sRet (g2 dIx (gVar 0) (gVar 1))) sNil) sNil) (sSeq (sRet (gC (.int 0))) sNil))
def g__law_cell : List D → Rz D := fun ds => (m__law_cell (startE 2 ds)).rz
theorem eq__law_cell : ∀ ds, ds.length = 2 → g__law_cell ds = .st ∨ (m__law_cell (startE 2 ds)).rz = g__law_cell ds := fun _ _ => .inr rfl
def m__law_mix : GS :=
  (sSeq (sRet (g2 dMod (g2 dMod (g2 dMul (gVar 0) (gC (.int 48271))) (gVar 1)) (gVar 2))) sNil)
def g__law_mix : List D → Rz D := fun ds => (m__law_mix (startE 3 ds)).rz
theorem eq__law_mix : ∀ ds, ds.length = 3 → g__law_mix ds = .st ∨ (m__law_mix (startE 3 ds)).rz = g__law_mix ds := fun _ _ => .inr rfl
def m__law_order : GS :=
  (sSeq (sSet [] (tgN 2) (gLc (iRg (aCons (gVar 1) aNil)) (tgN 3) tYs (gTup (aCons (gCall g__law_mix (aCons (g2 dAdd (g2 dAdd (gVar 0) (g2 dMul (g2 dMul (gC (.int 29)) (gVar 3)) (gVar 3))) (g2 dMul (gC (.int 3)) (gVar 3))) (aCons (gC (.int 9973)) (aCons (gC (.int 997)) aNil)))) (aCons (gVar 3) aNil))) [3])) (sSeq (sRet (gCall (on1 dTuple) (aCons (gLc (iSeq (gCall (on1 dSorted) (aCons (gVar 2) aNil))) (tgN 4) tYs (g2 dIx (gVar 4) (gC (.int 1))) [4]) aNil))) sNil))
def g__law_order : List D → Rz D := fun ds => (m__law_order (startE 5 ds)).rz
theorem eq__law_order : ∀ ds, ds.length = 2 → g__law_order ds = .st ∨ (m__law_order (startE 5 ds)).rz = g__law_order ds := fun _ _ => .inr rfl
def m__law_first : GS :=
  (sSeq (sIf (tAn (tCm dEq (gVar 0) (gC (.int 5))) (tCm dEq (g2 dMod (gVar 1) (gC (.int 2))) (gC (.int 1)))) (sSeq (sRet (gTup (aCons (gTup (aCons (gC (.int 0)) (aCons (gC (.int 1)) (aCons (gC (.int 2)) (aCons (gC (.int 3)) (aCons (gC (.int 4)) aNil)))))) (aCons (gTup (aCons (gC (.int 1)) (aCons (gC (.int 0)) (aCons (gC (.int 3)) (aCons (gC (.int 4)) (aCons (gC (.int 2)) aNil)))))) (aCons (gTup (aCons (gC (.int 2)) (aCons (gC (.int 3)) (aCons (gC (.int 4)) (aCons (gC (.int 0)) (aCons (gC (.int 1)) aNil)))))) (aCons (gTup (aCons (gC (.int 3)) (aCons (gC (.int 4)) (aCons (gC (.int 1)) (aCons (gC (.int 2)) (aCons (gC (.int 0)) aNil)))))) (aCons (gTup (aCons (gC (.int 4)) (aCons (gC (.int 2)) (aCons (gC (.int 0)) (aCons (gC (.int 1)) (aCons (gC (.int 3)) aNil)))))) aNil))))))) sNil) sNil) (sSeq (sIf (tAn (tCm dEq (gVar 0) (gC (.int 4))) (tCm dEq (g2 dMod (gVar 1) (gC (.int 2))) (gC (.int 1)))) (sSeq (sRet (gTup (aCons (gTup (aCons (gC (.int 0)) (aCons (gC (.int 1)) (aCons (gC (.int 2)) (aCons (gC (.int 3)) aNil))))) (aCons (gTup (aCons (gC (.int 1)) (aCons (gC (.int 0)) (aCons (gC (.int 3)) (aCons (gC (.int 2)) aNil))))) (aCons (gTup (aCons (gC (.int 2)) (aCons (gC (.int 3)) (aCons (gC (.int 0)) (aCons (gC (.int 1)) aNil))))) (aCons (gTup (aCons (gC (.int 3)) (aCons (gC (.int 2)) (aCons (gC (.int 1)) (aCons (gC (.int 0)) aNil))))) aNil)))))) sNil) sNil) (sSeq (sRet (gCall (on1 dTuple) (aCons (gLc (iRg (aCons (gVar 0) aNil)) (tgN 2) tYs (gCall (on1 dTuple) (aCons (gLc (iRg (aCons (gVar 0) aNil)) (tgN 3) tYs (g2 dMod (g2 dAdd (gVar 2) (gVar 3)) (gVar 0)) [3]) aNil)) [2]) aNil))) sNil)))
def g__law_first : List D → Rz D := fun ds => (m__law_first (startE 4 ds)).rz
theorem eq__law_first : ∀ ds, ds.length = 2 → g__law_first ds = .st ∨ (m__law_first (startE 4 ds)).rz = g__law_first ds := fun _ _ => .inr rfl
def m__law_twos : GS :=
  (sSeq (sSet [] (tgN 1) (gLst aNil)) (sSeq (sSet [1] (tgN 2) (gCall (on1 dLen) (aCons (gVar 0) aNil))) (sSeq (sFor [1] (iRg (aCons (gVar 2) aNil)) (tgN 3) (sSeq (sFor [1] (iRg (aCons (g2 dAdd (gVar 3) (gC (.int 1))) (aCons (gVar 2) aNil))) (tgN 4) (sSeq (sFor [1] (iRg (aCons (gVar 2) aNil)) (tgN 5) (sSeq (sFor [1] (iRg (aCons (g2 dAdd (gVar 5) (gC (.int 1))) (aCons (gVar 2) aNil))) (tgN 6) (sSeq (sIf (tAn (tCm dEq (g2 dIx (g2 dIx (gVar 0) (gVar 3)) (gVar 5)) (g2 dIx (g2 dIx (gVar 0) (gVar 4)) (gVar 6))) (tCm dEq (g2 dIx (g2 dIx (gVar 0) (gVar 3)) (gVar 6)) (g2 dIx (g2 dIx (gVar 0) (gVar 4)) (gVar 5)))) (sSeq (sApp [1] 1 (gTup (aCons (gVar 3) (aCons (gVar 4) (aCons (gVar 5) (aCons (gVar 6) aNil)))))) sNil) sNil) sNil)) sNil)) sNil)) sNil)) (sSeq (sRet (gVar 1)) sNil))))
def g__law_twos : List D → Rz D := fun ds => (m__law_twos (startE 7 ds)).rz
theorem eq__law_twos : ∀ ds, ds.length = 1 → g__law_twos ds = .st ∨ (m__law_twos (startE 7 ds)).rz = g__law_twos ds := fun _ _ => .inr rfl
def m__law_switched : GS :=
  (sSeq (sSet [] (tgN 2) (gLc (iSeq (gVar 0)) (tgN 3) tYs (gCall (on1 dList) (aCons (gVar 3) aNil)) [3])) (sSeq (sFor [2] (iSeq (gSl (gVar 1) oNo (oSm (gC (.int 2))))) (tgN 3) (sSeq (sSetB 4 (g2 dIx (g2 dIx (gVar 2) (gVar 3)) (g2 dIx (gVar 1) (gC (.int 2))))) (sSeq (sPut2 2 (gVar 3) (g2 dIx (gVar 1) (gC (.int 2))) (g2 dIx (g2 dIx (gVar 2) (gVar 3)) (g2 dIx (gVar 1) (gC (.int 3))))) (sSeq (sPut2 2 (gVar 3) (g2 dIx (gVar 1) (gC (.int 3))) (gVar 4)) sNil)))) (sSeq (sRet (gCall (on1 dTuple) (aCons (gLc (iSeq (gVar 2)) (tgN 3) tYs (gCall (on1 dTuple) (aCons (gVar 3) aNil)) [3]) aNil))) sNil)))
def g__law_switched : List D → Rz D := fun ds => (m__law_switched (startE 5 ds)).rz
theorem eq__law_switched : ∀ ds, ds.length = 2 → g__law_switched ds = .st ∨ (m__law_switched (startE 5 ds)).rz = g__law_switched ds := fun _ _ => .inr rfl
def m__law_renamed : GS :=
  (sSeq (sRet (gCall (on1 dTuple) (aCons (gLc (iSeq (gVar 1)) (tgN 4) tYs (gCall (on1 dTuple) (aCons (gLc (iSeq (gVar 2)) (tgN 5) tYs (g2 dIx (gVar 3) (g2 dIx (g2 dIx (gVar 0) (gVar 4)) (gVar 5))) [5]) aNil)) [4]) aNil))) sNil)
def g__law_renamed : List D → Rz D := fun ds => (m__law_renamed (startE 6 ds)).rz
theorem eq__law_renamed : ∀ ds, ds.length = 4 → g__law_renamed ds = .st ∨ (m__law_renamed (startE 6 ds)).rz = g__law_renamed ds := fun _ _ => .inr rfl
def m__law_sized : GS :=
  (sSeq (sSet [] (tgN 3) (gCall g__law_cell (aCons (gVar 0) (aCons (gVar 1) aNil)))) (sSeq (sSet [] (tgN 4) (gCall g__law_first (aCons (gVar 2) (aCons (g2 dFdv (gVar 3) (gC (.int 7))) aNil)))) (sSeq (sFor [] (iRg (aCons (gCall g__law_mix (aCons (gVar 3) (aCons (gC (.int 9949)) (aCons (gC (.int 4)) aNil)))) aNil)) (tgN 5) (sSeq (sSet [] (tgN 6) (gCall g__law_twos (aCons (gVar 4) aNil))) (sSeq (sIf (tCm dNe (gVar 6) (gLst aNil)) (sSeq (sSet [] (tgN 4) (gCall g__law_switched (aCons (gVar 4) (aCons (g2 dIx (gVar 6) (gCall g__law_mix (aCons (g2 dAdd (gCall g__law_cell (aCons (gVar 0) (aCons (g2 dAdd (gVar 1) (gC (.int 1))) aNil))) (g2 dMul (gC (.int 31)) (gVar 5))) (aCons (gC (.int 9941)) (aCons (gCall (on1 dLen) (aCons (gVar 6) aNil)) aNil))))) aNil)))) sNil) sNil) sNil))) (sSeq (sSet [] (tgN 7) (gLc (iRg (aCons (gC (.int 3)) aNil)) (tgN 5) tYs (gCall g__law_order (aCons (g2 dAdd (gCall g__law_cell (aCons (gVar 0) (aCons (g2 dAdd (gVar 1) (gC (.int 1))) aNil))) (g2 dMul (gC (.int 101)) (gVar 5))) (aCons (gVar 2) aNil))) [5])) (sSeq (sRet (gCall g__law_renamed (aCons (gVar 4) (aCons (g2 dIx (gVar 7) (gC (.int 0))) (aCons (g2 dIx (gVar 7) (gC (.int 1))) (aCons (g2 dIx (gVar 7) (gC (.int 2))) aNil)))))) sNil)))))
def g__law_sized : List D → Rz D := fun ds => (m__law_sized (startE 8 ds)).rz
theorem eq__law_sized : ∀ ds, ds.length = 3 → g__law_sized ds = .st ∨ (m__law_sized (startE 8 ds)).rz = g__law_sized ds := fun _ _ => .inr rfl
def m__law_square : GS :=
  (sSeq (sSet [] (tgN 2) (g2 dIx (gLst (aCons (gC (.int 4)) (aCons (gC (.int 3)) (aCons (gC (.int 5)) (aCons (gC (.int 4)) (aCons (gC (.int 2)) (aCons (gC (.int 5)) (aCons (gC (.int 4)) (aCons (gC (.int 1)) (aCons (gC (.int 6)) (aCons (gC (.int 5)) aNil))))))))))) (gCall g__law_mix (aCons (gCall g__law_cell (aCons (gVar 0) (aCons (gVar 1) aNil))) (aCons (gC (.int 9967)) (aCons (gC (.int 10)) aNil)))))) (sSeq (sIf (tAn (tCm dGt (gCall (on1 dLen) (aCons (gVar 0) aNil)) (gC (.int 63))) (tCm dLt (gVar 2) (gC (.int 4)))) (sSeq (sSet [] (tgN 2) (gC (.int 6))) sNil) sNil) (sSeq (sRet (gCall g__law_sized (aCons (gVar 0) (aCons (gVar 1) (aCons (gVar 2) aNil))))) sNil)))
def g__law_square : List D → Rz D := fun ds => (m__law_square (startE 3 ds)).rz
theorem eq__law_square : ∀ ds, ds.length = 2 → g__law_square ds = .st ∨ (m__law_square (startE 3 ds)).rz = g__law_square ds := fun _ _ => .inr rfl
end DL
/-! part Cq -/
namespace DL
open PySem
/-! ### plain tools: naturals as data, ranges, comprehensions, loops -/
abbrev dI (x : Nat) : D := .int (x : Int)
def dR (r : List Nat) : D := .tuple (r.map dI)
def dM (m : List (List Nat)) : D := .tuple (m.map dR)
theorem rng_nat (a b : Nat) : rng (a : Int) (b : Int) = (List.range' a (b - a)).map dI := by
  unfold rng
  rw [List.range'_eq_map_range, List.map_map, show ((b : Int) - (a : Int)).toNat = b - a from by omega]
  apply List.map_congr_left
  intro k _
  show PyData.int _ = PyData.int _
  rw [show (a : Int) + (k : Int) = ((a + k : Nat) : Int) from by omega]
theorem rng0 (b : Nat) : rng 0 (b : Int) = (List.range b).map dI := by
  have := rng_nat 0 b
  rw [show ((0 : Nat) : Int) = 0 from rfl] at this
  rw [this, List.range_eq_range', Nat.sub_zero]
theorem sml_nat {n : Nat} (h : n ≤ 1000000) : sml (n : Int) = true := sml_of (by omega) (by omega)
theorem lc_all {α : Type} {i : Nat} {t : GT} {e : G} {ρ : En} (enc : α → D) (p : α → Bool) (f : α → D) : ∀ (xs : List α), (∀ a ∈ xs, t (ρ.set i (some (enc a))) = .ok (p a) ∧ (p a = true → e (ρ.set i (some (enc a))) = .ok (f a))) → lcGo (tgN i) t e ρ (xs.map enc) = .ok ((xs.filter p).map f)
  | [], _ => rfl
  | a :: xs, h => by
    obtain ⟨h1, h2⟩ := h a List.mem_cons_self
    have ih := lc_all enc p f xs fun b hb => h b (List.mem_cons_of_mem _ hb)
    rw [List.map_cons]
    unfold lcGo
    simp only [tgN_go, h1, Rz.nox_ok, Rz.bind_ok]
    cases hp : p a with
    | true => simp [h2 hp, ih, hp]
    | false => simp [ih, hp]
theorem lc_map {α : Type} {i : Nat} {e : G} {ρ : En} (enc : α → D) (f : α → D) (xs : List α) (h : ∀ a ∈ xs, e (ρ.set i (some (enc a))) = .ok (f a)) : lcGo (tgN i) tYs e ρ (xs.map enc) = .ok (xs.map f) := by
  have := lc_all (t := tYs) (e := e) (ρ := ρ) (i := i) enc (fun _ => true) f xs fun a ha => ⟨rfl, fun _ => h a ha⟩
  rw [this, List.filter_eq_self.mpr fun _ _ => rfl]
theorem lc_rng {i : Nat} {e : G} {ρ : En} (f : Nat → D) (n : Nat) (h : ∀ k, k < n → e (ρ.set i (some (dI k))) = .ok (f k)) : lcGo (tgN i) tYs e ρ (rng 0 (n : Int)) = .ok ((List.range n).map f) := by
  rw [rng0]
  exact lc_map dI f _ fun k hk => h k (List.mem_range.mp hk)
theorem lc_rngf {i : Nat} {t : GT} {e : G} {ρ : En} (p : Nat → Bool) (f : Nat → D) (n : Nat) (h : ∀ k, k < n → t (ρ.set i (some (dI k))) = .ok (p k) ∧ (p k = true → e (ρ.set i (some (dI k))) = .ok (f k))) : lcGo (tgN i) t e ρ (rng 0 (n : Int)) = .ok (((List.range n).filter p).map f) := by
  rw [rng0]
  exact lc_all dI p f _ fun k hk => h k (List.mem_range.mp hk)
/-- a loop that adds to what it has found -/
theorem for_app {α : Type} {tg : TgD} {b : GS} (enc : α → D) (st : List D → En → Prop) (f : α → List D) : ∀ (xs : List α) (acc : List D) (ρ : En), st acc ρ → acc.length + (xs.flatMap f).length ≤ lim →
    (∀ a ∈ xs, ∀ acc ρ, st acc ρ → acc.length + (f a).length ≤ lim → ∃ ρ1 ρ2, tg.go (enc a) ρ = some ρ1 ∧ b ρ1 = .nx ρ2 ∧ st (acc ++ f a) ρ2) → ∃ ρ', forGo tg b (xs.map enc) ρ = .nx ρ' ∧ st (acc ++ xs.flatMap f) ρ'
  | [], acc, ρ, h, _, _ => ⟨ρ, rfl, by simpa using h⟩
  | a :: xs, acc, ρ, h, hl, k => by
    rw [List.flatMap_cons, List.length_append] at hl
    obtain ⟨ρ1, ρ2, h1, h2, h3⟩ := k a List.mem_cons_self acc ρ h (by omega)
    obtain ⟨ρ', e, q⟩ := for_app enc st f xs (acc ++ f a) ρ2 h3 (by rw [List.length_append]; omega) fun x hx => k x (List.mem_cons_of_mem _ hx)
    refine ⟨ρ', ?_, ?_⟩
    · rw [List.map_cons]
      unfold forGo
      simp only [h1, h2]
      exact e
    · rw [List.flatMap_cons, ← List.append_assoc]
      exact q
theorem flat_len {α β : Type} {f : α → List β} {c : Nat} : ∀ {xs : List α}, (∀ a ∈ xs, (f a).length ≤ c) → (xs.flatMap f).length ≤ xs.length * c
  | [], _ => by simp
  | a :: xs, h => by
    rw [List.flatMap_cons, List.length_append, List.length_cons, Nat.succ_mul]
    have h1 := h a List.mem_cons_self
    have h2 := flat_len (xs := xs) fun b hb => h b (List.mem_cons_of_mem _ hb)
    omega
/-- a loop that turns one state -/
theorem for_st {α S : Type} {tg : TgD} {b : GS} (enc : α → D) (st : S → En → Prop) (step : S → α → S) : ∀ (xs : List α) (s : S) (ρ : En), st s ρ → (∀ a ∈ xs, ∀ s ρ, st s ρ → ∃ ρ1 ρ2, tg.go (enc a) ρ = some ρ1 ∧ b ρ1 = .nx ρ2 ∧ st (step s a) ρ2) → ∃ ρ', forGo tg b (xs.map enc) ρ = .nx ρ' ∧ st (xs.foldl step s) ρ'
  | [], s, ρ, h, _ => ⟨ρ, rfl, h⟩
  | a :: xs, s, ρ, h, k => by
    obtain ⟨ρ1, ρ2, h1, h2, h3⟩ := k a List.mem_cons_self s ρ h
    obtain ⟨ρ', e, q⟩ := for_st enc st step xs _ _ h3 fun x hx => k x (List.mem_cons_of_mem _ hx)
    refine ⟨ρ', ?_, q⟩
    rw [List.map_cons]
    unfold forGo
    simp only [h1, h2]
    exact e
/-- a loop that keeps a statement, or gives a value -/
theorem for_inv {α : Type} {tg : TgD} {b : GS} (enc : α → D) (I : En → Prop) : ∀ (xs : List α) (ρ : En), I ρ → (∀ a ∈ xs, ∀ ρ, I ρ → ∃ ρ1 ρ2, tg.go (enc a) ρ = some ρ1 ∧ b ρ1 = .nx ρ2 ∧ I ρ2) → ∃ ρ', forGo tg b (xs.map enc) ρ = .nx ρ' ∧ I ρ'
  | [], ρ, h, _ => ⟨ρ, rfl, h⟩
  | a :: xs, ρ, h, k => by
    obtain ⟨ρ1, ρ2, h1, h2, h3⟩ := k a List.mem_cons_self ρ h
    obtain ⟨ρ', e, q⟩ := for_inv enc I xs _ h3 fun x hx => k x (List.mem_cons_of_mem _ hx)
    refine ⟨ρ', ?_, q⟩
    rw [List.map_cons]
    unfold forGo
    simp only [h1, h2]
    exact e
/-- a loop that gives d where it first meets an item that p takes -/
theorem for_find {α : Type} {tg : TgD} {b : GS} (enc : α → D) (I : En → Prop) (p : α → Bool) (d : D) : ∀ (xs : List α) (ρ : En), I ρ →
    (∀ a ∈ xs, ∀ ρ, I ρ → ∃ ρ1, tg.go (enc a) ρ = some ρ1 ∧ (p a = true → b ρ1 = .rt d) ∧ (p a = false → ∃ ρ2, b ρ1 = .nx ρ2 ∧ I ρ2)) →
    (xs.any p = true ∧ forGo tg b (xs.map enc) ρ = .rt d) ∨ (xs.any p = false ∧ ∃ ρ', forGo tg b (xs.map enc) ρ = .nx ρ' ∧ I ρ')
  | [], ρ, h, _ => .inr ⟨rfl, ρ, rfl, h⟩
  | a :: xs, ρ, h, k => by
    obtain ⟨ρ1, h1, h2, h3⟩ := k a List.mem_cons_self ρ h
    rw [List.map_cons, List.any_cons]
    unfold forGo
    simp only [h1]
    cases hp : p a with
    | true =>
      rw [h2 hp]
      exact .inl ⟨rfl, rfl⟩
    | false =>
      obtain ⟨ρ2, h4, h5⟩ := h3 hp
      rw [h4]
      exact for_find enc I p d xs ρ2 h5 fun x hx => k x (List.mem_cons_of_mem _ hx)
/-! places -/
theorem at_map {α : Type} {xs : List α} (enc : α → D) {i : Nat} (h : i < xs.length) : atD (xs.map enc) (i : Int) = some (enc xs[i]) := atD_nat (by rw [List.getElem?_map, List.getElem?_eq_getElem h]; rfl)
theorem at_mapD {α : Type} {xs : List α} (enc : α → D) (d : α) {i : Nat} (h : i < xs.length) : atD (xs.map enc) (i : Int) = some (enc (xs.getD i d)) := by
  rw [at_map enc h]
  congr 2
  simp [h]
theorem ix_R {r : List Nat} {i : Nat} (h : i < r.length) : dIx (dR r) (dI i) = .ok (dI (r.getD i 0)) := by
  show orSt (atD (r.map dI) (i : Int)) = _
  rw [at_mapD dI 0 h]
  rfl
theorem ix_M {m : List (List Nat)} {i : Nat} (h : i < m.length) : dIx (dM m) (dI i) = .ok (dR (m.getD i [])) := by
  show orSt (atD (m.map dR) (i : Int)) = _
  rw [at_mapD dR [] h]
  rfl
theorem len_R (r : List Nat) : dLen (dR r) = .ok (dI r.length) := by
  show Rz.ok (PyData.int ((r.map dI).length : Nat)) = _
  rw [List.length_map]
theorem len_M (m : List (List Nat)) : dLen (dM m) = .ok (dI m.length) := by
  show Rz.ok (PyData.int ((m.map dR).length : Nat)) = _
  rw [List.length_map]
@[simp] theorem items_M (m : List (List Nat)) : items (dM m) = .ok (m.map dR) := rfl
@[simp] theorem items_R (r : List Nat) : items (dR r) = .ok (r.map dI) := rfl
@[simp] theorem isi_M (m : List (List Nat)) : dIsi "tuple" (dM m) = .ok (.bool true) := rfl
@[simp] theorem isi_R (r : List Nat) : dIsi "tuple" (dR r) = .ok (.bool true) := rfl
@[simp] theorem tup_R (r : List Nat) : dTuple (.list (r.map dI)) = .ok (dR r) := rfl
@[simp] theorem tup_M (m : List (List Nat)) : dTuple (.list (m.map dR)) = .ok (dM m) := rfl
@[simp] theorem list_R (r : List Nat) : dList (dR r) = .ok (.list (r.map dI)) := rfl
/-! ### data that can be laid -/
theorem lay_map {α : Type} (f : α → D) (h : ∀ a, (f a).canLay0 = true) : ∀ xs : List α, PyData.canLayAll0 (xs.map f) = true
  | [] => by simp [PyData.canLayAll0]
  | x :: xs => by simp [PyData.canLayAll0, h x, lay_map f h xs]
theorem dep_map {α : Type} (f : α → D) (c : Nat) (h : ∀ a, (f a).depth ≤ c) : ∀ xs : List α, PyData.depthAll (xs.map f) ≤ c
  | [] => by simp [PyData.depthAll]
  | x :: xs => by
    have h1 := h x
    have h2 := dep_map f c h xs
    simp only [List.map_cons, PyData.depthAll]
    omega
theorem shaped_of {d : D} (h1 : d.canLay0 = true) (h2 : d.depth ≤ 64) : SeqAt.shaped d = true := by
  show (d.canLay0 && decide (d.depth ≤ 64)) = true
  rw [h1, decide_eq_true h2]
  rfl
theorem lay_I (x : Nat) : (dI x).canLay0 = true := by simp [PyData.canLay0]
theorem dep_I (x : Nat) : (dI x).depth ≤ 0 := by simp [PyData.depth]
theorem lay_R (r : List Nat) : (dR r).canLay0 = true := by simp [dR, PyData.canLay0, lay_map dI lay_I]
theorem dep_R (r : List Nat) : (dR r).depth ≤ 1 := by
  have := dep_map dI 0 dep_I r
  simp only [dR, PyData.depth]
  omega
theorem lay_M (m : List (List Nat)) : (dM m).canLay0 = true := by simp [dM, PyData.canLay0, lay_map dR lay_R]
theorem dep_M (m : List (List Nat)) : (dM m).depth ≤ 2 := by
  have := dep_map dR 1 dep_R m
  simp only [dM, PyData.depth]
  omega
theorem sh_R (r : List Nat) : SeqAt.shaped (dR r) = true := shaped_of (lay_R r) (Nat.le_trans (dep_R r) (by decide))
theorem sh_M (m : List (List Nat)) : SeqAt.shaped (dM m) = true := shaped_of (lay_M m) (Nat.le_trans (dep_M m) (by decide))
theorem sh_L {xs : List D} (h1 : PyData.canLayAll0 xs = true) (h2 : PyData.depthAll xs ≤ 60) : SeqAt.shaped (.list xs) = true := shaped_of (by simpa [PyData.canLay0] using h1) (by simp only [PyData.depth]; omega)
/-! ### equality of data -/
theorem eqv_all_map {α : Type} {f : α → D} (h : ∀ a b, PyData.eqv (f a) (f b) = true ↔ a = b) : ∀ xs ys : List α, PyData.eqvAll (xs.map f) (ys.map f) = true ↔ xs = ys
  | [], [] => by simp [PyData.eqvAll]
  | [], _ :: _ => by simp [PyData.eqvAll]
  | _ :: _, [] => by simp [PyData.eqvAll]
  | x :: xs, y :: ys => by simp [PyData.eqvAll, h x y, eqv_all_map h xs ys]
theorem eqv_I (a b : Nat) : PyData.eqv (dI a) (dI b) = true ↔ a = b := by
  rw [eqv_int]
  simp
  omega
theorem eqv_R (a b : List Nat) : PyData.eqv (dR a) (dR b) = true ↔ a = b := by
  unfold dR
  simp only [PyData.eqv]
  exact eqv_all_map eqv_I a b
theorem eqv_M (a b : List (List Nat)) : PyData.eqv (dM a) (dM b) = true ↔ a = b := by
  unfold dM
  simp only [PyData.eqv]
  exact eqv_all_map eqv_R a b
theorem bool_iff {b : Bool} {p : Prop} [Decidable p] (h : b = true ↔ p) : b = decide p := by
  rw [Bool.eq_iff_iff, h, decide_eq_true_eq]
theorem eq_R (a b : List Nat) : dEq (dR a) (dR b) = .ok (.bool (decide (a = b))) := by
  unfold dEq
  rw [sh_R, sh_R, bool_iff (eqv_R a b)]
  rfl
theorem eq_M (a b : List (List Nat)) : dEq (dM a) (dM b) = .ok (.bool (decide (a = b))) := by
  unfold dEq
  rw [sh_M, sh_M, bool_iff (eqv_M a b)]
  rfl
theorem ne_M (a b : List (List Nat)) : dNe (dM a) (dM b) = .ok (.bool (!decide (a = b))) := by
  unfold dNe
  rw [sh_M, sh_M, bool_iff (eqv_M a b)]
  rfl
theorem eq_I (a b : Nat) : dEq (dI a) (dI b) = .ok (.bool (decide (a = b))) := by
  unfold dEq
  rw [shaped_int, shaped_int, bool_iff (eqv_I a b)]
  rfl
end DL
/-! part Cm1 -/
namespace DL
open PySem
/-! ### squares -/
structure Lat (n : Nat) (m : List (List Nat)) : Prop where
  len : m.length = n
  row : ∀ r ∈ m, r.length = n
  lt : ∀ r ∈ m, ∀ x ∈ r, x < n
  rn : ∀ r ∈ m, r.Nodup
  cn : ∀ j, j < n → (m.map (·.getD j 0)).Nodup
abbrev colN (m : List (List Nat)) (j : Nat) : List Nat := m.map (·.getD j 0)
/-! distinct ints -/
theorem nodup_of_len {l m : List Int} (h1 : l.Nodup) (h2 : ∀ x ∈ l, x ∈ m) (h3 : m.length = l.length) : m.Nodup := by
  induction m generalizing l with
  | nil => exact List.nodup_nil
  | cons a m ih =>
    by_cases ha : a ∈ m
    · have : l.length ≤ m.length := nodup_len h1 fun x hx => by
        rcases List.mem_cons.mp (h2 x hx) with e | e
        · rw [e]
          exact ha
        · exact e
      rw [List.length_cons] at h3
      omega
    · refine List.nodup_cons.mpr ⟨ha, ih (l := l.erase a) (h1.erase a) (fun x hx => ?_) ?_⟩
      · have hx' := (h1.mem_erase_iff).mp hx
        rcases List.mem_cons.mp (h2 x hx'.2) with e | e
        · exact absurd e hx'.1
        · exact e
      · by_cases hl : a ∈ l
        · rw [List.length_erase_of_mem hl, ← h3, List.length_cons]
          omega
        · have : l.length ≤ m.length := nodup_len h1 fun x hx => by
            rcases List.mem_cons.mp (h2 x hx) with e | e
            · exact absurd (e ▸ hx) hl
            · exact e
          rw [List.length_cons] at h3
          omega
theorem uniq_iff (ns : List Int) : (uniqI ns).length = ns.length ↔ ns.Nodup := by
  constructor
  · intro h
    exact nodup_of_len (uniqI_nodup ns) (fun x hx => (uniqI_mem ns x).mp hx) h.symm
  · intro h
    exact Nat.le_antisymm (nodup_len (uniqI_nodup ns) fun x hx => (uniqI_mem ns x).mp hx) (nodup_len h fun x hx => (uniqI_mem ns x).mpr hx)
theorem uniq_le (ns : List Int) : (uniqI ns).length ≤ ns.length := nodup_len (uniqI_nodup ns) fun x hx => (uniqI_mem ns x).mp hx
abbrev cI (r : List Nat) : List Int := r.map fun x : Nat => (x : Int)
theorem dI_cI (r : List Nat) : r.map dI = (cI r).map .int := by
  rw [List.map_map]
  rfl
theorem ints_I (r : List Nat) : intsD (r.map dI) = some (cI r) := by
  rw [dI_cI, intsD_of]
theorem nodup_cI (r : List Nat) : (cI r).Nodup ↔ r.Nodup := by
  unfold List.Nodup
  rw [List.pairwise_map]
  constructor
  · exact fun h => h.imp fun {a b} e z => e (by rw [z])
  · exact fun h => h.imp fun {a b} e z => e (by omega)
theorem lenSet_R {r : List Nat} (h : r.length ≤ 1000) : dLenSet (dR r) = .ok (dI (uniqI (cI r)).length) := by
  show ((orSt (intsD (r.map dI))).bind fun ns => if ns.length ≤ 1000 then Rz.ok (PyData.int (uniqI ns).length) else .st) = _
  rw [ints_I]
  show (if (cI r).length ≤ 1000 then _ else _) = _
  rw [if_pos (by rw [List.length_map]; exact h)]
theorem nodic_I (r : List Nat) : (r.map dI).all nodic = true := by
  rw [List.all_map]
  exact List.all_eq_true.mpr fun _ _ => rfl
theorem order_R {r : List Nat} {n : Nat} (h : r.length ≤ 1000) : g_is_order [dR r, dI n] = .ok (.bool (decide (r.length = n ∧ (∀ x ∈ r, x < n) ∧ r.Nodup))) := by
  have h1 : ok1 (dR r) = true := by
    show (true && (r.map dI).all nodic && decide ((r.map dI).length ≤ 1000)) = true
    rw [nodic_I, List.length_map, decide_eq_true h]
    rfl
  show (if ok1 (dR r) then Rz.ok (PyData.bool (isOrd (dR r) (n : Int))) else .st) = _
  rw [if_pos h1]
  show Rz.ok (PyData.bool (isOrdL (r.map dI) (n : Int))) = _
  unfold isOrdL
  rw [ints_I]
  congr 2
  show isOrdI (cI r) (n : Int) = _
  unfold isOrdI
  rw [Bool.eq_iff_iff]
  simp only [Bool.and_eq_true, decide_eq_true_eq, List.length_map, List.all_eq_true, List.mem_map]
  constructor
  · rintro ⟨⟨a, b⟩, c⟩
    have a' : r.length = n := by omega
    refine ⟨a', fun x hx => ?_, ?_⟩
    · have := b (x : Int) ⟨x, hx, rfl⟩
      omega
    · rw [← nodup_cI, ← uniq_iff, List.length_map]
      omega
  · rintro ⟨a, b, c⟩
    refine ⟨⟨by omega, ?_⟩, ?_⟩
    · rintro _ ⟨x, hx, rfl⟩
      have := b x hx
      omega
    · have := (uniq_iff (cI r)).mpr ((nodup_cI r).mpr c)
      rw [this, List.length_map]
      omega
/-! columns_of -/
theorem columns_ok {m : List (List Nat)} {n : Nat} (h0 : 0 < m.length) (hn : n ≤ 1000) (hm : m.length ≤ 1000) (hr : ∀ r ∈ m, r.length = n) : g_columns_of [dM m] = .ok (.list ((List.range n).map fun j => dR (colN m j))) := by
  have e0 : (m.getD 0 []).length = n := by
    cases m with
    | nil => cases h0
    | cons a r => exact hr a List.mem_cons_self
  have k1 : dIx (dM m) (.int 0) = .ok (dR (m.getD 0 [])) := ix_M (i := 0) h0
  have k2 : ∀ (j : Nat) (x : Option D) (y : Option D), j < n → lcGo (tgN 2) tYs (g2 dIx (gVar 2) (gVar 1)) [some (dM m), some (dI j), none] (m.map dR) = .ok (m.map fun r => dI (r.getD j 0)) := fun j _ _ hj => by
    refine lc_map dR _ m fun r hr' => ?_
    simp only [List.set_cons_succ, List.set_cons_zero, r_g2, r_gVar]
    exact ix_R (by rw [hr r hr']; exact hj)
  have k3 : lcGo (tgN 1) tYs (gCall (on1 dTuple) (aCons (gLc (iSeq (gVar 0)) (tgN 2) tYs (g2 dIx (gVar 2) (gVar 1)) [2]) aNil)) [some (dM m), none, none] (rng 0 (n : Int)) = .ok ((List.range n).map fun j => dR (colN m j)) := by
    refine lc_rng _ n fun j hj => ?_
    simp only [List.set_cons_succ, List.set_cons_zero, r_gCall, r_aCons, r_gLc, r_iSeq, r_gVar, r_wipe1, r_wipe0, r_aNil, List.getElem?_cons_zero, Rz.bind_ok]
    rw [show items (dM m) = .ok (m.map dR) from rfl]
    simp only [Rz.bind_ok]
    rw [if_pos (by rw [List.length_map]; exact Nat.le_trans hm (by decide)), k2 j none none hj]
    show Rz.ok (PyData.tuple _) = Rz.ok (PyData.tuple _)
    unfold colN
    rw [List.map_map]
    rfl
  show (Out.andThen ((gLc _ _ _ _ _ [some (dM m), none, none]).out .rt) _).rz = _
  simp only [r_gLc, r_iRg, r_aCons, r_gCall, r_g2, r_gVar, r_gC, r_aNil, List.getElem?_cons_zero, Rz.bind_ok, k1, on1_one, len_R, rngOf_1, e0, sml_nat (Nat.le_trans hn (by decide)), if_true, r_wipe1, r_wipe0, List.set_cons_succ, List.set_cons_zero, k3]
  rw [if_pos (by rw [rng0, List.length_map, List.length_range]; exact Nat.le_trans hn (by decide))]
  rfl
theorem lat_square {n : Nat} {m : List (List Nat)} (h : Lat n m) (h1 : 1 ≤ n) (h9 : n ≤ 9) : g_is_square [dM m] = .ok (.bool true) := by
  have hl : m.length = n := h.len
  have k1 : lcGo (tgN 1) (tNt (tTru (gCall g_is_order (aCons (gVar 1) (aCons (gCall (on1 dLen) (aCons (gVar 0) aNil)) aNil))))) (gVar 1) [some (dM m), none, none] (m.map dR) = .ok [] := by
    rw [lc_all dR (fun _ => false) dR m fun r hr => ⟨?_, fun z => by cases z⟩]
    · simp
    · simp only [List.set_cons_succ, List.set_cons_zero, r_tNt, r_tTru, r_gCall, r_aCons, r_gVar, r_aNil, List.getElem?_cons_zero, List.getElem?_cons_succ, Rz.bind_ok, on1_one, len_M, hl]
      rw [order_R (by rw [h.row r hr]; omega), decide_eq_true ⟨h.row r hr, h.lt r hr, h.rn r hr⟩]
      rfl
  have k2 : lcGo (tgN 2) (tCm dLt (g1 dLenSet (gVar 2)) (gCall (on1 dLen) (aCons (gVar 0) aNil))) (gVar 2) [some (dM m), none, none] ((List.range n).map fun j => dR (colN m j)) = .ok [] := by
    rw [lc_all (fun j => dR (colN m j)) (fun _ => false) (fun j => dR (colN m j)) (List.range n) fun j hj => ⟨?_, fun z => by cases z⟩]
    · simp
    · have hj := List.mem_range.mp hj
      have hc := h.cn j hj
      have hcl : (colN m j).length = n := by rw [List.length_map, hl]
      simp only [List.set_cons_succ, List.set_cons_zero, r_tCm, r_g1, r_gCall, r_aCons, r_gVar, r_aNil, List.getElem?_cons_zero, List.getElem?_cons_succ, Rz.bind_ok, on1_one, len_M, hl]
      rw [lenSet_R (by rw [hcl]; omega), (uniq_iff _).mpr ((nodup_cI _).mpr hc), List.length_map, hcl]
      simp
  have e1 : (1 : Int) ≤ (n : Int) := by omega
  have e2 : (n : Int) ≤ 9 := by omega
  have c1 := columns_ok (m := m) (n := n) (by omega) (by omega) (by omega) h.row
  have l1 : m.length ≤ lim := Nat.le_trans (Nat.le_of_eq hl) (Nat.le_trans h9 (by decide))
  have l2 : n ≤ lim := Nat.le_trans h9 (by decide)
  show (m_is_square [some (dM m), none, none]).rz = _
  simp [m_is_square, len_M, hl, e1, e2, c1, k1, k2, l1, l2]
theorem lat_checked {n : Nat} {m : List (List Nat)} (h : Lat n m) (h1 : 1 ≤ n) (h9 : n ≤ 9) : g_checked [dM m] = .ok (dM m) := by
  show (m_checked [some (dM m)]).rz = _
  simp [m_checked, lat_square h h1 h9]
end DL
/-! part Cm2 -/
namespace DL
open PySem
/-! ### tables -/
theorem getD_el {α : Type} {l : List α} {d : α} {i : Nat} (h : i < l.length) : l.getD i d = l[i] := by simp [h]
def atM (m : List (List Nat)) (i j : Nat) : Nat := (m.getD i []).getD j 0
def tab (n : Nat) (f : Nat → Nat → Nat) : List (List Nat) := (List.range n).map fun i => (List.range n).map fun j => f i j
theorem nodup_range_map {n : Nat} {f : Nat → Nat} (h : ∀ i, i < n → ∀ j, j < n → f i = f j → i = j) : ((List.range n).map f).Nodup := by
  unfold List.Nodup
  rw [List.pairwise_map]
  have := List.nodup_range (n := n)
  refine List.Pairwise.imp_of_mem (fun {a b} ha hb e z => e ?_) this
  exact h a (List.mem_range.mp ha) b (List.mem_range.mp hb) z
theorem getD_range_map {β : Type} {n : Nat} {f : Nat → β} {d : β} {i : Nat} (h : i < n) : ((List.range n).map f).getD i d = f i := by
  simp [h]
theorem tab_at {n : Nat} {f : Nat → Nat → Nat} {i j : Nat} (hi : i < n) (hj : j < n) : atM (tab n f) i j = f i j := by
  unfold atM tab
  rw [getD_range_map hi, getD_range_map hj]
theorem lat_tab {n : Nat} {f : Nat → Nat → Nat} (h1 : ∀ i, i < n → ∀ j, j < n → f i j < n) (h2 : ∀ i, i < n → ∀ j, j < n → ∀ k, k < n → f i j = f i k → j = k) (h3 : ∀ j, j < n → ∀ i, i < n → ∀ k, k < n → f i j = f k j → i = k) : Lat n (tab n f) := by
  refine ⟨by simp [tab], ?_, ?_, ?_, ?_⟩
  · intro r hr
    obtain ⟨i, _, rfl⟩ := List.mem_map.mp hr
    simp
  · intro r hr x hx
    obtain ⟨i, hi, rfl⟩ := List.mem_map.mp hr
    obtain ⟨j, hj, rfl⟩ := List.mem_map.mp hx
    exact h1 i (List.mem_range.mp hi) j (List.mem_range.mp hj)
  · intro r hr
    obtain ⟨i, hi, rfl⟩ := List.mem_map.mp hr
    exact nodup_range_map fun a ha b hb e => h2 i (List.mem_range.mp hi) a ha b hb e
  · intro j hj
    unfold tab
    rw [List.map_map]
    refine nodup_range_map fun a ha b hb e => h3 j hj a ha b hb ?_
    simp only [Function.comp] at e
    rw [getD_range_map hj, getD_range_map hj] at e
    exact e
section
variable {n : Nat} {m : List (List Nat)}
theorem Lat.mem (h : Lat n m) {i : Nat} (hi : i < n) : m.getD i [] ∈ m := by
  have : i < m.length := by rw [h.len]; exact hi
  rw [getD_el this]
  exact List.getElem_mem this
theorem Lat.rlen (h : Lat n m) {i : Nat} (hi : i < n) : (m.getD i []).length = n := h.row _ (h.mem hi)
theorem Lat.at_lt (h : Lat n m) {i j : Nat} (hi : i < n) (hj : j < n) : atM m i j < n := by
  have : j < (m.getD i []).length := by rw [h.rlen hi]; exact hj
  unfold atM
  rw [getD_el this]
  exact h.lt _ (h.mem hi) _ (List.getElem_mem this)
theorem nodup_inj {l : List Nat} (h : l.Nodup) {i j : Nat} (hi : i < l.length) (hj : j < l.length) (e : l.getD i 0 = l.getD j 0) : i = j := by
  rw [getD_el hi, getD_el hj] at e
  exact (List.getElem_inj h).mp e
theorem Lat.row_inj (h : Lat n m) {i j k : Nat} (hi : i < n) (hj : j < n) (hk : k < n) (e : atM m i j = atM m i k) : j = k :=
  nodup_inj (h.rn _ (h.mem hi)) (by rw [h.rlen hi]; exact hj) (by rw [h.rlen hi]; exact hk) e
theorem Lat.col_inj (h : Lat n m) {i j k : Nat} (hi : i < n) (hj : j < n) (hk : k < n) (e : atM m i j = atM m k j) : i = k := by
  have hl : ∀ {a}, a < n → a < (colN m j).length := fun {a} ha => by rw [List.length_map, h.len]; exact ha
  have hg : ∀ {a}, a < n → (colN m j).getD a 0 = atM m a j := fun {a} ha => by
    have hm : a < m.length := by rw [h.len]; exact ha
    rw [getD_el (hl ha), List.getElem_map]
    unfold atM
    rw [getD_el (l := m) (d := []) hm]
  exact nodup_inj (h.cn j hj) (hl hi) (hl hk) (by rw [hg hi, hg hk]; exact e)
theorem eq_map_range {β : Type} {l : List β} {d : β} {n : Nat} (h : l.length = n) : l = (List.range n).map fun i => l.getD i d := by
  apply List.ext_getElem
  · simp [h]
  · intro i h1 h2
    simp [h1]
theorem rect_tab (hl : m.length = n) (hr : ∀ r ∈ m, r.length = n) : m = tab n (atM m) := by
  unfold tab
  have e := eq_map_range (d := ([] : List Nat)) hl
  rw [e]
  apply List.map_congr_left
  intro i hi
  have hi := List.mem_range.mp hi
  rw [← e]
  have hm : i < m.length := by omega
  have := hr (m.getD i []) (by rw [getD_el hm]; exact List.getElem_mem hm)
  exact eq_map_range (d := 0) this
theorem Lat.tab (h : Lat n m) : m = tab n (atM m) := rect_tab h.len h.row
end
/-! ### the laws' cells and orders -/
theorem cell_ok (ns : List Int) (k : Nat) : g__law_cell [ro ns, dI k] = .ok (.int (ns.getD k 0)) := by
  show (m__law_cell [some (ro ns), some (dI k)]).rz = _
  by_cases h : k < ns.length
  · have h' : (k : Int) < ((ns.map PyData.int).length : Int) := by rw [List.length_map]; omega
    have e : atD (ns.map PyData.int) (k : Int) = some (.int (ns.getD k 0)) := at_mapD PyData.int 0 h
    simp [m__law_cell, e]
    simp [h]
  · have h' : ¬ (k : Int) < ((ns.map PyData.int).length : Int) := by rw [List.length_map]; omega
    simp [m__law_cell]
    simp [h]
theorem mix_ok (c : Int) {p q : Int} (hp : 0 < p) (hq : 0 < q) : g__law_mix [.int c, .int p, .int q] = .ok (.int (c * 48271 % p % q)) := by
  show (m__law_mix [some (.int c), some (.int p), some (.int q)]).rz = _
  have e : sml 48271 = true := by decide
  simp [m__law_mix, e, hp, hq]
def isPerm (n : Nat) (p : List Nat) : Prop := p.Perm (List.range n)
theorem isPerm.len {n : Nat} {p : List Nat} (h : isPerm n p) : p.length = n := by
  have := List.Perm.length_eq h
  rw [List.length_range] at this
  exact this
theorem isPerm.lt {n : Nat} {p : List Nat} (h : isPerm n p) : ∀ x ∈ p, x < n := fun x hx => List.mem_range.mp ((List.Perm.mem_iff h).mp hx)
theorem isPerm.nd {n : Nat} {p : List Nat} (h : isPerm n p) : p.Nodup := (List.Perm.nodup_iff h).mpr List.nodup_range
theorem isPerm.at_lt {n : Nat} {p : List Nat} (h : isPerm n p) {i : Nat} (hi : i < n) : p.getD i 0 < n := by
  have : i < p.length := by rw [h.len]; exact hi
  rw [getD_el this]
  exact h.lt _ (List.getElem_mem this)
theorem isPerm.inj {n : Nat} {p : List Nat} (h : isPerm n p) {i j : Nat} (hi : i < n) (hj : j < n) (e : p.getD i 0 = p.getD j 0) : i = j :=
  nodup_inj h.nd (by rw [h.len]; exact hi) (by rw [h.len]; exact hj) e
def kyF (c : Int) (k : Nat) : Int := (c + 29 * k * k + 3 * k) * 48271 % 9973 % 997
def kyD (c : Int) (k : Nat) : D := .tuple [.int (kyF c k), dI k]
theorem ky_ok (c : Int) (ks : List Nat) (h : ks.length ≤ lim) : srtOk (ks.map (kyD c)) = true := by
  have a : ∀ x y, PySem.W.alike (kyD c x) (kyD c y) = true := fun x y => by simp [kyD, PySem.W.alike, PySem.W.alikeAll]
  have l : ∀ x, (kyD c x).canLay0 = true := fun x => by simp [kyD, PyData.canLay0, PyData.canLayAll0]
  have d : ∀ x, (kyD c x).depth ≤ 60 := fun x => by simp [kyD, PyData.depth, PyData.depthAll]
  unfold srtOk
  simp only [Bool.and_eq_true, Bool.or_eq_true, List.all_eq_true, decide_eq_true_eq, List.mem_map, List.length_map]
  refine ⟨⟨⟨?_, .inl ?_⟩, ?_⟩, h⟩
  · rintro _ ⟨x, _, rfl⟩ _ ⟨y, _, rfl⟩
    exact a x y
  · rintro _ ⟨x, _, rfl⟩
    rfl
  · rintro _ ⟨x, _, rfl⟩
    first
      | exact ⟨l x, d x⟩
      | exact d x
theorem order_ok (c : Int) {n : Nat} (hn : n ≤ 1000) : ∃ p : List Nat, g__law_order [.int c, dI n] = .ok (dR p) ∧ isPerm n p := by
  let q := (List.range n).mergeSort fun a b => PySem.W.dataLe false (fun d : D => d) (kyD c a) (kyD c b)
  have hq : isPerm n q := List.mergeSort_perm _ _
  refine ⟨q, ?_, hq⟩
  have hlim : n ≤ lim := Nat.le_trans hn (by decide)
  have e29 : sml 29 = true := by decide
  have e3 : sml 3 = true := by decide
  have k1 : lcGo (tgN 3) tYs (gTup (aCons (gCall g__law_mix (aCons (g2 dAdd (g2 dAdd (gVar 0) (g2 dMul (g2 dMul (gC (.int 29)) (gVar 3)) (gVar 3))) (g2 dMul (gC (.int 3)) (gVar 3))) (aCons (gC (.int 9973)) (aCons (gC (.int 997)) aNil)))) (aCons (gVar 3) aNil))) [some (.int c), some (dI n), none, none, none] (rng 0 (n : Int)) = .ok ((List.range n).map (kyD c)) := by
    refine lc_rng _ n fun k hk => ?_
    have sk : sml (k : Int) = true := sml_nat (by omega)
    have h2 : 2 ≤ lim := by decide
    simp [sk, e29, e3, h2, mix_ok]
    rfl
  have k2 : dSorted (.list ((List.range n).map (kyD c))) = .ok (.list (q.map (kyD c))) := by
    show (if srtOk _ = true then Rz.ok _ else .st) = _
    rw [if_pos (ky_ok c _ (by rw [List.length_range]; exact hlim))]
    congr 2
    exact (List.map_mergeSort (r := fun a b => PySem.W.dataLe false (fun d : D => d) (kyD c a) (kyD c b)) (s := PySem.W.dataLe false fun d : D => d) (f := kyD c) (l := List.range n) fun a _ b _ => rfl).symm
  have k3 : ∀ x, lcGo (tgN 4) tYs (g2 dIx (gVar 4) (gC (.int 1))) [some (.int c), some (dI n), some x, none, none] (q.map (kyD c)) = .ok (q.map dI) := fun x => by
    refine lc_map (kyD c) dI q fun k _ => ?_
    simp
    rfl
  have hq2 : q.length ≤ lim := by rw [hq.len]; exact hlim
  show (m__law_order [some (.int c), some (dI n), none, none, none]).rz = _
  simp [m__law_order, sml_nat (Nat.le_trans hn (by decide)), k1, rng0, hlim]
  simp [← rng0, k1, k2, k3, hq2]
  rfl
end DL
/-! part Cm3 -/
namespace DL
open PySem
/-! ### the laws' first squares -/
theorem mod2 {a n : Nat} (h : a < 2 * n) : a % n = if a < n then a else a - n := by
  by_cases c : a < n
  · rw [if_pos c, Nat.mod_eq_of_lt c]
  · rw [if_neg c, Nat.mod_eq_sub_mod (by omega), Nat.mod_eq_of_lt (by omega)]
theorem lat_cyc {n : Nat} : Lat n (tab n fun i j => (i + j) % n) := by
  refine lat_tab (fun i hi j hj => Nat.mod_lt _ (by omega)) (fun i hi j hj k hk e => ?_) (fun j hj i hi k hk e => ?_)
  · have e : (i + j) % n = (i + k) % n := e
    rw [mod2 (by omega), mod2 (by omega)] at e
    split at e <;> split at e <;> omega
  · have e : (i + j) % n = (k + j) % n := e
    rw [mod2 (by omega), mod2 (by omega)] at e
    split at e <;> split at e <;> omega
def sq5 : List (List Nat) := [[0, 1, 2, 3, 4], [1, 0, 3, 4, 2], [2, 3, 4, 0, 1], [3, 4, 1, 2, 0], [4, 2, 0, 1, 3]]
def sq4 : List (List Nat) := [[0, 1, 2, 3], [1, 0, 3, 2], [2, 3, 0, 1], [3, 2, 1, 0]]
theorem lat5 : Lat 5 sq5 := ⟨rfl, by decide, by decide, by decide, by decide⟩
theorem lat4 : Lat 4 sq4 := ⟨rfl, by decide, by decide, by decide, by decide⟩
theorem eq_Ic (n : Nat) (k : Nat) : dEq (dI n) (.int (k : Int)) = .ok (.bool (decide (n = k))) := eq_I n k
theorem tab_dM (n : Nat) (f : Nat → Nat → Nat) : dM (tab n f) = .tuple ((List.range n).map fun i => dR ((List.range n).map fun j => f i j)) := by
  unfold dM tab
  rw [List.map_map]
  rfl
theorem first_ok {n : Nat} (hn : 1 ≤ n) (h9 : n ≤ 1000) (w : Int) : ∃ m, g__law_first [dI n, .int w] = .ok (dM m) ∧ Lat n m := by
  have k1 : lcGo (tgN 2) tYs (gCall (on1 dTuple) (aCons (gLc (iRg (aCons (gVar 0) aNil)) (tgN 3) tYs (g2 dMod (g2 dAdd (gVar 2) (gVar 3)) (gVar 0)) [3]) aNil)) [some (dI n), some (.int w), none, none] (rng 0 (n : Int)) = .ok ((List.range n).map fun i => dR ((List.range n).map fun j => (i + j) % n)) := by
    refine lc_rng _ n fun i hi => ?_
    have k2 : lcGo (tgN 3) tYs (g2 dMod (g2 dAdd (gVar 2) (gVar 3)) (gVar 0)) [some (dI n), some (.int w), some (dI i), none] (rng 0 (n : Int)) = .ok ((List.range n).map fun j => dI ((i + j) % n)) := by
      refine lc_rng _ n fun j hj => ?_
      have hp : 0 < n := by omega
      simp [hp]
    have hl : n ≤ lim := Nat.le_trans h9 (by decide)
    simp [sml_nat (Nat.le_trans h9 (by decide)), k2, rng0, hl]
    simp [← rng0, k2]
    unfold dR
    rw [List.map_map]
    rfl
  have hl : n ≤ lim := Nat.le_trans h9 (by decide)
  by_cases h5 : n = 5 ∧ w % 2 = 1
  · obtain ⟨rfl, hw⟩ := h5
    refine ⟨sq5, ?_, lat5⟩
    show (m__law_first [some (dI 5), some (.int w), none, none]).rz = _
    simp [m__law_first, hw]
    rfl
  · by_cases h4 : n = 4 ∧ w % 2 = 1
    · obtain ⟨rfl, hw⟩ := h4
      refine ⟨sq4, ?_, lat4⟩
      show (m__law_first [some (dI 4), some (.int w), none, none]).rz = _
      simp [m__law_first, hw]
      rfl
    · refine ⟨_, ?_, lat_cyc⟩
      rw [tab_dM]
      have g5 : ¬ ((n : Int) = 5 ∧ w % 2 = 1) := fun ⟨a, b⟩ => h5 ⟨by omega, b⟩
      have g4 : ¬ ((n : Int) = 4 ∧ w % 2 = 1) := fun ⟨a, b⟩ => h4 ⟨by omega, b⟩
      have t5 : (tAn (tCm dEq (gVar 0) (gC (.int 5))) (tCm dEq (g2 dMod (gVar 1) (gC (.int 2))) (gC (.int 1)))) [some (dI n), some (.int w), none, none] = .ok false := by
        simp
        by_cases a : (n : Int) = 5
        · simp [a]
          exact fun b => g5 ⟨a, b⟩
        · simp [a]
      have t4 : (tAn (tCm dEq (gVar 0) (gC (.int 4))) (tCm dEq (g2 dMod (gVar 1) (gC (.int 2))) (gC (.int 1)))) [some (dI n), some (.int w), none, none] = .ok false := by
        simp
        by_cases a : (n : Int) = 4
        · simp [a]
          exact fun b => g4 ⟨a, b⟩
        · simp [a]
      show (m__law_first [some (dI n), some (.int w), none, none]).rz = _
      unfold m__law_first
      simp only [r_sSeq, r_sIf, t5, t4, Rz.out_ok, Bool.false_eq_true, if_false, r_sNil, andThen_nx]
      simp [sml_nat (Nat.le_trans h9 (by decide)), k1, rng0, hl]
      simp [← rng0, k1]
/-! ### renamed -/
def ren (m : List (List Nat)) (p q s : List Nat) : List (List Nat) := p.map fun i => q.map fun j => s.getD (atM m i j) 0
theorem dM_map {α : Type} (xs : List α) (f : α → List Nat) : dM (xs.map f) = .tuple (xs.map fun a => dR (f a)) := by
  unfold dM
  rw [List.map_map]
  rfl
theorem dR_map {α : Type} (xs : List α) (f : α → Nat) : dR (xs.map f) = .tuple (xs.map fun a => dI (f a)) := by
  unfold dR
  rw [List.map_map]
  rfl
theorem ix_at {m : List (List Nat)} {i j : Nat} (h1 : i < m.length) (h2 : j < (m.getD i []).length) : ((dIx (dM m) (dI i)).bind fun r => dIx r (dI j)) = .ok (dI (atM m i j)) := by
  rw [ix_M h1, Rz.bind_ok, ix_R h2] <;> rfl
theorem renamed_ok {m : List (List Nat)} {p q s : List Nat} (hp : ∀ i ∈ p, i < m.length) (hq : ∀ i ∈ p, ∀ j ∈ q, j < (m.getD i []).length) (hs : ∀ i ∈ p, ∀ j ∈ q, atM m i j < s.length) (lp : p.length ≤ lim) (lq : q.length ≤ lim) :
    g__law_renamed [dM m, dR p, dR q, dR s] = .ok (dM (ren m p q s)) := by
  have k1 : lcGo (tgN 4) tYs (gCall (on1 dTuple) (aCons (gLc (iSeq (gVar 2)) (tgN 5) tYs (g2 dIx (gVar 3) (g2 dIx (g2 dIx (gVar 0) (gVar 4)) (gVar 5))) [5]) aNil)) [some (dM m), some (dR p), some (dR q), some (dR s), none, none] (p.map dI) = .ok (p.map fun i => dR (q.map fun j => s.getD (atM m i j) 0)) := by
    refine lc_map dI _ p fun i hi => ?_
    have k2 : lcGo (tgN 5) tYs (g2 dIx (gVar 3) (g2 dIx (g2 dIx (gVar 0) (gVar 4)) (gVar 5))) [some (dM m), some (dR p), some (dR q), some (dR s), some (dI i), none] (q.map dI) = .ok (q.map fun j => dI (s.getD (atM m i j) 0)) := by
      refine lc_map dI _ q fun j hj => ?_
      simp only [List.set_cons_succ, List.set_cons_zero, r_g2, r_gVar, List.getElem?_cons_succ, List.getElem?_cons_zero, Rz.bind_ok]
      rw [ix_at (hp i hi) (hq i hi j hj), Rz.bind_ok, ix_R (hs i hi j hj)]
    simp [k2, lq, -List.getD_eq_getElem?_getD]
    rw [dR_map]
  show (m__law_renamed [some (dM m), some (dR p), some (dR q), some (dR s), none, none]).rz = _
  simp [m__law_renamed, k1, lp, -List.getD_eq_getElem?_getD]
  unfold ren
  rw [dM_map]
theorem getD_map {α β : Type} {l : List α} {f : α → β} {d : β} {e : α} {i : Nat} (h : i < l.length) : (l.map f).getD i d = f (l.getD i e) := by
  rw [getD_el (by rw [List.length_map]; exact h), List.getElem_map, getD_el h]
theorem ren_at {m : List (List Nat)} {p q s : List Nat} {i j : Nat} (hi : i < p.length) (hj : j < q.length) : atM (ren m p q s) i j = s.getD (atM m (p.getD i 0) (q.getD j 0)) 0 := by
  unfold ren
  show (((p.map fun i => q.map fun j => s.getD (atM m i j) 0).getD i []).getD j 0) = _
  rw [getD_map (e := 0) hi, getD_map (e := 0) hj]
theorem ren_tab {n : Nat} {m : List (List Nat)} {p q s : List Nat} (hp : p.length = n) (hq : q.length = n) : ren m p q s = tab n fun i j => s.getD (atM m (p.getD i 0) (q.getD j 0)) 0 := by
  have e := rect_tab (m := ren m p q s) (n := n) (by simp [ren, hp]) (fun r hr => by
    obtain ⟨i, _, rfl⟩ := List.mem_map.mp hr
    rw [List.length_map, hq])
  rw [e]
  unfold tab
  refine List.map_congr_left fun i hi => List.map_congr_left fun j hj => ?_
  exact ren_at (by rw [hp]; exact List.mem_range.mp hi) (by rw [hq]; exact List.mem_range.mp hj)
theorem ren_lat {n : Nat} {m : List (List Nat)} {p q s : List Nat} (h : Lat n m) (hp : isPerm n p) (hq : isPerm n q) (hs : isPerm n s) : Lat n (ren m p q s) := by
  rw [ren_tab hp.len hq.len]
  refine lat_tab (fun i hi j hj => hs.at_lt (h.at_lt (hp.at_lt hi) (hq.at_lt hj))) (fun i hi j hj k hk e => ?_) (fun j hj i hi k hk e => ?_)
  · exact hq.inj hj hk (h.row_inj (hp.at_lt hi) (hq.at_lt hj) (hq.at_lt hk) (hs.inj (h.at_lt (hp.at_lt hi) (hq.at_lt hj)) (h.at_lt (hp.at_lt hi) (hq.at_lt hk)) e))
  · exact hp.inj hi hk (h.col_inj (hp.at_lt hi) (hq.at_lt hj) (hp.at_lt hk) (hs.inj (h.at_lt (hp.at_lt hi) (hq.at_lt hj)) (h.at_lt (hp.at_lt hk) (hq.at_lt hj)) e))
theorem renamed_lat {n : Nat} {m : List (List Nat)} {p q s : List Nat} (h : Lat n m) (hn : n ≤ 1000) (hp : isPerm n p) (hq : isPerm n q) (hs : isPerm n s) : g__law_renamed [dM m, dR p, dR q, dR s] = .ok (dM (ren m p q s)) :=
  renamed_ok (fun i hi => by rw [h.len]; exact hp.lt i hi) (fun i hi j hj => by rw [h.rlen (hp.lt i hi)]; exact hq.lt j hj) (fun i hi j hj => by rw [hs.len]; exact h.at_lt (hp.lt i hi) (hq.lt j hj)) (by rw [hp.len]; exact Nat.le_trans hn (by decide)) (by rw [hq.len]; exact Nat.le_trans hn (by decide))
end DL
/-! part Cm4 -/
namespace DL
open PySem
/-! ### twos -/
def isTwo (m : List (List Nat)) (i j l r : Nat) : Bool := decide (atM m i l = atM m j r) && decide (atM m i r = atM m j l)
def two1 (m : List (List Nat)) (i j l r : Nat) : List (List Nat) := if isTwo m i j l r then [[i, j, l, r]] else []
def above (a n : Nat) : List Nat := List.range' (a + 1) (n - (a + 1))
theorem mem_above {a n x : Nat} : x ∈ above a n ↔ a < x ∧ x < n := by
  unfold above
  rw [List.mem_range'_1]
  omega
def twosL (m : List (List Nat)) (n : Nat) : List (List Nat) := (List.range n).flatMap fun i => (above i n).flatMap fun j => (List.range n).flatMap fun l => (above l n).flatMap fun r => two1 m i j l r
theorem rng_above (a n : Nat) : rng ((a : Int) + 1) (n : Int) = (above a n).map dI := by
  have := rng_nat (a + 1) n
  rw [show ((a + 1 : Nat) : Int) = (a : Int) + 1 from by omega] at this
  exact this
theorem ix2 {m : List (List Nat)} {i j : Nat} (h1 : i < m.length) (h2 : j < (m.getD i []).length) {α : Type} (f : D → Rz α) : ((dIx (dM m) (dI i)).bind fun r => (dIx r (dI j)).bind f) = f (dI (atM m i j)) := by
  rw [ix_M h1, Rz.bind_ok, ix_R h2, Rz.bind_ok] <;> rfl
theorem g_at2 {a i j : Nat} {ρ : En} {m : List (List Nat)} {x y : Nat} (h0 : gVar a ρ = .ok (dM m)) (h1 : gVar i ρ = .ok (dI x)) (h2 : gVar j ρ = .ok (dI y)) (hx : x < m.length) (hy : y < (m.getD x []).length) : (g2 dIx (g2 dIx (gVar a) (gVar i)) (gVar j)) ρ = .ok (dI (atM m x y)) := by
  unfold g2
  rw [h0, h1, h2]
  simp only [Rz.bind_ok]
  rw [ix_M hx, Rz.bind_ok, ix_R hy] <;> rfl
theorem tup4 (a b c d : Nat) : PyData.tuple [dI a, dI b, dI c, dI d] = dR [a, b, c, d] := rfl
theorem two1_len (m : List (List Nat)) (i j l r : Nat) : (two1 m i j l r).length ≤ 1 := by
  unfold two1
  split <;> simp
theorem twos_len (m : List (List Nat)) {n : Nat} (h9 : n ≤ 9) : (twosL m n).length ≤ 6561 := by
  have la : ∀ a, (above a n).length ≤ 9 := fun a => by
    unfold above
    rw [List.length_range']
    omega
  have l1 : ∀ i j l, ((above l n).flatMap fun r => two1 m i j l r).length ≤ 9 := fun i j l => by
    have := flat_len (xs := above l n) (f := fun r => two1 m i j l r) (c := 1) fun r _ => two1_len m i j l r
    have := la l
    omega
  have l2 : ∀ i j, ((List.range n).flatMap fun l => (above l n).flatMap fun r => two1 m i j l r).length ≤ 81 := fun i j => by
    have := flat_len (xs := List.range n) (c := 9) fun l _ => l1 i j l
    rw [List.length_range] at this
    omega
  have l3 : ∀ i, ((above i n).flatMap fun j => (List.range n).flatMap fun l => (above l n).flatMap fun r => two1 m i j l r).length ≤ 729 := fun i => by
    have := flat_len (xs := above i n) (c := 81) fun j _ => l2 i j
    have := la i
    omega
  have := flat_len (xs := List.range n) (c := 729) fun i _ => l3 i
  rw [List.length_range] at this
  unfold twosL
  omega
theorem flat_map_dR {α : Type} (xs : List α) (f : α → List (List Nat)) : (xs.flatMap f).map dR = xs.flatMap fun a => (f a).map dR := List.map_flatMap
theorem twosL_dR (m : List (List Nat)) (n : Nat) : (twosL m n).map dR = (List.range n).flatMap fun i => (above i n).flatMap fun j => (List.range n).flatMap fun l => (above l n).flatMap fun r => (two1 m i j l r).map dR := by
  unfold twosL
  simp only [List.map_flatMap]
/-- the innermost turn -/
abbrev twoB : GS := (sSeq (sIf (tAn (tCm dEq (g2 dIx (g2 dIx (gVar 0) (gVar 3)) (gVar 5)) (g2 dIx (g2 dIx (gVar 0) (gVar 4)) (gVar 6))) (tCm dEq (g2 dIx (g2 dIx (gVar 0) (gVar 3)) (gVar 6)) (g2 dIx (g2 dIx (gVar 0) (gVar 4)) (gVar 5)))) (sSeq (sApp [1] 1 (gTup (aCons (gVar 3) (aCons (gVar 4) (aCons (gVar 5) (aCons (gVar 6) aNil)))))) sNil) sNil) sNil)
theorem dEq_bl (a b : Nat) : (dEq (dI a) (dI b)).bind toBl = .ok (decide (a = b)) := by rw [eq_I]; rfl
section
variable {n : Nat} {m : List (List Nat)}
theorem two_turn (hl : m.length = n) (hr : ∀ i, i < n → (m.getD i []).length = n) {i j l r : Nat} (hi : i < n) (hj : j < n) (hll : l < n) (hrr : r < n) (acc : List D) (ha : acc.length + ((two1 m i j l r).map dR).length ≤ lim) :
    twoB [some (dM m), some (.list acc), some (dI n), some (dI i), some (dI j), some (dI l), some (dI r)] = .nx [some (dM m), some (.list (acc ++ (two1 m i j l r).map dR)), some (dI n), some (dI i), some (dI j), some (dI l), some (dI r)] := by
  have e1 : (tAn (tCm dEq (g2 dIx (g2 dIx (gVar 0) (gVar 3)) (gVar 5)) (g2 dIx (g2 dIx (gVar 0) (gVar 4)) (gVar 6))) (tCm dEq (g2 dIx (g2 dIx (gVar 0) (gVar 3)) (gVar 6)) (g2 dIx (g2 dIx (gVar 0) (gVar 4)) (gVar 5)))) [some (dM m), some (.list acc), some (dI n), some (dI i), some (dI j), some (dI l), some (dI r)] = .ok (isTwo m i j l r) := by
    have im : i < m.length := by omega
    have jm : j < m.length := by omega
    simp only [r_tAn, r_tCm, g_at2 (ρ := [some (dM m), some (.list acc), some (dI n), some (dI i), some (dI j), some (dI l), some (dI r)]) (a := 0) (i := 3) (j := 5) rfl rfl rfl im (by rw [hr i hi]; exact hll), g_at2 (ρ := [some (dM m), some (.list acc), some (dI n), some (dI i), some (dI j), some (dI l), some (dI r)]) (a := 0) (i := 4) (j := 6) rfl rfl rfl jm (by rw [hr j hj]; exact hrr),
      g_at2 (ρ := [some (dM m), some (.list acc), some (dI n), some (dI i), some (dI j), some (dI l), some (dI r)]) (a := 0) (i := 3) (j := 6) rfl rfl rfl im (by rw [hr i hi]; exact hrr), g_at2 (ρ := [some (dM m), some (.list acc), some (dI n), some (dI i), some (dI j), some (dI l), some (dI r)]) (a := 0) (i := 4) (j := 5) rfl rfl rfl jm (by rw [hr j hj]; exact hll), Rz.bind_ok, dEq_bl]
    unfold isTwo
    by_cases c : atM m i l = atM m j r
    · simp [c]
    · simp [c]
  unfold two1 at ha ⊢
  cases hc : isTwo m i j l r with
  | false =>
    simp only [twoB, r_sSeq, r_sIf, e1, hc, Rz.out_ok, Bool.false_eq_true, if_false, r_sNil, andThen_nx, List.map_nil, List.append_nil]
  | true =>
    rw [hc] at ha
    have ha : acc.length < lim := by
      simp at ha
      omega
    have h4 : 4 ≤ lim := by decide
    simp only [twoB, r_sSeq, r_sIf, e1, hc, Rz.out_ok, if_true]
    simp [ha, h4]
    rfl
theorem it_above {i j : Nat} {ρ : En} {a n : Nat} (h1 : gVar i ρ = .ok (dI a)) (h2 : gVar j ρ = .ok (dI n)) (ha : a ≤ 1000) (hn : n ≤ 1000) : iRg (aCons (g2 dAdd (gVar i) (gC (.int 1))) (aCons (gVar j) aNil)) ρ = .ok ((above a n).map dI) := by
  have e : (aCons (g2 dAdd (gVar i) (gC (.int 1))) (aCons (gVar j) aNil)) ρ = .ok [.int ((a : Int) + 1), .int (n : Int)] := by
    unfold aCons g2 gC aNil
    rw [h1, h2]
    rfl
  unfold iRg
  rw [e, Rz.bind_ok, rngOf_2, sml_of (i := (a : Int) + 1) (by omega) (by omega), sml_nat (n := n) (by omega), rng_above] <;> rfl
theorem it_range {i : Nat} {ρ : En} {n : Nat} (h1 : gVar i ρ = .ok (dI n)) (hn : n ≤ 1000) : iRg (aCons (gVar i) aNil) ρ = .ok ((List.range n).map dI) := by
  have e : (aCons (gVar i) aNil) ρ = .ok [.int (n : Int)] := by
    unfold aCons aNil
    rw [h1]
    rfl
  unfold iRg
  rw [e, Rz.bind_ok, rngOf_1, sml_nat (n := n) (by omega), rng0] <;> rfl
theorem s_for {os : List Nat} {it : GA} {tg : TgD} {b : GS} {ρ : En} {xs : List D} (h : it (mk os ρ) = .ok xs) : sFor os it tg b ρ = forGo tg b xs ρ := by
  unfold sFor
  rw [h, Rz.out_ok]
theorem s_seq {s u : GS} {ρ ρ' : En} (h : s ρ = .nx ρ') : sSeq s u ρ = u ρ' := by
  unfold sSeq
  rw [h, andThen_nx]
abbrev EnT (m : List (List Nat)) (acc : List D) (n : Nat) (x y z w : Option D) : En := [some (dM m), some (.list acc), some (dI n), x, y, z, w]
abbrev two4 : GS := sSeq (sFor [1] (iRg (aCons (g2 dAdd (gVar 5) (gC (.int 1))) (aCons (gVar 2) aNil))) (tgN 6) twoB) sNil
abbrev two3 : GS := sSeq (sFor [1] (iRg (aCons (gVar 2) aNil)) (tgN 5) two4) sNil
abbrev two2 : GS := sSeq (sFor [1] (iRg (aCons (g2 dAdd (gVar 3) (gC (.int 1))) (aCons (gVar 2) aNil))) (tgN 4) two3) sNil
def fR (m : List (List Nat)) (i j l r : Nat) : List D := (two1 m i j l r).map dR
def fL (m : List (List Nat)) (n i j l : Nat) : List D := (above l n).flatMap (fR m i j l)
def fJ (m : List (List Nat)) (n i j : Nat) : List D := (List.range n).flatMap (fL m n i j)
def fI (m : List (List Nat)) (n i : Nat) : List D := (above i n).flatMap (fJ m n i)
theorem twosL_D (m : List (List Nat)) (n : Nat) : (twosL m n).map dR = (List.range n).flatMap (fI m n) := by
  rw [twosL_dR]
  rfl
theorem two_r (hl : m.length = n) (hr : ∀ i, i < n → (m.getD i []).length = n) {i j l : Nat} (hi : i < n) (hj : j < n) (hll : l < n) (acc : List D) (w : Option D) (ha : acc.length + (fL m n i j l).length ≤ lim) :
    ∃ w', forGo (tgN 6) twoB ((above l n).map dI) (EnT m acc n (some (dI i)) (some (dI j)) (some (dI l)) w) = .nx (EnT m (acc ++ fL m n i j l) n (some (dI i)) (some (dI j)) (some (dI l)) w') := by
  obtain ⟨ρ2, h2, w2, rfl⟩ := for_app (tg := tgN 6) (b := twoB) dI (fun acc ρ => ∃ w, ρ = EnT m acc n (some (dI i)) (some (dI j)) (some (dI l)) w) (fR m i j l) (above l n) acc (EnT m acc n (some (dI i)) (some (dI j)) (some (dI l)) w) ⟨_, rfl⟩ ha (by
    rintro r hr' acc ρ ⟨w, rfl⟩ hlen
    exact ⟨EnT m acc n (some (dI i)) (some (dI j)) (some (dI l)) (some (dI r)), EnT m (acc ++ fR m i j l r) n (some (dI i)) (some (dI j)) (some (dI l)) (some (dI r)), rfl, two_turn hl hr hi hj hll (mem_above.mp hr').2 acc hlen, _, rfl⟩)
  exact ⟨w2, h2⟩
theorem two_l (hl : m.length = n) (hr : ∀ i, i < n → (m.getD i []).length = n) (h9 : n ≤ 9) {i j : Nat} (hi : i < n) (hj : j < n) (acc : List D) (z w : Option D) (ha : acc.length + (fJ m n i j).length ≤ lim) :
    ∃ z' w', forGo (tgN 5) two4 ((List.range n).map dI) (EnT m acc n (some (dI i)) (some (dI j)) z w) = .nx (EnT m (acc ++ fJ m n i j) n (some (dI i)) (some (dI j)) z' w') := by
  have sn : sml (n : Int) = true := sml_nat (by omega)
  obtain ⟨ρ2, h2, z2, w2, rfl⟩ := for_app (tg := tgN 5) (b := two4) dI (fun acc ρ => ∃ z w, ρ = EnT m acc n (some (dI i)) (some (dI j)) z w) (fL m n i j) (List.range n) acc (EnT m acc n (some (dI i)) (some (dI j)) z w) ⟨_, _, rfl⟩ ha (by
    rintro l hl' acc ρ ⟨z, w, rfl⟩ hlen
    have hl' := List.mem_range.mp hl'
    have sl : sml ((l : Int) + 1) = true := sml_of (by omega) (by omega)
    obtain ⟨w', h⟩ := two_r hl hr hi hj hl' acc w hlen
    refine ⟨EnT m acc n (some (dI i)) (some (dI j)) (some (dI l)) w, EnT m (acc ++ fL m n i j l) n (some (dI i)) (some (dI j)) (some (dI l)) w', rfl, ?_, some (dI l), w', rfl⟩
    exact s_seq ((s_for (it_above (a := l) (n := n) rfl rfl (by omega) (by omega))).trans h))
  exact ⟨z2, w2, h2⟩
theorem two_j (hl : m.length = n) (hr : ∀ i, i < n → (m.getD i []).length = n) (h9 : n ≤ 9) {i : Nat} (hi : i < n) (acc : List D) (y z w : Option D) (ha : acc.length + (fI m n i).length ≤ lim) :
    ∃ y' z' w', forGo (tgN 4) two3 ((above i n).map dI) (EnT m acc n (some (dI i)) y z w) = .nx (EnT m (acc ++ fI m n i) n (some (dI i)) y' z' w') := by
  have sn : sml (n : Int) = true := sml_nat (by omega)
  obtain ⟨ρ2, h2, y2, z2, w2, rfl⟩ := for_app (tg := tgN 4) (b := two3) dI (fun acc ρ => ∃ y z w, ρ = EnT m acc n (some (dI i)) y z w) (fJ m n i) (above i n) acc (EnT m acc n (some (dI i)) y z w) ⟨_, _, _, rfl⟩ ha (by
    rintro j hj acc ρ ⟨y, z, w, rfl⟩ hlen
    have hj := (mem_above.mp hj).2
    obtain ⟨z', w', h⟩ := two_l hl hr h9 hi hj acc z w hlen
    refine ⟨EnT m acc n (some (dI i)) (some (dI j)) z w, EnT m (acc ++ fJ m n i j) n (some (dI i)) (some (dI j)) z' w', rfl, ?_, some (dI j), z', w', rfl⟩
    simp only [r_sSeq, r_sFor, r_iRg, r_aCons, r_g2, r_gVar, r_gC, r_aNil, r_mk, r_wipe1, r_wipe0, List.set_cons_succ, List.set_cons_zero, List.getElem?_cons_succ, List.getElem?_cons_zero, Rz.bind_ok, rngOf_1, sn, if_true, Rz.out_ok, rng0, h, andThen_nx, r_sNil])
  exact ⟨y2, z2, w2, h2⟩
theorem two_i (hl : m.length = n) (hr : ∀ i, i < n → (m.getD i []).length = n) (h9 : n ≤ 9) (acc : List D) (x y z w : Option D) (ha : acc.length + ((List.range n).flatMap (fI m n)).length ≤ lim) :
    ∃ x' y' z' w', forGo (tgN 3) two2 ((List.range n).map dI) (EnT m acc n x y z w) = .nx (EnT m (acc ++ (List.range n).flatMap (fI m n)) n x' y' z' w') := by
  have sn : sml (n : Int) = true := sml_nat (by omega)
  obtain ⟨ρ2, h2, x2, y2, z2, w2, rfl⟩ := for_app (tg := tgN 3) (b := two2) dI (fun acc ρ => ∃ x y z w, ρ = EnT m acc n x y z w) (fI m n) (List.range n) acc (EnT m acc n x y z w) ⟨_, _, _, _, rfl⟩ ha (by
    rintro i hi acc ρ ⟨x, y, z, w, rfl⟩ hlen
    have hi := List.mem_range.mp hi
    have si : sml ((i : Int) + 1) = true := sml_of (by omega) (by omega)
    obtain ⟨y', z', w', h⟩ := two_j hl hr h9 hi acc y z w hlen
    refine ⟨EnT m acc n (some (dI i)) y z w, EnT m (acc ++ fI m n i) n (some (dI i)) y' z' w', rfl, ?_, some (dI i), y', z', w', rfl⟩
    exact s_seq ((s_for (it_above (a := i) (n := n) rfl rfl (by omega) (by omega))).trans h))
  exact ⟨x2, y2, z2, w2, h2⟩
theorem twos_ok (hl : m.length = n) (hr : ∀ i, i < n → (m.getD i []).length = n) (h9 : n ≤ 9) : g__law_twos [dM m] = .ok (.list ((twosL m n).map dR)) := by
  have sn : sml (n : Int) = true := sml_nat (by omega)
  have len0 : ([] : List D).length + ((List.range n).flatMap (fI m n)).length ≤ lim := by
    rw [← twosL_D, List.length_map, List.length_nil, Nat.zero_add]
    have := twos_len m h9
    unfold lim
    omega
  obtain ⟨x, y, z, w, h1⟩ := two_i hl hr h9 [] none none none none len0
  show (m__law_twos [some (dM m), none, none, none, none, none, none]).rz = _
  have l0 : 0 ≤ lim := Nat.zero_le _
  simp only [m__law_twos, List.set_cons_succ, List.set_cons_zero, r_sSeq, r_sSet, r_sFor, r_iRg, r_aCons, r_g2, r_gVar, r_gC, r_aNil, r_mk, r_wipe1, r_wipe0, List.getElem?_cons_succ, List.getElem?_cons_zero, Rz.bind_ok, rngOf_1, sn, if_true, Rz.out_ok, rng0, h1, andThen_nx, r_sNil, r_gLst, List.length_nil, l0, tgN_go, r_gCall, on1_one, len_M, hl, r_sRet, andThen_rt, rz_rt, List.nil_append]
  rw [twosL_D]
end
theorem twos_mem {m : List (List Nat)} {n : Nat} {t : List Nat} (h : t ∈ twosL m n) : ∃ i j l r, t = [i, j, l, r] ∧ i < j ∧ j < n ∧ l < r ∧ r < n ∧ isTwo m i j l r = true := by
  unfold twosL at h
  simp only [List.mem_flatMap] at h
  obtain ⟨i, _, j, hj, l, _, r, hr, h⟩ := h
  have a := mem_above.mp hj
  have b := mem_above.mp hr
  unfold two1 at h
  cases hc : isTwo m i j l r with
  | true =>
    rw [hc] at h
    exact ⟨i, j, l, r, by simpa using h, a.1, a.2, b.1, b.2, hc⟩
  | false =>
    rw [hc] at h
    cases h
end DL
/-! part Cm5 -/
namespace DL
open PySem
/-! ### a two is switched -/
abbrev lR (r : List Nat) : D := .list (r.map dI)
abbrev lM (m : List (List Nat)) : D := .list (m.map lR)
def swp (l r b : Nat) : Nat := if b = l then r else if b = r then l else b
theorem swp_lt {n l r b : Nat} (hl : l < n) (hr : r < n) (hb : b < n) : swp l r b < n := by
  unfold swp
  split
  · exact hr
  · split
    · exact hl
    · exact hb
theorem swp_inj {l r a b : Nat} (e : swp l r a = swp l r b) : a = b := by
  unfold swp at e
  split at e <;> split at e <;> (try split at e) <;> (try split at e) <;> omega
def swRow (x : List Nat) (l r : Nat) : List Nat := (x.set l (x.getD r 0)).set r (x.getD l 0)
def swM (m : List (List Nat)) (i l r : Nat) : List (List Nat) := m.set i (swRow (m.getD i []) l r)
theorem getD_set {α : Type} {l : List α} {i j : Nat} {v d : α} (h : i < l.length) : (l.set i v).getD j d = if i = j then v else l.getD j d := by
  by_cases e : i = j
  · subst e
    simp [h]
  · simp [e]
theorem swRow_at {x : List Nat} {l r b : Nat} (hl : l < x.length) (hr : r < x.length) (hlr : l ≠ r) : (swRow x l r).getD b 0 = x.getD (swp l r b) 0 := by
  unfold swRow swp
  rw [getD_set (by rw [List.length_set]; exact hr), getD_set hl]
  by_cases e1 : r = b
  · subst e1
    rw [if_pos rfl, if_neg (Ne.symm hlr), if_pos rfl]
  · rw [if_neg e1]
    by_cases e2 : l = b
    · subst e2
      rw [if_pos rfl, if_pos rfl]
    · rw [if_neg e2, if_neg (Ne.symm e2), if_neg (Ne.symm e1)]
theorem swRow_len (x : List Nat) (l r : Nat) : (swRow x l r).length = x.length := by simp [swRow]
theorem swM_row {m : List (List Nat)} {i l r a : Nat} (hi : i < m.length) : (swM m i l r).getD a [] = if i = a then swRow (m.getD i []) l r else m.getD a [] := getD_set hi
theorem s_put2 {i : Nat} {j k a : G} {ρ : En} {m : List (List Nat)} {x y z : Nat} (h : ρ[i]? = some (some (lM m))) (ha : a ρ = .ok (dI z)) (hj : j ρ = .ok (dI x)) (hk : k ρ = .ok (dI y)) (hx : x < m.length) (hy : y < (m.getD x []).length) :
    sPut2 i j k a ρ = .nx (ρ.set i (some (lM (m.set x ((m.getD x []).set y z))))) := by
  have hg : m[x]? = some (m.getD x []) := by
    rw [List.getElem?_eq_getElem hx, getD_el hx]
  unfold sPut2 gSc
  rw [ha, hj, hk]
  simp only [Rz.bind_ok, isSc_int, if_true, Rz.out_ok, h]
  rw [ixR_i, List.length_map, ixD_nat hx]
  simp only [List.getElem?_map, hg, Option.map_some]
  rw [ixR_i, List.length_map, ixD_nat hy]
  have e : lR ((m.getD x []).set y z) = PyData.list (((m.getD x []).map dI).set y (dI z)) := by
    show PyData.list (((m.getD x []).set y z).map dI) = _
    rw [List.map_set]
  show Out.nx (ρ.set i (some (PyData.list ((m.map lR).set x (PyData.list (((m.getD x []).map dI).set y (dI z))))))) = Out.nx (ρ.set i (some (PyData.list ((m.set x ((m.getD x []).set y z)).map lR))))
  rw [List.map_set, e]
theorem s_setB {i : Nat} {a : G} {ρ : En} {z : Nat} (ha : a ρ = .ok (dI z)) : sSetB i a ρ = .nx (ρ.set i (some (dI z))) := by
  unfold sSetB gSc
  rw [ha]
  rfl
theorem ix_lM {m : List (List Nat)} {i : Nat} (h : i < m.length) : dIx (lM m) (dI i) = .ok (lR (m.getD i [])) := by
  show orSt (atD (m.map lR) (i : Int)) = _
  rw [at_mapD lR [] h]
  rfl
theorem ix_lR {r : List Nat} {i : Nat} (h : i < r.length) : dIx (lR r) (dI i) = .ok (dI (r.getD i 0)) := by
  show orSt (atD (r.map dI) (i : Int)) = _
  rw [at_mapD dI 0 h]
  rfl
abbrev swB : GS := (sSeq (sSetB 4 (g2 dIx (g2 dIx (gVar 2) (gVar 3)) (g2 dIx (gVar 1) (gC (.int 2))))) (sSeq (sPut2 2 (gVar 3) (g2 dIx (gVar 1) (gC (.int 2))) (g2 dIx (g2 dIx (gVar 2) (gVar 3)) (g2 dIx (gVar 1) (gC (.int 3))))) (sSeq (sPut2 2 (gVar 3) (g2 dIx (gVar 1) (gC (.int 3))) (gVar 4)) sNil)))
theorem two_2 {a b l r : Nat} {ρ : En} (h : gVar 1 ρ = .ok (dR [a, b, l, r])) : (g2 dIx (gVar 1) (gC (.int 2))) ρ = .ok (dI l) := by
  unfold g2 gC
  rw [h]
  rfl
theorem two_3 {a b l r : Nat} {ρ : En} (h : gVar 1 ρ = .ok (dR [a, b, l, r])) : (g2 dIx (gVar 1) (gC (.int 3))) ρ = .ok (dI r) := by
  unfold g2 gC
  rw [h]
  rfl
theorem g_lat {k i : Nat} {j : G} {ρ : En} {m : List (List Nat)} {x y : Nat} (h0 : gVar k ρ = .ok (lM m)) (h1 : gVar i ρ = .ok (dI x)) (h2 : j ρ = .ok (dI y)) (hx : x < m.length) (hy : y < (m.getD x []).length) : (g2 dIx (g2 dIx (gVar k) (gVar i)) j) ρ = .ok (dI (atM m x y)) := by
  unfold g2
  rw [h0, h1, h2]
  simp only [Rz.bind_ok]
  rw [ix_lM hx, Rz.bind_ok, ix_lR hy] <;> rfl
theorem sw_turn {s : D} {a b l r i : Nat} {m : List (List Nat)} {x : Option D} (hi : i < m.length) (hl : l < (m.getD i []).length) (hr : r < (m.getD i []).length) :
    swB [some s, some (dR [a, b, l, r]), some (lM m), some (dI i), x] = .nx [some s, some (dR [a, b, l, r]), some (lM (swM m i l r)), some (dI i), some (dI (atM m i l))] := by
  have e1 : sSetB 4 (g2 dIx (g2 dIx (gVar 2) (gVar 3)) (g2 dIx (gVar 1) (gC (.int 2)))) [some s, some (dR [a, b, l, r]), some (lM m), some (dI i), x] = .nx [some s, some (dR [a, b, l, r]), some (lM m), some (dI i), some (dI (atM m i l))] :=
    s_setB (g_lat rfl rfl (two_2 rfl) hi hl)
  have e2 : sPut2 2 (gVar 3) (g2 dIx (gVar 1) (gC (.int 2))) (g2 dIx (g2 dIx (gVar 2) (gVar 3)) (g2 dIx (gVar 1) (gC (.int 3)))) [some s, some (dR [a, b, l, r]), some (lM m), some (dI i), some (dI (atM m i l))] = .nx [some s, some (dR [a, b, l, r]), some (lM (m.set i ((m.getD i []).set l (atM m i r)))), some (dI i), some (dI (atM m i l))] :=
    s_put2 rfl (g_lat rfl rfl (two_3 rfl) hi hr) rfl (two_2 rfl) hi hl
  have hi' : i < (m.set i ((m.getD i []).set l (atM m i r))).length := by rw [List.length_set]; exact hi
  have hg : (m.set i ((m.getD i []).set l (atM m i r))).getD i [] = (m.getD i []).set l (atM m i r) := by
    rw [getD_set hi, if_pos rfl]
  have e3 : sPut2 2 (gVar 3) (g2 dIx (gVar 1) (gC (.int 3))) (gVar 4) [some s, some (dR [a, b, l, r]), some (lM (m.set i ((m.getD i []).set l (atM m i r)))), some (dI i), some (dI (atM m i l))] = .nx [some s, some (dR [a, b, l, r]), some (lM (swM m i l r)), some (dI i), some (dI (atM m i l))] := by
    refine (s_put2 (z := atM m i l) (x := i) (y := r) rfl rfl rfl (two_3 rfl) hi' (by rw [hg, List.length_set]; exact hr)).trans ?_
    rw [hg, List.set_set]
    rfl
  exact (s_seq e1).trans ((s_seq e2).trans (s_seq e3))
def swT (m : List (List Nat)) (i j l r : Nat) : List (List Nat) := swM (swM m i l r) j l r
theorem switched_ok {m : List (List Nat)} {i j l r : Nat} (hm : m.length ≤ 1000) (hi : i < m.length) (hj : j < m.length) (hij : i ≠ j) (hil : l < (m.getD i []).length) (hir : r < (m.getD i []).length) (hjl : l < (m.getD j []).length) (hjr : r < (m.getD j []).length) :
    g__law_switched [dM m, dR [i, j, l, r]] = .ok (dM (swT m i j l r)) := by
  have hlim : m.length ≤ lim := Nat.le_trans hm (by decide)
  have k1 : lcGo (tgN 3) tYs (gCall (on1 dList) (aCons (gVar 3) aNil)) [some (dM m), some (dR [i, j, l, r]), none, none, none] (m.map dR) = .ok (m.map lR) := lc_map dR lR m fun x _ => rfl
  have gj : (swM m i l r).getD j [] = m.getD j [] := by rw [swM_row hi, if_neg hij]
  have hl2 : (swM m i l r).length = m.length := List.length_set
  have k2 : forGo (tgN 3) swB [dI i, dI j] [some (dM m), some (dR [i, j, l, r]), some (lM m), none, none] = .nx [some (dM m), some (dR [i, j, l, r]), some (lM (swT m i j l r)), some (dI j), some (dI (atM (swM m i l r) j l))] := by
    have t1 := sw_turn (s := dM m) (a := i) (b := j) (x := none) hi hil hir
    have t2 := sw_turn (s := dM m) (a := i) (b := j) (i := j) (m := swM m i l r) (x := some (dI (atM m i l))) (by rw [hl2]; exact hj) (by rw [gj]; exact hjl) (by rw [gj]; exact hjr)
    unfold forGo
    simp only [tgN_go, List.set_cons_succ, List.set_cons_zero, t1]
    unfold forGo
    simp only [tgN_go, List.set_cons_succ, List.set_cons_zero, t2, r_for0]
    rfl
  have hlT : (swT m i j l r).length ≤ lim := by
    unfold swT swM
    rw [List.length_set, List.length_set]
    exact hlim
  have k3 : ∀ x, lcGo (tgN 3) tYs (gCall (on1 dTuple) (aCons (gVar 3) aNil)) [some (dM m), some (dR [i, j, l, r]), some (lM (swT m i j l r)), none, x] ((swT m i j l r).map lR) = .ok ((swT m i j l r).map dR) := fun x => lc_map lR dR _ fun y _ => rfl
  show (m__law_switched [some (dM m), some (dR [i, j, l, r]), none, none, none]).rz = _
  have hs : dSl (dR [i, j, l, r]) none (some 2) = .ok (.tuple [dI i, dI j]) := rfl
  simp only [m__law_switched, List.set_cons_succ, List.set_cons_zero, r_sSeq, r_sSet, r_gLc, r_iSeq, r_gVar, r_mk, r_wipe1, r_wipe0, List.getElem?_cons_succ, List.getElem?_cons_zero, Rz.bind_ok, items_M, List.length_map, hlim, if_true, k1, tgN_go, Rz.out_ok, andThen_nx, r_sFor, r_gSl, r_oNo, r_oSm, r_gC, hs, items_tuple, k2, r_sRet, r_gCall, r_aCons, r_aNil, items_list, hlT, k3, on1_one, tup_M, andThen_rt, rz_rt]
section
variable {n : Nat} {m : List (List Nat)}
theorem swT_len (m : List (List Nat)) (i j l r : Nat) : (swT m i j l r).length = m.length := by
  unfold swT swM
  rw [List.length_set, List.length_set]
theorem swT_at (h : Lat n m) {i j l r a b : Nat} (hi : i < n) (hj : j < n) (hij : i ≠ j) (hl : l < n) (hr : r < n) (hlr : l ≠ r) : atM (swT m i j l r) a b = if a = i ∨ a = j then atM m a (swp l r b) else atM m a b := by
  have mi : i < m.length := by rw [h.len]; exact hi
  have mj : j < (swM m i l r).length := by unfold swM; rw [List.length_set, h.len]; exact hj
  unfold atM swT
  rw [swM_row mj, swM_row mi, swM_row mi]
  by_cases e1 : j = a
  · subst e1
    rw [if_pos rfl, if_neg hij, if_pos (.inr rfl), swRow_at (by rw [h.rlen hj]; exact hl) (by rw [h.rlen hj]; exact hr) hlr]
  · rw [if_neg e1]
    by_cases e2 : i = a
    · subst e2
      rw [if_pos rfl, if_pos (.inl rfl), swRow_at (by rw [h.rlen hi]; exact hl) (by rw [h.rlen hi]; exact hr) hlr]
    · rw [if_neg e2, if_neg fun z => z.elim (fun z => e2 z.symm) fun z => e1 z.symm]
theorem swT_row (h : Lat n m) {i j l r : Nat} (hi : i < n) (hj : j < n) (hij : i ≠ j) : ∀ x ∈ swT m i j l r, x.length = n := by
  intro x hx
  unfold swT swM at hx
  rcases List.mem_or_eq_of_mem_set hx with hx | e
  · rcases List.mem_or_eq_of_mem_set hx with hx | e
    · exact h.row x hx
    · rw [e, swRow_len, h.rlen hi]
  · have mi : i < m.length := by rw [h.len]; exact hi
    rw [e, swRow_len, getD_set mi, if_neg hij, h.rlen hj]
theorem swT_lat (h : Lat n m) {i j l r : Nat} (hi : i < n) (hj : j < n) (hij : i ≠ j) (hl : l < n) (hr : r < n) (hlr : l ≠ r) (ht : isTwo m i j l r = true) : Lat n (swT m i j l r) := by
  unfold isTwo at ht
  simp only [Bool.and_eq_true, decide_eq_true_eq] at ht
  obtain ⟨t1, t2⟩ := ht
  rw [rect_tab (by rw [swT_len, h.len]) (swT_row h hi hj hij)]
  have e1 : ∀ a b, atM (swT m i j l r) a b = if a = i ∨ a = j then atM m a (swp l r b) else atM m a b := fun a b => swT_at h hi hj hij hl hr hlr
  have e2 : ∀ a b, atM (swT m i j l r) a b = if b = l ∨ b = r then atM m (swp i j a) b else atM m a b := fun a b => by
    rw [e1]
    unfold swp
    by_cases ai : a = i
    · subst ai
      rw [if_pos (.inl rfl)]
      by_cases bl : b = l
      · subst bl
        simp [t2]
      · by_cases br : b = r
        · subst br
          simp [t1, Ne.symm hlr]
        · simp [bl, br]
    · by_cases aj : a = j
      · subst aj
        rw [if_pos (.inr rfl)]
        by_cases bl : b = l
        · subst bl
          simp [t1, ai]
        · by_cases br : b = r
          · subst br
            simp [t2, ai, bl]
          · simp [bl, br]
      · simp [ai, aj]
  refine lat_tab (fun a ha b hb => ?_) (fun a ha b hb c hc e => ?_) (fun b hb a ha c hc e => ?_)
  · rw [e1]
    split
    · exact h.at_lt ha (swp_lt hl hr hb)
    · exact h.at_lt ha hb
  · rw [e1, e1] at e
    split at e
    · exact swp_inj (h.row_inj ha (swp_lt hl hr hb) (swp_lt hl hr hc) e)
    · exact h.row_inj ha hb hc e
  · rw [e2, e2] at e
    split at e
    · exact swp_inj (h.col_inj (swp_lt hi hj ha) hb (swp_lt hi hj hc) e)
    · exact h.col_inj ha hb hc e
end
end DL
namespace DL
open PySem
/-! ### a square of a script -/
theorem dNe_twos (ts : List (List Nat)) : dNe (.list (ts.map dR)) (.list []) = .ok (.bool (!ts.isEmpty)) := by
  have h1 : SeqAt.shaped (.list (ts.map dR)) = true := sh_L (lay_map dR lay_R ts) (Nat.le_trans (dep_map dR 1 dep_R ts) (by decide))
  unfold dNe
  rw [h1, show SeqAt.shaped (.list []) = true from rfl]
  cases ts with
  | nil => rfl
  | cons a r =>
    have : PyData.eqv (.list ((a :: r).map dR)) (.list []) = false := by
      rw [List.map_cons]
      simp [PyData.eqv, PyData.eqvAll]
    rw [this]
    rfl
theorem int_nat {i : Int} (h : 0 ≤ i) : ∃ k : Nat, i = (k : Int) := ⟨i.toNat, by omega⟩
theorem ix_L {α : Type} {xs : List α} (enc : α → D) {i : Nat} (h : i < xs.length) : dIx (.list (xs.map enc)) (dI i) = .ok (enc xs[i]) := by
  show orSt (atD (xs.map enc) (i : Int)) = _
  rw [at_map enc h]
  rfl
abbrev szB : GS := (sSeq (sSet [] (tgN 6) (gCall g__law_twos (aCons (gVar 4) aNil))) (sSeq (sIf (tCm dNe (gVar 6) (gLst aNil)) (sSeq (sSet [] (tgN 4) (gCall g__law_switched (aCons (gVar 4) (aCons (g2 dIx (gVar 6) (gCall g__law_mix (aCons (g2 dAdd (gCall g__law_cell (aCons (gVar 0) (aCons (g2 dAdd (gVar 1) (gC (.int 1))) aNil))) (g2 dMul (gC (.int 31)) (gVar 5))) (aCons (gC (.int 9941)) (aCons (gCall (on1 dLen) (aCons (gVar 6) aNil)) aNil))))) aNil)))) sNil) sNil) sNil))
theorem sized_ok (ns : List Int) (at_ : Nat) {n : Nat} (h1 : 1 ≤ n) (h9 : n ≤ 9) : ∃ m, g__law_sized [ro ns, dI at_, dI n] = .ok (dM m) ∧ Lat n m := by
  obtain ⟨m0, f0, l0⟩ := first_ok h1 (by omega) (ns.getD at_ 0 / 7)
  obtain ⟨K, hK⟩ := int_nat (i := ns.getD at_ 0 * 48271 % 9949 % 4) (by omega)
  have hK4 : K < 4 := by omega
  have cadd : g__law_cell [ro ns, .int ((at_ : Int) + 1)] = .ok (.int (ns.getD (at_ + 1) 0)) := cell_ok ns (at_ + 1)
  have s31 : sml 31 = true := by decide
  have turn : ∀ k, k < K → ∀ m x, Lat n m → ∃ m' y, Lat n m' ∧ szB [some (ro ns), some (dI at_), some (dI n), some (.int (ns.getD at_ 0)), some (dM m), some (dI k), x, none] = .nx [some (ro ns), some (dI at_), some (dI n), some (.int (ns.getD at_ 0)), some (dM m'), some (dI k), y, none] := by
    intro k hk m x h
    have e1 : sSet [] (tgN 6) (gCall g__law_twos (aCons (gVar 4) aNil)) [some (ro ns), some (dI at_), some (dI n), some (.int (ns.getD at_ 0)), some (dM m), some (dI k), x, none] = .nx [some (ro ns), some (dI at_), some (dI n), some (.int (ns.getD at_ 0)), some (dM m), some (dI k), some (.list ((twosL m n).map dR)), none] := by
      simp only [r_sSet, r_gCall, r_aCons, r_gVar, r_aNil, r_mk, r_wipe0, List.getElem?_cons_succ, List.getElem?_cons_zero, Rz.bind_ok, twos_ok h.len (fun i hi => h.rlen hi) h9, Rz.out_ok, tgN_go, List.set_cons_succ, List.set_cons_zero]
    have e2 : (tCm dNe (gVar 6) (gLst aNil)) [some (ro ns), some (dI at_), some (dI n), some (.int (ns.getD at_ 0)), some (dM m), some (dI k), some (.list ((twosL m n).map dR)), none] = .ok (!(twosL m n).isEmpty) := by
      have l0 : 0 ≤ lim := Nat.zero_le _
      simp only [r_tCm, r_gVar, r_gLst, r_aNil, List.getElem?_cons_succ, List.getElem?_cons_zero, Rz.bind_ok, List.length_nil, l0, if_true, dNe_twos, toBl_bool]
    cases hts : (twosL m n).isEmpty with
    | true =>
      refine ⟨m, some (.list ((twosL m n).map dR)), h, ?_⟩
      rw [hts] at e2
      refine (s_seq e1).trans ?_
      simp only [r_sSeq, r_sIf, e2, Bool.not_true, Rz.out_ok, Bool.false_eq_true, if_false, r_sNil, andThen_nx]
    | false =>
      rw [hts] at e2
      have hpos : 0 < (twosL m n).length := by
        cases ht : twosL m n with
        | nil => rw [ht] at hts; cases hts
        | cons a r => simp
      obtain ⟨J, hJ⟩ := int_nat (i := (ns.getD (at_ + 1) 0 + 31 * (k : Int)) * 48271 % 9941 % ((twosL m n).length : Int)) (Int.emod_nonneg _ (by omega))
      have hJl : J < (twosL m n).length := by
        have := Int.emod_lt_of_pos ((ns.getD (at_ + 1) 0 + 31 * (k : Int)) * 48271 % 9941) (b := ((twosL m n).length : Int)) (by omega)
        omega
      obtain ⟨i, j, l, r, et, hij, hj, hlr, hr, ht⟩ := twos_mem (List.getElem_mem hJl)
      have hi : i < n := by omega
      have hl : l < n := by omega
      have sw : g__law_switched [dM m, dR [i, j, l, r]] = .ok (dM (swT m i j l r)) :=
        switched_ok (by rw [h.len]; omega) (by rw [h.len]; exact hi) (by rw [h.len]; exact hj) (by omega) (by rw [h.rlen hi]; exact hl) (by rw [h.rlen hi]; exact hr) (by rw [h.rlen hj]; exact hl) (by rw [h.rlen hj]; exact hr)
      refine ⟨swT m i j l r, some (.list ((twosL m n).map dR)), swT_lat h hi hj (by omega) hl hr (by omega) ht, ?_⟩
      have e3 : (g2 dIx (gVar 6) (gCall g__law_mix (aCons (g2 dAdd (gCall g__law_cell (aCons (gVar 0) (aCons (g2 dAdd (gVar 1) (gC (.int 1))) aNil))) (g2 dMul (gC (.int 31)) (gVar 5))) (aCons (gC (.int 9941)) (aCons (gCall (on1 dLen) (aCons (gVar 6) aNil)) aNil))))) [some (ro ns), some (dI at_), some (dI n), some (.int (ns.getD at_ 0)), some (dM m), some (dI k), some (.list ((twosL m n).map dR)), none] = .ok (dR [i, j, l, r]) := by
        simp only [r_g2, r_gCall, r_aCons, r_gVar, r_aNil, r_gC, List.getElem?_cons_succ, List.getElem?_cons_zero, Rz.bind_ok, dAdd_ii, cadd, dMul_ii, s31, Bool.true_or, if_true, on1_one, dLen_list, List.length_map]
        rw [mix_ok _ (by omega) (by omega), hJ, Rz.bind_ok, ix_L dR hJl, et]
      refine (s_seq e1).trans ?_
      simp only [r_sSeq, r_sIf, e2, Bool.not_false, Rz.out_ok, if_true, r_sNil, andThen_nx, r_sSet, r_gCall, r_aCons, r_mk, r_wipe0, e3, r_gVar, List.getElem?_cons_succ, List.getElem?_cons_zero, Rz.bind_ok, r_aNil, sw, tgN_go, List.set_cons_succ, List.set_cons_zero]
  obtain ⟨ρ', hf, m1, x, y, h1m, rfl⟩ := for_inv (tg := tgN 5) (b := szB) dI (fun ρ => ∃ m x y, Lat n m ∧ ρ = [some (ro ns), some (dI at_), some (dI n), some (.int (ns.getD at_ 0)), some (dM m), x, y, none]) (List.range K) [some (ro ns), some (dI at_), some (dI n), some (.int (ns.getD at_ 0)), some (dM m0), none, none, none] ⟨m0, none, none, l0, rfl⟩ (by
    rintro k hk ρ ⟨m, x, y, h, rfl⟩
    obtain ⟨m', y', h', e⟩ := turn k (List.mem_range.mp hk) m y h
    exact ⟨[some (ro ns), some (dI at_), some (dI n), some (.int (ns.getD at_ 0)), some (dM m), some (dI k), y, none], _, rfl, e, m', some (dI k), y', h', rfl⟩)
  have ord : ∀ k : Nat, k < 3 → ∃ p, g__law_order [.int (ns.getD (at_ + 1) 0 + 101 * (k : Int)), dI n] = .ok (dR p) ∧ isPerm n p := fun k _ => order_ok _ (by omega)
  obtain ⟨p0, o0, q0⟩ := ord 0 (by decide)
  obtain ⟨p1, o1, q1⟩ := ord 1 (by decide)
  obtain ⟨p2, o2, q2⟩ := ord 2 (by decide)
  have s101 : sml 101 = true := by decide
  have k3 : ∀ x y, lcGo (tgN 5) tYs (gCall g__law_order (aCons (g2 dAdd (gCall g__law_cell (aCons (gVar 0) (aCons (g2 dAdd (gVar 1) (gC (.int 1))) aNil))) (g2 dMul (gC (.int 101)) (gVar 5))) (aCons (gVar 2) aNil))) [some (ro ns), some (dI at_), some (dI n), some (.int (ns.getD at_ 0)), some (dM m1), x, y, none] (rng 0 3) = .ok [dR p0, dR p1, dR p2] := fun x y => by
    have := lc_rng (i := 5) (e := (gCall g__law_order (aCons (g2 dAdd (gCall g__law_cell (aCons (gVar 0) (aCons (g2 dAdd (gVar 1) (gC (.int 1))) aNil))) (g2 dMul (gC (.int 101)) (gVar 5))) (aCons (gVar 2) aNil)))) (ρ := [some (ro ns), some (dI at_), some (dI n), some (.int (ns.getD at_ 0)), some (dM m1), x, y, none]) (fun k => dR ([p0, p1, p2].getD k [])) 3 fun k hk => by
      simp only [List.set_cons_succ, List.set_cons_zero, r_g2, r_gCall, r_aCons, r_gVar, r_aNil, r_gC, List.getElem?_cons_succ, List.getElem?_cons_zero, Rz.bind_ok, dAdd_ii, cadd, dMul_ii, s101, Bool.true_or, if_true]
      have : k = 0 ∨ k = 1 ∨ k = 2 := by omega
      rcases this with rfl | rfl | rfl
      · exact o0
      · exact o1
      · exact o2
    exact this
  refine ⟨ren m1 p0 p1 p2, ?_, ren_lat h1m q0 q1 q2⟩
  have c0 : g__law_cell [ro ns, dI at_] = .ok (.int (ns.getD at_ 0)) := cell_ok ns at_
  have hmx : g__law_mix [.int (ns.getD at_ 0), .int 9949, .int 4] = .ok (dI K) := by rw [mix_ok _ (by decide) (by decide), hK]
  have hrg : rngOf [dI K] = .ok ((List.range K).map dI) := by
    rw [rngOf_1, sml_nat (by omega), rng0] <;> rfl
  have hf7 : dFdv (.int (ns.getD at_ 0)) (.int 7) = .ok (.int (ns.getD at_ 0 / 7)) := rfl
  have r3 : rngOf [.int 3] = .ok (rng 0 3) := rfl
  have l3 : (rng 0 3).length ≤ lim := by decide
  have i0 : dIx (.list [dR p0, dR p1, dR p2]) (.int 0) = .ok (dR p0) := rfl
  have i1 : dIx (.list [dR p0, dR p1, dR p2]) (.int 1) = .ok (dR p1) := rfl
  have i2 : dIx (.list [dR p0, dR p1, dR p2]) (.int 2) = .ok (dR p2) := rfl
  show (m__law_sized [some (ro ns), some (dI at_), some (dI n), none, none, none, none, none]).rz = _
  simp only [m__law_sized, List.set_cons_succ, List.set_cons_zero, r_sSeq, r_sSet, r_gCall, r_aCons, r_aNil, r_gVar, r_gC, r_g2, r_mk, r_wipe1, r_wipe0, List.getElem?_cons_succ, List.getElem?_cons_zero, Rz.bind_ok, Rz.out_ok, c0, tgN_go, andThen_nx, hf7, f0, r_sFor, r_iRg, hmx, hrg, hf, r_gLc, r3, l3, if_true, k3, i0, i1, i2, renamed_lat h1m (by omega) q0 q1 q2, r_sRet, andThen_rt, rz_rt]
def nTab : List Nat := [4, 3, 5, 4, 2, 5, 4, 1, 6, 5]
theorem square_ok (ns : List Int) (hn : ns.length ≤ 63) (at_ : Nat) : ∃ n m, g__law_square [ro ns, dI at_] = .ok (dM m) ∧ Lat n m ∧ 1 ≤ n ∧ n ≤ 6 := by
  obtain ⟨K, hK⟩ := int_nat (i := ns.getD at_ 0 * 48271 % 9967 % 10) (by omega)
  have hK10 : K < 10 := by omega
  have hx : dIx (.list [.int 4, .int 3, .int 5, .int 4, .int 2, .int 5, .int 4, .int 1, .int 6, .int 5]) (dI K) = .ok (dI (nTab.getD K 0)) := by
    have e : (PyData.list [.int 4, .int 3, .int 5, .int 4, .int 2, .int 5, .int 4, .int 1, .int 6, .int 5]) = .list (nTab.map dI) := rfl
    rw [e, ix_L dI (by exact hK10), getD_el (l := nTab) (d := 0) (by exact hK10)]
  have hr : 1 ≤ nTab.getD K 0 ∧ nTab.getD K 0 ≤ 6 := by
    have : ∀ k, k < 10 → 1 ≤ nTab.getD k 0 ∧ nTab.getD k 0 ≤ 6 := by decide
    exact this K hK10
  obtain ⟨m, hm, lm⟩ := sized_ok ns at_ hr.1 (by omega)
  refine ⟨_, m, ?_, lm, hr.1, hr.2⟩
  have c0 : g__law_cell [ro ns, dI at_] = .ok (.int (ns.getD at_ 0)) := cell_ok ns at_
  have hmx : g__law_mix [.int (ns.getD at_ 0), .int 9967, .int 10] = .ok (dI K) := by rw [mix_ok _ (by decide) (by decide), hK]
  have hg : dGt (.int ((ns.map PyData.int).length : Int)) (.int 63) = .ok (.bool false) := by
    rw [dGt_ii, List.length_map, decide_eq_false (by omega)]
  have l10 : 10 ≤ lim := by decide
  show (m__law_square [some (ro ns), some (dI at_), none]).rz = _
  simp only [m__law_square, List.set_cons_succ, List.set_cons_zero, r_sSeq, r_sSet, r_gCall, r_aCons, r_aNil, r_gVar, r_gC, r_g2, r_gLst, r_mk, r_wipe1, r_wipe0, List.getElem?_cons_succ, List.getElem?_cons_zero, Rz.bind_ok, Rz.out_ok, c0, tgN_go, andThen_nx, hmx, List.length_cons, List.length_nil, l10, if_true, Nat.zero_add, Nat.reduceAdd, hx, r_sIf, r_tAn, r_tCm, on1_one, dLen_ro, hg, toBl_bool, Bool.false_eq_true, if_false, r_sNil, hm, r_sRet, andThen_rt, rz_rt]
end DL
/-! part Cm6 -/
namespace DL
open PySem
/-! ### the law's own look at a square -/
theorem nodup_lenN {l m : List Nat} (h1 : l.Nodup) (h2 : ∀ x ∈ l, x ∈ m) : l.length ≤ m.length := by
  induction l generalizing m with
  | nil => exact Nat.zero_le _
  | cons a l ih =>
    obtain ⟨na, nl⟩ := List.nodup_cons.mp h1
    have hm : a ∈ m := h2 a List.mem_cons_self
    have := ih (m := m.erase a) nl fun x hx => (List.mem_erase_of_ne fun e => na (by rw [← e]; exact hx)).mpr (h2 x (List.mem_cons_of_mem _ hx))
    rw [List.length_erase_of_mem hm] at this
    have := List.length_pos_of_mem hm
    rw [List.length_cons]
    omega
theorem perm_of {n : Nat} {r : List Nat} (h1 : r.length = n) (h2 : ∀ x ∈ r, x < n) (h3 : r.Nodup) : isPerm n r := by
  refine (List.perm_ext_iff_of_nodup h3 List.nodup_range).mpr fun a => ⟨fun h => List.mem_range.mpr (h2 a h), fun h => ?_⟩
  have ha := List.mem_range.mp h
  by_cases c : a ∈ r
  · exact c
  · have := nodup_lenN (l := a :: r) (m := List.range n) (List.nodup_cons.mpr ⟨c, h3⟩) fun x hx => by
      rcases List.mem_cons.mp hx with rfl | hx
      · exact h
      · exact List.mem_range.mpr (h2 x hx)
    rw [List.length_cons, List.length_range, h1] at this
    omega
theorem srtI_ok {r : List Nat} (h : r.length ≤ lim) : srtOk (r.map dI) = true := by
  unfold srtOk
  simp only [Bool.and_eq_true, Bool.or_eq_true, List.all_eq_true, decide_eq_true_eq, List.mem_map, List.length_map]
  refine ⟨⟨⟨?_, .inr ?_⟩, ?_⟩, h⟩
  · rintro _ ⟨x, _, rfl⟩ _ ⟨y, _, rfl⟩
    simp [PySem.W.alike]
  · rintro _ ⟨x, _, rfl⟩
    rfl
  · rintro _ ⟨x, _, rfl⟩
    first
      | exact ⟨lay_I x, Nat.le_trans (dep_I x) (by decide)⟩
      | exact Nat.le_trans (dep_I x) (by decide)
def srtN (r : List Nat) : List Nat := r.mergeSort fun a b => decide (a ≤ b)
theorem srt_map (r : List Nat) : (r.map dI).mergeSort (PySem.W.dataLe false fun d => d) = (srtN r).map dI := by
  unfold srtN
  refine (List.map_mergeSort (r := fun a b => decide (a ≤ b)) (s := PySem.W.dataLe false fun d : D => d) (f := dI) (l := r) fun a _ b _ => ?_).symm
  have := congrFun (congrFun (PySem.W.dataLe_int (β := Nat) fun b => (b : Int)) a) b
  have e : PySem.W.dataLe false (fun d : D => d) (dI a) (dI b) = PySem.W.dataLe false (fun b : Nat => (.int (b : Int) : D)) a b := rfl
  rw [e, this, Bool.eq_iff_iff, decide_eq_true_eq, decide_eq_true_eq]
  omega
theorem srtN_perm {n : Nat} {r : List Nat} (h : isPerm n r) : srtN r = List.range n := by
  unfold srtN
  refine List.Perm.eq_of_pairwise (le := fun a b => decide (a ≤ b) = true) (fun a b _ _ h1 h2 => ?_) (List.pairwise_mergeSort (fun a b c h1 h2 => ?_) (fun a b => ?_) r) ?_ ((List.mergeSort_perm _ _).trans h)
  · simp at h1 h2
    omega
  · simp at h1 h2 ⊢
    omega
  · simp
    omega
  · have := List.pairwise_lt_range (n := n)
    exact this.imp fun h => by
      simp
      omega
theorem sorted_R {r : List Nat} (h : r.length ≤ lim) : dSorted (dR r) = .ok (.list ((srtN r).map dI)) := by
  show (if srtOk (r.map dI) = true then Rz.ok _ else .st) = _
  rw [if_pos (srtI_ok h), srt_map]
theorem sorted_L {r : List Nat} (h : r.length ≤ lim) : dSorted (.list (r.map dI)) = .ok (.list ((srtN r).map dI)) := by
  show (if srtOk (r.map dI) = true then Rz.ok _ else .st) = _
  rw [if_pos (srtI_ok h), srt_map]
theorem sh_lR (r : List Nat) : SeqAt.shaped (lR r) = true := sh_L (lay_map dI lay_I r) (Nat.le_trans (dep_map dI 0 dep_I r) (by decide))
theorem eqv_lR (a b : List Nat) : PyData.eqv (lR a) (lR b) = true ↔ a = b := by
  simp only [PyData.eqv]
  exact eqv_all_map eqv_I a b
theorem ne_lR (a b : List Nat) : dNe (lR a) (lR b) = .ok (.bool (!decide (a = b))) := by
  unfold dNe
  rw [sh_lR, sh_lR, bool_iff (eqv_lR a b)]
  rfl
theorem eq_lR (a b : List Nat) : dEq (lR a) (lR b) = .ok (.bool (decide (a = b))) := by
  unfold dEq
  rw [sh_lR, sh_lR, bool_iff (eqv_lR a b)]
  rfl
theorem ne_I (a b : Nat) : dNe (dI a) (dI b) = .ok (.bool (!decide (a = b))) := by
  unfold dNe
  rw [shaped_int, shaped_int, bool_iff (eqv_I a b)]
  rfl
def m__law_is_square : GS :=
  (sSeq (sIf (tOrr (tNt (tTru (g1 (dIsi "tuple") (gVar 0)))) (tCm dNe (gCall (on1 dLen) (aCons (gVar 0) aNil)) (gVar 1))) (sSeq (sRet (gC (.bool false))) sNil) sNil) (sSeq (sFor [] (iSeq (gVar 0)) (tgN 2) (sSeq (sIf (tOrr (tNt (tTru (g1 (dIsi "tuple") (gVar 2)))) (tCm dNe (gCall (on1 dSorted) (aCons (gVar 2) aNil)) (gListRg (aCons (gVar 1) aNil)))) (sSeq (sRet (gC (.bool false))) sNil) sNil) sNil)) (sSeq (sRet (g2 dEq (gLc (iRg (aCons (gVar 1) aNil)) (tgN 3) (tCm dNe (gCall (on1 dSorted) (aCons (gLc (iSeq (gVar 0)) (tgN 2) tYs (g2 dIx (gVar 2) (gVar 3)) [2]) aNil)) (gListRg (aCons (gVar 1) aNil))) (gVar 3) [3]) (gLst aNil))) sNil)))
def g__law_is_square : List D → Rz D := fun ds => (m__law_is_square (startE 4 ds)).rz
theorem eq__law_is_square : ∀ ds, ds.length = 2 → g__law_is_square ds = .st ∨ (m__law_is_square (startE 4 ds)).rz = g__law_is_square ds := fun _ _ => .inr rfl
theorem Lat.row_perm {n : Nat} {m : List (List Nat)} (h : Lat n m) {r : List Nat} (hr : r ∈ m) : isPerm n r := perm_of (h.row r hr) (h.lt r hr) (h.rn r hr)
theorem Lat.col_perm {n : Nat} {m : List (List Nat)} (h : Lat n m) {j : Nat} (hj : j < n) : isPerm n (colN m j) := by
  refine perm_of (by rw [List.length_map, h.len]) (fun x hx => ?_) (h.cn j hj)
  obtain ⟨r, hr, rfl⟩ := List.mem_map.mp hx
  have : j < r.length := by rw [h.row r hr]; exact hj
  rw [getD_el this]
  exact h.lt r hr _ (List.getElem_mem this)
theorem lRg {i : Nat} {ρ : En} {n : Nat} (h1 : gVar i ρ = .ok (dI n)) (hn : n ≤ 1000) : gListRg (aCons (gVar i) aNil) ρ = .ok (lR (List.range n)) := by
  unfold gListRg
  rw [it_range h1 hn] <;> rfl
theorem law_sq_ok {n : Nat} {m : List (List Nat)} (h : Lat n m) (hn : n ≤ 1000) : g__law_is_square [dM m, dI n] = .ok (.bool true) := by
  have hlim : n ≤ lim := Nat.le_trans hn (by decide)
  have e1 : dNe (dI m.length) (dI n) = .ok (.bool false) := by rw [ne_I, h.len, decide_eq_true rfl] <;> rfl
  obtain ⟨ρ', h1, x, rfl⟩ := for_inv (tg := tgN 2) (b := (sSeq (sIf (tOrr (tNt (tTru (g1 (dIsi "tuple") (gVar 2)))) (tCm dNe (gCall (on1 dSorted) (aCons (gVar 2) aNil)) (gListRg (aCons (gVar 1) aNil)))) (sSeq (sRet (gC (.bool false))) sNil) sNil) sNil)) dR (fun ρ => ∃ x, ρ = [some (dM m), some (dI n), x, none]) m [some (dM m), some (dI n), none, none] ⟨none, rfl⟩ (by
    rintro r hr ρ ⟨x, rfl⟩
    refine ⟨[some (dM m), some (dI n), some (dR r), none], [some (dM m), some (dI n), some (dR r), none], rfl, ?_, some (dR r), rfl⟩
    have k1 : (gListRg (aCons (gVar 1) aNil)) [some (dM m), some (dI n), some (dR r), none] = .ok (lR (List.range n)) := lRg rfl hn
    simp only [r_sSeq, r_sIf, r_tOrr, r_tNt, r_tTru, r_g1, r_gVar, List.getElem?_cons_succ, List.getElem?_cons_zero, Rz.bind_ok, isi_R, truth_bool, Bool.not_true, Bool.false_eq_true, if_false, r_tCm, r_gCall, r_aCons, r_aNil, on1_one, sorted_R (r := r) (by rw [h.row r hr]; exact hlim), srtN_perm (h.row_perm hr), k1, ne_lR, decide_true, toBl_bool, Rz.out_ok, r_sNil, andThen_nx])
  have k2 : ∀ x, lcGo (tgN 3) (tCm dNe (gCall (on1 dSorted) (aCons (gLc (iSeq (gVar 0)) (tgN 2) tYs (g2 dIx (gVar 2) (gVar 3)) [2]) aNil)) (gListRg (aCons (gVar 1) aNil))) (gVar 3) [some (dM m), some (dI n), x, none] ((List.range n).map dI) = .ok [] := fun x => by
    rw [lc_all dI (fun _ => false) dI (List.range n) fun j hj => ⟨?_, fun z => by cases z⟩]
    · simp
    · have hj := List.mem_range.mp hj
      have k3 : lcGo (tgN 2) tYs (g2 dIx (gVar 2) (gVar 3)) [some (dM m), some (dI n), none, some (dI j)] (m.map dR) = .ok ((colN m j).map dI) := by
        unfold colN
        rw [List.map_map]
        refine lc_map dR _ m fun r hr => ?_
        simp only [List.set_cons_succ, List.set_cons_zero, r_g2, r_gVar]
        exact ix_R (by rw [h.row r hr]; exact hj)
      have k1 : (gListRg (aCons (gVar 1) aNil)) [some (dM m), some (dI n), x, some (dI j)] = .ok (lR (List.range n)) := lRg rfl hn
      have hl : m.length ≤ lim := by rw [h.len]; exact hlim
      simp only [List.set_cons_succ, List.set_cons_zero, r_tCm, r_gCall, r_aCons, r_gLc, r_iSeq, r_gVar, r_aNil, r_wipe1, r_wipe0, List.getElem?_cons_succ, List.getElem?_cons_zero, Rz.bind_ok, items_M, List.length_map, hl, if_true, k3, on1_one, sorted_L (r := colN m j) (by rw [List.length_map]; exact hl), srtN_perm (h.col_perm hj), k1, ne_lR, decide_true, Bool.not_true, toBl_bool]
  have k4 : (iRg (aCons (gVar 1) aNil)) [some (dM m), some (dI n), x, none] = .ok ((List.range n).map dI) := it_range rfl hn
  have e0 : dEq (.list []) (.list []) = .ok (.bool true) := rfl
  have l0 : 0 ≤ lim := Nat.zero_le _
  show (m__law_is_square [some (dM m), some (dI n), none, none]).rz = _
  simp only [m__law_is_square, List.set_cons_succ, List.set_cons_zero, r_sSeq, r_sIf, r_tOrr, r_tNt, r_tTru, r_g1, r_gVar, List.getElem?_cons_succ, List.getElem?_cons_zero, Rz.bind_ok, isi_M, truth_bool, Bool.not_true, Bool.false_eq_true, if_false, r_tCm, r_gCall, r_aCons, r_aNil, on1_one, len_M, e1, toBl_bool, Rz.out_ok, r_sNil, andThen_nx, r_sFor, r_mk, r_wipe0, r_iSeq, items_M, h1, r_sRet, r_g2, r_gLc, k4, List.length_map, List.length_range, hlim, if_true, r_wipe1, k2, r_gLst, List.length_nil, l0, e0, andThen_rt, rz_rt]
/-! ### products of ranges -/
theorem range_mul {β : Type} (q : Nat) (hq : 0 < q) (g : Nat → Nat → β) : ∀ p : Nat, (List.range p).flatMap (fun a => (List.range q).map fun b => g a b) = (List.range (p * q)).map fun n => g (n / q) (n % q)
  | 0 => by simp
  | p + 1 => by
    rw [List.range_succ, List.flatMap_append, range_mul q hq g p, Nat.succ_mul, List.range_add, List.map_append, List.map_map]
    congr 1
    simp only [List.flatMap_cons, List.flatMap_nil, List.append_nil]
    refine List.map_congr_left fun b hb => ?_
    have hb := List.mem_range.mp hb
    have e1 : (p * q + b) / q = p := by
      rw [Nat.mul_comm, Nat.mul_add_div hq, Nat.div_eq_of_lt hb, Nat.add_zero]
    have e2 : (p * q + b) % q = b := by
      rw [Nat.mul_comm, Nat.mul_add_mod, Nat.mod_eq_of_lt hb]
    simp only [Function.comp]
    rw [e1, e2]
end DL
/-! part Cc0 -/
namespace DL
open PySem
def m_look_small : GS :=
  (sSeq (sExpr [] (gCall g_checked (aCons (gVar 0) aNil))) (sSeq (sIf (tCm dGt (gCall (on1 dLen) (aCons (gVar 0) aNil)) (gC (.int 7))) (sSeq (sRaise "TooBig") sNil) sNil) sNil))
def g_look_small : List D → Rz D := fun ds => (m_look_small (startE 1 ds)).rz
theorem eq_look_small : ∀ ds, ds.length = 1 → g_look_small ds = .st ∨ (m_look_small (startE 1 ds)).rz = g_look_small ds := fun _ _ => .inr rfl
def m_longer_cuts (rec : List D → Rz D) : GS :=
  (sSeq (sIf (tCm dEq (gCall (on1 dLen) (aCons (gVar 1) aNil)) (gCall (on1 dLen) (aCons (gVar 0) aNil))) (sSeq (sRet (gLst (aCons (gCall (on1 dTuple) (aCons (gVar 1) aNil)) aNil))) sNil) sNil) (sSeq (sSet [] (tgN 3) (gLst aNil)) (sSeq (sFor [3] (iEn (g2 dIx (gVar 0) (gCall (on1 dLen) (aCons (gVar 1) aNil)))) (tgT [4, 5]) (sSeq (sIf (tAn (tCm dNotIn (gVar 4) (gVar 1)) (tCm dNotIn (gVar 5) (gVar 2))) (sSeq (sExt [3] 3 (gCall rec (aCons (gVar 0) (aCons (g2 dAdd (gVar 1) (gLst (aCons (gVar 4) aNil))) (aCons (g2 dAdd (gVar 2) (gLst (aCons (gVar 5) aNil))) aNil))))) sNil) sNil) sNil)) (sSeq (sRet (gVar 3)) sNil))))
def gR_longer_cuts : Nat → List D → Rz D
  | 0 => fun _ => .st
  | n + 1 => fun ds => (m_longer_cuts (gR_longer_cuts n) (startE 6 ds)).rz
def g_longer_cuts : List D → Rz D := gR_longer_cuts 9
def m_all_cuts : GS :=
  (sSeq (sExpr [] (gCall g_look_small (aCons (gVar 0) aNil))) (sSeq (sRet (gCall g_longer_cuts (aCons (gVar 0) (aCons (gLst aNil) (aCons (gLst aNil) aNil))))) sNil))
def g_all_cuts : List D → Rz D := fun ds => (m_all_cuts (startE 1 ds)).rz
theorem eq_all_cuts : ∀ ds, ds.length = 1 → g_all_cuts ds = .st ∨ (m_all_cuts (startE 1 ds)).rz = g_all_cuts ds := fun _ _ => .inr rfl
def m_look_place : GS :=
  (sSeq (sExpr [] (gCall g_checked (aCons (gVar 0) aNil))) (sSeq (sIf (tOrr (tNt (tTru (gCall g_is_within (aCons (gVar 1) (aCons (gC (.int 0)) (aCons (g2 dSub (gCall (on1 dLen) (aCons (gVar 0) aNil)) (gC (.int 1))) aNil)))))) (tNt (tTru (gCall g_is_within (aCons (gVar 2) (aCons (gC (.int 0)) (aCons (g2 dSub (gCall (on1 dLen) (aCons (gVar 0) aNil)) (gC (.int 1))) aNil))))))) (sSeq (sRaise "BadPlace") sNil) sNil) sNil))
def g_look_place : List D → Rz D := fun ds => (m_look_place (startE 3 ds)).rz
theorem eq_look_place : ∀ ds, ds.length = 3 → g_look_place ds = .st ∨ (m_look_place (startE 3 ds)).rz = g_look_place ds := fun _ _ => .inr rfl
def m_cuts_at : GS :=
  (sSeq (sExpr [] (gCall g_look_small (aCons (gVar 0) aNil))) (sSeq (sExpr [] (gCall g_look_place (aCons (gVar 0) (aCons (gVar 1) (aCons (gVar 2) aNil))))) (sSeq (sRet (gLc (iSeq (gCall g_longer_cuts (aCons (gVar 0) (aCons (gLst aNil) (aCons (gLst aNil) aNil))))) (tgN 3) (tCm dEq (g2 dIx (gVar 3) (gVar 1)) (gVar 2)) (gVar 3) [3])) sNil)))
def g_cuts_at : List D → Rz D := fun ds => (m_cuts_at (startE 4 ds)).rz
theorem eq_cuts_at : ∀ ds, ds.length = 3 → g_cuts_at ds = .st ∨ (m_cuts_at (startE 4 ds)).rz = g_cuts_at ds := fun _ _ => .inr rfl
def m_is_cut_of : GS :=
  (sSeq (sIf (tNt (tTru (gCall g_is_order (aCons (gVar 1) (aCons (gCall (on1 dLen) (aCons (gVar 0) aNil)) aNil))))) (sSeq (sRet (gC (.bool false))) sNil) sNil) (sSeq (sRet (g2 dEq (g1 dLenSet (gLc (iEn (gVar 1)) (tgT [2, 3]) tYs (g2 dIx (g2 dIx (gVar 0) (gVar 2)) (gVar 3)) [2, 3])) (gCall (on1 dLen) (aCons (gVar 0) aNil)))) sNil))
def g_is_cut_of : List D → Rz D := fun ds => (m_is_cut_of (startE 4 ds)).rz
theorem eq_is_cut_of : ∀ ds, ds.length = 2 → g_is_cut_of ds = .st ∨ (m_is_cut_of (startE 4 ds)).rz = g_is_cut_of ds := fun _ _ => .inr rfl
def m_look_cut : GS :=
  (sSeq (sExpr [] (gCall g_checked (aCons (gVar 0) aNil))) (sSeq (sIf (tNt (tTru (gCall g_is_cut_of (aCons (gVar 0) (aCons (gVar 1) aNil))))) (sSeq (sRaise "BadCut") sNil) sNil) sNil))
def g_look_cut : List D → Rz D := fun ds => (m_look_cut (startE 2 ds)).rz
theorem eq_look_cut : ∀ ds, ds.length = 2 → g_look_cut ds = .st ∨ (m_look_cut (startE 2 ds)).rz = g_look_cut ds := fun _ _ => .inr rfl
def m_letters_on : GS :=
  (sSeq (sExpr [] (gCall g_look_cut (aCons (gVar 0) (aCons (gVar 1) aNil)))) (sSeq (sRet (gCall (on1 dTuple) (aCons (gLc (iEn (gVar 1)) (tgT [2, 3]) tYs (g2 dIx (g2 dIx (gVar 0) (gVar 2)) (gVar 3)) [2, 3]) aNil))) sNil))
def g_letters_on : List D → Rz D := fun ds => (m_letters_on (startE 4 ds)).rz
theorem eq_letters_on : ∀ ds, ds.length = 2 → g_letters_on ds = .st ∨ (m_letters_on (startE 4 ds)).rz = g_letters_on ds := fun _ _ => .inr rfl
def m_over : GS :=
  (sSeq (sRet (gCall (on1 dTuple) (aCons (gCall g_columns_of (aCons (gCall g_checked (aCons (gVar 0) aNil)) aNil)) aNil))) sNil)
def g_over : List D → Rz D := fun ds => (m_over (startE 1 ds)).rz
theorem eq_over : ∀ ds, ds.length = 1 → g_over ds = .st ∨ (m_over (startE 1 ds)).rz = g_over ds := fun _ _ => .inr rfl
def m_is_cut : GS :=
  (sSeq (sRet (gCall g_is_cut_of (aCons (gCall g_checked (aCons (gVar 0) aNil)) (aCons (gVar 1) aNil)))) sNil)
def g_is_cut : List D → Rz D := fun ds => (m_is_cut (startE 2 ds)).rz
theorem eq_is_cut : ∀ ds, ds.length = 2 → g_is_cut ds = .st ∨ (m_is_cut (startE 2 ds)).rz = g_is_cut ds := fun _ _ => .inr rfl
def m_share : GS :=
  (sSeq (sRet (g2 dNe (gLc (iRg (aCons (gCall (on1 dLen) (aCons (gVar 0) aNil)) aNil)) (tgN 2) (tCm dEq (g2 dIx (gVar 0) (gVar 2)) (g2 dIx (gVar 1) (gVar 2))) (gVar 2) [2]) (gLst aNil))) sNil)
def g_share : List D → Rz D := fun ds => (m_share (startE 3 ds)).rz
theorem eq_share : ∀ ds, ds.length = 2 → g_share ds = .st ∨ (m_share (startE 3 ds)).rz = g_share ds := fun _ _ => .inr rfl
def m_apart_from (rec : List D → Rz D) : GS :=
  (sSeq (sSet [] (tgN 2) (gLst aNil)) (sSeq (sFor [] (iEn (gVar 0)) (tgT [3, 4]) (sSeq (sIf (tCm dLe (g2 dSub (gCall (on1 dLen) (aCons (gVar 0) aNil)) (gVar 3)) (gCall (on1 dLen) (aCons (gVar 2) aNil))) (sSeq (sRet (gVar 2)) sNil) sNil) (sSeq (sIf (tNt (tTru (gLc (iSeq (gVar 1)) (tgN 7) (tTru (gCall g_share (aCons (gVar 4) (aCons (gVar 7) aNil)))) (gVar 7) [7]))) (sSeq (sSet [] (tgN 5) (gLc (iSeq (gSl (gVar 0) (oSm (g2 dAdd (gVar 3) (gC (.int 1)))) oNo)) (tgN 7) (tNt (tTru (gCall g_share (aCons (gVar 4) (aCons (gVar 7) aNil))))) (gVar 7) [7])) (sSeq (sSet [] (tgN 6) (g2 dAdd (gLst (aCons (gVar 4) aNil)) (gCall rec (aCons (gVar 5) (aCons (gLst aNil) aNil))))) (sSeq (sIf (tCm dGt (gCall (on1 dLen) (aCons (gVar 6) aNil)) (gCall (on1 dLen) (aCons (gVar 2) aNil))) (sSeq (sSet [] (tgN 2) (gVar 6)) sNil) sNil) sNil))) sNil) sNil))) (sSeq (sRet (gVar 2)) sNil)))
def gR_apart_from : Nat → List D → Rz D
  | 0 => fun _ => .st
  | n + 1 => fun ds => (m_apart_from (gR_apart_from n) (startE 8 ds)).rz
def g_apart_from : List D → Rz D := gR_apart_from 9
def m_most_apart : GS :=
  (sSeq (sExpr [] (gCall g_look_small (aCons (gVar 0) aNil))) (sSeq (sIf (tCm dGt (gCall (on1 dLen) (aCons (gVar 0) aNil)) (gC (.int 5))) (sSeq (sRaise "TooBig") sNil) sNil) (sSeq (sRet (gCall g_apart_from (aCons (gCall g_longer_cuts (aCons (gVar 0) (aCons (gLst aNil) (aCons (gLst aNil) aNil)))) (aCons (gLst aNil) aNil)))) sNil)))
def g_most_apart : List D → Rz D := fun ds => (m_most_apart (startE 1 ds)).rz
theorem eq_most_apart : ∀ ds, ds.length = 1 → g_most_apart ds = .st ∨ (m_most_apart (startE 1 ds)).rz = g_most_apart ds := fun _ _ => .inr rfl
def m_parting_by (rec : List D → Rz D) : GS :=
  (sSeq (sIf (tCm dEq (gCall (on1 dLen) (aCons (gVar 2) aNil)) (gVar 1)) (sSeq (sRet (gVar 2)) sNil) sNil) (sSeq (sFor [] (iSeq (gVar 0)) (tgN 3) (sSeq (sIf (tAn (tCm dEq (g2 dIx (gVar 3) (gC (.int 0))) (gCall (on1 dLen) (aCons (gVar 2) aNil))) (tNt (tTru (gLc (iSeq (gVar 2)) (tgN 5) (tTru (gCall g_share (aCons (gVar 3) (aCons (gVar 5) aNil)))) (gVar 5) [5])))) (sSeq (sSet [] (tgN 4) (gCall rec (aCons (gVar 0) (aCons (gVar 1) (aCons (g2 dAdd (gVar 2) (gLst (aCons (gVar 3) aNil))) aNil))))) (sSeq (sIf (tVal (g1 dNotN (gVar 4))) (sSeq (sRet (gVar 4)) sNil) sNil) sNil)) sNil) sNil)) (sSeq (sRet (gC .none)) sNil)))
def gR_parting_by : Nat → List D → Rz D
  | 0 => fun _ => .st
  | n + 1 => fun ds => (m_parting_by (gR_parting_by n) (startE 6 ds)).rz
def g_parting_by : List D → Rz D := gR_parting_by 9
def m_parting : GS :=
  (sSeq (sExpr [] (gCall g_look_small (aCons (gVar 0) aNil))) (sSeq (sRet (gCall g_parting_by (aCons (gCall g_longer_cuts (aCons (gVar 0) (aCons (gLst aNil) (aCons (gLst aNil) aNil)))) (aCons (gCall (on1 dLen) (aCons (gVar 0) aNil)) (aCons (gLst aNil) aNil))))) sNil))
def g_parting : List D → Rz D := fun ds => (m_parting (startE 1 ds)).rz
theorem eq_parting : ∀ ds, ds.length = 1 → g_parting ds = .st ∨ (m_parting (startE 1 ds)).rz = g_parting ds := fun _ _ => .inr rfl
def m_mate : GS :=
  (sSeq (sSet [] (tgN 1) (gCall g_parting (aCons (gVar 0) aNil))) (sSeq (sIf (tVal (g1 dIsN (gVar 1))) (sSeq (sRet (gC .none)) sNil) sNil) (sSeq (sSet [] (tgN 2) (gLst aNil)) (sSeq (sFor [2] (iRg (aCons (gCall (on1 dLen) (aCons (gVar 0) aNil)) aNil)) (tgN 3) (sSeq (sSet [2] (tgN 4) (g2 dRep (gLst (aCons (gC (.int 0)) aNil)) (gCall (on1 dLen) (aCons (gVar 0) aNil)))) (sSeq (sFor [4, 2] (iEn (gVar 1)) (tgT [5, 6]) (sSeq (sPut [4, 2] 4 (g2 dIx (gVar 6) (gVar 3)) (gVar 5)) sNil)) (sSeq (sApp [2] 2 (gCall (on1 dTuple) (aCons (gVar 4) aNil))) sNil)))) (sSeq (sRet (gCall (on1 dTuple) (aCons (gVar 2) aNil))) sNil)))))
def g_mate : List D → Rz D := fun ds => (m_mate (startE 7 ds)).rz
theorem eq_mate : ∀ ds, ds.length = 1 → g_mate ds = .st ∨ (m_mate (startE 7 ds)).rz = g_mate ds := fun _ _ => .inr rfl
def m__law_cuts (rec : List D → Rz D) : GS :=
  (sSeq (sIf (tCm dEq (gCall (on1 dLen) (aCons (gVar 1) aNil)) (gCall (on1 dLen) (aCons (gVar 0) aNil))) (sSeq (sRet (gLst (aCons (gVar 1) aNil))) sNil) sNil) (sSeq (sSet [] (tgN 2) (gLst aNil)) (sSeq (sSet [] (tgN 3) (gLc (iEn (gVar 1)) (tgT [5, 4]) tYs (g2 dIx (g2 dIx (gVar 0) (gVar 5)) (gVar 4)) [5, 4])) (sSeq (sFor [] (iRg (aCons (gCall (on1 dLen) (aCons (gVar 0) aNil)) aNil)) (tgN 4) (sSeq (sIf (tAn (tCm dNotIn (gVar 4) (gVar 1)) (tCm dNotIn (g2 dIx (g2 dIx (gVar 0) (gCall (on1 dLen) (aCons (gVar 1) aNil))) (gVar 4)) (gVar 3))) (sSeq (sSet [] (tgN 2) (g2 dAdd (gVar 2) (gCall rec (aCons (gVar 0) (aCons (g2 dAdd (gVar 1) (gTup (aCons (gVar 4) aNil))) aNil))))) sNil) sNil) sNil)) (sSeq (sRet (gVar 2)) sNil)))))
def gR__law_cuts : Nat → List D → Rz D
  | 0 => fun _ => .st
  | n + 1 => fun ds => (m__law_cuts (gR__law_cuts n) (startE 6 ds)).rz
def g__law_cuts : List D → Rz D := gR__law_cuts 9
end DL
/-! part Cc1 -/
namespace DL
open PySem
/-! ### short steps -/
theorem call1 {op : D → Rz D} {a : G} {ρ : En} {d : D} (h : a ρ = .ok d) : gCall (on1 op) (aCons a aNil) ρ = op d := by
  unfold gCall aCons
  rw [h]
  rfl
theorem callF1 {f : List D → Rz D} {a : G} {ρ : En} {x : D} (h1 : a ρ = .ok x) : gCall f (aCons a aNil) ρ = f [x] := by
  unfold gCall aCons
  rw [h1]
  rfl
theorem callF2 {f : List D → Rz D} {a b : G} {ρ : En} {x y : D} (h1 : a ρ = .ok x) (h2 : b ρ = .ok y) : gCall f (aCons a (aCons b aNil)) ρ = f [x, y] := by
  unfold gCall
  have : aCons a (aCons b aNil) ρ = .ok [x, y] := by
    unfold aCons
    rw [h1, h2]
    rfl
  rw [this, Rz.bind_ok]
theorem callF3 {f : List D → Rz D} {a b c : G} {ρ : En} {x y z : D} (h1 : a ρ = .ok x) (h2 : b ρ = .ok y) (h3 : c ρ = .ok z) : gCall f (aCons a (aCons b (aCons c aNil))) ρ = f [x, y, z] := by
  unfold gCall
  have : aCons a (aCons b (aCons c aNil)) ρ = .ok [x, y, z] := by
    unfold aCons
    rw [h1, h2, h3]
    rfl
  rw [this, Rz.bind_ok]
theorem gOp2 {op : D → D → Rz D} {a b : G} {ρ : En} {x y : D} (h1 : a ρ = .ok x) (h2 : b ρ = .ok y) : g2 op a b ρ = op x y := by
  unfold g2
  rw [h1, h2] <;> rfl
theorem st_if_f {t : GT} {a b : GS} {ρ : En} (h : t ρ = .ok false) : sIf t a b ρ = b ρ := by
  unfold sIf
  rw [h] <;> rfl
theorem st_if_t {t : GT} {a b : GS} {ρ : En} (h : t ρ = .ok true) : sIf t a b ρ = a ρ := by
  unfold sIf
  rw [h] <;> rfl
theorem st_set {os : List Nat} {i : Nat} {a : G} {ρ : En} {d : D} (h : a (mk os ρ) = .ok d) : sSet os (tgN i) a ρ = .nx (ρ.set i (some d)) := by
  unfold sSet
  rw [h] <;> rfl
theorem st_ret {a : G} {ρ : En} {d : D} (h : a ρ = .ok d) : sRet a ρ = .rt d := by
  unfold sRet
  rw [h] <;> rfl
theorem st_rt {s u : GS} {ρ : En} {d : D} (h : s ρ = .rt d) : sSeq s u ρ = .rt d := by
  unfold sSeq
  rw [h, andThen_rt]
theorem st_ex {s u : GS} {ρ : En} {c : Str} (h : s ρ = .ex c) : sSeq s u ρ = .ex c := by
  unfold sSeq
  rw [h, andThen_ex]
theorem st_expr {os : List Nat} {a : G} {ρ : En} {d : D} (h : a (mk os ρ) = .ok d) : sExpr os a ρ = .nx ρ := by
  unfold sExpr
  rw [h] <;> rfl
theorem ts_cm {op : D → D → Rz D} {a b : G} {ρ : En} {x y : D} {k : Bool} (h1 : a ρ = .ok x) (h2 : b ρ = .ok y) (h : op x y = .ok (.bool k)) : tCm op a b ρ = .ok k := by
  unfold tCm
  rw [h1, h2, Rz.bind_ok, Rz.bind_ok, h] <;> rfl
theorem ts_and {t u : GT} {ρ : En} {k l : Bool} (h1 : t ρ = .ok k) (h2 : k = true → u ρ = .ok l) : tAn t u ρ = .ok (k && l) := by
  unfold tAn
  rw [h1, Rz.bind_ok]
  cases k with
  | true => rw [if_pos rfl, h2 rfl] <;> rfl
  | false => rfl
theorem ts_or {t u : GT} {ρ : En} {k l : Bool} (h1 : t ρ = .ok k) (h2 : k = false → u ρ = .ok l) : tOrr t u ρ = .ok (k || l) := by
  unfold tOrr
  rw [h1, Rz.bind_ok]
  cases k with
  | true => rfl
  | false => rw [if_neg Bool.false_ne_true, h2 rfl] <;> rfl
theorem ts_not {t : GT} {ρ : En} {k : Bool} (h : t ρ = .ok k) : tNt t ρ = .ok (!k) := by
  unfold tNt
  rw [h] <;> rfl
theorem ts_tru {a : G} {ρ : En} {d : D} {k : Bool} (h : a ρ = .ok d) (h2 : truth d = .ok k) : tTru a ρ = .ok k := by
  unfold tTru
  rw [h, Rz.bind_ok, h2]
theorem rz_of_rt {o : Out} {d : D} (h : o = .rt d) : o.rz = .ok d := by
  rw [h] <;> rfl
theorem rz_of_ex {o : Out} {c : Str} (h : o = .ex c) : o.rz = .ex c := by
  rw [h] <;> rfl
theorem rz_of_nx {o : Out} {ρ : En} (h : o = .nx ρ) : o.rz = .ok .none := by
  rw [h] <;> rfl
/-- a comprehension with a name, over data -/
theorem g_lc {α : Type} {it : GA} {i : Nat} {t : GT} {e : G} {vs : List Nat} {ρ ρ1 : En} {xs : List α} (enc : α → D) (p : α → Bool) (f : α → D) (hit : it ρ = .ok (xs.map enc)) (hl : xs.length ≤ lim) (hw : wipeE ρ vs = ρ1)
    (h : ∀ a ∈ xs, t (ρ1.set i (some (enc a))) = .ok (p a) ∧ (p a = true → e (ρ1.set i (some (enc a))) = .ok (f a))) : gLc it (tgN i) t e vs ρ = .ok (.list ((xs.filter p).map f)) := by
  unfold gLc
  rw [hit, Rz.bind_ok, if_pos (by rw [List.length_map]; exact hl), hw, lc_all enc p f xs h, Rz.bind_ok]
theorem g_lcm {α : Type} {it : GA} {i : Nat} {e : G} {vs : List Nat} {ρ ρ1 : En} {xs : List α} (enc : α → D) (f : α → D) (hit : it ρ = .ok (xs.map enc)) (hl : xs.length ≤ lim) (hw : wipeE ρ vs = ρ1)
    (h : ∀ a ∈ xs, e (ρ1.set i (some (enc a))) = .ok (f a)) : gLc it (tgN i) tYs e vs ρ = .ok (.list (xs.map f)) := by
  unfold gLc
  rw [hit, Rz.bind_ok, if_pos (by rw [List.length_map]; exact hl), hw, lc_map enc f xs h, Rz.bind_ok]
/-- a comprehension over pairs (place, item) -/
theorem lc_pair {α : Type} {i j : Nat} {t : GT} {e : G} {ρ : En} (e1 e2 : α → D) (p : α → Bool) (f : α → D) : ∀ (xs : List α), (∀ a ∈ xs, t ((ρ.set i (some (e1 a))).set j (some (e2 a))) = .ok (p a) ∧ (p a = true → e ((ρ.set i (some (e1 a))).set j (some (e2 a))) = .ok (f a))) → lcGo (tgT [i, j]) t e ρ (xs.map fun a => wkD [e1 a, e2 a]) = .ok ((xs.filter p).map f)
  | [], _ => rfl
  | a :: xs, h => by
    obtain ⟨h1, h2⟩ := h a List.mem_cons_self
    have ih := lc_pair e1 e2 p f xs fun b hb => h b (List.mem_cons_of_mem _ hb)
    have hg : (tgT [i, j]).go (wkD [e1 a, e2 a]) ρ = some ((ρ.set i (some (e1 a))).set j (some (e2 a))) := rfl
    rw [List.map_cons]
    unfold lcGo
    simp only [hg, h1, Rz.nox_ok, Rz.bind_ok]
    cases hp : p a with
    | true => simp [h2 hp, ih, hp]
    | false => simp [ih, hp]
theorem g_lcp {α : Type} {it : GA} {i j : Nat} {e : G} {vs : List Nat} {ρ ρ1 : En} {xs : List α} (e1 e2 : α → D) (f : α → D) (hit : it ρ = .ok (xs.map fun a => wkD [e1 a, e2 a])) (hl : xs.length ≤ lim) (hw : wipeE ρ vs = ρ1)
    (h : ∀ a ∈ xs, e ((ρ1.set i (some (e1 a))).set j (some (e2 a))) = .ok (f a)) : gLc it (tgT [i, j]) tYs e vs ρ = .ok (.list (xs.map f)) := by
  have k := lc_pair (t := tYs) (e := e) (ρ := ρ1) (i := i) (j := j) e1 e2 (fun _ => true) f xs fun a ha => ⟨rfl, fun _ => h a ha⟩
  rw [List.filter_eq_self.mpr fun _ _ => rfl] at k
  unfold gLc
  rw [hit, Rz.bind_ok, if_pos (by rw [List.length_map]; exact hl), hw, k, Rz.bind_ok]
theorem enum_map {α : Type} (enc : α → D) (d : α) (xs : List α) : enumOf (xs.map enc) = (List.range xs.length).map fun j => wkD [dI j, enc (xs.getD j d)] := by
  unfold enumOf
  apply List.ext_getElem
  · simp
  · intro i h1 h2
    have hi : i < xs.length := by simpa using h1
    simp [hi]
theorem it_enumR {i : G} {ρ : En} {r : List Nat} (h : i ρ = .ok (dR r)) : iEn i ρ = .ok ((List.range r.length).map fun j => wkD [dI j, dI (r.getD j 0)]) := by
  unfold iEn
  rw [h, Rz.bind_ok]
  show Rz.ok (enumOf (r.map dI)) = _
  rw [enum_map dI 0]
/-! ### membership -/
theorem any_I {c : Nat} {b : List Nat} : ((b.map dI).any fun z => PyData.eqv z (dI c)) = decide (c ∈ b) := by
  rw [Bool.eq_iff_iff, List.any_map, List.any_eq_true, decide_eq_true_eq]
  constructor
  · rintro ⟨x, hx, e⟩
    have := (eqv_I x c).mp e
    rw [← this]
    exact hx
  · intro h
    exact ⟨c, h, (eqv_I c c).mpr rfl⟩
theorem notIn_lR (c : Nat) (b : List Nat) : dNotIn (dI c) (lR b) = .ok (.bool (!decide (c ∈ b))) := by
  show (if SeqAt.shaped (dI c) && SeqAt.shaped (lR b) then Rz.ok (PyData.bool (!((b.map dI).any fun z => PyData.eqv z (dI c)))) else .st) = _
  rw [shaped_int, sh_lR, any_I]
  rfl
theorem contains_cI (c : Nat) (b : List Nat) : (cI b).contains (c : Int) = decide (c ∈ b) := by
  rw [Bool.eq_iff_iff, List.contains_iff_mem, decide_eq_true_eq, List.mem_map]
  constructor
  · rintro ⟨x, hx, e⟩
    have : x = c := by omega
    rw [← this]
    exact hx
  · intro h
    exact ⟨c, h, rfl⟩
theorem notIn_R (c : Nat) (b : List Nat) : dNotIn (dI c) (dR b) = .ok (.bool (!decide (c ∈ b))) := by
  show ((orSt (intsD (b.map dI))).bind fun ns => Rz.ok (PyData.bool (!ns.contains (c : Int)))) = _
  rw [ints_I]
  show Rz.ok (PyData.bool (!(cI b).contains (c : Int))) = _
  rw [contains_cI]
theorem len_lR (r : List Nat) : dLen (lR r) = .ok (dI r.length) := by
  show Rz.ok (PyData.int ((r.map dI).length : Nat)) = _
  rw [List.length_map]
theorem app_lR {a b : List Nat} (h : a.length + b.length ≤ lim) : dAdd (lR a) (lR b) = .ok (lR (a ++ b)) := by
  show (if (a.map dI).length + (b.map dI).length ≤ lim then Rz.ok (PyData.list (a.map dI ++ b.map dI)) else .st) = _
  rw [List.length_map, List.length_map, if_pos h, ← List.map_append]
theorem app_R {a b : List Nat} (h : a.length + b.length ≤ lim) : dAdd (dR a) (dR b) = .ok (dR (a ++ b)) := by
  show (if (a.map dI).length + (b.map dI).length ≤ lim then Rz.ok (PyData.tuple (a.map dI ++ b.map dI)) else .st) = _
  rw [List.length_map, List.length_map, if_pos h, ← List.map_append]
  rfl
/-! ### cuts -/
def lettersOf (m : List (List Nat)) (b : List Nat) : List Nat := (List.range b.length).map fun i => atM m i (b.getD i 0)
theorem letters_snoc (m : List (List Nat)) (b : List Nat) (c : Nat) : lettersOf m (b ++ [c]) = lettersOf m b ++ [atM m b.length c] := by
  unfold lettersOf
  rw [List.length_append, List.length_singleton, List.range_succ, List.map_append]
  congr 1
  · refine List.map_congr_left fun i hi => ?_
    have hi := List.mem_range.mp hi
    congr 1
    rw [getD_el (by rw [List.length_append]; omega), getD_el hi, List.getElem_append_left hi]
  · simp
def canGo (m : List (List Nat)) (b : List Nat) (c : Nat) : Bool := !decide (c ∈ b) && !decide (atM m b.length c ∈ lettersOf m b)
def cutsR (m : List (List Nat)) (n : Nat) : Nat → List Nat → List (List Nat)
  | 0, b => [b]
  | r + 1, b => (List.range n).flatMap fun c => if canGo m b c then cutsR m n r (b ++ [c]) else []
theorem cutsR_len (m : List (List Nat)) (n : Nat) : ∀ (r : Nat) (b : List Nat), (cutsR m n r b).length ≤ n ^ r
  | 0, b => Nat.le_refl _
  | r + 1, b => by
    unfold cutsR
    have := flat_len (xs := List.range n) (f := fun c => if canGo m b c then cutsR m n r (b ++ [c]) else []) (c := n ^ r) fun c _ => by
      split
      · exact cutsR_len m n r _
      · exact Nat.zero_le _
    rw [List.length_range] at this
    rw [Nat.pow_succ, Nat.mul_comm]
    exact this
theorem cuts_D (m : List (List Nat)) (n r : Nat) (b : List Nat) : ((List.range n).flatMap fun c => if canGo m b c then (cutsR m n r (b ++ [c])).map dR else []) = (cutsR m n (r + 1) b).map dR := by
  conv => rhs; unfold cutsR
  rw [List.map_flatMap]
  congr 1
  funext c
  split <;> rfl
theorem pow_lim {n r : Nat} (hn : n ≤ 7) (hr : r ≤ 7) : n ^ r ≤ lim := by
  have h1 : n ^ r ≤ 7 ^ r := Nat.pow_le_pow_left hn r
  have h2 : 7 ^ r ≤ 7 ^ 7 := Nat.pow_le_pow_right (by decide) hr
  have h3 : 7 ^ 7 ≤ lim := by decide
  omega
section
variable {n : Nat} {m : List (List Nat)}
abbrev EnC (m : List (List Nat)) (b ls : List Nat) (acc : List D) (x y : Option D) : En := [some (dM m), some (lR b), some (lR ls), some (.list acc), x, y]
theorem longer_ok (h : Lat n m) (hn : n ≤ 7) : ∀ (r k : Nat) (b : List Nat), b.length + r = n → r < k → gR_longer_cuts k [dM m, lR b, lR (lettersOf m b)] = .ok (.list ((cutsR m n r b).map dR))
  | r, 0, b, _, hk => absurd hk (Nat.not_lt_zero _)
  | 0, k + 1, b, hb, _ => by
    have e : tCm dEq (gCall (on1 dLen) (aCons (gVar 1) aNil)) (gCall (on1 dLen) (aCons (gVar 0) aNil)) [some (dM m), some (lR b), some (lR (lettersOf m b)), none, none, none] = .ok true :=
      ts_cm ((call1 rfl).trans (len_lR b)) ((call1 rfl).trans (len_M m)) (by rw [eq_I, h.len, decide_eq_true (by omega)])
    show (m_longer_cuts (gR_longer_cuts k) [some (dM m), some (lR b), some (lR (lettersOf m b)), none, none, none]).rz = _
    refine rz_of_rt (st_rt ((st_if_t e).trans (st_rt (st_ret ?_))))
    rfl
  | r + 1, k + 1, b, hb, hk => by
    have hi : b.length < n := by omega
    have e : tCm dEq (gCall (on1 dLen) (aCons (gVar 1) aNil)) (gCall (on1 dLen) (aCons (gVar 0) aNil)) [some (dM m), some (lR b), some (lR (lettersOf m b)), none, none, none] = .ok false :=
      ts_cm ((call1 rfl).trans (len_lR b)) ((call1 rfl).trans (len_M m)) (by rw [eq_I, h.len, decide_eq_false (by omega)])
    have hlen : ([] : List D).length + ((List.range n).flatMap fun c => if canGo m b c then (cutsR m n r (b ++ [c])).map dR else []).length ≤ lim := by
      have h1 := cutsR_len m n (r + 1) b
      have h2 := pow_lim (n := n) (r := r + 1) hn (by omega)
      rw [cuts_D, List.length_map, List.length_nil]
      omega
    obtain ⟨ρ', hf, x, y, rfl⟩ := for_app (tg := tgT [4, 5]) (b := (sSeq (sIf (tAn (tCm dNotIn (gVar 4) (gVar 1)) (tCm dNotIn (gVar 5) (gVar 2))) (sSeq (sExt [3] 3 (gCall (gR_longer_cuts k) (aCons (gVar 0) (aCons (g2 dAdd (gVar 1) (gLst (aCons (gVar 4) aNil))) (aCons (g2 dAdd (gVar 2) (gLst (aCons (gVar 5) aNil))) aNil))))) sNil) sNil) sNil))
      (fun j : Nat => wkD [dI j, dI ((m.getD b.length []).getD j 0)]) (fun acc ρ => ∃ x y, ρ = EnC m b (lettersOf m b) acc x y) (fun c => if canGo m b c then (cutsR m n r (b ++ [c])).map dR else []) (List.range n) [] (EnC m b (lettersOf m b) [] none none) ⟨_, _, rfl⟩ hlen (by
        rintro c hc acc ρ ⟨x, y, rfl⟩ hl
        have hc := List.mem_range.mp hc
        refine ⟨EnC m b (lettersOf m b) acc (some (dI c)) (some (dI (atM m b.length c))), EnC m b (lettersOf m b) (acc ++ if canGo m b c then (cutsR m n r (b ++ [c])).map dR else []) (some (dI c)) (some (dI (atM m b.length c))), rfl, ?_, _, _, rfl⟩
        have t : tAn (tCm dNotIn (gVar 4) (gVar 1)) (tCm dNotIn (gVar 5) (gVar 2)) (EnC m b (lettersOf m b) acc (some (dI c)) (some (dI (atM m b.length c)))) = .ok (canGo m b c) :=
          ts_and (ts_cm rfl rfl (notIn_lR c b)) fun _ => ts_cm rfl rfl (notIn_lR _ _)
        cases hg : canGo m b c with
        | false =>
          rw [hg] at t
          refine (s_seq (st_if_f t)).trans ?_
          rw [if_neg Bool.false_ne_true, List.append_nil]
          rfl
        | true =>
          rw [hg] at t hl
          rw [if_pos rfl] at hl
          have lb : (lettersOf m b).length = b.length := by simp [lettersOf]
          have hlm : n ≤ lim := Nat.le_trans hn (by decide)
          have a1 : g2 dAdd (gVar 1) (gLst (aCons (gVar 4) aNil)) (mk [3] (EnC m b (lettersOf m b) acc (some (dI c)) (some (dI (atM m b.length c))))) = .ok (lR (b ++ [c])) :=
            (gOp2 rfl (show gLst (aCons (gVar 4) aNil) _ = .ok (lR [c]) from rfl)).trans (app_lR (by rw [List.length_singleton]; omega))
          have a2 : g2 dAdd (gVar 2) (gLst (aCons (gVar 5) aNil)) (mk [3] (EnC m b (lettersOf m b) acc (some (dI c)) (some (dI (atM m b.length c))))) = .ok (lR (lettersOf m (b ++ [c]))) := by
            rw [letters_snoc]
            exact (gOp2 rfl (show gLst (aCons (gVar 5) aNil) _ = .ok (lR [atM m b.length c]) from rfl)).trans (app_lR (by rw [List.length_singleton, lb]; omega))
          have ih := longer_ok h hn r k (b ++ [c]) (by rw [List.length_append, List.length_singleton]; omega) (by omega)
          have cl : gCall (gR_longer_cuts k) (aCons (gVar 0) (aCons (g2 dAdd (gVar 1) (gLst (aCons (gVar 4) aNil))) (aCons (g2 dAdd (gVar 2) (gLst (aCons (gVar 5) aNil))) aNil))) (mk [3] (EnC m b (lettersOf m b) acc (some (dI c)) (some (dI (atM m b.length c))))) = .ok (.list ((cutsR m n r (b ++ [c])).map dR)) :=
            (callF3 rfl a1 a2).trans ih
          have ex : sExt [3] 3 (gCall (gR_longer_cuts k) (aCons (gVar 0) (aCons (g2 dAdd (gVar 1) (gLst (aCons (gVar 4) aNil))) (aCons (g2 dAdd (gVar 2) (gLst (aCons (gVar 5) aNil))) aNil)))) (EnC m b (lettersOf m b) acc (some (dI c)) (some (dI (atM m b.length c)))) = .nx (EnC m b (lettersOf m b) (acc ++ (cutsR m n r (b ++ [c])).map dR) (some (dI c)) (some (dI (atM m b.length c)))) := by
            rw [r_sExt]
            simp only [List.getElem?_cons_succ, List.getElem?_cons_zero]
            rw [cl]
            simp only [Rz.out_ok]
            rw [if_pos hl]
            rfl
          refine (s_seq ((st_if_t t).trans (s_seq ex))).trans ?_
          rw [if_pos rfl]
          rfl)
    have it : iEn (g2 dIx (gVar 0) (gCall (on1 dLen) (aCons (gVar 1) aNil))) (mk [3] (EnC m b (lettersOf m b) [] none none)) = .ok ((List.range n).map fun j => wkD [dI j, dI ((m.getD b.length []).getD j 0)]) := by
      have := it_enumR (i := g2 dIx (gVar 0) (gCall (on1 dLen) (aCons (gVar 1) aNil))) (ρ := mk [3] (EnC m b (lettersOf m b) [] none none)) (r := m.getD b.length []) ((gOp2 rfl ((call1 rfl).trans (len_lR b))).trans (ix_M (by rw [h.len]; exact hi)))
      rw [h.rlen hi] at this
      exact this
    show (m_longer_cuts (gR_longer_cuts k) [some (dM m), some (lR b), some (lR (lettersOf m b)), none, none, none]).rz = _
    refine rz_of_rt ((s_seq (st_if_f e)).trans ?_)
    refine (s_seq (st_set (d := .list []) rfl)).trans ?_
    refine (s_seq ((s_for it).trans hf)).trans (st_rt (st_ret ?_))
    show Rz.ok (PyData.list _) = Rz.ok (PyData.list _)
    rw [List.nil_append, cuts_D]
end
end DL
/-! part Cc2 -/
namespace DL
open PySem
/-! ### lists of rows -/
abbrev lL (xs : List (List Nat)) : D := .list (xs.map dR)
theorem sh_lL (xs : List (List Nat)) : SeqAt.shaped (lL xs) = true := sh_L (lay_map dR lay_R xs) (Nat.le_trans (dep_map dR 1 dep_R xs) (by decide))
theorem eqv_lL (a b : List (List Nat)) : PyData.eqv (lL a) (lL b) = true ↔ a = b := by
  simp only [PyData.eqv]
  exact eqv_all_map eqv_R a b
theorem ne_lL (a b : List (List Nat)) : dNe (lL a) (lL b) = .ok (.bool (!decide (a = b))) := by
  unfold dNe
  rw [sh_lL, sh_lL, bool_iff (eqv_lL a b)]
  rfl
theorem eq_lL (a b : List (List Nat)) : dEq (lL a) (lL b) = .ok (.bool (decide (a = b))) := by
  unfold dEq
  rw [sh_lL, sh_lL, bool_iff (eqv_lL a b)]
  rfl
theorem ne_R (a b : List Nat) : dNe (dR a) (dR b) = .ok (.bool (!decide (a = b))) := by
  unfold dNe
  rw [sh_R, sh_R, bool_iff (eqv_R a b)]
  rfl
theorem in_lL (p : List Nat) (xs : List (List Nat)) : dIn (dR p) (lL xs) = .ok (.bool (decide (p ∈ xs))) := by
  show (if SeqAt.shaped (dR p) && SeqAt.shaped (lL xs) then Rz.ok (PyData.bool ((xs.map dR).any fun z => PyData.eqv z (dR p))) else .st) = _
  rw [sh_R, sh_lL]
  have : ((xs.map dR).any fun z => PyData.eqv z (dR p)) = decide (p ∈ xs) := by
    rw [Bool.eq_iff_iff, List.any_map, List.any_eq_true, decide_eq_true_eq]
    constructor
    · rintro ⟨x, hx, e⟩
      rw [← (eqv_R x p).mp e]
      exact hx
    · intro h
      exact ⟨p, h, (eqv_R p p).mpr rfl⟩
  rw [this]
  rfl
theorem lenSet_L {r : List Nat} (h : r.length ≤ 1000) : dLenSet (lR r) = .ok (dI (uniqI (cI r)).length) := by
  show ((orSt (intsD (r.map dI))).bind fun ns => if ns.length ≤ 1000 then Rz.ok (PyData.int (uniqI ns).length) else .st) = _
  rw [ints_I]
  show (if (cI r).length ≤ 1000 then _ else _) = _
  rw [if_pos (by rw [List.length_map]; exact h)]
/-! ### the whole list of cuts -/
abbrev cutsOf (m : List (List Nat)) (n : Nat) : List (List Nat) := cutsR m n n []
theorem letters_app (m : List (List Nat)) (b s : List Nat) : ∃ t, lettersOf m (b ++ s) = lettersOf m b ++ t := by
  induction s generalizing b with
  | nil => exact ⟨[], by simp⟩
  | cons x s ih =>
    obtain ⟨t, h⟩ := ih (b ++ [x])
    rw [List.append_assoc] at h
    refine ⟨[atM m b.length x] ++ t, ?_⟩
    rw [show b ++ x :: s = b ++ ([x] ++ s) from rfl, h, letters_snoc, List.append_assoc]
theorem mem_cutsR (m : List (List Nat)) (n : Nat) : ∀ (r : Nat) (b c : List Nat), b.Nodup → (lettersOf m b).Nodup →
    (c ∈ cutsR m n r b ↔ ∃ s, c = b ++ s ∧ s.length = r ∧ (∀ x ∈ s, x < n) ∧ c.Nodup ∧ (lettersOf m c).Nodup)
  | 0, b, c, hb, hl => by
    unfold cutsR
    rw [List.mem_singleton]
    constructor
    · rintro rfl
      exact ⟨[], by simp, rfl, (fun x hx => by cases hx), hb, hl⟩
    · rintro ⟨s, rfl, hs, _⟩
      cases s with
      | nil => simp
      | cons _ _ => cases hs
  | r + 1, b, c, hb, hl => by
    unfold cutsR
    rw [List.mem_flatMap]
    constructor
    · rintro ⟨x, hx, h⟩
      have hx := List.mem_range.mp hx
      cases hg : canGo m b x with
      | false => rw [hg] at h; cases h
      | true =>
        rw [hg, if_pos rfl] at h
        unfold canGo at hg
        simp only [Bool.and_eq_true, Bool.not_eq_true', decide_eq_false_iff_not] at hg
        have hb' : (b ++ [x]).Nodup := List.nodup_append.mpr ⟨hb, by simp, fun a ha c hc e => hg.1 (by
          have : c = x := by simpa using hc
          rw [← this, ← e]
          exact ha)⟩
        have hl' : (lettersOf m (b ++ [x])).Nodup := by
          rw [letters_snoc]
          exact List.nodup_append.mpr ⟨hl, by simp, fun a ha c hc e => hg.2 (by
            have : c = atM m b.length x := by simpa using hc
            rw [← this, ← e]
            exact ha)⟩
        obtain ⟨s, rfl, h2, h3, h4, h5⟩ := (mem_cutsR m n r (b ++ [x]) c hb' hl').mp h
        refine ⟨x :: s, by simp, by simp [h2], ?_, h4, h5⟩
        intro y hy
        rcases List.mem_cons.mp hy with rfl | hy
        · exact hx
        · exact h3 y hy
    · rintro ⟨s, rfl, h2, h3, h4, h5⟩
      cases s with
      | nil => cases h2
      | cons x s =>
        have hx := h3 x List.mem_cons_self
        refine ⟨x, List.mem_range.mpr hx, ?_⟩
        have e : b ++ x :: s = (b ++ [x]) ++ s := by simp
        obtain ⟨t, ht⟩ := letters_app m (b ++ [x]) s
        have hl' : (lettersOf m (b ++ [x])).Nodup := by
          rw [e, ht] at h5
          exact (List.nodup_append.mp h5).1
        have hb' : (b ++ [x]).Nodup := by
          rw [e] at h4
          exact (List.nodup_append.mp h4).1
        have hg : canGo m b x = true := by
          unfold canGo
          simp only [Bool.and_eq_true, Bool.not_eq_true', decide_eq_false_iff_not]
          refine ⟨fun z => ?_, fun z => ?_⟩
          · exact (List.nodup_append.mp hb').2.2 x z x (by simp) rfl
          · rw [letters_snoc] at hl'
            exact (List.nodup_append.mp hl').2.2 _ z _ (by simp) rfl
        rw [hg, if_pos rfl]
        refine (mem_cutsR m n r (b ++ [x]) _ hb' hl').mpr ⟨s, e, by simpa using h2, fun y hy => h3 y (List.mem_cons_of_mem _ hy), h4, h5⟩
theorem mem_cuts {m : List (List Nat)} {n : Nat} {c : List Nat} : c ∈ cutsOf m n ↔ c.length = n ∧ (∀ x ∈ c, x < n) ∧ c.Nodup ∧ (lettersOf m c).Nodup := by
  rw [mem_cutsR m n n [] c List.nodup_nil List.nodup_nil]
  constructor
  · rintro ⟨s, rfl, h1, h2, h3, h4⟩
    exact ⟨h1, h2, h3, h4⟩
  · rintro ⟨h1, h2, h3, h4⟩
    exact ⟨c, rfl, h1, h2, h3, h4⟩
theorem cut_perm {m : List (List Nat)} {n : Nat} {c : List Nat} (h : c ∈ cutsOf m n) : isPerm n c := by
  obtain ⟨h1, h2, h3, _⟩ := mem_cuts.mp h
  exact perm_of h1 h2 h3
section
variable {n : Nat} {m : List (List Nat)}
theorem small_ok (h : Lat n m) (h1 : 1 ≤ n) (h7 : n ≤ 7) : g_look_small [dM m] = .ok .none := by
  have t : tCm dGt (gCall (on1 dLen) (aCons (gVar 0) aNil)) (gC (.int 7)) [some (dM m)] = .ok false :=
    ts_cm ((call1 rfl).trans (len_M m)) rfl (by rw [h.len, dGt_ii, decide_eq_false (by omega)])
  exact rz_of_nx ((s_seq (st_expr ((callF1 rfl).trans (lat_checked h h1 (by omega))))).trans (s_seq (st_if_f t)))
theorem longer0_ok (h : Lat n m) (h7 : n ≤ 7) : g_longer_cuts [dM m, .list [], .list []] = .ok (lL (cutsOf m n)) := longer_ok h h7 n 9 [] (by simp) (by omega)
theorem all_cuts_ok (h : Lat n m) (h1 : 1 ≤ n) (h7 : n ≤ 7) : g_all_cuts [dM m] = .ok (lL (cutsOf m n)) :=
  rz_of_rt ((s_seq (st_expr ((callF1 rfl).trans (small_ok h h1 h7)))).trans (st_rt (st_ret ((callF3 rfl rfl rfl).trans (longer0_ok h h7)))))
theorem within_ok (x : Nat) (n : Nat) : g_is_within [dI x, .int 0, .int ((n : Int) - 1)] = .ok (.bool (decide (x < n))) := by
  show Rz.ok (PyData.bool (decide ((0 : Int) ≤ (x : Int)) && decide ((x : Int) ≤ (n : Int) - 1))) = _
  rw [decide_eq_true (by omega), Bool.true_and]
  congr 2
  rw [Bool.eq_iff_iff, decide_eq_true_eq, decide_eq_true_eq]
  omega
theorem place_ok (h : Lat n m) (h1 : 1 ≤ n) (h9 : n ≤ 9) {r c : Nat} (hr : r < n) (hc : c < n) : g_look_place [dM m, dI r, dI c] = .ok .none := by
  have w : ∀ (k : Nat) (x : Nat), gVar k [some (dM m), some (dI r), some (dI c)] = .ok (dI x) → x < n → tNt (tTru (gCall g_is_within (aCons (gVar k) (aCons (gC (.int 0)) (aCons (g2 dSub (gCall (on1 dLen) (aCons (gVar 0) aNil)) (gC (.int 1))) aNil))))) [some (dM m), some (dI r), some (dI c)] = .ok false := fun k x hk hx => by
    have e : g2 dSub (gCall (on1 dLen) (aCons (gVar 0) aNil)) (gC (.int 1)) [some (dM m), some (dI r), some (dI c)] = .ok (.int ((n : Int) - 1)) := by
      rw [gOp2 ((call1 rfl).trans (len_M m)) rfl, h.len]
      rfl
    exact ts_not (k := true) (ts_tru ((callF3 hk rfl e).trans (by rw [within_ok, decide_eq_true hx])) rfl)
  exact rz_of_nx ((s_seq (st_expr ((callF1 rfl).trans (lat_checked h h1 h9)))).trans (s_seq (st_if_f (ts_or (k := false) (l := false) (w 1 r rfl hr) fun _ => w 2 c rfl hc))))
theorem at_filter {cs : List (List Nat)} {r c : Nat} (hl : ∀ x ∈ cs, r < x.length) (hn : cs.length ≤ lim) {it : GA} {i j k : Nat} {vs : List Nat} {ρ ρ1 : En} (hit : it ρ = .ok (cs.map dR)) (hw : wipeE ρ vs = ρ1) (h1 : ∀ d, gVar i (ρ1.set k (some d)) = .ok (dI r)) (h2 : ∀ d, gVar j (ρ1.set k (some d)) = .ok (dI c)) (h3 : ∀ d, gVar k (ρ1.set k (some d)) = .ok d) :
    gLc it (tgN k) (tCm dEq (g2 dIx (gVar k) (gVar i)) (gVar j)) (gVar k) vs ρ = .ok (lL (cs.filter fun x => decide (x.getD r 0 = c))) :=
  g_lc dR (fun x => decide (x.getD r 0 = c)) dR hit hn hw fun x hx => ⟨ts_cm ((gOp2 (h3 _) (h1 _)).trans (ix_R (hl x hx))) (h2 _) (eq_I _ _), fun _ => h3 _⟩
theorem cuts_lim (m : List (List Nat)) (h7 : n ≤ 7) : (cutsOf m n).length ≤ lim := Nat.le_trans (cutsR_len m n n []) (pow_lim h7 h7)
theorem cuts_at_ok (h : Lat n m) (h1 : 1 ≤ n) (h7 : n ≤ 7) {r c : Nat} (hr : r < n) (hc : c < n) : g_cuts_at [dM m, dI r, dI c] = .ok (lL ((cutsOf m n).filter fun x => decide (x.getD r 0 = c))) := by
  have e : gLc (iSeq (gCall g_longer_cuts (aCons (gVar 0) (aCons (gLst aNil) (aCons (gLst aNil) aNil))))) (tgN 3) (tCm dEq (g2 dIx (gVar 3) (gVar 1)) (gVar 2)) (gVar 3) [3] [some (dM m), some (dI r), some (dI c), none] = .ok (lL ((cutsOf m n).filter fun x => decide (x.getD r 0 = c))) := by
    refine at_filter (i := 1) (j := 2) (ρ1 := [some (dM m), some (dI r), some (dI c), none]) (fun x hx => by rw [(mem_cuts.mp hx).1]; exact hr) (cuts_lim m h7) ?_ rfl (fun _ => rfl) (fun _ => rfl) (fun _ => rfl)
    unfold iSeq
    rw [callF3 rfl rfl rfl, longer0_ok h h7] <;> rfl
  exact rz_of_rt ((s_seq (st_expr ((callF1 rfl).trans (small_ok h h1 h7)))).trans ((s_seq (st_expr ((callF3 rfl rfl rfl).trans (place_ok h h1 (by omega) hr hc)))).trans (st_rt (st_ret e))))
/-! is a thing a cut? -/
theorem lets_ok (h : Lat n m) {p : List Nat} (hp : ∀ x ∈ p, x < n) (hl : p.length ≤ n) (hn : n ≤ 1000) {sq th i j : Nat} {vs : List Nat} {ρ ρ1 : En} (hth : gVar th ρ = .ok (dR p)) (hw : wipeE ρ vs = ρ1)
    (h0 : ∀ a b, gVar sq ((ρ1.set i (some a)).set j (some b)) = .ok (dM m)) (h1 : ∀ a b, gVar i ((ρ1.set i (some a)).set j (some b)) = .ok a) (h2 : ∀ a b, gVar j ((ρ1.set i (some a)).set j (some b)) = .ok b) :
    gLc (iEn (gVar th)) (tgT [i, j]) tYs (g2 dIx (g2 dIx (gVar sq) (gVar i)) (gVar j)) vs ρ = .ok (lR (lettersOf m p)) := by
  have := g_lcp (i := i) (j := j) (e := g2 dIx (g2 dIx (gVar sq) (gVar i)) (gVar j)) (vs := vs) dI (fun k => dI (p.getD k 0)) (fun k => dI (atM m k (p.getD k 0))) (it_enumR hth) (by rw [List.length_range]; exact Nat.le_trans hl (Nat.le_trans hn (by decide))) hw fun k hk => by
    have hk := List.mem_range.mp hk
    have hx : p.getD k 0 < n := by
      rw [getD_el hk]
      exact hp _ (List.getElem_mem hk)
    exact g_at2 (h0 _ _) (h1 _ _) (h2 _ _) (by rw [h.len]; omega) (by rw [h.rlen (by omega)]; exact hx)
  rw [this]
  unfold lettersOf
  rw [show lR ((List.range p.length).map fun i => atM m i (p.getD i 0)) = PyData.list (((List.range p.length).map fun i => atM m i (p.getD i 0)).map dI) from rfl, List.map_map]
  rfl
theorem is_cut_of_R (h : Lat n m) (hn : n ≤ 1000) (p : List Nat) (hp : p.length ≤ 1000) : g_is_cut_of [dM m, dR p] = .ok (.bool (decide (p ∈ cutsOf m n))) := by
  have o := order_R (r := p) (n := n) hp
  have t : tNt (tTru (gCall g_is_order (aCons (gVar 1) (aCons (gCall (on1 dLen) (aCons (gVar 0) aNil)) aNil)))) [some (dM m), some (dR p), none, none] = .ok (!decide (p.length = n ∧ (∀ x ∈ p, x < n) ∧ p.Nodup)) :=
    ts_not (ts_tru ((callF2 rfl ((call1 rfl).trans (len_M m))).trans (by rw [h.len]; exact o)) rfl)
  by_cases c : p.length = n ∧ (∀ x ∈ p, x < n) ∧ p.Nodup
  · rw [decide_eq_true c] at t
    have ll : (lettersOf m p).length = n := by simp [lettersOf, c.1]
    have e : g1 dLenSet (gLc (iEn (gVar 1)) (tgT [2, 3]) tYs (g2 dIx (g2 dIx (gVar 0) (gVar 2)) (gVar 3)) [2, 3]) [some (dM m), some (dR p), none, none] = .ok (dI (uniqI (cI (lettersOf m p))).length) := by
      unfold g1
      rw [lets_ok (ρ1 := [some (dM m), some (dR p), none, none]) h c.2.1 (by omega) hn rfl rfl (fun _ _ => rfl) (fun _ _ => rfl) (fun _ _ => rfl), Rz.bind_ok, lenSet_L (by omega)]
    refine rz_of_rt ((s_seq (st_if_f t)).trans (st_rt (st_ret ((gOp2 e ((call1 rfl).trans (len_M m))).trans ?_))))
    rw [eq_I, h.len]
    congr 2
    rw [Bool.eq_iff_iff, decide_eq_true_eq, decide_eq_true_eq, mem_cuts]
    have u := uniq_iff (cI (lettersOf m p))
    rw [List.length_map, ll, nodup_cI] at u
    rw [u]
    exact ⟨fun z => ⟨c.1, c.2.1, c.2.2, z⟩, fun z => z.2.2.2⟩
  · rw [decide_eq_false c] at t
    refine rz_of_rt (st_rt ((st_if_t t).trans (st_rt (st_ret ?_))))
    rw [decide_eq_false fun z => c ((fun z => ⟨z.1, z.2.1, z.2.2.1⟩) (mem_cuts.mp z))]
    rfl
theorem is_cut_of_no (h : Lat n m) {d : D} (hd : g_is_order [d, dI n] = .ok (.bool false)) : g_is_cut_of [dM m, d] = .ok (.bool false) := by
  have t : tNt (tTru (gCall g_is_order (aCons (gVar 1) (aCons (gCall (on1 dLen) (aCons (gVar 0) aNil)) aNil)))) [some (dM m), some d, none, none] = .ok true :=
    ts_not (k := false) (ts_tru ((callF2 rfl ((call1 rfl).trans (len_M m))).trans (by rw [h.len]; exact hd)) rfl)
  exact rz_of_rt (st_rt ((st_if_t t).trans (st_rt (st_ret rfl))))
theorem is_cut_eq (h : Lat n m) (h1 : 1 ≤ n) (h9 : n ≤ 9) {d : D} {k : Bool} (hd : g_is_cut_of [dM m, d] = .ok (.bool k)) : g_is_cut [dM m, d] = .ok (.bool k) :=
  rz_of_rt (st_rt (st_ret ((callF2 ((callF1 rfl).trans (lat_checked h h1 h9)) rfl).trans hd)))
theorem letters_on_ok (h : Lat n m) (h1 : 1 ≤ n) (h9 : n ≤ 9) {c : List Nat} (hc : c ∈ cutsOf m n) : g_letters_on [dM m, dR c] = .ok (dR (lettersOf m c)) := by
  have k := mem_cuts.mp hc
  have e1 : g_look_cut [dM m, dR c] = .ok .none := by
    have t : tNt (tTru (gCall g_is_cut_of (aCons (gVar 0) (aCons (gVar 1) aNil)))) [some (dM m), some (dR c)] = .ok false :=
      ts_not (k := true) (ts_tru ((callF2 rfl rfl).trans (by rw [is_cut_of_R h (by omega) c (by omega), decide_eq_true hc])) rfl)
    exact rz_of_nx ((s_seq (st_expr ((callF1 rfl).trans (lat_checked h h1 h9)))).trans (s_seq (st_if_f t)))
  refine rz_of_rt ((s_seq (st_expr ((callF2 rfl rfl).trans e1))).trans (st_rt (st_ret ?_)))
  rw [call1 (lets_ok (ρ1 := [some (dM m), some (dR c), none, none]) h k.2.1 (by omega) (by omega) rfl rfl (fun _ _ => rfl) (fun _ _ => rfl) (fun _ _ => rfl))]
  rfl
/-! turned over -/
def trp (m : List (List Nat)) (n : Nat) : List (List Nat) := (List.range n).map (colN m)
theorem trp_tab (h : Lat n m) : trp m n = tab n fun i j => atM m j i := by
  unfold trp tab
  refine List.map_congr_left fun i hi => ?_
  have hi := List.mem_range.mp hi
  conv => lhs; rw [h.tab]
  unfold colN tab
  rw [List.map_map]
  refine List.map_congr_left fun j hj => ?_
  simp only [Function.comp]
  rw [getD_range_map hi]
theorem trp_lat (h : Lat n m) : Lat n (trp m n) := by
  rw [trp_tab h]
  exact lat_tab (fun i hi j hj => h.at_lt hj hi) (fun i hi j hj k hk e => h.col_inj hj hi hk e) (fun j hj i hi k hk e => h.row_inj hj hi hk e)
theorem over_ok (h : Lat n m) (h1 : 1 ≤ n) (h9 : n ≤ 9) : g_over [dM m] = .ok (dM (trp m n)) := by
  have c := columns_ok (m := m) (n := n) (by rw [h.len]; omega) (by omega) (by rw [h.len]; omega) h.row
  refine rz_of_rt (st_rt (st_ret ((call1 ((callF1 ((callF1 rfl).trans (lat_checked h h1 h9))).trans c)).trans ?_)))
  show Rz.ok (PyData.tuple _) = _
  unfold trp
  rw [dM_map]
/-! the law's own cuts -/
abbrev EnD (m : List (List Nat)) (b : List Nat) (acc : List D) (ms x y : Option D) : En := [some (dM m), some (dR b), some (.list acc), ms, x, y]
theorem law_cuts_ok (h : Lat n m) (hn : n ≤ 7) : ∀ (r k : Nat) (b : List Nat), b.length + r = n → (∀ x ∈ b, x < n) → r < k → gR__law_cuts k [dM m, dR b] = .ok (lL (cutsR m n r b))
  | r, 0, b, _, _, hk => absurd hk (Nat.not_lt_zero _)
  | 0, k + 1, b, hb, _, _ => by
    have e : tCm dEq (gCall (on1 dLen) (aCons (gVar 1) aNil)) (gCall (on1 dLen) (aCons (gVar 0) aNil)) [some (dM m), some (dR b), none, none, none, none] = .ok true :=
      ts_cm ((call1 rfl).trans (len_R b)) ((call1 rfl).trans (len_M m)) (by rw [eq_I, h.len, decide_eq_true (by omega)])
    show (m__law_cuts (gR__law_cuts k) [some (dM m), some (dR b), none, none, none, none]).rz = _
    refine rz_of_rt (st_rt ((st_if_t e).trans (st_rt (st_ret ?_))))
    rfl
  | r + 1, k + 1, b, hb, hbn, hk => by
    have hi : b.length < n := by omega
    have e : tCm dEq (gCall (on1 dLen) (aCons (gVar 1) aNil)) (gCall (on1 dLen) (aCons (gVar 0) aNil)) [some (dM m), some (dR b), none, none, none, none] = .ok false :=
      ts_cm ((call1 rfl).trans (len_R b)) ((call1 rfl).trans (len_M m)) (by rw [eq_I, h.len, decide_eq_false (by omega)])
    have hlen : ([] : List D).length + ((List.range n).flatMap fun c => if canGo m b c then (cutsR m n r (b ++ [c])).map dR else []).length ≤ lim := by
      have h1 := cutsR_len m n (r + 1) b
      have h2 := pow_lim (n := n) (r := r + 1) hn (by omega)
      rw [cuts_D, List.length_map, List.length_nil]
      omega
    obtain ⟨ρ', hf, x, y, rfl⟩ := for_app (tg := tgN 4) (b := (sSeq (sIf (tAn (tCm dNotIn (gVar 4) (gVar 1)) (tCm dNotIn (g2 dIx (g2 dIx (gVar 0) (gCall (on1 dLen) (aCons (gVar 1) aNil))) (gVar 4)) (gVar 3))) (sSeq (sSet [] (tgN 2) (g2 dAdd (gVar 2) (gCall (gR__law_cuts k) (aCons (gVar 0) (aCons (g2 dAdd (gVar 1) (gTup (aCons (gVar 4) aNil))) aNil))))) sNil) sNil) sNil))
      dI (fun acc ρ => ∃ x y, ρ = EnD m b acc (some (lR (lettersOf m b))) x y) (fun c => if canGo m b c then (cutsR m n r (b ++ [c])).map dR else []) (List.range n) [] (EnD m b [] (some (lR (lettersOf m b))) none none) ⟨_, _, rfl⟩ hlen (by
        rintro c hc acc ρ ⟨x, y, rfl⟩ hl
        have hc := List.mem_range.mp hc
        refine ⟨EnD m b acc (some (lR (lettersOf m b))) (some (dI c)) y, EnD m b (acc ++ if canGo m b c then (cutsR m n r (b ++ [c])).map dR else []) (some (lR (lettersOf m b))) (some (dI c)) y, rfl, ?_, _, _, rfl⟩
        have t : tAn (tCm dNotIn (gVar 4) (gVar 1)) (tCm dNotIn (g2 dIx (g2 dIx (gVar 0) (gCall (on1 dLen) (aCons (gVar 1) aNil))) (gVar 4)) (gVar 3)) (EnD m b acc (some (lR (lettersOf m b))) (some (dI c)) y) = .ok (canGo m b c) :=
          ts_and (ts_cm rfl rfl (notIn_R c b)) fun _ => ts_cm ((gOp2 ((gOp2 rfl ((call1 rfl).trans (len_R b))).trans (ix_M (by rw [h.len]; exact hi))) rfl).trans (ix_R (by rw [h.rlen hi]; exact hc))) rfl (notIn_lR _ _)
        cases hg : canGo m b c with
        | false =>
          rw [hg] at t
          refine (s_seq (st_if_f t)).trans ?_
          rw [if_neg Bool.false_ne_true, List.append_nil]
          rfl
        | true =>
          rw [hg] at t hl
          rw [if_pos rfl] at hl
          have hlm : n ≤ lim := Nat.le_trans hn (by decide)
          have a1 : g2 dAdd (gVar 1) (gTup (aCons (gVar 4) aNil)) (EnD m b acc (some (lR (lettersOf m b))) (some (dI c)) y) = .ok (dR (b ++ [c])) :=
            (gOp2 rfl (show gTup (aCons (gVar 4) aNil) _ = .ok (dR [c]) from rfl)).trans (app_R (by rw [List.length_singleton]; omega))
          have ih := law_cuts_ok h hn r k (b ++ [c]) (by rw [List.length_append, List.length_singleton]; omega) (fun x hx => by
            rcases List.mem_append.mp hx with hx | hx
            · exact hbn x hx
            · have : x = c := by simpa using hx
              rw [this]
              exact hc) (by omega)
          have ex : sSet [] (tgN 2) (g2 dAdd (gVar 2) (gCall (gR__law_cuts k) (aCons (gVar 0) (aCons (g2 dAdd (gVar 1) (gTup (aCons (gVar 4) aNil))) aNil)))) (EnD m b acc (some (lR (lettersOf m b))) (some (dI c)) y) = .nx (EnD m b (acc ++ (cutsR m n r (b ++ [c])).map dR) (some (lR (lettersOf m b))) (some (dI c)) y) := by
            refine st_set ((gOp2 rfl ((callF2 rfl a1).trans ih)).trans ?_)
            rw [dAdd_ll, if_pos hl]
          refine (s_seq ((st_if_t t).trans (s_seq ex))).trans ?_
          rw [if_pos rfl]
          rfl)
    have it : iRg (aCons (gCall (on1 dLen) (aCons (gVar 0) aNil)) aNil) (mk [] (EnD m b [] (some (lR (lettersOf m b))) none none)) = .ok ((List.range n).map dI) := by
      have e : (aCons (gCall (on1 dLen) (aCons (gVar 0) aNil)) aNil) (mk [] (EnD m b [] (some (lR (lettersOf m b))) none none)) = .ok [dI n] := by
        unfold aCons
        rw [show gCall (on1 dLen) (fun ρ => (gVar 0 ρ).bind fun x => (aNil ρ).bind fun xs => Rz.ok (x :: xs)) (mk [] (EnD m b [] (some (lR (lettersOf m b))) none none)) = .ok (dI n) from (len_M m).trans (by rw [h.len])]
        rfl
      unfold iRg
      rw [e, Rz.bind_ok, rngOf_1, sml_nat (by omega), rng0] <;> rfl
    show (m__law_cuts (gR__law_cuts k) [some (dM m), some (dR b), none, none, none, none]).rz = _
    refine rz_of_rt ((s_seq (st_if_f e)).trans ?_)
    refine (s_seq (st_set (d := .list []) rfl)).trans ?_
    refine (s_seq (st_set (d := lR (lettersOf m b)) (lets_ok (th := 1) (sq := 0) (ρ1 := [some (dM m), some (dR b), some (.list []), none, none, none]) h hbn (by omega) (by omega) rfl rfl (fun _ _ => rfl) (fun _ _ => rfl) (fun _ _ => rfl)))).trans ?_
    refine (s_seq ((s_for it).trans hf)).trans (st_rt (st_ret ?_))
    show Rz.ok (PyData.list _) = Rz.ok (PyData.list _)
    rw [List.nil_append, cuts_D]
end
end DL
/-! part Cc3 -/
namespace DL
open PySem
/-! ### sharing a place -/
def shr (a b : List Nat) : Bool := (List.range a.length).any fun i => decide (a.getD i 0 = b.getD i 0)
theorem shr_iff {a b : List Nat} : shr a b = true ↔ ∃ i, i < a.length ∧ a.getD i 0 = b.getD i 0 := by
  unfold shr
  rw [List.any_eq_true]
  constructor
  · rintro ⟨i, hi, e⟩
    exact ⟨i, List.mem_range.mp hi, of_decide_eq_true e⟩
  · rintro ⟨i, hi, e⟩
    exact ⟨i, List.mem_range.mpr hi, decide_eq_true e⟩
theorem shr_symm {a b : List Nat} (h : a.length = b.length) : shr a b = shr b a := by
  rw [Bool.eq_iff_iff, shr_iff, shr_iff, h]
  exact ⟨fun ⟨i, hi, e⟩ => ⟨i, hi, e.symm⟩, fun ⟨i, hi, e⟩ => ⟨i, hi, e.symm⟩⟩
theorem lL0 : (PyData.list [] : D) = lR [] := rfl
/-- [i for i in range(len(a)) if a[i] == b[i]] != [] -/
theorem share_gen {a b : List Nat} (hl : a.length ≤ b.length) (hn : a.length ≤ 1000) {i j k : Nat} {vs : List Nat} {ρ ρ1 : En} (h0 : gVar i ρ = .ok (dR a)) (hw : wipeE ρ vs = ρ1) (h1 : ∀ d, gVar i (ρ1.set k (some d)) = .ok (dR a)) (h2 : ∀ d, gVar j (ρ1.set k (some d)) = .ok (dR b)) (h3 : ∀ d, gVar k (ρ1.set k (some d)) = .ok d) :
    g2 dNe (gLc (iRg (aCons (gCall (on1 dLen) (aCons (gVar i) aNil)) aNil)) (tgN k) (tCm dEq (g2 dIx (gVar i) (gVar k)) (g2 dIx (gVar j) (gVar k))) (gVar k) vs) (gLst aNil) ρ = .ok (.bool (shr a b)) := by
  have it : iRg (aCons (gCall (on1 dLen) (aCons (gVar i) aNil)) aNil) ρ = .ok ((List.range a.length).map dI) := by
    have e : gCall (on1 dLen) (aCons (gVar i) aNil) ρ = .ok (dI a.length) := (call1 h0).trans (len_R a)
    unfold iRg
    rw [show aCons (gCall (on1 dLen) (aCons (gVar i) aNil)) aNil ρ = .ok [dI a.length] from by
      show ((gCall (on1 dLen) (aCons (gVar i) aNil) ρ).bind _) = _
      rw [e]
      rfl, Rz.bind_ok, rngOf_1, sml_nat (by omega), rng0] <;> rfl
  have lc := g_lc (it := iRg (aCons (gCall (on1 dLen) (aCons (gVar i) aNil)) aNil)) (i := k) (t := (tCm dEq (g2 dIx (gVar i) (gVar k)) (g2 dIx (gVar j) (gVar k)))) (e := gVar k) (vs := vs) dI (fun x => decide (a.getD x 0 = b.getD x 0)) dI it (by rw [List.length_range]; exact Nat.le_trans hn (by decide)) hw fun x hx => by
    have hx := List.mem_range.mp hx
    exact ⟨ts_cm ((gOp2 (h1 _) (h3 _)).trans (ix_R hx)) ((gOp2 (h2 _) (h3 _)).trans (ix_R (by omega))) (eq_I _ _), fun _ => h3 _⟩
  refine (gOp2 lc (show gLst aNil ρ = .ok (lR []) from rfl)).trans ?_
  rw [ne_lR]
  congr 2
  unfold shr
  cases hf : (List.range a.length).filter (fun x => decide (a.getD x 0 = b.getD x 0)) with
  | nil =>
    rw [decide_eq_true rfl]
    symm
    rw [Bool.not_true, List.any_eq_false]
    intro x hx
    exact List.filter_eq_nil_iff.mp hf x hx
  | cons y r =>
    have : y ∈ (List.range a.length).filter (fun x => decide (a.getD x 0 = b.getD x 0)) := by rw [hf]; exact List.mem_cons_self
    have := List.mem_filter.mp this
    rw [decide_eq_false (by intro z; cases z)]
    symm
    rw [Bool.not_false, List.any_eq_true]
    exact ⟨y, this.1, this.2⟩
theorem share_ok {a b : List Nat} (hl : a.length ≤ b.length) (hn : a.length ≤ 1000) : g_share [dR a, dR b] = .ok (.bool (shr a b)) :=
  rz_of_rt (st_rt (st_ret (share_gen (ρ := [some (dR a), some (dR b), none]) (ρ1 := [some (dR a), some (dR b), none]) hl hn rfl rfl (fun _ => rfl) (fun _ => rfl) (fun _ => rfl))))
/-! ### apart -/
def Apart (f : List (List Nat)) : Prop := f.Pairwise fun a b => shr a b = false
theorem Apart.nodup {f : List (List Nat)} (h : Apart f) (hl : ∀ x ∈ f, 1 ≤ x.length) : f.Nodup := by
  induction f with
  | nil => exact List.nodup_nil
  | cons a f ih =>
    obtain ⟨h1, h2⟩ := List.pairwise_cons.mp h
    refine List.nodup_cons.mpr ⟨fun hm => ?_, ih h2 fun x hx => hl x (List.mem_cons_of_mem _ hx)⟩
    have := h1 a hm
    have t : shr a a = true := shr_iff.mpr ⟨0, hl a List.mem_cons_self, rfl⟩
    rw [t] at this
    cases this
/-- no more of them than there is room -/
theorem len_sub {α : Type} [DecidableEq α] : ∀ {f l : List α}, f.Nodup → (∀ x ∈ f, x ∈ l) → f.length ≤ l.length
  | [], _, _, _ => Nat.zero_le _
  | a :: f, l, hd, hs => by
    obtain ⟨h1, h2⟩ := List.nodup_cons.mp hd
    have ha := hs a List.mem_cons_self
    have ih := len_sub (l := l.erase a) h2 fun x hx => (List.mem_erase_of_ne fun e => h1 (by rw [← e]; exact hx)).mpr (hs x (List.mem_cons_of_mem _ hx))
    rw [List.length_erase_of_mem ha] at ih
    have := List.length_pos_of_mem ha
    rw [List.length_cons]
    omega
structure Fam (cs f : List (List Nat)) : Prop where
  sub : ∀ x ∈ f, x ∈ cs
  ap : Apart f
theorem Fam.nil (cs : List (List Nat)) : Fam cs [] := ⟨fun _ h => (List.not_mem_nil h).elim, List.Pairwise.nil⟩
theorem Fam.len {cs f : List (List Nat)} (h : Fam cs f) (hl : ∀ x ∈ cs, 1 ≤ x.length) : f.length ≤ cs.length :=
  len_sub (h.ap.nodup fun x hx => hl x (h.sub x hx)) h.sub
/-- the step of the search: families that hold cut j and none before -/
theorem fam_step {cs f : List (List Nat)} {n j : Nat} (hn : 1 ≤ n) (hl : ∀ x ∈ cs, x.length = n) (hj : j < cs.length) (h : Fam cs f) (hc : cs.getD j [] ∈ f) (hb : ∀ x ∈ f, x ∉ cs.take j) :
    Fam ((cs.drop (j + 1)).filter fun o => !shr (cs.getD j []) o) (f.erase (cs.getD j [])) := by
  have nd := h.ap.nodup fun x hx => by rw [hl x (h.sub x hx)]; exact hn
  refine ⟨fun x hx => ?_, List.Pairwise.sublist List.erase_sublist h.ap⟩
  have hx2 := (nd.mem_erase_iff).mp hx
  have hcs := h.sub x hx2.2
  refine List.mem_filter.mpr ⟨?_, ?_⟩
  · have e : cs = cs.take j ++ cs.getD j [] :: cs.drop (j + 1) := by
      rw [getD_el hj]
      simp
    rw [e] at hcs
    rcases List.mem_append.mp hcs with z | z
    · exact absurd z (hb x hx2.2)
    · rcases List.mem_cons.mp z with z | z
      · exact absurd z hx2.1
      · exact z
  · have hlen : (cs.getD j []).length = x.length := by rw [hl _ (h.sub _ hc), hl _ (h.sub _ hx2.2)]
    have p : ∀ {g : List (List Nat)}, Apart g → ∀ a ∈ g, ∀ b ∈ g, a ≠ b → a.length = b.length → shr a b = false := by
      intro g hg
      induction g with
      | nil => intro a ha; cases ha
      | cons y g ih =>
        obtain ⟨g1, g2⟩ := List.pairwise_cons.mp hg
        intro a ha b hb2 ne el
        rcases List.mem_cons.mp ha with rfl | ha'
        · rcases List.mem_cons.mp hb2 with rfl | hb2
          · exact absurd rfl ne
          · exact g1 b hb2
        · rcases List.mem_cons.mp hb2 with rfl | hb2
          · rw [shr_symm el]
            exact g1 a ha'
          · exact ih g2 a ha' b hb2 ne el
    rw [p h.ap _ hc _ hx2.2 (fun e => hx2.1 e.symm) hlen]
    rfl
theorem Fam.cons {cs f : List (List Nat)} {j : Nat} (hj : j < cs.length) (h : Fam ((cs.drop (j + 1)).filter fun o => !shr (cs.getD j []) o) f) : Fam cs (cs.getD j [] :: f) := by
  refine ⟨fun x hx => ?_, List.pairwise_cons.mpr ⟨fun x hx => ?_, h.ap⟩⟩
  · rcases List.mem_cons.mp hx with rfl | hx
    · rw [getD_el hj]
      exact List.getElem_mem hj
    · exact List.mem_of_mem_drop (List.mem_filter.mp (h.sub x hx)).1
  · have := (List.mem_filter.mp (h.sub x hx)).2
    simpa using this
/-- loops that may stop with a result -/
theorem for_gen {tg : TgD} {b : GS} (enc : Nat → D) (I : Nat → En → Prop) (Q : D → Prop) : ∀ (n k : Nat) (ρ : En), I k ρ → (∀ j, k ≤ j → j < k + n → ∀ ρ, I j ρ → ∃ ρ1, tg.go (enc j) ρ = some ρ1 ∧ ((∃ ρ2, b ρ1 = .nx ρ2 ∧ I (j + 1) ρ2) ∨ ∃ d, b ρ1 = .rt d ∧ Q d)) →
    (∃ ρ', forGo tg b ((List.range' k n).map enc) ρ = .nx ρ' ∧ I (k + n) ρ') ∨ ∃ d, forGo tg b ((List.range' k n).map enc) ρ = .rt d ∧ Q d
  | 0, k, ρ, h, _ => .inl ⟨ρ, rfl, h⟩
  | n + 1, k, ρ, h, st => by
    obtain ⟨ρ1, h1, h2⟩ := st k (Nat.le_refl _) (by omega) ρ h
    rw [List.range'_succ, List.map_cons]
    unfold forGo
    simp only [h1]
    rcases h2 with ⟨ρ2, h2, h3⟩ | ⟨d, h2, h3⟩
    · rw [h2]
      have := for_gen enc I Q n (k + 1) ρ2 h3 fun j hj hj2 => st j (by omega) (by omega)
      rw [show k + 1 + n = k + (n + 1) by omega] at this
      exact this
    · rw [h2]
      exact .inr ⟨d, rfl, h3⟩
theorem for_gen0 {tg : TgD} {b : GS} (enc : Nat → D) (I : Nat → En → Prop) (Q : D → Prop) (n : Nat) (ρ : En) (h : I 0 ρ) (st : ∀ j, j < n → ∀ ρ, I j ρ → ∃ ρ1, tg.go (enc j) ρ = some ρ1 ∧ ((∃ ρ2, b ρ1 = .nx ρ2 ∧ I (j + 1) ρ2) ∨ ∃ d, b ρ1 = .rt d ∧ Q d)) :
    (∃ ρ', forGo tg b ((List.range n).map enc) ρ = .nx ρ' ∧ I n ρ') ∨ ∃ d, forGo tg b ((List.range n).map enc) ρ = .rt d ∧ Q d := by
  have := for_gen enc I Q n 0 ρ h fun j _ hj => st j (by omega)
  rw [Nat.zero_add, ← List.range_eq_range'] at this
  exact this
theorem len_lL (xs : List (List Nat)) : dLen (lL xs) = .ok (dI xs.length) := by
  show Rz.ok (PyData.int ((xs.map dR).length : Nat)) = _
  rw [List.length_map]
theorem it_enumL {i : G} {ρ : En} {xs : List (List Nat)} (h : i ρ = .ok (lL xs)) : iEn i ρ = .ok ((List.range xs.length).map fun j => wkD [dI j, dR (xs.getD j [])]) := by
  unfold iEn
  rw [h, Rz.bind_ok]
  show Rz.ok (enumOf (xs.map dR)) = _
  rw [enum_map dR []]
theorem cut_from {α : Type} (xs : List α) {j : Nat} (hj : j ≤ xs.length) : cutD xs (some ((j : Nat) : Int)) none = xs.drop j := by
  have e : sIxD xs.length 0 (some ((j : Nat) : Int)) = j := by
    show (if (0 : Int) ≤ ((j : Nat) : Int) then min ((j : Nat) : Int).toNat xs.length else (((j : Nat) : Int) + xs.length).toNat) = j
    rw [if_pos (Int.natCast_nonneg j), Int.toNat_natCast, Nat.min_eq_left hj]
  show (xs.drop (sIxD xs.length 0 (some ((j : Nat) : Int)))).take (xs.length - sIxD xs.length 0 (some ((j : Nat) : Int))) = _
  rw [e, ← List.length_drop, List.take_length]
theorem cut_to {α : Type} (xs : List α) {j : Nat} (hj : j ≤ xs.length) : cutD xs none (some ((j : Nat) : Int)) = xs.take j := by
  have e : sIxD xs.length xs.length (some ((j : Nat) : Int)) = j := by
    show (if (0 : Int) ≤ ((j : Nat) : Int) then min ((j : Nat) : Int).toNat xs.length else (((j : Nat) : Int) + xs.length).toNat) = j
    rw [if_pos (Int.natCast_nonneg j), Int.toNat_natCast, Nat.min_eq_left hj]
  show (xs.drop 0).take (sIxD xs.length xs.length (some ((j : Nat) : Int)) - 0) = _
  rw [e, List.drop_zero, Nat.sub_zero]
theorem cut_map {α β : Type} (f : α → β) (xs : List α) (lo hi : Option Int) : cutD (xs.map f) lo hi = (cutD xs lo hi).map f := by
  unfold cutD
  rw [List.length_map, List.map_take, List.map_drop]
theorem map_cutL (xs : List (List Nat)) (lo hi : Option Int) : dSl (lL xs) lo hi = .ok (lL (cutD xs lo hi)) := by
  show Rz.ok (PyData.list (cutD (xs.map dR) lo hi)) = _
  rw [cut_map]
theorem sl_from {i k : Nat} {ρ : En} {xs : List (List Nat)} {j : Nat} (h : gVar i ρ = .ok (lL xs)) (h2 : gVar k ρ = .ok (dI j)) (hj : j < xs.length) : gSl (gVar i) (oSm (g2 dAdd (gVar k) (gC (.int 1)))) oNo ρ = .ok (lL (xs.drop (j + 1))) := by
  unfold gSl oSm oNo
  rw [h, Rz.bind_ok, gOp2 h2 rfl]
  show dSl (lL xs) (some ((j : Int) + 1)) none = _
  rw [map_cutL, show (j : Int) + 1 = ((j + 1 : Nat) : Int) from by omega, cut_from xs (by omega)]
theorem app_lL {a b : List (List Nat)} (h : a.length + b.length ≤ lim) : dAdd (lL a) (lL b) = .ok (lL (a ++ b)) := by
  show (if (a.map dR).length + (b.map dR).length ≤ lim then Rz.ok (PyData.list (a.map dR ++ b.map dR)) else .st) = _
  rw [List.length_map, List.length_map, if_pos h, ← List.map_append]
theorem truth_lL (xs : List (List Nat)) : truth (lL xs) = .ok (!decide (xs = [])) := by
  cases xs <;> rfl
end DL
/-! part Cc4 -/
namespace DL
open PySem
/-! ### apart_from -/
abbrev EnA (cs best : List (List Nat)) (x y z w : Option D) : En := [some (lL cs), some (.list []), some (lL best), x, y, z, w, none]
structure Best (cs best : List (List Nat)) : Prop where
  fam : Fam cs best
  top : ∀ f, Fam cs f → f.length ≤ best.length
/-- all families that meet the first j cuts are met -/
structure BestTo (cs : List (List Nat)) (j : Nat) (best : List (List Nat)) : Prop where
  fam : Fam cs best
  top : ∀ f, Fam cs f → (∃ x ∈ f, x ∈ cs.take j) → f.length ≤ best.length
theorem BestTo.all {cs best : List (List Nat)} (h : BestTo cs cs.length best) : Best cs best := ⟨h.fam, fun f hf => by
  cases f with
  | nil => exact Nat.zero_le _
  | cons a f => exact h.top _ hf ⟨a, List.mem_cons_self, by rw [List.take_length]; exact hf.sub a List.mem_cons_self⟩⟩
theorem BestTo.stop {cs best : List (List Nat)} {j : Nat} (h : BestTo cs j best) (h1 : ∀ x ∈ cs, 1 ≤ x.length) (hj : cs.length - j ≤ best.length) : Best cs best := ⟨h.fam, fun f hf => by
  by_cases c : ∃ x ∈ f, x ∈ cs.take j
  · exact h.top f hf c
  · have := len_sub (l := cs.drop j) (hf.ap.nodup fun x hx => h1 x (hf.sub x hx)) fun x hx => by
      have := hf.sub x hx
      rw [← List.take_append_drop j cs] at this
      rcases List.mem_append.mp this with z | z
      · exact absurd ⟨x, hx, z⟩ c
      · exact z
    rw [List.length_drop] at this
    omega⟩
theorem BestTo.next {cs best b2 : List (List Nat)} {n j : Nat} (h : BestTo cs j best) (hn : 1 ≤ n) (hl : ∀ x ∈ cs, x.length = n) (hj : j < cs.length) (hb : Best ((cs.drop (j + 1)).filter fun o => !shr (cs.getD j []) o) b2) :
    BestTo cs (j + 1) (if best.length < b2.length + 1 then cs.getD j [] :: b2 else best) := by
  have k : ∀ f, Fam cs f → (∃ x ∈ f, x ∈ cs.take (j + 1)) → f.length ≤ best.length ∨ f.length ≤ b2.length + 1 := fun f hf ⟨x, hx, hx2⟩ => by
    by_cases c : ∃ x ∈ f, x ∈ cs.take j
    · exact .inl (h.top f hf c)
    · have hm : cs.getD j [] ∈ f := by
        rw [List.take_succ] at hx2
        rcases List.mem_append.mp hx2 with z | z
        · exact absurd ⟨x, hx, z⟩ c
        · rw [List.getElem?_eq_getElem hj] at z
          have : x = cs[j] := by simpa using z
          rw [getD_el hj, ← this]
          exact hx
      have := hb.top _ (fam_step hn hl hj hf hm fun x hx z => c ⟨x, hx, z⟩)
      rw [List.length_erase_of_mem hm] at this
      exact .inr (by omega)
  by_cases c : best.length < b2.length + 1
  · rw [if_pos c]
    refine ⟨Fam.cons hj hb.fam, fun f hf z => ?_⟩
    rw [List.length_cons]
    rcases k f hf z with z | z <;> omega
  · rw [if_neg c]
    refine ⟨h.fam, fun f hf z => ?_⟩
    rcases k f hf z with z | z <;> omega
theorem apart_ok {n : Nat} (hn : 1 ≤ n) (h9 : n ≤ 1000) : ∀ (k : Nat) (A : List Nat) (cs : List (List Nat)), (∀ c ∈ cs, c.length = n) → (∀ c ∈ cs, c.getD 0 0 ∈ A) → A.length < k → cs.length ≤ lim → ∃ best, gR_apart_from k [lL cs, .list []] = .ok (lL best) ∧ Best cs best
  | 0, A, cs, _, _, hk, _ => absurd hk (Nat.not_lt_zero _)
  | k + 1, A, cs, hl, hA, hk, hlim => by
    have h1 : ∀ x ∈ cs, 1 ≤ x.length := fun x hx => by rw [hl x hx]; exact hn
    have lp := for_gen0 (tg := tgT [3, 4]) (b := (sSeq (sIf (tCm dLe (g2 dSub (gCall (on1 dLen) (aCons (gVar 0) aNil)) (gVar 3)) (gCall (on1 dLen) (aCons (gVar 2) aNil))) (sSeq (sRet (gVar 2)) sNil) sNil) (sSeq (sIf (tNt (tTru (gLc (iSeq (gVar 1)) (tgN 7) (tTru (gCall g_share (aCons (gVar 4) (aCons (gVar 7) aNil)))) (gVar 7) [7]))) (sSeq (sSet [] (tgN 5) (gLc (iSeq (gSl (gVar 0) (oSm (g2 dAdd (gVar 3) (gC (.int 1)))) oNo)) (tgN 7) (tNt (tTru (gCall g_share (aCons (gVar 4) (aCons (gVar 7) aNil))))) (gVar 7) [7])) (sSeq (sSet [] (tgN 6) (g2 dAdd (gLst (aCons (gVar 4) aNil)) (gCall (gR_apart_from k) (aCons (gVar 5) (aCons (gLst aNil) aNil))))) (sSeq (sIf (tCm dGt (gCall (on1 dLen) (aCons (gVar 6) aNil)) (gCall (on1 dLen) (aCons (gVar 2) aNil))) (sSeq (sSet [] (tgN 2) (gVar 6)) sNil) sNil) sNil))) sNil) sNil)))
      (fun j => wkD [dI j, dR (cs.getD j [])]) (fun j ρ => ∃ best x y z w, ρ = EnA cs best x y z w ∧ BestTo cs j best) (fun d => ∃ best, d = lL best ∧ Best cs best) cs.length (EnA cs [] none none none none)
      ⟨[], none, none, none, none, rfl, Fam.nil cs, fun f _ ⟨x, _, hx⟩ => by cases hx⟩ (by
        rintro j hj ρ ⟨best, x, y, z, w, rfl, hb⟩
        refine ⟨EnA cs best (some (dI j)) (some (dR (cs.getD j []))) z w, rfl, ?_⟩
        have t1 : tCm dLe (g2 dSub (gCall (on1 dLen) (aCons (gVar 0) aNil)) (gVar 3)) (gCall (on1 dLen) (aCons (gVar 2) aNil)) (EnA cs best (some (dI j)) (some (dR (cs.getD j []))) z w) = .ok (decide (cs.length - j ≤ best.length)) := by
          refine ts_cm (x := .int ((cs.length : Int) - j)) (y := dI best.length) ((gOp2 ((call1 rfl).trans (len_lL cs)) rfl).trans rfl) ((call1 rfl).trans (len_lL best)) ?_
          show Rz.ok (PyData.bool (decide ((cs.length : Int) - j ≤ (best.length : Int)))) = _
          congr 2
          rw [Bool.eq_iff_iff, decide_eq_true_eq, decide_eq_true_eq]
          omega
        by_cases c : cs.length - j ≤ best.length
        · rw [decide_eq_true c] at t1
          exact .inr ⟨lL best, st_rt ((st_if_t t1).trans (st_rt (st_ret rfl))), best, rfl, hb.stop h1 c⟩
        · rw [decide_eq_false c] at t1
          have hc := getD_el (d := []) hj
          have hcm : cs.getD j [] ∈ cs := by rw [hc]; exact List.getElem_mem hj
          have t2 : tNt (tTru (gLc (iSeq (gVar 1)) (tgN 7) (tTru (gCall g_share (aCons (gVar 4) (aCons (gVar 7) aNil)))) (gVar 7) [7])) (EnA cs best (some (dI j)) (some (dR (cs.getD j []))) z w) = .ok true := rfl
          have e1 : gLc (iSeq (gSl (gVar 0) (oSm (g2 dAdd (gVar 3) (gC (.int 1)))) oNo)) (tgN 7) (tNt (tTru (gCall g_share (aCons (gVar 4) (aCons (gVar 7) aNil))))) (gVar 7) [7] (EnA cs best (some (dI j)) (some (dR (cs.getD j []))) z w) = .ok (lL ((cs.drop (j + 1)).filter fun o => !shr (cs.getD j []) o)) := by
            refine g_lc (ρ1 := EnA cs best (some (dI j)) (some (dR (cs.getD j []))) z w) dR (fun o => !shr (cs.getD j []) o) dR ?_ ?_ rfl fun o ho => ?_
            · unfold iSeq
              rw [sl_from (xs := cs) (j := j) rfl rfl hj, Rz.bind_ok] <;> rfl
            · rw [List.length_drop]; omega
            · have ho2 := List.mem_of_mem_drop ho
              refine ⟨ts_not (ts_tru ((callF2 rfl rfl).trans (share_ok (by rw [hl _ hcm, hl _ ho2]; exact Nat.le_refl _) (by rw [hl _ hcm]; exact h9))) rfl), fun _ => rfl⟩
          obtain ⟨b2, hb2, hB⟩ := apart_ok hn h9 k (A.erase ((cs.getD j []).getD 0 0)) ((cs.drop (j + 1)).filter fun o => !shr (cs.getD j []) o) (fun o ho => hl o (List.mem_of_mem_drop (List.mem_filter.mp ho).1)) (fun o ho => by
            have hm := List.mem_filter.mp ho
            have ho2 := List.mem_of_mem_drop hm.1
            have hs : shr (cs.getD j []) o = false := by simpa using hm.2
            refine (List.mem_erase_of_ne fun e => ?_).mpr (hA o ho2)
            have : shr (cs.getD j []) o = true := shr_iff.mpr ⟨0, by rw [hl _ hcm]; exact hn, e.symm⟩
            rw [this] at hs
            cases hs) (by
              have hm := hA _ hcm
              rw [List.length_erase_of_mem hm]
              have := List.length_pos_of_mem hm
              omega) (by
              refine Nat.le_trans (List.length_filter_le _ _) ?_
              rw [List.length_drop]
              omega)
          have hlb : b2.length + 1 ≤ cs.length := by
            have := hB.fam.len (fun x hx => h1 x (List.mem_of_mem_drop (List.mem_filter.mp hx).1))
            have l2 := List.length_filter_le (fun o => !shr (cs.getD j []) o) (cs.drop (j + 1))
            rw [List.length_drop] at l2
            omega
          have e2 : g2 dAdd (gLst (aCons (gVar 4) aNil)) (gCall (gR_apart_from k) (aCons (gVar 5) (aCons (gLst aNil) aNil))) (EnA cs best (some (dI j)) (some (dR (cs.getD j []))) (some (lL ((cs.drop (j + 1)).filter fun o => !shr (cs.getD j []) o))) w) = .ok (lL (cs.getD j [] :: b2)) :=
            (gOp2 (show gLst (aCons (gVar 4) aNil) _ = .ok (lL [cs.getD j []]) from rfl) ((callF2 rfl rfl).trans hb2)).trans (app_lL (by rw [List.length_singleton]; omega))
          have t3 : tCm dGt (gCall (on1 dLen) (aCons (gVar 6) aNil)) (gCall (on1 dLen) (aCons (gVar 2) aNil)) (EnA cs best (some (dI j)) (some (dR (cs.getD j []))) (some (lL ((cs.drop (j + 1)).filter fun o => !shr (cs.getD j []) o))) (some (lL (cs.getD j [] :: b2)))) = .ok (decide (best.length < b2.length + 1)) := by
            refine ts_cm ((call1 rfl).trans (len_lL _)) ((call1 rfl).trans (len_lL best)) ?_
            show Rz.ok (PyData.bool (decide ((best.length : Int) < (((cs.getD j [] :: b2).length : Nat) : Int)))) = _
            congr 2
            rw [Bool.eq_iff_iff, decide_eq_true_eq, decide_eq_true_eq, List.length_cons]
            omega
          refine .inl ⟨EnA cs (if best.length < b2.length + 1 then cs.getD j [] :: b2 else best) (some (dI j)) (some (dR (cs.getD j []))) (some (lL ((cs.drop (j + 1)).filter fun o => !shr (cs.getD j []) o))) (some (lL (cs.getD j [] :: b2))), ?_, _, _, _, _, _, rfl, hb.next hn hl hj hB⟩
          refine (s_seq (st_if_f t1)).trans ?_
          refine (s_seq (ρ' := EnA cs (if best.length < b2.length + 1 then cs.getD j [] :: b2 else best) (some (dI j)) (some (dR (cs.getD j []))) (some (lL ((cs.drop (j + 1)).filter fun o => !shr (cs.getD j []) o))) (some (lL (cs.getD j [] :: b2)))) ((st_if_t t2).trans ?_)).trans rfl
          refine (s_seq (st_set e1)).trans ((s_seq (st_set e2)).trans ?_)
          by_cases c2 : best.length < b2.length + 1
          · rw [decide_eq_true c2] at t3
            rw [if_pos c2]
            refine (s_seq ((st_if_t t3).trans (s_seq (st_set rfl)))).trans ?_
            rfl
          · rw [decide_eq_false c2] at t3
            rw [if_neg c2]
            refine (s_seq (st_if_f t3)).trans ?_
            rfl)
    show ∃ best, (m_apart_from (gR_apart_from k) [some (lL cs), some (.list []), none, none, none, none, none, none]).rz = .ok (lL best) ∧ Best cs best
    have it := it_enumL (i := gVar 0) (ρ := mk [] (EnA cs [] none none none none)) (xs := cs) rfl
    rcases lp with ⟨ρ', hf, best, x, y, z, w, rfl, hb⟩ | ⟨d, hf, best, rfl, hb⟩
    · exact ⟨best, rz_of_rt ((s_seq (st_set (d := lL []) rfl)).trans ((s_seq ((s_for it).trans hf)).trans (st_rt (st_ret rfl)))), hb.all⟩
    · exact ⟨best, rz_of_rt ((s_seq (st_set (d := lL []) rfl)).trans (st_rt ((s_for it).trans hf))), hb⟩
end DL
/-! part Cc5 -/
namespace DL
open PySem
section
variable {n : Nat} {m : List (List Nat)}
theorem cuts_len : ∀ c ∈ cutsOf m n, c.length = n := fun c hc => (mem_cuts.mp hc).1
theorem cuts_head (h1 : 1 ≤ n) : ∀ c ∈ cutsOf m n, c.getD 0 0 ∈ List.range n := fun c hc => by
  have k := mem_cuts.mp hc
  rw [getD_el (by omega)]
  exact List.mem_range.mpr (k.2.1 _ (List.getElem_mem _))
theorem most_ok (h : Lat n m) (h1 : 1 ≤ n) (h5 : n ≤ 5) : ∃ best, g_most_apart [dM m] = .ok (lL best) ∧ Best (cutsOf m n) best := by
  obtain ⟨best, hb, hB⟩ := apart_ok (n := n) h1 (by omega) 9 (List.range n) (cutsOf m n) cuts_len (cuts_head h1) (by rw [List.length_range]; omega) (cuts_lim m (by omega))
  refine ⟨best, ?_, hB⟩
  have t : tCm dGt (gCall (on1 dLen) (aCons (gVar 0) aNil)) (gC (.int 5)) [some (dM m)] = .ok false :=
    ts_cm ((call1 rfl).trans (len_M m)) rfl (by rw [h.len, dGt_ii, decide_eq_false (by omega)])
  exact rz_of_rt ((s_seq (st_expr ((callF1 rfl).trans (small_ok h h1 (by omega))))).trans ((s_seq (st_if_f t)).trans (st_rt (st_ret ((callF2 ((callF3 rfl rfl rfl).trans (longer0_ok h (by omega))) rfl).trans hb)))))
/-! ### parting -/
theorem snoc_last {α : Type} (l : List α) (a d : α) : (l ++ [a]).getD l.length d = a := by
  rw [getD_el (by rw [List.length_append, List.length_singleton]; omega), List.getElem_append_right (Nat.le_refl _)]
  simp
theorem snoc_lt {α : Type} {l : List α} {a d : α} {i : Nat} (h : i < l.length) : (l ++ [a]).getD i d = l.getD i d := by
  rw [getD_el h, getD_el (by rw [List.length_append, List.length_singleton]; omega), List.getElem_append_left h]
theorem any_share {c : List Nat} {ts : List (List Nat)} {N : Nat} (hc : c.length = N) (hN : N ≤ 1000) (hts : ∀ x ∈ ts, x.length = N) (hl : ts.length ≤ lim) {i j k : Nat} {vs : List Nat} {ρ ρ1 : En} (hw : wipeE ρ vs = ρ1) (h0 : gVar j ρ = .ok (lL ts))
    (h1 : ∀ d, gVar i (ρ1.set k (some d)) = .ok (dR c)) (h3 : ∀ d, gVar k (ρ1.set k (some d)) = .ok d) :
    tNt (tTru (gLc (iSeq (gVar j)) (tgN k) (tTru (gCall g_share (aCons (gVar i) (aCons (gVar k) aNil)))) (gVar k) vs)) ρ = .ok (!ts.any fun o => shr c o) := by
  have e := g_lc (it := iSeq (gVar j)) (i := k) (t := tTru (gCall g_share (aCons (gVar i) (aCons (gVar k) aNil)))) (e := gVar k) (vs := vs) (ρ := ρ) dR (fun o => shr c o) dR (by
    unfold iSeq
    rw [h0, Rz.bind_ok] <;> rfl) hl hw fun o ho => ⟨ts_tru ((callF2 (h1 _) (h3 _)).trans (share_ok (by rw [hc, hts o ho]; exact Nat.le_refl _) (by omega))) rfl, fun _ => h3 _⟩
  refine ts_not (ts_tru e ?_)
  have := truth_lL (ts.filter fun o => shr c o)
  refine this.trans ?_
  congr 1
  rw [Bool.eq_iff_iff, Bool.not_eq_true', decide_eq_false_iff_not, List.filter_eq_nil_iff, List.any_eq_true]
  constructor
  · intro z
    exact Classical.byContradiction fun w => z fun a ha hs => w ⟨a, ha, hs⟩
  · rintro ⟨a, ha, hs⟩ z
    exact z a ha hs
/-- what parting_by has when it is asked -/
structure Tkn (cs : List (List Nat)) (ts : List (List Nat)) : Prop where
  fam : Fam cs ts
  hd : ∀ i, i < ts.length → (ts.getD i []).getD 0 0 = i
abbrev EnP (cs ts : List (List Nat)) (n : Nat) (x y : Option D) : En := [some (lL cs), some (dI n), some (lL ts), x, y, none]
theorem Tkn.snoc {cs ts : List (List Nat)} {c : List Nat} {N : Nat} (h : Tkn cs ts) (hl : ∀ x ∈ cs, x.length = N) (hc : c ∈ cs) (hd : c.getD 0 0 = ts.length) (hs : (ts.any fun o => shr c o) = false) : Tkn cs (ts ++ [c]) := by
  refine ⟨⟨fun x hx => ?_, ?_⟩, fun i hi => ?_⟩
  · rcases List.mem_append.mp hx with hx | hx
    · exact h.fam.sub x hx
    · have : x = c := by simpa using hx
      rw [this]
      exact hc
  · refine List.pairwise_append.mpr ⟨h.fam.ap, List.pairwise_singleton _ _, fun a ha b hb => ?_⟩
    have : b = c := by simpa using hb
    subst this
    rw [shr_symm (by rw [hl _ hc, hl _ (h.fam.sub a ha)])]
    rw [List.any_eq_false] at hs
    simpa using hs a ha
  · rw [List.length_append, List.length_singleton] at hi
    by_cases e : i = ts.length
    · subst e
      rw [snoc_last]
      exact hd
    · rw [snoc_lt (by omega)]
      exact h.hd i (by omega)
/-- a way to part all cells goes on from what is taken -/
def Goes (cs ts : List (List Nat)) (n : Nat) : Prop := ∃ F : Nat → List Nat, (∀ i, i < n → F i ∈ cs ∧ (F i).getD 0 0 = i) ∧ (∀ i j, i < n → j < n → i ≠ j → shr (F i) (F j) = false) ∧ ∀ i, i < ts.length → ts.getD i [] = F i
theorem Goes.snoc {cs ts : List (List Nat)} {n : Nat} (h : Goes cs ts n) (hn : ts.length < n) : ∃ c ∈ cs, c.getD 0 0 = ts.length ∧ (ts.any fun o => shr c o) = false ∧ Goes cs (ts ++ [c]) n := by
  obtain ⟨F, f1, f2, f3⟩ := h
  refine ⟨F ts.length, (f1 _ hn).1, (f1 _ hn).2, ?_, F, f1, f2, fun i hi => ?_⟩
  · rw [List.any_eq_false]
    intro o ho
    obtain ⟨i, hi, rfl⟩ := List.getElem_of_mem ho
    rw [← getD_el (d := []) hi, f3 i hi, f2 _ _ hn (by omega) (by omega)]
    exact Bool.false_ne_true
  · rw [List.length_append, List.length_singleton] at hi
    by_cases e : i = ts.length
    · subst e
      rw [snoc_last]
    · rw [snoc_lt (by omega)]
      exact f3 i (by omega)
/-- what parting_by answers -/
inductive Parts (cs ts : List (List Nat)) (n : Nat) : D → Prop
  | none (h : ¬ Goes cs ts n) : Parts cs ts n .none
  | some (t : List (List Nat)) (h : Tkn cs t) (hl : t.length = n) : Parts cs ts n (lL t)
theorem it_L {i : Nat} {ρ : En} {xs : List (List Nat)} (h : gVar i ρ = .ok (lL xs)) : iSeq (gVar i) ρ = .ok ((List.range xs.length).map fun j => dR (xs.getD j [])) := by
  unfold iSeq
  rw [h, Rz.bind_ok]
  show Rz.ok (xs.map dR) = _
  congr 1
  apply List.ext_getElem
  · simp
  · intro i h1 h2
    have hi : i < xs.length := by simpa using h1
    simp [hi]
theorem part_ok {cs : List (List Nat)} (hl : ∀ x ∈ cs, x.length = n) (h1 : 1 ≤ n) (h7 : n ≤ 1000) : ∀ (r k : Nat) (ts : List (List Nat)), ts.length + r = n → r < k → Tkn cs ts → ∃ d, gR_parting_by k [lL cs, dI n, lL ts] = .ok d ∧ Parts cs ts n d
  | r, 0, ts, _, hk, _ => absurd hk (Nat.not_lt_zero _)
  | 0, k + 1, ts, hr, _, ht => by
    have t : tCm dEq (gCall (on1 dLen) (aCons (gVar 2) aNil)) (gVar 1) (EnP cs ts n none none) = .ok true :=
      ts_cm ((call1 rfl).trans (len_lL ts)) rfl (by rw [eq_I, decide_eq_true (by omega)])
    exact ⟨lL ts, rz_of_rt (st_rt ((st_if_t t).trans (st_rt (st_ret rfl)))), .some ts ht (by omega)⟩
  | r + 1, k + 1, ts, hr, hk, ht => by
    have t : tCm dEq (gCall (on1 dLen) (aCons (gVar 2) aNil)) (gVar 1) (EnP cs ts n none none) = .ok false :=
      ts_cm ((call1 rfl).trans (len_lL ts)) rfl (by rw [eq_I, decide_eq_false (by omega)])
    have lp := for_gen0 (tg := tgN 3) (b := (sSeq (sIf (tAn (tCm dEq (g2 dIx (gVar 3) (gC (.int 0))) (gCall (on1 dLen) (aCons (gVar 2) aNil))) (tNt (tTru (gLc (iSeq (gVar 2)) (tgN 5) (tTru (gCall g_share (aCons (gVar 3) (aCons (gVar 5) aNil)))) (gVar 5) [5])))) (sSeq (sSet [] (tgN 4) (gCall (gR_parting_by k) (aCons (gVar 0) (aCons (gVar 1) (aCons (g2 dAdd (gVar 2) (gLst (aCons (gVar 3) aNil))) aNil))))) (sSeq (sIf (tVal (g1 dNotN (gVar 4))) (sSeq (sRet (gVar 4)) sNil) sNil) sNil)) sNil) sNil))
      (fun j => dR (cs.getD j [])) (fun j ρ => ∃ x y, ρ = EnP cs ts n x y ∧ ∀ c ∈ cs.take j, c.getD 0 0 = ts.length → (ts.any fun o => shr c o) = false → ¬ Goes cs (ts ++ [c]) n) (Parts cs ts n) cs.length (EnP cs ts n none none)
      ⟨none, none, rfl, fun c hc => by cases hc⟩ (by
        rintro j hj ρ ⟨x, y, rfl, hI⟩
        have hc := getD_el (d := []) hj
        have hcm : cs.getD j [] ∈ cs := by rw [hc]; exact List.getElem_mem hj
        have nx : (∀ c, c = cs.getD j [] → c.getD 0 0 = ts.length → (ts.any fun o => shr c o) = false → ¬ Goes cs (ts ++ [c]) n) → ∀ c ∈ cs.take (j + 1), c.getD 0 0 = ts.length → (ts.any fun o => shr c o) = false → ¬ Goes cs (ts ++ [c]) n := fun w c hc2 => by
          rw [List.take_succ, List.getElem?_eq_getElem hj] at hc2
          rcases List.mem_append.mp hc2 with z | z
          · exact hI c z
          · exact w c (by rw [hc]; simpa using z)
        refine ⟨EnP cs ts n (some (dR (cs.getD j []))) y, rfl, ?_⟩
        have ta : tCm dEq (g2 dIx (gVar 3) (gC (.int 0))) (gCall (on1 dLen) (aCons (gVar 2) aNil)) (EnP cs ts n (some (dR (cs.getD j []))) y) = .ok (decide ((cs.getD j []).getD 0 0 = ts.length)) :=
          ts_cm ((gOp2 (y := dI 0) rfl rfl).trans (ix_R (by rw [hl _ hcm]; exact h1))) ((call1 rfl).trans (len_lL ts)) (eq_I _ _)
        have tb : tNt (tTru (gLc (iSeq (gVar 2)) (tgN 5) (tTru (gCall g_share (aCons (gVar 3) (aCons (gVar 5) aNil)))) (gVar 5) [5])) (EnP cs ts n (some (dR (cs.getD j []))) y) = .ok (!ts.any fun o => shr (cs.getD j []) o) :=
          any_share (N := n) (ρ1 := EnP cs ts n (some (dR (cs.getD j []))) y) (hl _ hcm) h7 (fun x hx => hl x (ht.fam.sub x hx)) (Nat.le_trans (by omega : ts.length ≤ 1000) (by decide)) rfl rfl (fun _ => rfl) (fun _ => rfl)
        have tt := ts_and ta fun _ => tb
        by_cases c1 : (cs.getD j []).getD 0 0 = ts.length
        · cases c2 : (ts.any fun o => shr (cs.getD j []) o) with
          | true =>
            rw [c2, decide_eq_true c1] at tt
            exact .inl ⟨_, (s_seq (st_if_f tt)).trans rfl, _, _, rfl, nx fun c e _ w => by rw [e, c2] at w; cases w⟩
          | false =>
            rw [c2, decide_eq_true c1] at tt
            obtain ⟨d, hd, hp⟩ := part_ok hl h1 h7 r k (ts ++ [cs.getD j []]) (by rw [List.length_append, List.length_singleton]; omega) (by omega) (ht.snoc hl hcm c1 c2)
            have e1 : gCall (gR_parting_by k) (aCons (gVar 0) (aCons (gVar 1) (aCons (g2 dAdd (gVar 2) (gLst (aCons (gVar 3) aNil))) aNil))) (EnP cs ts n (some (dR (cs.getD j []))) y) = .ok d :=
              (callF3 rfl rfl ((gOp2 rfl (show gLst (aCons (gVar 3) aNil) _ = .ok (lL [cs.getD j []]) from rfl)).trans (app_lL (by rw [List.length_singleton]; exact Nat.le_trans (by omega : ts.length + 1 ≤ 1000) (by decide))))).trans hd
            cases hp with
            | none hg =>
              refine .inl ⟨EnP cs ts n (some (dR (cs.getD j []))) (some .none), ?_, _, _, rfl, nx fun c e _ _ => by rw [e]; exact hg⟩
              exact (s_seq ((st_if_t tt).trans ((s_seq (st_set e1)).trans (s_seq (st_if_f rfl))))).trans rfl
            | some t h hn =>
              refine .inr ⟨lL t, ?_, .some t h hn⟩
              exact st_rt ((st_if_t tt).trans ((s_seq (st_set e1)).trans (st_rt ((st_if_t rfl).trans (st_rt (st_ret rfl))))))
        · rw [decide_eq_false c1] at tt
          exact .inl ⟨_, (s_seq (st_if_f tt)).trans rfl, _, _, rfl, nx fun c e w => absurd (e ▸ w) c1⟩)
    have it := it_L (i := 0) (ρ := mk [] (EnP cs ts n none none)) (xs := cs) rfl
    rcases lp with ⟨ρ', hf, x, y, rfl, hI⟩ | ⟨d, hf, hp⟩
    · refine ⟨.none, rz_of_rt ((s_seq (st_if_f t)).trans ((s_seq ((s_for it).trans hf)).trans (st_rt (st_ret rfl)))), .none fun hg => ?_⟩
      obtain ⟨c, hc, q1, q2, q3⟩ := hg.snoc (by omega)
      rw [List.take_length] at hI
      exact hI c hc q1 q2 q3
    · exact ⟨d, rz_of_rt ((s_seq (st_if_f t)).trans (st_rt ((s_for it).trans hf))), hp⟩
theorem parting_ok (h : Lat n m) (h1 : 1 ≤ n) (h7 : n ≤ 7) : ∃ d, g_parting [dM m] = .ok d ∧ Parts (cutsOf m n) [] n d := by
  obtain ⟨d, hd, hp⟩ := part_ok (n := n) (cs := cutsOf m n) cuts_len h1 (by omega) n 9 [] (by simp) (by omega) ⟨Fam.nil _, fun i hi => by cases hi⟩
  refine ⟨d, ?_, hp⟩
  exact rz_of_rt ((s_seq (st_expr ((callF1 rfl).trans (small_ok h h1 h7)))).trans (st_rt (st_ret ((callF3 ((callF3 rfl rfl rfl).trans (longer0_ok h h7)) ((call1 rfl).trans ((len_M m).trans (by rw [h.len]))) rfl).trans hd))))
end
end DL
/-! part Cc6 -/
namespace DL
open PySem
/-! ### mate -/
theorem s_put1 {os : List Nat} {i : Nat} {j a : G} {ρ : En} {r : List Nat} {x z : Nat} (h : ρ[i]? = some (some (lR r))) (ha : a (mk os ρ) = .ok (dI z)) (hj : j ρ = .ok (dI x)) (hx : x < r.length) : sPut os i j a ρ = .nx (ρ.set i (some (lR (r.set x z)))) := by
  unfold sPut gSc
  rw [ha, hj]
  simp only [Rz.bind_ok, isSc_int, if_true, Rz.out_ok, h]
  rw [ixR_i, List.length_map, ixD_nat hx]
  show Out.nx (ρ.set i (some (PyData.list ((r.map dI).set x (dI z))))) = Out.nx (ρ.set i (some (PyData.list ((r.set x z).map dI))))
  rw [List.map_set]
theorem zeros_ok {n : Nat} (h : n ≤ 1000) : dRep (.list [.int 0]) (dI n) = .ok (lR (List.replicate n 0)) := by
  show (if sml (n : Int) && decide (1 * (n : Int).toNat ≤ lim) then Rz.ok (PyData.list (List.replicate (n : Int).toNat [PyData.int 0]).flatten) else .st) = _
  rw [sml_nat (by omega), Int.toNat_natCast, decide_eq_true (Nat.le_trans (by omega : 1 * n ≤ 1000) (by decide))]
  have : (List.replicate n [PyData.int 0]).flatten = (List.replicate n 0).map dI := by
    rw [List.flatten_replicate_singleton, List.map_replicate]
    rfl
  rw [this]
  rfl
def mateStep (t : List (List Nat)) (row : Nat) (ls : List Nat) (k : Nat) : List Nat := ls.set ((t.getD k []).getD row 0) k
def mateR (t : List (List Nat)) (n row : Nat) : List Nat := (List.range t.length).foldl (mateStep t row) (List.replicate n 0)
theorem mateStep_len {t : List (List Nat)} {row : Nat} {ls : List Nat} {k : Nat} : (mateStep t row ls k).length = ls.length := by simp [mateStep]
section
variable {n : Nat} {m : List (List Nat)}
abbrev EnM (m t : List (List Nat)) (acc : List D) (r l x y : Option D) : En := [some (dM m), some (lL t), some (.list acc), r, l, x, y]
theorem mate_row {t : List (List Nat)} {row : Nat} {acc : List D} {x y : Option D} (hr : row < n) (hl : ∀ c ∈ t, c.length = n ∧ ∀ v ∈ c, v < n) :
    ∃ x' y', sFor [4, 2] (iEn (gVar 1)) (tgT [5, 6]) (sSeq (sPut [4, 2] 4 (g2 dIx (gVar 6) (gVar 3)) (gVar 5)) sNil) (EnM m t acc (some (dI row)) (some (lR (List.replicate n 0))) x y) = .nx (EnM m t acc (some (dI row)) (some (lR (mateR t n row))) x' y') := by
  have it := it_enumL (i := gVar 1) (ρ := mk [4, 2] (EnM m t acc (some (dI row)) (some (lR (List.replicate n 0))) x y)) (xs := t) rfl
  obtain ⟨ρ', hf, x', y', rfl, _⟩ := for_st (tg := tgT [5, 6]) (b := sSeq (sPut [4, 2] 4 (g2 dIx (gVar 6) (gVar 3)) (gVar 5)) sNil) (fun j => wkD [dI j, dR (t.getD j [])]) (fun ls ρ => ∃ x y, ρ = EnM m t acc (some (dI row)) (some (lR ls)) x y ∧ ls.length = n) (mateStep t row) (List.range t.length) (List.replicate n 0) (EnM m t acc (some (dI row)) (some (lR (List.replicate n 0))) x y) ⟨x, y, rfl, List.length_replicate⟩ (by
    rintro k hk ls ρ ⟨x, y, rfl, hls⟩
    have hk := List.mem_range.mp hk
    have hm : t.getD k [] ∈ t := by rw [getD_el hk]; exact List.getElem_mem hk
    obtain ⟨q1, q2⟩ := hl _ hm
    have hv : (t.getD k []).getD row 0 < ls.length := by
      rw [hls, getD_el (by omega)]
      exact q2 _ (List.getElem_mem _)
    refine ⟨EnM m t acc (some (dI row)) (some (lR ls)) (some (dI k)) (some (dR (t.getD k []))), EnM m t acc (some (dI row)) (some (lR (mateStep t row ls k))) (some (dI k)) (some (dR (t.getD k []))), rfl, ?_, _, _, rfl, by rw [mateStep_len, hls]⟩
    exact (s_seq (s_put1 (r := ls) (x := (t.getD k []).getD row 0) (z := k) rfl rfl ((gOp2 rfl rfl).trans (ix_R (by omega))) hv)).trans rfl)
  exact ⟨x', y', (s_for it).trans hf⟩
def mateOf (t : List (List Nat)) (n : Nat) : List (List Nat) := (List.range n).map (mateR t n)
theorem it_lenM {i : Nat} {ρ : En} (h : Lat n m) (h0 : gVar i ρ = .ok (dM m)) (hn : n ≤ 1000) : iRg (aCons (gCall (on1 dLen) (aCons (gVar i) aNil)) aNil) ρ = .ok ((List.range n).map dI) := by
  have e : aCons (gCall (on1 dLen) (aCons (gVar i) aNil)) aNil ρ = .ok [dI n] := by
    show (gCall (on1 dLen) (aCons (gVar i) aNil) ρ).bind _ = _
    rw [call1 h0, len_M, h.len]
    rfl
  unfold iRg
  rw [e, Rz.bind_ok, rngOf_1, sml_nat (by omega), rng0] <;> rfl
theorem mate_none (h : g_parting [dM m] = .ok .none) : g_mate [dM m] = .ok .none :=
  rz_of_rt ((s_seq (st_set ((callF1 rfl).trans h))).trans (st_rt ((st_if_t rfl).trans (st_rt (st_ret rfl)))))
theorem mate_some {t : List (List Nat)} (h : Lat n m) (hn : n ≤ 1000) (hp : g_parting [dM m] = .ok (lL t)) (hl : ∀ c ∈ t, c.length = n ∧ ∀ v ∈ c, v < n) : g_mate [dM m] = .ok (dM (mateOf t n)) := by
  have hfl : ((List.range n).flatMap fun row => [dR (mateR t n row)]) = (mateOf t n).map dR := by
    unfold mateOf
    rw [List.map_map]
    induction List.range n with
    | nil => rfl
    | cons a l ih =>
      rw [List.flatMap_cons, ih]
      rfl
  obtain ⟨ρ', hf, r, l, x, y, rfl⟩ := for_app (tg := tgN 3) (b := (sSeq (sSet [2] (tgN 4) (g2 dRep (gLst (aCons (gC (.int 0)) aNil)) (gCall (on1 dLen) (aCons (gVar 0) aNil)))) (sSeq (sFor [4, 2] (iEn (gVar 1)) (tgT [5, 6]) (sSeq (sPut [4, 2] 4 (g2 dIx (gVar 6) (gVar 3)) (gVar 5)) sNil)) (sSeq (sApp [2] 2 (gCall (on1 dTuple) (aCons (gVar 4) aNil))) sNil))))
    dI (fun acc ρ => ∃ r l x y, ρ = EnM m t acc r l x y) (fun row => [dR (mateR t n row)]) (List.range n) [] (EnM m t [] none none none none) ⟨_, _, _, _, rfl⟩ (by
      rw [hfl, List.length_map, List.length_nil]
      unfold mateOf
      rw [List.length_map, List.length_range]
      exact Nat.le_trans (by omega : 0 + n ≤ 1000) (by decide)) (by
      rintro row hr acc ρ ⟨r, l, x, y, rfl⟩ hlim
      have hr := List.mem_range.mp hr
      have e1 : g2 dRep (gLst (aCons (gC (.int 0)) aNil)) (gCall (on1 dLen) (aCons (gVar 0) aNil)) (mk [2] (EnM m t acc (some (dI row)) l x y)) = .ok (lR (List.replicate n 0)) :=
        (gOp2 (show gLst (aCons (gC (.int 0)) aNil) _ = .ok (.list [.int 0]) from rfl) ((call1 rfl).trans ((len_M m).trans (by rw [h.len])))).trans (zeros_ok hn)
      obtain ⟨x', y', e2⟩ := mate_row (m := m) (t := t) (row := row) (acc := acc) (x := x) (y := y) hr hl
      refine ⟨EnM m t acc (some (dI row)) l x y, EnM m t (acc ++ [dR (mateR t n row)]) (some (dI row)) (some (lR (mateR t n row))) x' y', rfl, ?_, _, _, _, _, rfl⟩
      refine (s_seq (st_set e1)).trans ((s_seq e2).trans ?_)
      have e3 : sApp [2] 2 (gCall (on1 dTuple) (aCons (gVar 4) aNil)) (EnM m t acc (some (dI row)) (some (lR (mateR t n row))) x' y') = .nx (EnM m t (acc ++ [dR (mateR t n row)]) (some (dI row)) (some (lR (mateR t n row))) x' y') := by
        rw [r_sApp]
        simp only [List.getElem?_cons_succ, List.getElem?_cons_zero]
        rw [show gCall (on1 dTuple) (aCons (gVar 4) aNil) (mk [2] (EnM m t acc (some (dI row)) (some (lR (mateR t n row))) x' y')) = .ok (dR (mateR t n row)) from (call1 rfl).trans rfl]
        simp only [Rz.out_ok]
        rw [if_pos (by rw [List.length_singleton] at hlim; omega)]
        rfl
      exact (s_seq e3).trans rfl)
  refine rz_of_rt ((s_seq (st_set ((callF1 rfl).trans hp))).trans ((s_seq (st_if_f rfl)).trans ?_))
  refine (s_seq (st_set (d := .list []) rfl)).trans ?_
  refine (s_seq ((s_for (it_lenM h rfl hn)).trans hf)).trans (st_rt (st_ret ?_))
  rw [call1 rfl, List.nil_append, hfl]
  rfl
end
end DL
/-! part Cg -/
namespace DL
open PySem
theorem gLaw_st {ds : List D} (h : ∀ ns : List Int, ns.length ≤ 63 → ds ≠ [ro ns]) : gLaw ds = .st := by
  unfold gLaw
  split
  · rename_i ns
    cases hi : intsD ns with
    | none => rfl
    | some ms =>
      by_cases hl : ns.length ≤ 63
      · have e := intsD_map hi
        subst e
        exact absurd rfl (h ms (by simpa using hl))
      · rw [decide_eq_false hl, Bool.and_false] <;> rfl
  · rfl
theorem cell_mod (ns : List Int) (k : Nat) {q : Int} (hq : 0 < q) : ∃ K : Nat, ns.getD k 0 % q = (K : Int) ∧ (K : Int) < q := by
  obtain ⟨K, h⟩ := int_nat (Int.emod_nonneg (ns.getD k 0) (by omega : q ≠ 0))
  exact ⟨K, h, by rw [← h]; exact Int.emod_lt_of_pos _ hq⟩
theorem cG {ns : List Int} {ρ : En} (k : Nat) (h : gVar 0 ρ = .ok (ro ns)) : gCall g__law_cell (aCons (gVar 0) (aCons (gC (dI k)) aNil)) ρ = .ok (.int (ns.getD k 0)) := (callF2 h rfl).trans (cell_ok ns k)
theorem mod_is {x q : Int} {A : Nat} (hq : 0 < q) (h : x % q = (A : Int)) : dMod (.int x) (.int q) = .ok (dI A) := by
  show (if 0 < q then Rz.ok (PyData.int (x % q)) else .st) = _
  rw [if_pos hq, h]
theorem gAnd_ok {a b : G} {ρ : En} {d : D} (h1 : a ρ = .ok (.bool true)) (h2 : b ρ = .ok d) : gAnd a b ρ = .ok d := by
  unfold gAnd
  rw [h1]
  exact h2
theorem sl_R (p : List Nat) (lo hi : Option Int) : dSl (dR p) lo hi = .ok (dR (cutD p lo hi)) := by
  show Rz.ok (PyData.tuple (cutD (p.map dI) lo hi)) = _
  rw [cut_map]
  rfl
theorem cutD_len {α : Type} (xs : List α) (lo hi : Option Int) : (cutD xs lo hi).length ≤ xs.length := by
  unfold cutD
  rw [List.length_take, List.length_drop]
  omega
theorem idx_cI (c : List Nat) (x : Nat) : (cI c).idxOf (x : Int) = c.idxOf x := by
  induction c with
  | nil => rfl
  | cons a r ih =>
    show List.idxOf (x : Int) ((a : Int) :: cI r) = _
    rw [List.idxOf_cons, List.idxOf_cons, ih]
    rw [show ((a : Int) == (x : Int)) = (a == x) from by rw [Bool.eq_iff_iff]; simp; omega]
theorem tindex_ok {c : List Nat} {x : Nat} (h : x ∈ c) : dTindex (dR c) (dI x) = .ok (dI (c.idxOf x)) := by
  show ((orSt (intsD (c.map dI))).bind fun ns => if (x : Int) ∈ ns then Rz.ok (PyData.int (ns.idxOf (x : Int) : Nat)) else .st) = _
  rw [ints_I]
  show (if (x : Int) ∈ cI c then Rz.ok (PyData.int ((cI c).idxOf (x : Int) : Nat)) else .st) = _
  rw [if_pos (List.mem_map.mpr ⟨x, h, rfl⟩), idx_cI]
theorem perm_mem {c : List Nat} (h : isPerm n c) {x : Nat} (hx : x < n) : x ∈ c := (List.Perm.mem_iff h).mpr (List.mem_range.mpr hx)
theorem idx_at {c : List Nat} {x : Nat} (h : x ∈ c) : c.getD (c.idxOf x) 0 = x := by
  have hl := List.idxOf_lt_length_iff.mpr h
  rw [getD_el hl, List.getElem_idxOf hl]
theorem lM_ok {n : Nat} {m : List (List Nat)} (h : Lat n m) {i : Nat} {ρ : En} (h0 : gVar i ρ = .ok (dM m)) : gCall (on1 dLen) (aCons (gVar i) aNil) ρ = .ok (dI n) := by
  rw [call1 h0, len_M, h.len]
/-- the end that all laws share -/
theorem law_end {m : GS} {N : Nat} (h : ∀ ns : List Int, ns.length ≤ 63 → (m (startE N [ro ns])).rz = .ok (.bool true)) : ∀ ds, ds.length = 1 → gLaw ds = .st ∨ (m (startE N ds)).rz = gLaw ds := by
  intro ds _
  by_cases hh : ∃ ns : List Int, ns.length ≤ 63 ∧ ds = [ro ns]
  · right
    obtain ⟨ns, hl, rfl⟩ := hh
    rw [gLaw_ok hl]
    exact h ns hl
  · exact .inl (gLaw_st fun ns hl e => hh ⟨ns, hl, e⟩)
end DL
/-! part Ev -/
namespace DL
open PySem
/-! ### runs: a statement's outcome, told by what is asked of it -/
@[irreducible] def Run (s : GS) (ρ : En) (P : Out → Prop) : Prop := P (s ρ)
theorem rz_run {m : GS} {ρ : En} {r : Rz D} (h : Run m ρ fun o => o.rz = r) : (m ρ).rz = r := by
  unfold Run at h
  exact h
theorem run_out {m : GS} {ρ : En} {P : Out → Prop} (h : Run m ρ P) : P (m ρ) := by
  unfold Run at h
  exact h
theorem run_mk {m : GS} {ρ : En} {P : Out → Prop} (h : P (m ρ)) : Run m ρ P := by
  unfold Run
  exact h
theorem run_of {s : GS} {ρ : En} {o : Out} {P : Out → Prop} (h : s ρ = o) (k : P o) : Run s ρ P := by
  unfold Run
  rw [h]
  exact k
theorem run_end {ρ : En} {P : Out → Prop} (h : P (.nx ρ)) : Run sNil ρ P := run_mk h
theorem run_skip {u : GS} {ρ : En} {P : Out → Prop} (h : Run u ρ P) : Run (sSeq sNil u) ρ P := run_mk (run_out h)
theorem run_seq {a b u : GS} {ρ : En} {P : Out → Prop} (h : Run (sSeq a (sSeq b u)) ρ P) : Run (sSeq (sSeq a b) u) ρ P := by
  unfold Run at h
  have e : sSeq (sSeq a b) u ρ = sSeq a (sSeq b u) ρ := by
    unfold sSeq
    cases a ρ <;> rfl
  unfold Run
  rw [e]
  exact h
theorem run_nx {s u : GS} {ρ ρ' : En} {P : Out → Prop} (h : s ρ = .nx ρ') (k : Run u ρ' P) : Run (sSeq s u) ρ P := by
  unfold Run at k ⊢
  rw [s_seq h]
  exact k
theorem run_ex {s u : GS} {ρ : En} {c : Str} {P : Out → Prop} (h : s ρ = .ex c) (k : P (.ex c)) : Run (sSeq s u) ρ P := by
  unfold Run
  rw [st_ex h]
  exact k
theorem run_set {os : List Nat} {i : Nat} {a : G} {u : GS} {ρ : En} {d : D} {P : Out → Prop} (h : a (mk os ρ) = .ok d) (k : Run u (ρ.set i (some d)) P) : Run (sSeq (sSet os (tgN i) a) u) ρ P := run_nx (st_set h) k
theorem run_set_ex {os : List Nat} {tg : TgD} {a : G} {u : GS} {ρ : En} {c : Str} {P : Out → Prop} (h : a (mk os ρ) = .ex c) (k : P (.ex c)) : Run (sSeq (sSet os tg a) u) ρ P := by
  refine run_ex ?_ k
  unfold sSet
  rw [h]
  rfl
theorem run_setT {os is : List Nat} {a : G} {u : GS} {ρ : En} {ds : List D} {P : Out → Prop} (h : a (mk os ρ) = .ok (.tuple ds)) (hl : ds.length = is.length) (k : Run u (setsE ρ is ds) P) : Run (sSeq (sSet os (tgT is) a) u) ρ P := by
  refine run_nx (ρ' := setsE ρ is ds) ?_ k
  unfold sSet
  rw [h, Rz.out_ok, r_tgT, if_pos hl]
theorem run_setB {i : Nat} {a : G} {u : GS} {ρ : En} {d : D} {P : Out → Prop} (h : a ρ = .ok d) (hs : isSc d = true) (k : Run u (ρ.set i (some d)) P) : Run (sSeq (sSetB i a) u) ρ P := by
  refine run_nx (ρ' := ρ.set i (some d)) ?_ k
  unfold sSetB gSc
  rw [h, Rz.bind_ok, if_pos hs]
  rfl
theorem run_par {os : List Nat} {i j : Nat} {as : GA} {u : GS} {ρ : En} {d e : D} {P : Out → Prop} (h : as (mk os ρ) = .ok [d, e]) (k : Run u ((ρ.set i (some d)).set j (some e)) P) : Run (sSeq (sPar os i j as) u) ρ P := by
  refine run_nx (ρ' := (ρ.set i (some d)).set j (some e)) ?_ k
  unfold sPar
  rw [h]
  rfl
theorem run_expr {os : List Nat} {a : G} {u : GS} {ρ : En} {d : D} {P : Out → Prop} (h : a (mk os ρ) = .ok d) (k : Run u ρ P) : Run (sSeq (sExpr os a) u) ρ P := run_nx (st_expr h) k
theorem run_expr_ex {os : List Nat} {a : G} {u : GS} {ρ : En} {c : Str} {P : Out → Prop} (h : a (mk os ρ) = .ex c) (k : P (.ex c)) : Run (sSeq (sExpr os a) u) ρ P := by
  refine run_ex ?_ k
  unfold sExpr
  rw [h]
  rfl
theorem run_ret {a : G} {u : GS} {ρ : En} {d : D} {P : Out → Prop} (h : a ρ = .ok d) (k : P (.rt d)) : Run (sSeq (sRet a) u) ρ P := by
  unfold Run
  rw [st_rt (st_ret h)]
  exact k
theorem run_ret_ex {a : G} {u : GS} {ρ : En} {c : Str} {P : Out → Prop} (h : a ρ = .ex c) (k : P (.ex c)) : Run (sSeq (sRet a) u) ρ P := by
  refine run_ex ?_ k
  unfold sRet
  rw [h]
  rfl
theorem run_raise {c : Str} {u : GS} {ρ : En} {P : Out → Prop} (k : P (.ex c)) : Run (sSeq (sRaise c) u) ρ P := run_mk k
theorem run_brk {u : GS} {ρ : En} {P : Out → Prop} (k : P (.bk ρ)) : Run (sSeq sBrk u) ρ P := run_mk k
theorem run_if {t : GT} {a b u : GS} {ρ : En} {k : Bool} {P : Out → Prop} (h : t ρ = .ok k) (ha : k = true → Run (sSeq a u) ρ P) (hb : k = false → Run (sSeq b u) ρ P) : Run (sSeq (sIf t a b) u) ρ P := by
  cases k with
  | true =>
    have e : sSeq (sIf t a b) u ρ = sSeq a u ρ := by
      unfold sSeq
      rw [st_if_t h]
    have ha := run_out (ha rfl)
    unfold Run
    rw [e]
    exact ha
  | false =>
    have e : sSeq (sIf t a b) u ρ = sSeq b u ρ := by
      unfold sSeq
      rw [st_if_f h]
    have hb := run_out (hb rfl)
    unfold Run
    rw [e]
    exact hb
theorem run_ifT {t : GT} {a b u : GS} {ρ : En} {k : Bool} {P : Out → Prop} (h : t ρ = .ok k) (hk : k = true) (ha : Run (sSeq a u) ρ P) : Run (sSeq (sIf t a b) u) ρ P := run_if h (fun _ => ha) (fun e => by rw [hk] at e; cases e)
theorem run_ifF {t : GT} {a b u : GS} {ρ : En} {k : Bool} {P : Out → Prop} (h : t ρ = .ok k) (hk : k = false) (hb : Run (sSeq b u) ρ P) : Run (sSeq (sIf t a b) u) ρ P := run_if h (fun e => by rw [hk] at e; cases e) (fun _ => hb)
theorem run_if_ex {t : GT} {a b u : GS} {ρ : En} {c : Str} {P : Out → Prop} (h : t ρ = .ex c) (k : P (.ex c)) : Run (sSeq (sIf t a b) u) ρ P := by
  refine run_ex ?_ k
  unfold sIf
  rw [h]
  rfl
theorem run_app {os : List Nat} {i : Nat} {a : G} {u : GS} {ρ : En} {xs : List D} {d : D} {P : Out → Prop} (hx : ρ[i]? = some (some (.list xs))) (h : a (mk os ρ) = .ok d) (hl : xs.length < lim) (k : Run u (ρ.set i (some (.list (xs ++ [d])))) P) : Run (sSeq (sApp os i a) u) ρ P := by
  refine run_nx ?_ k
  unfold sApp
  rw [hx]
  simp only
  rw [h, Rz.out_ok, if_pos hl]
theorem run_ext {os : List Nat} {i : Nat} {a : G} {u : GS} {ρ : En} {xs ys : List D} {P : Out → Prop} (hx : ρ[i]? = some (some (.list xs))) (h : a (mk os ρ) = .ok (.list ys)) (hl : xs.length + ys.length ≤ lim) (k : Run u (ρ.set i (some (.list (xs ++ ys)))) P) : Run (sSeq (sExt os i a) u) ρ P := by
  refine run_nx ?_ k
  unfold sExt
  rw [hx]
  simp only
  rw [h, Rz.out_ok]
  simp only
  rw [if_pos hl]
theorem run_put1 {os : List Nat} {i : Nat} {j a : G} {u : GS} {ρ : En} {r : List Nat} {x z : Nat} {P : Out → Prop} (h : ρ[i]? = some (some (lR r))) (ha : a (mk os ρ) = .ok (dI z)) (hj : j ρ = .ok (dI x)) (hx : x < r.length) (k : Run u (ρ.set i (some (lR (r.set x z)))) P) : Run (sSeq (sPut os i j a) u) ρ P := run_nx (s_put1 h ha hj hx) k
theorem run_put2 {i : Nat} {j k a : G} {u : GS} {ρ : En} {m : List (List Nat)} {x y z : Nat} {P : Out → Prop} (h : ρ[i]? = some (some (lM m))) (ha : a ρ = .ok (dI z)) (hj : j ρ = .ok (dI x)) (hk : k ρ = .ok (dI y)) (hx : x < m.length) (hy : y < (m.getD x []).length) (q : Run u (ρ.set i (some (lM (m.set x ((m.getD x []).set y z))))) P) : Run (sSeq (sPut2 i j k a) u) ρ P := run_nx (s_put2 h ha hj hk hx hy) q
/-- what is asked of a loop's turn -/
def Turn (I : En → Prop) (u : GS) (P : Out → Prop) : Out → Prop
  | .nx ρ => I ρ | .ct ρ => I ρ | .bk ρ => Run u ρ P | .rt d => P (.rt d) | .ex c => P (.ex c) | .st => False
theorem run_forX {α : Type} [Inhabited α] {os : List Nat} {it : GA} {tg : TgD} {b u : GS} {ρ : En} {P : Out → Prop} {xs : List α} {enc : α → D} (I : Nat → En → Prop) (hit : it (mk os ρ) = .ok (xs.map enc)) (h0 : I 0 ρ)
    (hb : ∀ j, j < xs.length → ∀ ρ, I j ρ → ∃ ρ1, tg.go (enc (xs.getD j default)) ρ = some ρ1 ∧ Run b ρ1 (Turn (I (j + 1)) u P)) (hu : ∀ ρ, I xs.length ρ → Run u ρ P) : Run (sSeq (sFor os it tg b) u) ρ P := by
  have key : ∀ (ys : List α) (k : Nat) (ρ : En), ys = xs.drop k → k + ys.length = xs.length → I k ρ → P ((forGo tg b (ys.map enc) ρ).andThen u) := by
    intro ys
    induction ys with
    | nil =>
      intro k ρ _ hk hI
      have : k = xs.length := by simpa using hk
      subst this
      exact run_out (hu ρ hI)
    | cons y ys ih =>
      intro k ρ hys hk hI
      have hkl : k < xs.length := by
        rw [List.length_cons] at hk
        omega
      have hy : y = xs.getD k default ∧ ys = xs.drop (k + 1) := by
        rw [List.drop_eq_getElem_cons hkl] at hys
        injection hys with h1 h2
        exact ⟨by rw [h1, getD_el hkl], h2⟩
      obtain ⟨ρ1, g, r⟩ := hb k hkl ρ hI
      rw [← hy.1] at g
      rw [List.map_cons]
      unfold forGo
      simp only [g]
      unfold Run at r
      cases hbo : b ρ1 with
      | nx ρ2 => rw [hbo] at r; exact ih (k + 1) ρ2 hy.2 (by rw [List.length_cons] at hk; omega) r
      | ct ρ2 => rw [hbo] at r; exact ih (k + 1) ρ2 hy.2 (by rw [List.length_cons] at hk; omega) r
      | bk ρ2 => rw [hbo] at r; exact run_out r
      | rt d => rw [hbo] at r; exact r
      | ex c => rw [hbo] at r; exact r
      | st => rw [hbo] at r; exact r.elim
  unfold Run sSeq
  rw [s_for hit]
  exact key xs 0 ρ rfl (by rw [Nat.zero_add]) h0
/-- a loop with one name -/
theorem run_for {α : Type} [Inhabited α] {os : List Nat} {it : GA} {i : Nat} {b u : GS} {ρ : En} {P : Out → Prop} {xs : List α} {enc : α → D} (I : Nat → En → Prop) (hit : it (mk os ρ) = .ok (xs.map enc)) (h0 : I 0 ρ)
    (hb : ∀ j, j < xs.length → ∀ ρ, I j ρ → Run b (ρ.set i (some (enc (xs.getD j default)))) (Turn (I (j + 1)) u P)) (hu : ∀ ρ, I xs.length ρ → Run u ρ P) : Run (sSeq (sFor os it (tgN i) b) u) ρ P :=
  run_forX I hit h0 (fun j hj ρ h => ⟨_, rfl, hb j hj ρ h⟩) hu
/-- over a range -/
theorem run_forR {os : List Nat} {it : GA} {i : Nat} {b u : GS} {ρ : En} {P : Out → Prop} {n : Nat} (I : Nat → En → Prop) (hit : it (mk os ρ) = .ok ((List.range n).map dI)) (h0 : I 0 ρ)
    (hb : ∀ j, j < n → ∀ ρ, I j ρ → Run b (ρ.set i (some (dI j))) (Turn (I (j + 1)) u P)) (hu : ∀ ρ, I n ρ → Run u ρ P) : Run (sSeq (sFor os it (tgN i) b) u) ρ P := by
  refine run_for I hit h0 (fun j hj ρ h => ?_) (fun ρ h => hu ρ (by rw [List.length_range] at h; exact h))
  rw [List.length_range] at hj
  rw [show (List.range n).getD j default = j by simp [hj]]
  exact hb j hj ρ h
/-- over a range, pairs -/
theorem run_forP {os : List Nat} {it : GA} {i k : Nat} {b u : GS} {ρ : En} {P : Out → Prop} {n : Nat} {e1 e2 : Nat → D} (I : Nat → En → Prop) (hit : it (mk os ρ) = .ok ((List.range n).map fun j => wkD [e1 j, e2 j])) (h0 : I 0 ρ)
    (hb : ∀ j, j < n → ∀ ρ, I j ρ → Run b ((ρ.set i (some (e1 j))).set k (some (e2 j))) (Turn (I (j + 1)) u P)) (hu : ∀ ρ, I n ρ → Run u ρ P) : Run (sSeq (sFor os it (tgT [i, k]) b) u) ρ P := by
  refine run_forX (α := Nat) I hit h0 (fun j hj ρ h => ⟨(ρ.set i (some (e1 j))).set k (some (e2 j)), ?_, ?_⟩) (fun ρ h => hu ρ (by rw [List.length_range] at h; exact h))
  · rw [List.length_range] at hj
    rw [show (List.range n).getD j default = j by simp [hj]]
    rfl
  · rw [List.length_range] at hj
    exact hb j hj ρ h
theorem run_while {N n : Nat} {t : GT} {b u : GS} {ρ : En} {P : Out → Prop} (I : Nat → En → Prop) (h0 : I n ρ) (hn : n < N)
    (hs : ∀ j, ∀ ρ, I j ρ → ∃ k, t ρ = .ok k ∧ (k = true → Run b ρ (Turn (fun ρ2 => ∃ i, i < j ∧ I i ρ2) u P)) ∧ (k = false → Run u ρ P)) : Run (sSeq (sWhile N t b) u) ρ P := by
  have key : ∀ (N n : Nat) (ρ : En), n < N → I n ρ → P ((whileGo t b N ρ).andThen u) := by
    intro N
    induction N with
    | zero => intro n ρ h; exact absurd h (Nat.not_lt_zero _)
    | succ N ih =>
      intro n ρ h hI
      obtain ⟨k, h1, h2, h3⟩ := hs n ρ hI
      unfold whileGo
      rw [h1, Rz.out_ok]
      cases k with
      | false => exact run_out (h3 rfl)
      | true =>
        have r := h2 rfl
        unfold Run at r
        rw [if_pos rfl]
        cases hbo : b ρ with
        | nx ρ2 => rw [hbo] at r; obtain ⟨i, hi, hI2⟩ := r; exact ih i ρ2 (by omega) hI2
        | ct ρ2 => rw [hbo] at r; obtain ⟨i, hi, hI2⟩ := r; exact ih i ρ2 (by omega) hI2
        | bk ρ2 => rw [hbo] at r; exact run_out r
        | rt d => rw [hbo] at r; exact r
        | ex c => rw [hbo] at r; exact r
        | st => rw [hbo] at r; exact r.elim
  exact run_mk (key N n ρ hn h0)
/-! ### expressions -/
theorem ev_var {i : Nat} {ρ : En} {d : D} (h : ρ[i]? = some (some d)) : gVar i ρ = .ok d := by
  unfold gVar
  rw [h]
theorem ev_lit (k : Nat) (ρ : En) : gC (.int (@OfNat.ofNat Int k instOfNat)) ρ = .ok (dI (OfNat.ofNat k)) := rfl
theorem ev_C (d : D) (ρ : En) : gC d ρ = .ok d := rfl
theorem ev_g2 {op : D → D → Rz D} {a b : G} {ρ : En} {x y d : D} (h1 : a ρ = .ok x) (h2 : b ρ = .ok y) (h3 : op x y = .ok d) : g2 op a b ρ = .ok d := (gOp2 h1 h2).trans h3
theorem ev_g1 {op : D → Rz D} {a : G} {ρ : En} {x d : D} (h1 : a ρ = .ok x) (h3 : op x = .ok d) : g1 op a ρ = .ok d := by
  unfold g1
  rw [h1]
  exact h3
theorem ev_call1 {op : D → Rz D} {a : G} {ρ : En} {x d : D} (h1 : a ρ = .ok x) (h3 : op x = .ok d) : gCall (on1 op) (aCons a aNil) ρ = .ok d := (call1 h1).trans h3
theorem ev_callF {f : List D → Rz D} {as : GA} {ρ : En} {xs : List D} {d : D} (h1 : as ρ = .ok xs) (h3 : f xs = .ok d) : gCall f as ρ = .ok d := by
  unfold gCall
  rw [h1]
  exact h3
theorem ex_callF {f : List D → Rz D} {as : GA} {ρ : En} {xs : List D} {c : Str} (h1 : as ρ = .ok xs) (h3 : f xs = .ex c) : gCall f as ρ = .ex c := by
  unfold gCall
  rw [h1]
  exact h3
theorem ev_a0 (ρ : En) : aNil ρ = .ok [] := rfl
theorem ev_a1 {a : G} {as : GA} {ρ : En} {x : D} {xs : List D} (h1 : a ρ = .ok x) (h2 : as ρ = .ok xs) : aCons a as ρ = .ok (x :: xs) := by
  unfold aCons
  rw [h1, h2]
  rfl
theorem ev_aI0 (ρ : En) : aNil ρ = .ok (([] : List Nat).map dI) := rfl
theorem ev_aI1 {a : G} {as : GA} {ρ : En} {x : Nat} {xs : List Nat} (h1 : a ρ = .ok (dI x)) (h2 : as ρ = .ok (xs.map dI)) : aCons a as ρ = .ok ((x :: xs).map dI) := ev_a1 h1 h2
theorem ev_aR0 (ρ : En) : aNil ρ = .ok (([] : List (List Nat)).map dR) := rfl
theorem ev_aR1 {a : G} {as : GA} {ρ : En} {x : List Nat} {xs : List (List Nat)} (h1 : a ρ = .ok (dR x)) (h2 : as ρ = .ok (xs.map dR)) : aCons a as ρ = .ok ((x :: xs).map dR) := ev_a1 h1 h2
theorem ev_tup {as : GA} {ρ : En} {xs : List D} (h : as ρ = .ok xs) (hl : xs.length ≤ lim) : gTup as ρ = .ok (.tuple xs) := by
  unfold gTup
  rw [h, Rz.bind_ok, if_pos hl]
theorem ev_lst {as : GA} {ρ : En} {xs : List D} (h : as ρ = .ok xs) (hl : xs.length ≤ lim) : gLst as ρ = .ok (.list xs) := by
  unfold gLst
  rw [h, Rz.bind_ok, if_pos hl]
theorem ev_tupI {as : GA} {ρ : En} {xs : List Nat} (h : as ρ = .ok (xs.map dI)) (hl : xs.length ≤ lim) : gTup as ρ = .ok (dR xs) := ev_tup h (by rw [List.length_map]; exact hl)
theorem ev_tupR {as : GA} {ρ : En} {xs : List (List Nat)} (h : as ρ = .ok (xs.map dR)) (hl : xs.length ≤ lim) : gTup as ρ = .ok (dM xs) := ev_tup h (by rw [List.length_map]; exact hl)
theorem ev_lstI {as : GA} {ρ : En} {xs : List Nat} (h : as ρ = .ok (xs.map dI)) (hl : xs.length ≤ lim) : gLst as ρ = .ok (lR xs) := ev_lst h (by rw [List.length_map]; exact hl)
theorem ev_lstR {as : GA} {ρ : En} {xs : List (List Nat)} (h : as ρ = .ok (xs.map dR)) (hl : xs.length ≤ lim) : gLst as ρ = .ok (lL xs) := ev_lst h (by rw [List.length_map]; exact hl)
theorem ev_not {a : G} {ρ : En} {d : D} {k : Bool} (h : a ρ = .ok d) (h2 : truth d = .ok k) : gNot a ρ = .ok (.bool !k) := by
  unfold gNot
  rw [h, Rz.bind_ok, h2]
  rfl
theorem ev_and {a b : G} {ρ : En} {k : Bool} {d : D} (h : a ρ = .ok (.bool k)) (h2 : k = true → b ρ = .ok d) (h3 : k = false → d = .bool false) : gAnd a b ρ = .ok d := by
  unfold gAnd
  rw [h, Rz.bind_ok, truth_bool, Rz.bind_ok]
  cases k with
  | true => exact h2 rfl
  | false => rw [h3 rfl]; rfl
theorem ev_andB {a b : G} {ρ : En} {k l : Bool} (h : a ρ = .ok (.bool k)) (h2 : k = true → b ρ = .ok (.bool l)) : gAnd a b ρ = .ok (.bool (k && l)) := by
  cases k with
  | true => exact ev_and h (fun _ => h2 rfl) (fun e => by cases e)
  | false => exact ev_and h (fun e => by cases e) (fun _ => rfl)
theorem ev_orB {a b : G} {ρ : En} {k l : Bool} (h : a ρ = .ok (.bool k)) (h2 : k = false → b ρ = .ok (.bool l)) : gOr a b ρ = .ok (.bool (k || l)) := by
  unfold gOr
  rw [h, Rz.bind_ok, truth_bool, Rz.bind_ok]
  cases k with
  | true => rfl
  | false => exact h2 rfl
theorem ev_M {k : D → Bool} {op : D → D → Rz D} {a b : G} {ρ : En} {x y d : D} (h1 : a ρ = .ok x) (hk : k x = true) (h2 : b ρ = .ok y) (h3 : op x y = .ok d) : gM k op a b ρ = .ok d := by
  unfold gM
  rw [h1, Rz.bind_ok, if_pos hk, h2, Rz.bind_ok, h3]
theorem ev_sl {a : G} {lo hi : GO} {ρ : En} {x d : D} {l h : Option Int} (h1 : a ρ = .ok x) (h2 : lo ρ = .ok l) (h3 : hi ρ = .ok h) (h4 : dSl x l h = .ok d) : gSl a lo hi ρ = .ok d := by
  unfold gSl
  rw [h1, Rz.bind_ok, h2, Rz.bind_ok, h3, Rz.bind_ok, h4]
theorem ev_oNo (ρ : En) : oNo ρ = .ok none := rfl
theorem ev_oSm {a : G} {ρ : En} {i : Int} (h : a ρ = .ok (.int i)) : oSm a ρ = .ok (some i) := by
  unfold oSm
  rw [h]
  rfl
theorem ev_lRg {as : GA} {ρ : En} {n : Nat} (h : iRg as ρ = .ok ((List.range n).map dI)) : gListRg as ρ = .ok (lR (List.range n)) := by
  unfold gListRg
  rw [h]
  rfl
theorem ev_tRg {as : GA} {ρ : En} {n : Nat} (h : iRg as ρ = .ok ((List.range n).map dI)) : gTupRg as ρ = .ok (dR (List.range n)) := by
  unfold gTupRg
  rw [h]
  rfl
/-! tests -/
theorem tt_val {a : G} {ρ : En} {k : Bool} (h : a ρ = .ok (.bool k)) : tVal a ρ = .ok k := by
  unfold tVal
  rw [h]
  rfl
theorem tt_chn {o1 o2 : D → D → Rz D} {a b c : G} {ρ : En} {x y z : D} {k l : Bool} (h1 : a ρ = .ok x) (h2 : b ρ = .ok y) (h3 : o1 x y = .ok (.bool k)) (h4 : k = true → c ρ = .ok z) (h5 : k = true → o2 y z = .ok (.bool l)) : tChn o1 o2 a b c ρ = .ok (k && l) := by
  unfold tChn gChain
  rw [h1, Rz.bind_ok, h2, Rz.bind_ok, h3, Rz.bind_ok, toBl_bool, Rz.bind_ok]
  cases k with
  | true =>
    rw [if_pos rfl, h4 rfl, Rz.bind_ok, h5 rfl]
    rfl
  | false => rfl
/-! what is walked -/
theorem it_rng1 {a : G} {ρ : En} {n : Nat} (h : a ρ = .ok (dI n)) (hn : n ≤ 1000000) : iRg (aCons a aNil) ρ = .ok ((List.range n).map dI) := by
  unfold iRg
  rw [ev_a1 h (ev_a0 ρ), Rz.bind_ok, rngOf_1, sml_nat hn, rng0]
  rfl
theorem it_rng2 {a b : G} {ρ : En} {m n : Nat} (h : a ρ = .ok (dI m)) (h2 : b ρ = .ok (dI n)) (hm : m ≤ 1000000) (hn : n ≤ 1000000) : iRg (aCons a (aCons b aNil)) ρ = .ok ((List.range (n - m)).map fun k => dI (m + k)) := by
  unfold iRg
  rw [ev_a1 h (ev_a1 h2 (ev_a0 ρ)), Rz.bind_ok, rngOf_2, sml_nat hm, sml_nat hn, rng_nat, List.range'_eq_map_range, List.map_map]
  rfl
theorem it_R {a : G} {ρ : En} {r : List Nat} (h : a ρ = .ok (dR r)) : iSeq a ρ = .ok (r.map dI) := by
  unfold iSeq
  rw [h]
  rfl
theorem it_M {a : G} {ρ : En} {m : List (List Nat)} (h : a ρ = .ok (dM m)) : iSeq a ρ = .ok (m.map dR) := by
  unfold iSeq
  rw [h]
  rfl
theorem it_list {α : Type} {a : G} {ρ : En} {xs : List α} {enc : α → D} (h : a ρ = .ok (.list (xs.map enc))) : iSeq a ρ = .ok (xs.map enc) := by
  unfold iSeq
  rw [h]
  rfl
theorem it_tup {α : Type} {a : G} {ρ : En} {xs : List α} {enc : α → D} (h : a ρ = .ok (.tuple (xs.map enc))) : iSeq a ρ = .ok (xs.map enc) := by
  unfold iSeq
  rw [h]
  rfl
theorem it_enR {a : G} {ρ : En} {r : List Nat} (h : a ρ = .ok (dR r)) : iEn a ρ = .ok ((List.range r.length).map fun j => wkD [dI j, dI (r.getD j 0)]) := it_enumR h
theorem it_enM {a : G} {ρ : En} {m : List (List Nat)} (h : a ρ = .ok (dM m)) : iEn a ρ = .ok ((List.range m.length).map fun j => wkD [dI j, dR (m.getD j [])]) := by
  unfold iEn
  rw [h, Rz.bind_ok]
  show Rz.ok (enumOf (m.map dR)) = _
  rw [enum_map dR []]
theorem it_enlR {a : G} {ρ : En} {r : List Nat} (h : a ρ = .ok (lR r)) : iEn a ρ = .ok ((List.range r.length).map fun j => wkD [dI j, dI (r.getD j 0)]) := by
  unfold iEn
  rw [h, Rz.bind_ok]
  show Rz.ok (enumOf (r.map dI)) = _
  rw [enum_map dI 0]
theorem it_enL {a : G} {ρ : En} {m : List (List Nat)} (h : a ρ = .ok (lL m)) : iEn a ρ = .ok ((List.range m.length).map fun j => wkD [dI j, dR (m.getD j [])]) := it_enumL h
theorem it_enMn {n : Nat} {a : G} {ρ : En} {m : List (List Nat)} (h : a ρ = .ok (dM m)) (hL : m.length = n) : iEn a ρ = .ok ((List.range n).map fun j => wkD [dI j, dR (m.getD j [])]) := by
  subst hL
  exact it_enM h
theorem it_enRn {n : Nat} {a : G} {ρ : En} {r : List Nat} (h : a ρ = .ok (dR r)) (hL : r.length = n) : iEn a ρ = .ok ((List.range n).map fun j => wkD [dI j, dI (r.getD j 0)]) := by
  subst hL
  exact it_enR h
/-! comprehensions -/
theorem ev_lc {α : Type} {it : GA} {i : Nat} {t : GT} {e : G} {vs : List Nat} {ρ : En} {xs : List α} {enc : α → D} {p : α → Bool} {f : α → D} (hit : it ρ = .ok (xs.map enc)) (hl : xs.length ≤ lim)
    (h : ∀ a ∈ xs, t ((wipeE ρ vs).set i (some (enc a))) = .ok (p a) ∧ (p a = true → e ((wipeE ρ vs).set i (some (enc a))) = .ok (f a))) : gLc it (tgN i) t e vs ρ = .ok (.list ((xs.filter p).map f)) := g_lc enc p f hit hl rfl h
theorem ev_lcm {α : Type} {it : GA} {i : Nat} {e : G} {vs : List Nat} {ρ : En} {xs : List α} {enc : α → D} {f : α → D} (hit : it ρ = .ok (xs.map enc)) (hl : xs.length ≤ lim)
    (h : ∀ a ∈ xs, e ((wipeE ρ vs).set i (some (enc a))) = .ok (f a)) : gLc it (tgN i) tYs e vs ρ = .ok (.list (xs.map f)) := g_lcm enc f hit hl rfl h
theorem ev_lcmI {α : Type} {it : GA} {i : Nat} {e : G} {vs : List Nat} {ρ : En} {xs : List α} {enc : α → D} {f : α → Nat} (hit : it ρ = .ok (xs.map enc)) (hl : xs.length ≤ lim)
    (h : ∀ a ∈ xs, e ((wipeE ρ vs).set i (some (enc a))) = .ok (dI (f a))) : gLc it (tgN i) tYs e vs ρ = .ok (lR (xs.map f)) := by
  rw [ev_lcm (f := fun a => dI (f a)) hit hl h]
  show _ = Rz.ok (PyData.list ((xs.map f).map dI))
  rw [List.map_map]
  rfl
theorem ev_lcmR {α : Type} {it : GA} {i : Nat} {e : G} {vs : List Nat} {ρ : En} {xs : List α} {enc : α → D} {f : α → List Nat} (hit : it ρ = .ok (xs.map enc)) (hl : xs.length ≤ lim)
    (h : ∀ a ∈ xs, e ((wipeE ρ vs).set i (some (enc a))) = .ok (dR (f a))) : gLc it (tgN i) tYs e vs ρ = .ok (lL (xs.map f)) := by
  rw [ev_lcm (f := fun a => dR (f a)) hit hl h]
  show _ = Rz.ok (PyData.list ((xs.map f).map dR))
  rw [List.map_map]
  rfl
theorem ev_lcmL {α : Type} {it : GA} {i : Nat} {e : G} {vs : List Nat} {ρ : En} {xs : List α} {enc : α → D} {f : α → List Nat} (hit : it ρ = .ok (xs.map enc)) (hl : xs.length ≤ lim)
    (h : ∀ a ∈ xs, e ((wipeE ρ vs).set i (some (enc a))) = .ok (lR (f a))) : gLc it (tgN i) tYs e vs ρ = .ok (lM (xs.map f)) := by
  rw [ev_lcm (f := fun a => lR (f a)) hit hl h]
  show _ = Rz.ok (PyData.list ((xs.map f).map lR))
  rw [List.map_map]
  rfl
/-- a filter of what is walked -/
theorem ev_lcf {α : Type} {it : GA} {i : Nat} {t : GT} {vs : List Nat} {ρ : En} {xs : List α} {enc : α → D} {p : α → Bool} (hit : it ρ = .ok (xs.map enc)) (hl : xs.length ≤ lim) (hv : ∀ d, gVar i ((wipeE ρ vs).set i (some d)) = .ok d)
    (h : ∀ a ∈ xs, t ((wipeE ρ vs).set i (some (enc a))) = .ok (p a)) : gLc it (tgN i) t (gVar i) vs ρ = .ok (.list ((xs.filter p).map enc)) := ev_lc hit hl fun a ha => ⟨h a ha, fun _ => hv _⟩
theorem ev_lcpI {it : GA} {i j : Nat} {e : G} {vs : List Nat} {ρ : En} {n : Nat} {e1 e2 : Nat → D} {f : Nat → Nat} (hit : it ρ = .ok ((List.range n).map fun a => wkD [e1 a, e2 a])) (hl : n ≤ lim)
    (h : ∀ a, a < n → e (((wipeE ρ vs).set i (some (e1 a))).set j (some (e2 a))) = .ok (dI (f a))) : gLc it (tgT [i, j]) tYs e vs ρ = .ok (lR ((List.range n).map f)) := by
  rw [g_lcp e1 e2 (fun a => dI (f a)) hit (by rw [List.length_range]; exact hl) rfl fun a ha => h a (List.mem_range.mp ha)]
  show _ = Rz.ok (PyData.list (((List.range n).map f).map dI))
  rw [List.map_map]
  rfl
/-! ### operators on naturals, rows, squares -/
theorem add_I (a b : Nat) : dAdd (dI a) (dI b) = .ok (dI (a + b)) := rfl
theorem sub_I {a b : Nat} (h : b ≤ a) : dSub (dI a) (dI b) = .ok (dI (a - b)) := by
  show Rz.ok (PyData.int ((a : Int) - b)) = Rz.ok (PyData.int ((a - b : Nat) : Int))
  rw [Int.ofNat_sub h]
theorem mul_I {a b : Nat} (h : a ≤ 1000000) : dMul (dI a) (dI b) = .ok (dI (a * b)) := by
  rw [dMul_ii, sml_nat h]
  rfl
theorem mod_I {a b : Nat} (h : 0 < b) : dMod (dI a) (dI b) = .ok (dI (a % b)) := by
  rw [dMod_ii, if_pos (by omega)]
  rfl
theorem mod_c (x : Int) {b : Nat} (h : 0 < b) : dMod (.int x) (dI b) = .ok (dI (x % b).toNat) := by
  rw [dMod_ii, if_pos (by omega)]
  show _ = Rz.ok (PyData.int (((x % (b : Int)).toNat : Nat) : Int))
  rw [Int.toNat_of_nonneg (Int.emod_nonneg _ (by omega))]
theorem fdv_I {a b : Nat} (h : 0 < b) (h2 : b ≤ 1000000) : dFdv (dI a) (dI b) = .ok (dI (a / b)) := by
  rw [dFdv_ii, decide_eq_true (by omega), decide_eq_true (by omega)]
  rfl
theorem lt_I (a b : Nat) : dLt (dI a) (dI b) = .ok (.bool (decide (a < b))) := by
  rw [dLt_ii]
  congr 2
  rw [Bool.eq_iff_iff, decide_eq_true_eq, decide_eq_true_eq]
  omega
theorem le_I (a b : Nat) : dLe (dI a) (dI b) = .ok (.bool (decide (a ≤ b))) := by
  rw [dLe_ii]
  congr 2
  rw [Bool.eq_iff_iff, decide_eq_true_eq, decide_eq_true_eq]
  omega
theorem gt_I (a b : Nat) : dGt (dI a) (dI b) = .ok (.bool (decide (b < a))) := by
  rw [dGt_ii]
  congr 2
  rw [Bool.eq_iff_iff, decide_eq_true_eq, decide_eq_true_eq]
  omega
theorem ge_I (a b : Nat) : dGe (dI a) (dI b) = .ok (.bool (decide (b ≤ a))) := by
  rw [dGe_ii]
  congr 2
  rw [Bool.eq_iff_iff, decide_eq_true_eq, decide_eq_true_eq]
  omega
theorem isN_R (r : List Nat) : dIsN (dR r) = .ok (.bool false) := rfl
theorem isN_M (m : List (List Nat)) : dIsN (dM m) = .ok (.bool false) := rfl
theorem isN_n : dIsN .none = .ok (.bool true) := rfl
theorem isN_l (xs : List D) : dIsN (.list xs) = .ok (.bool false) := rfl
theorem notN_R (r : List Nat) : dNotN (dR r) = .ok (.bool true) := rfl
theorem notN_M (m : List (List Nat)) : dNotN (dM m) = .ok (.bool true) := rfl
theorem notN_n : dNotN .none = .ok (.bool false) := rfl
theorem notN_l (xs : List D) : dNotN (.list xs) = .ok (.bool true) := rfl
theorem ix_row {n : Nat} {m : List (List Nat)} (h : Lat n m) {i : Nat} (hi : i < n) : dIx (dM m) (dI i) = .ok (dR (m.getD i [])) := ix_M (by rw [h.len]; exact hi)
theorem ix_cel {n : Nat} {m : List (List Nat)} (h : Lat n m) {i j : Nat} (hi : i < n) (hj : j < n) : dIx (dR (m.getD i [])) (dI j) = .ok (dI (atM m i j)) := ix_R (by rw [h.rlen hi]; exact hj)
theorem ix_lL {xs : List (List Nat)} {i : Nat} (h : i < xs.length) : dIx (lL xs) (dI i) = .ok (dR (xs.getD i [])) := by
  show orSt (atD (xs.map dR) (i : Int)) = _
  rw [at_mapD dR [] h]
  rfl
theorem ix_lf {α : Type} {xs : List α} {enc : α → D} {i : Nat} (h : i < xs.length) : dIx (.list (xs.map enc)) (dI i) = .ok (enc xs[i]) := ix_L enc h
theorem len_Ln {n : Nat} {m : List (List Nat)} (h : Lat n m) : dLen (dM m) = .ok (dI n) := by rw [len_M, h.len]
theorem len_row {n : Nat} {m : List (List Nat)} (h : Lat n m) {i : Nat} (hi : i < n) : dLen (dR (m.getD i [])) = .ok (dI n) := by rw [len_R, h.rlen hi]
theorem in_lR (c : Nat) (b : List Nat) : dIn (dI c) (lR b) = .ok (.bool (decide (c ∈ b))) := by
  show (if SeqAt.shaped (dI c) && SeqAt.shaped (lR b) then Rz.ok (PyData.bool ((b.map dI).any fun z => PyData.eqv z (dI c))) else .st) = _
  rw [shaped_int, sh_lR, any_I]
  rfl
theorem in_R (c : Nat) (b : List Nat) : dIn (dI c) (dR b) = .ok (.bool (decide (c ∈ b))) := by
  show ((orSt (intsD (b.map dI))).bind fun ns => Rz.ok (PyData.bool (ns.contains (c : Int)))) = _
  rw [ints_I]
  show Rz.ok (PyData.bool ((cI b).contains (c : Int))) = _
  rw [contains_cI]
theorem notIn_lL (p : List Nat) (xs : List (List Nat)) : dNotIn (dR p) (lL xs) = .ok (.bool (!decide (p ∈ xs))) := by
  have h := in_lL p xs
  change (if SeqAt.shaped (dR p) && SeqAt.shaped (lL xs) then Rz.ok (PyData.bool ((xs.map dR).any fun z => PyData.eqv z (dR p))) else .st) = _ at h
  show (if SeqAt.shaped (dR p) && SeqAt.shaped (lL xs) then Rz.ok (PyData.bool (!(xs.map dR).any fun z => PyData.eqv z (dR p))) else .st) = _
  rw [sh_R, sh_lL] at h ⊢
  have h := (Rz.ok.inj h)
  have h : ((xs.map dR).any fun z => PyData.eqv z (dR p)) = decide (p ∈ xs) := PyData.bool.inj h
  rw [h]
  rfl
theorem sumI (r : List Nat) : (cI r).sum = ((r.sum : Nat) : Int) := by
  induction r with
  | nil => rfl
  | cons a r ih =>
    show (a : Int) + (cI r).sum = _
    rw [ih, List.sum_cons]
    omega
theorem sum_R (r : List Nat) : dSum (dR r) = .ok (dI r.sum) := by
  show ((orSt (intsD (r.map dI))).bind fun ns => Rz.ok (PyData.int ns.sum)) = _
  rw [ints_I]
  show Rz.ok (PyData.int (cI r).sum) = _
  rw [sumI]
theorem sum_lR (r : List Nat) : dSum (lR r) = .ok (dI r.sum) := by
  show ((orSt (intsD (r.map dI))).bind fun ns => Rz.ok (PyData.int ns.sum)) = _
  rw [ints_I]
  show Rz.ok (PyData.int (cI r).sum) = _
  rw [sumI]
theorem truth_I (x : Nat) : truth (dI x) = .ok (!decide (x = 0)) := by
  show Rz.ok ((x : Int) != 0) = _
  congr 1
  rw [Bool.eq_iff_iff]
  simp
theorem truth_lR (xs : List Nat) : truth (lR xs) = .ok (!decide (xs = [])) := by
  cases xs <;> rfl
theorem truth_lf {α : Type} (xs : List α) (enc : α → D) : truth (.list (xs.map enc)) = .ok (!xs.isEmpty) := by
  cases xs <;> rfl
theorem tup_lM (m : List (List Nat)) : dTuple (lL m) = .ok (dM m) := rfl
theorem tup_lR (r : List Nat) : dTuple (lR r) = .ok (dR r) := rfl
theorem list_R' (r : List Nat) : dList (dR r) = .ok (lR r) := rfl
theorem list_M' (m : List (List Nat)) : dList (dM m) = .ok (lL m) := rfl
theorem app_M {a b : List (List Nat)} (h : a.length + b.length ≤ lim) : dAdd (dM a) (dM b) = .ok (dM (a ++ b)) := by
  show (if (a.map dR).length + (b.map dR).length ≤ lim then Rz.ok (PyData.tuple (a.map dR ++ b.map dR)) else .st) = _
  rw [List.length_map, List.length_map, if_pos h, ← List.map_append]
  rfl
theorem lim_of {n : Nat} (h : n ≤ 1000000) : n ≤ lim := h
theorem lim_lt {n : Nat} (h : n < 1000000) : n < lim := h
theorem g_atM {n : Nat} {a b c : G} {ρ : En} {m : List (List Nat)} {x y : Nat} (h0 : a ρ = .ok (dM m)) (hL : Lat n m) (h1 : b ρ = .ok (dI x)) (h2 : c ρ = .ok (dI y)) (hx : x < n) (hy : y < n) : (g2 dIx (g2 dIx a b) c) ρ = .ok (dI (atM m x y)) :=
  ev_g2 (ev_g2 h0 h1 (ix_row hL hx)) h2 (ix_cel hL hx hy)
theorem flatMap_snoc {β : Type} (f : Nat → List β) (n : Nat) : (List.range (n + 1)).flatMap f = (List.range n).flatMap f ++ f n := by
  rw [List.range_succ, List.flatMap_append]
  simp
theorem map_snoc {β : Type} (f : Nat → β) (n : Nat) : (List.range (n + 1)).map f = (List.range n).map f ++ [f n] := by
  rw [List.range_succ, List.map_append]
  rfl
end DL
namespace DL
open PySem
theorem cut_take {α : Type} (xs : List α) (k : Nat) : cutD xs none (some (k : Int)) = xs.take k := by
  have e : sIxD xs.length xs.length (some ((k : Nat) : Int)) = min k xs.length := by
    show (if (0 : Int) ≤ ((k : Nat) : Int) then min ((k : Nat) : Int).toNat xs.length else (((k : Nat) : Int) + xs.length).toNat) = _
    rw [if_pos (Int.natCast_nonneg k), Int.toNat_natCast]
  show (xs.drop 0).take (sIxD xs.length xs.length (some ((k : Nat) : Int)) - 0) = _
  rw [e, List.drop_zero, Nat.sub_zero, ← List.take_eq_take_min]
theorem cut_drop {α : Type} (xs : List α) (k : Nat) : cutD xs (some (k : Int)) none = xs.drop k := by
  have e : sIxD xs.length 0 (some ((k : Nat) : Int)) = min k xs.length := by
    show (if (0 : Int) ≤ ((k : Nat) : Int) then min ((k : Nat) : Int).toNat xs.length else (((k : Nat) : Int) + xs.length).toNat) = _
    rw [if_pos (Int.natCast_nonneg k), Int.toNat_natCast]
  show (xs.drop (sIxD xs.length 0 (some ((k : Nat) : Int)))).take (xs.length - sIxD xs.length 0 (some ((k : Nat) : Int))) = _
  rw [e]
  rcases Nat.le_total k xs.length with h | h
  · rw [Nat.min_eq_left h, ← List.length_drop, List.take_length]
  · rw [Nat.min_eq_right h, List.drop_length, List.drop_eq_nil_of_le h, List.take_nil]
theorem sl_L (p : List (List Nat)) (lo hi : Option Int) : dSl (lL p) lo hi = .ok (lL (cutD p lo hi)) := map_cutL p lo hi
theorem sl_M (p : List (List Nat)) (lo hi : Option Int) : dSl (dM p) lo hi = .ok (dM (cutD p lo hi)) := by
  show Rz.ok (PyData.tuple (cutD (p.map dR) lo hi)) = _
  rw [cut_map]
  rfl
theorem sl_lR (p : List Nat) (lo hi : Option Int) : dSl (lR p) lo hi = .ok (lR (cutD p lo hi)) := by
  show Rz.ok (PyData.list (cutD (p.map dI) lo hi)) = _
  rw [cut_map]
theorem slR_to (p : List Nat) (k : Nat) : dSl (dR p) none (some (k : Int)) = .ok (dR (p.take k)) := by rw [sl_R, cut_take]
theorem slR_from (p : List Nat) (k : Nat) : dSl (dR p) (some (k : Int)) none = .ok (dR (p.drop k)) := by rw [sl_R, cut_drop]
theorem slM_to (p : List (List Nat)) (k : Nat) : dSl (dM p) none (some (k : Int)) = .ok (dM (p.take k)) := by rw [sl_M, cut_take]
theorem slM_from (p : List (List Nat)) (k : Nat) : dSl (dM p) (some (k : Int)) none = .ok (dM (p.drop k)) := by rw [sl_M, cut_drop]
theorem slL_to (p : List (List Nat)) (k : Nat) : dSl (lL p) none (some (k : Int)) = .ok (lL (p.take k)) := by rw [sl_L, cut_take]
theorem slL_from (p : List (List Nat)) (k : Nat) : dSl (lL p) (some (k : Int)) none = .ok (lL (p.drop k)) := by rw [sl_L, cut_drop]
theorem sllR_to (p : List Nat) (k : Nat) : dSl (lR p) none (some (k : Int)) = .ok (lR (p.take k)) := by rw [sl_lR, cut_take]
theorem sllR_from (p : List Nat) (k : Nat) : dSl (lR p) (some (k : Int)) none = .ok (lR (p.drop k)) := by rw [sl_lR, cut_drop]
end DL
namespace DL
open PySem
theorem run_appE {α : Type} {enc : α → D} {os : List Nat} {i : Nat} {a : G} {u : GS} {ρ : En} {xs : List α} {x : α} {P : Out → Prop} (hx : ρ[i]? = some (some (.list (xs.map enc)))) (h : a (mk os ρ) = .ok (enc x)) (hl : xs.length < lim) (k : Run u (ρ.set i (some (.list ((xs ++ [x]).map enc)))) P) : Run (sSeq (sApp os i a) u) ρ P := by
  refine run_app hx h (by rw [List.length_map]; exact hl) ?_
  rw [List.map_append] at k
  exact k
theorem run_extE {α : Type} {enc : α → D} {os : List Nat} {i : Nat} {a : G} {u : GS} {ρ : En} {xs ys : List α} {P : Out → Prop} (hx : ρ[i]? = some (some (.list (xs.map enc)))) (h : a (mk os ρ) = .ok (.list (ys.map enc))) (hl : xs.length + ys.length ≤ lim) (k : Run u (ρ.set i (some (.list ((xs ++ ys).map enc)))) P) : Run (sSeq (sExt os i a) u) ρ P := by
  refine run_ext hx h (by rw [List.length_map, List.length_map]; exact hl) ?_
  rw [List.map_append] at k
  exact k
end DL
namespace DL
open PySem
theorem within_I (x a b : Nat) : g_is_within [dI x, dI a, dI b] = .ok (.bool (decide (a ≤ x ∧ x ≤ b))) := by
  show Rz.ok (PyData.bool (decide ((a : Int) ≤ (x : Int)) && decide ((x : Int) ≤ (b : Int)))) = _
  congr 2
  rw [Bool.eq_iff_iff, Bool.and_eq_true, decide_eq_true_eq, decide_eq_true_eq, decide_eq_true_eq]
  omega
end DL
namespace DL
open PySem
theorem shl_I {a b : Nat} (ha : a ≤ 1000000) (hb : b ≤ 1000) : dShl (dI a) (dI b) = .ok (dI (a * 2 ^ b)) := by
  show (if decide ((0 : Int) ≤ (b : Int)) && decide ((b : Int) ≤ 1000) && sml (a : Int) then Rz.ok (PyData.int ((a : Int) * 2 ^ (b : Int).toNat)) else .st) = _
  rw [sml_nat ha, decide_eq_true (by omega), decide_eq_true (by omega), Int.toNat_natCast]
  show Rz.ok (PyData.int ((a : Int) * 2 ^ b)) = Rz.ok (PyData.int ((a * 2 ^ b : Nat) : Int))
  rw [Int.natCast_mul, Int.natCast_pow]
  rfl
theorem shr_I (a b : Nat) : dShr (dI a) (dI b) = .ok (dI (a / 2 ^ b)) := by
  show (if (0 : Int) ≤ (b : Int) then Rz.ok (PyData.int ((a : Int) / 2 ^ (b : Int).toNat)) else .st) = Rz.ok (PyData.int ((a / 2 ^ b : Nat) : Int))
  rw [if_pos (Int.natCast_nonneg b), Int.toNat_natCast, Int.natCast_ediv, Int.natCast_pow]
  rfl
theorem and1_I (a : Nat) : dAndB (dI a) (dI 1) = .ok (dI (a % 2)) := by
  show Rz.ok (PyData.int (Builtin.bitAnd (a : Int) 1)) = Rz.ok (PyData.int ((a % 2 : Nat) : Int))
  rw [PyProof.Rows.bitAnd_m1]
  rfl
theorem fdv_c (x : Int) {b : Nat} (h : 0 < b) (h2 : b ≤ 1000000) : dFdv (.int x) (dI b) = .ok (.int (x / b)) := by
  rw [dFdv_ii, decide_eq_true (by omega), decide_eq_true (by omega)]
  rfl
theorem slR_dl (p : List Nat) : dSl (dR p) none (some (-((1 : Nat) : Int))) = .ok (dR p.dropLast) := by
  rw [sl_R]
  have e : sIxD p.length p.length (some (-((1 : Nat) : Int))) = p.length - 1 := by
    show (if (0 : Int) ≤ (-((1 : Nat) : Int)) then min (-((1 : Nat) : Int)).toNat p.length else ((-((1 : Nat) : Int)) + p.length).toNat) = _
    rw [if_neg (by decide)]
    omega
  have e2 : cutD p none (some (-((1 : Nat) : Int))) = p.dropLast := by
    show (p.drop 0).take (sIxD p.length p.length (some (-((1 : Nat) : Int))) - 0) = _
    rw [e, List.drop_zero, Nat.sub_zero, List.dropLast_eq_take]
  rw [e2]
theorem app_g {xs ys : List D} (h : xs.length + ys.length ≤ lim) : dAdd (.list xs) (.list ys) = .ok (.list (xs ++ ys)) := by
  rw [dAdd_ll, if_pos h]
theorem app_gt {xs ys : List D} (h : xs.length + ys.length ≤ lim) : dAdd (.tuple xs) (.tuple ys) = .ok (.tuple (xs ++ ys)) := by
  rw [dAdd_tt, if_pos h]
theorem run_forRE {os : List Nat} {it : GA} {i : Nat} {b u : GS} {ρ : En} {P : Out → Prop} {n : Nat} {e : Nat → D} (I : Nat → En → Prop) (hit : it (mk os ρ) = .ok ((List.range n).map e)) (h0 : I 0 ρ)
    (hb : ∀ j, j < n → ∀ ρ, I j ρ → Run b (ρ.set i (some (e j))) (Turn (I (j + 1)) u P)) (hu : ∀ ρ, I n ρ → Run u ρ P) : Run (sSeq (sFor os it (tgN i) b) u) ρ P := by
  refine run_for I hit h0 (fun j hj ρ h => ?_) (fun ρ h => hu ρ (by rw [List.length_range] at h; exact h))
  rw [List.length_range] at hj
  rw [show (List.range n).getD j default = j by simp [hj]]
  exact hb j hj ρ h
end DL
namespace DL
open PySem
theorem tup_Rt (r : List Nat) : dTuple (dR r) = .ok (dR r) := rfl
theorem tup_Mt (m : List (List Nat)) : dTuple (dM m) = .ok (dM m) := rfl
end DL
namespace DL
theorem turn_bk {I : En → Prop} {u : GS} {P : Out → Prop} {ρ : En} (h : Run u ρ P) : Turn I u P (.bk ρ) := h
theorem turn_bkN {I : En → Prop} {P : Out → Prop} {ρ : En} (h : P (.nx ρ)) : Turn I sNil P (.bk ρ) := run_end h
end DL
namespace DL
theorem ix_l {xs : List D} {k : Nat} {v : D} (h : xs[k]? = some v) : dIx (.list xs) (dI k) = .ok v := by
  show orSt (atD xs (k : Int)) = _
  rw [atD_nat h]
  rfl
theorem ix_t {xs : List D} {k : Nat} {v : D} (h : xs[k]? = some v) : dIx (.tuple xs) (dI k) = .ok v := by
  show orSt (atD xs (k : Int)) = _
  rw [atD_nat h]
  rfl
end DL
namespace DL
open PySem
theorem zip_map {α β : Type} (f : α → D) (g : β → D) (da : α) (db : β) {xs : List α} {ys : List β} {n : Nat} (hx : xs.length = n) (hy : ys.length = n) : zipOf (xs.map f) (ys.map g) = (List.range n).map fun k => wkD [f (xs.getD k da), g (ys.getD k db)] := by
  unfold zipOf
  apply List.ext_getElem
  · simp [hx, hy]
  · intro i h1 h2
    have hi : i < n := by simpa using h2
    simp [hx, hy, hi]
theorem it_zpR {a b : G} {ρ : En} {r s : List Nat} {n : Nat} (h1 : a ρ = .ok (dR r)) (h2 : b ρ = .ok (dR s)) (hr : r.length = n) (hs : s.length = n) : iZp a b ρ = .ok ((List.range n).map fun k => wkD [dI (r.getD k 0), dI (s.getD k 0)]) := by
  unfold iZp
  rw [h1, Rz.bind_ok, h2, Rz.bind_ok]
  show Rz.ok (zipOf (r.map dI) (s.map dI)) = _
  rw [zip_map dI dI 0 0 hr hs]
theorem it_zpM {a b : G} {ρ : En} {r s : List (List Nat)} {n : Nat} (h1 : a ρ = .ok (dM r)) (h2 : b ρ = .ok (dM s)) (hr : r.length = n) (hs : s.length = n) : iZp a b ρ = .ok ((List.range n).map fun k => wkD [dR (r.getD k []), dR (s.getD k [])]) := by
  unfold iZp
  rw [h1, Rz.bind_ok, h2, Rz.bind_ok]
  show Rz.ok (zipOf (r.map dR) (s.map dR)) = _
  rw [zip_map dR dR [] [] hr hs]
theorem eq_bb (k : Bool) : dEq (.bool k) (.bool k) = .ok (.bool true) := by cases k <;> kernel_rfl
theorem ne_bb (k : Bool) : dNe (.bool k) (.bool k) = .ok (.bool false) := by cases k <;> kernel_rfl
/-- three orders of a law -/
theorem orders_by (c : Int) (q : Nat) {n : Nat} (hn : n ≤ 1000) : ∃ P : Nat → List Nat, ∀ k : Nat, g__law_order [.int (c + ((q * k : Nat) : Int)), dI n] = .ok (dR (P k)) ∧ isPerm n (P k) :=
  ⟨fun k => Classical.choose (order_ok (c + ((q * k : Nat) : Int)) hn), fun k => Classical.choose_spec (order_ok (c + ((q * k : Nat) : Int)) hn)⟩
end DL
namespace DL
open PySem
/-- where branches meet -/
def Jn (J : En → Prop) (P : Out → Prop) : Out → Prop
  | .nx ρ => J ρ
  | o => P o
theorem run_join {s u : GS} {ρ : En} {P : Out → Prop} (J : En → Prop) (h : Run s ρ (Jn J P)) (k : ∀ ρ, J ρ → Run u ρ P) : Run (sSeq s u) ρ P := by
  unfold Run at h ⊢
  unfold sSeq
  cases e : s ρ with
  | nx ρ2 => rw [e] at h; exact run_out (k ρ2 h)
  | _ => rw [e] at h; exact h
theorem run_iff {t : GT} {a b : GS} {ρ : En} {k : Bool} {P : Out → Prop} (h : t ρ = .ok k) (ha : k = true → Run a ρ P) (hb : k = false → Run b ρ P) : Run (sIf t a b) ρ P := by
  unfold Run
  cases k with
  | true => rw [st_if_t h]; exact run_out (ha rfl)
  | false => rw [st_if_f h]; exact run_out (hb rfl)
end DL
namespace DL
open PySem
theorem it_Mn {n : Nat} {a : G} {ρ : En} {m : List (List Nat)} (h : a ρ = .ok (dM m)) (hL : m.length = n) : iSeq a ρ = .ok ((List.range n).map fun t => dR (m.getD t [])) := by
  rw [it_M h]
  conv => lhs; rw [eq_map_range (d := ([] : List Nat)) hL]
  rw [List.map_map]
  rfl
theorem it_Rn {n : Nat} {a : G} {ρ : En} {r : List Nat} (h : a ρ = .ok (dR r)) (hL : r.length = n) : iSeq a ρ = .ok ((List.range n).map fun t => dI (r.getD t 0)) := by
  rw [it_R h]
  conv => lhs; rw [eq_map_range (d := 0) hL]
  rw [List.map_map]
  rfl
end DL
/-! part Cs -/
namespace DL
open PySem
/-! ### sorted data -/
/-- data of one kind -/
structure Kin {α : Type} (enc : α → D) : Prop where
  alike : ∀ a b, PySem.W.alike (enc a) (enc b) = true
  eqv : ∀ a b, PyData.eqv (enc a) (enc b) = true → a = b
def leD {α : Type} (enc : α → D) (a b : α) : Bool := PySem.W.dataLe false (fun d : D => d) (enc a) (enc b)
theorem leD_eq {α : Type} (enc : α → D) (a b : α) : leD enc a b = !PySem.W.dataLt (enc b) (enc a) := rfl
theorem leD_trans {α : Type} (enc : α → D) (a b c : α) (h1 : leD enc a b = true) (h2 : leD enc b c = true) : leD enc a c = true := by
  rw [leD_eq, Bool.not_eq_true'] at h1 h2 ⊢
  cases h : PySem.W.dataLt (enc c) (enc a) with
  | false => rfl
  | true =>
    rcases PyProof.Rows.lex_negTrans _ (PySem.W.keyToks (enc b)) _ h with z | z
    · exact absurd (z.symm.trans h2) (by decide)
    · exact absurd (z.symm.trans h1) (by decide)
theorem lt_asym (x y : D) (h : PySem.W.dataLt x y = true) : PySem.W.dataLt y x = false := by
  cases e : PySem.W.dataLt y x with
  | false => rfl
  | true =>
    have := PyProof.Rows.lex_trans _ _ _ h e
    rw [PyProof.Rows.lex_irrefl] at this
    cases this
theorem leD_total {α : Type} (enc : α → D) (a b : α) : (leD enc a b || leD enc b a) = true := by
  rw [leD_eq, leD_eq]
  cases h : PySem.W.dataLt (enc b) (enc a) with
  | false => rfl
  | true => rw [lt_asym _ _ h]; rfl
theorem lex_snoc (p : List (Int ⊕ List Nat)) (z : Int ⊕ List Nat) : PyProof.Rows.lexLt PyProof.Rows.itemOrd (p ++ []) (p ++ [z]) = true := by
  rw [PySem.W.lex_pre]
  rfl
theorem leD_anti {α : Type} {enc : α → D} (k : Kin enc) (a b : α) (h1 : leD enc a b = true) (h2 : leD enc b a = true) : a = b := by
  rw [leD_eq, Bool.not_eq_true'] at h1 h2
  have e := PyProof.Rows.lex_total _ _ h2 h1
  refine k.eqv a b ?_
  cases q : PyData.eqv (enc a) (enc b) with
  | true => rfl
  | false =>
    have z := (PySem.W.toks_eqv (enc a) (enc b) (k.alike a b)).2 q [] [.inl 0]
    rw [e, lex_snoc, PyProof.Rows.lex_irrefl] at z
    cases z
theorem sort_perm {α : Type} {enc : α → D} (k : Kin enc) {xs ys : List α} (h : xs.Perm ys) : xs.mergeSort (leD enc) = ys.mergeSort (leD enc) := by
  refine List.Perm.eq_of_pairwise (le := fun a b => leD enc a b = true) (fun a b _ _ h1 h2 => leD_anti k a b h1 h2) (List.pairwise_mergeSort (leD_trans enc) (leD_total enc) xs) (List.pairwise_mergeSort (leD_trans enc) (leD_total enc) ys) ?_
  exact (List.mergeSort_perm _ _).trans (h.trans (List.mergeSort_perm _ _).symm)
theorem sort_self {α : Type} {enc : α → D} {xs : List α} (h : xs.Pairwise fun a b => leD enc a b = true) : xs.mergeSort (leD enc) = xs := List.mergeSort_of_pairwise h
theorem sort_map {α : Type} (enc : α → D) (xs : List α) : (xs.map enc).mergeSort (PySem.W.dataLe false fun d => d) = (xs.mergeSort (leD enc)).map enc :=
  (List.map_mergeSort (r := leD enc) (s := PySem.W.dataLe false fun d : D => d) (f := enc) (l := xs) fun a _ b _ => rfl).symm
/-- what can be sorted -/
structure Srt {α : Type} (enc : α → D) : Prop extends Kin enc where
  tup : (∀ a, ∃ x xs, enc a = .tuple (x :: xs)) ∨ ∀ a, (match enc a with
    | .none => false | .tuple _ => false | _ => true) = true
  lay : ∀ a, (enc a).canLay0 = true
  dep : ∀ a, (enc a).depth ≤ 60
theorem srt_ok {α : Type} {enc : α → D} (s : Srt enc) {xs : List α} (h : xs.length ≤ lim) : srtOk (xs.map enc) = true := by
  unfold srtOk
  simp only [Bool.and_eq_true, Bool.or_eq_true, List.all_eq_true, decide_eq_true_eq, List.mem_map, List.length_map]
  refine ⟨⟨⟨?_, ?_⟩, ?_⟩, h⟩
  · rintro _ ⟨x, _, rfl⟩ _ ⟨y, _, rfl⟩
    exact s.alike x y
  · rcases s.tup with t | t
    · refine .inl ?_
      rintro _ ⟨x, _, rfl⟩
      obtain ⟨y, ys, e⟩ := t x
      rw [e]
    · refine .inr ?_
      rintro _ ⟨x, _, rfl⟩
      exact t x
  · rintro _ ⟨x, _, rfl⟩
    exact ⟨s.lay x, s.dep x⟩
theorem sorted_l {α : Type} {enc : α → D} (s : Srt enc) {xs : List α} (h : xs.length ≤ lim) : dSorted (.list (xs.map enc)) = .ok (.list ((xs.mergeSort (leD enc)).map enc)) := by
  show (if srtOk (xs.map enc) = true then Rz.ok _ else .st) = _
  rw [if_pos (srt_ok s h), sort_map]
theorem sorted_t {α : Type} {enc : α → D} (s : Srt enc) {xs : List α} (h : xs.length ≤ lim) : dSorted (.tuple (xs.map enc)) = .ok (.list ((xs.mergeSort (leD enc)).map enc)) := by
  show (if srtOk (xs.map enc) = true then Rz.ok _ else .st) = _
  rw [if_pos (srt_ok s h), sort_map]
theorem alike_map {α : Type} {f : α → D} (h : ∀ a b, PySem.W.alike (f a) (f b) = true) : ∀ xs ys : List α, PySem.W.alikeAll (xs.map f) (ys.map f) = true
  | [], _ => by simp [PySem.W.alikeAll]
  | _ :: _, [] => by simp [PySem.W.alikeAll]
  | x :: xs, y :: ys => by simp [PySem.W.alikeAll, h x y, alike_map h xs ys]
theorem alike_I (a b : Nat) : PySem.W.alike (dI a) (dI b) = true := by simp [PySem.W.alike]
theorem alike_R (a b : List Nat) : PySem.W.alike (dR a) (dR b) = true := by
  unfold dR
  simp only [PySem.W.alike]
  exact alike_map alike_I a b
theorem alike_lR (a b : List Nat) : PySem.W.alike (lR a) (lR b) = true := by
  simp only [PySem.W.alike]
  exact alike_map alike_I a b
theorem alike_M (a b : List (List Nat)) : PySem.W.alike (dM a) (dM b) = true := by
  unfold dM
  simp only [PySem.W.alike]
  exact alike_map alike_R a b
theorem kin_I : Kin dI := ⟨alike_I, fun a b h => (eqv_I a b).mp h⟩
theorem kin_R : Kin dR := ⟨alike_R, fun a b h => (eqv_R a b).mp h⟩
theorem kin_M : Kin dM := ⟨alike_M, fun a b h => (eqv_M a b).mp h⟩
theorem kin_lR : Kin fun r => lR r := ⟨alike_lR, fun a b h => (eqv_lR a b).mp h⟩
theorem srt_I : Srt dI := ⟨kin_I, .inr fun _ => rfl, lay_I, fun a => Nat.le_trans (dep_I a) (by decide)⟩
theorem srt_lR : Srt fun r => lR r := ⟨kin_lR, .inr fun _ => rfl, fun r => by simp [PyData.canLay0, lay_map dI lay_I], fun r => by
  have := dep_map dI 0 dep_I r
  simp only [PyData.depth]
  omega⟩
/-- rows with a head, squares with a row -/
theorem sorted_rows {xs : List (List Nat)} (h : xs.length ≤ lim) (hx : ∀ r ∈ xs, r ≠ []) : dSorted (lL xs) = .ok (lL (xs.mergeSort (leD dR))) := by
  show (if srtOk (xs.map dR) = true then Rz.ok (PyData.list ((xs.map dR).mergeSort (PySem.W.dataLe false fun d => d))) else .st) = _
  rw [if_pos, sort_map]
  unfold srtOk
  simp only [Bool.and_eq_true, Bool.or_eq_true, List.all_eq_true, decide_eq_true_eq, List.mem_map, List.length_map]
  refine ⟨⟨⟨?_, .inl ?_⟩, ?_⟩, h⟩
  · rintro _ ⟨x, _, rfl⟩ _ ⟨y, _, rfl⟩
    exact alike_R x y
  · rintro _ ⟨x, hm, rfl⟩
    cases x with
    | nil => exact absurd rfl (hx _ hm)
    | cons a r => rfl
  · rintro _ ⟨x, _, rfl⟩
    exact ⟨lay_R x, Nat.le_trans (dep_R x) (by decide)⟩
theorem sorted_sqs {xs : List (List (List Nat))} (h : xs.length ≤ lim) (hx : ∀ r ∈ xs, r ≠ []) : dSorted (.list (xs.map dM)) = .ok (.list ((xs.mergeSort (leD dM)).map dM)) := by
  show (if srtOk (xs.map dM) = true then Rz.ok (PyData.list ((xs.map dM).mergeSort (PySem.W.dataLe false fun d => d))) else .st) = _
  rw [if_pos, sort_map]
  unfold srtOk
  simp only [Bool.and_eq_true, Bool.or_eq_true, List.all_eq_true, decide_eq_true_eq, List.mem_map, List.length_map]
  refine ⟨⟨⟨?_, .inl ?_⟩, ?_⟩, h⟩
  · rintro _ ⟨x, _, rfl⟩ _ ⟨y, _, rfl⟩
    exact alike_M x y
  · rintro _ ⟨x, hm, rfl⟩
    cases x with
    | nil => exact absurd rfl (hx _ hm)
    | cons a r => rfl
  · rintro _ ⟨x, _, rfl⟩
    exact ⟨lay_M x, Nat.le_trans (dep_M x) (by decide)⟩
/-! ### lists of squares (marks too) -/
theorem sh_l {α : Type} {enc : α → D} {c : Nat} (h1 : ∀ a, (enc a).canLay0 = true) (h2 : ∀ a, (enc a).depth ≤ c) (hc : c ≤ 60) (xs : List α) : SeqAt.shaped (.list (xs.map enc)) = true := sh_L (lay_map enc h1 xs) (Nat.le_trans (dep_map enc c h2 xs) hc)
abbrev lS (xs : List (List (List Nat))) : D := .list (xs.map dM)
theorem eqv_lS (a b : List (List (List Nat))) : PyData.eqv (lS a) (lS b) = true ↔ a = b := by
  simp only [PyData.eqv]
  exact eqv_all_map eqv_M a b
theorem eq_lS (a b : List (List (List Nat))) : dEq (lS a) (lS b) = .ok (.bool (decide (a = b))) := by
  unfold dEq
  rw [sh_l lay_M dep_M (by decide), sh_l lay_M dep_M (by decide), bool_iff (eqv_lS a b)]
  rfl
theorem ne_lS (a b : List (List (List Nat))) : dNe (lS a) (lS b) = .ok (.bool (!decide (a = b))) := by
  unfold dNe
  rw [sh_l lay_M dep_M (by decide), sh_l lay_M dep_M (by decide), bool_iff (eqv_lS a b)]
  rfl
theorem len_lS (xs : List (List (List Nat))) : dLen (lS xs) = .ok (dI xs.length) := by
  show Rz.ok (PyData.int ((xs.map dM).length : Nat)) = _
  rw [List.length_map]
theorem in_lS (p : List (List Nat)) (xs : List (List (List Nat))) : dIn (dM p) (lS xs) = .ok (.bool (decide (p ∈ xs))) := by
  show (if SeqAt.shaped (dM p) && SeqAt.shaped (lS xs) then Rz.ok (PyData.bool ((xs.map dM).any fun z => PyData.eqv z (dM p))) else .st) = _
  rw [sh_M, sh_l lay_M dep_M (by decide)]
  have : ((xs.map dM).any fun z => PyData.eqv z (dM p)) = decide (p ∈ xs) := by
    rw [Bool.eq_iff_iff, List.any_map, List.any_eq_true, decide_eq_true_eq]
    constructor
    · rintro ⟨x, hx, e⟩
      rw [← (eqv_M x p).mp e]
      exact hx
    · intro h
      exact ⟨p, h, (eqv_M p p).mpr rfl⟩
  rw [this]
  rfl
theorem notIn_lS (p : List (List Nat)) (xs : List (List (List Nat))) : dNotIn (dM p) (lS xs) = .ok (.bool (!decide (p ∈ xs))) := by
  have h := in_lS p xs
  change (if SeqAt.shaped (dM p) && SeqAt.shaped (lS xs) then Rz.ok (PyData.bool ((xs.map dM).any fun z => PyData.eqv z (dM p))) else .st) = _ at h
  show (if SeqAt.shaped (dM p) && SeqAt.shaped (lS xs) then Rz.ok (PyData.bool (!(xs.map dM).any fun z => PyData.eqv z (dM p))) else .st) = _
  rw [sh_M, sh_l lay_M dep_M (by decide)] at h ⊢
  have h : ((xs.map dM).any fun z => PyData.eqv z (dM p)) = decide (p ∈ xs) := PyData.bool.inj (Rz.ok.inj h)
  rw [h]
  rfl
theorem ix_lS {xs : List (List (List Nat))} {i : Nat} (h : i < xs.length) : dIx (lS xs) (dI i) = .ok (dM (xs.getD i [])) := by
  show orSt (atD (xs.map dM) (i : Int)) = _
  rw [at_mapD dM [] h]
  rfl
theorem truth_lS (xs : List (List (List Nat))) : truth (lS xs) = .ok (!decide (xs = [])) := by
  cases xs <;> rfl
end DL
/-! part Cb0 -/
namespace DL
open PySem
def m_are_marks : GS :=
  (sSeq (sRet (gAnd (g1 (dIsi "tuple") (gVar 0)) (gAnd (g2 dEq (gCall (on1 dLen) (aCons (gVar 0) aNil)) (gVar 1)) (gNot (gLc (iSeq (gVar 0)) (tgN 2) (tNt (tTru (gCall g_is_within (aCons (gVar 2) (aCons (gC (.int 0)) (aCons (gC (.int 1)) aNil)))))) (gVar 2) [2]))))) sNil)
def g_are_marks : List D → Rz D := fun ds => (m_are_marks (startE 3 ds)).rz
theorem eq_are_marks : ∀ ds, ds.length = 2 → g_are_marks ds = .st ∨ (m_are_marks (startE 3 ds)).rz = g_are_marks ds := fun _ _ => .inr rfl
def m_is_bar : GS :=
  (sSeq (sExpr [] (gCall g_checked (aCons (gVar 0) aNil))) (sSeq (sIf (tOrr (tNt (tTru (g1 (dIsi "tuple") (gVar 1)))) (tOrr (tCm dNe (gCall (on1 dLen) (aCons (gVar 1) aNil)) (gC (.int 3))) (tTru (gLc (iSeq (gVar 1)) (tgN 9) (tNt (tTru (gCall g_are_marks (aCons (gVar 9) (aCons (gCall (on1 dLen) (aCons (gVar 0) aNil)) aNil))))) (gVar 9) [9])))) (sSeq (sRet (gC (.bool false))) sNil) sNil) (sSeq (sSet [] (tgT [2, 3, 4]) (gVar 1)) (sSeq (sFor [] (iEn (gVar 0)) (tgT [5, 6]) (sSeq (sFor [] (iEn (gVar 6)) (tgT [7, 8]) (sSeq (sIf (tCm dEq (g2 dMod (g2 dAdd (g2 dAdd (g2 dIx (gVar 2) (gVar 5)) (g2 dIx (gVar 3) (gVar 7))) (g2 dIx (gVar 4) (gVar 8))) (gC (.int 2))) (gC (.int 1))) (sSeq (sRet (gC (.bool false))) sNil) sNil) sNil)) sNil)) (sSeq (sRet (g2 dEq (g2 dMod (g2 dAdd (g2 dAdd (gCall (on1 dSum) (aCons (gVar 2) aNil)) (gCall (on1 dSum) (aCons (gVar 3) aNil))) (gCall (on1 dSum) (aCons (gVar 4) aNil))) (gC (.int 2))) (gC (.int 1)))) sNil)))))
def g_is_bar : List D → Rz D := fun ds => (m_is_bar (startE 10 ds)).rz
theorem eq_is_bar : ∀ ds, ds.length = 2 → g_is_bar ds = .st ∨ (m_is_bar (startE 10 ds)).rz = g_is_bar ds := fun _ _ => .inr rfl
def m_marked_by : GS :=
  (sSeq (sSet [] (tgN 3) (g2 dRep (gLst (aCons (gC (.int 0)) aNil)) (gCall (on1 dLen) (aCons (gVar 0) aNil)))) (sSeq (sFor [3] (iEn (gVar 2)) (tgT [4, 5]) (sSeq (sPut [3] 3 (g2 dIx (g2 dIx (gVar 0) (gVar 4)) (gC (.int 0))) (g2 dMod (g2 dAdd (gVar 5) (gVar 1)) (gC (.int 2)))) sNil)) (sSeq (sSet [] (tgN 6) (gLc (iSeq (g2 dIx (gVar 0) (gC (.int 0)))) (tgN 9) tYs (g2 dMod (g2 dAdd (g2 dIx (gVar 3) (gVar 9)) (g2 dIx (gVar 2) (gC (.int 0)))) (gC (.int 2))) [9])) (sSeq (sFor [] (iEn (gVar 0)) (tgT [4, 7]) (sSeq (sFor [] (iEn (gVar 7)) (tgT [8, 9]) (sSeq (sIf (tCm dEq (g2 dMod (g2 dAdd (g2 dAdd (g2 dIx (gVar 2) (gVar 4)) (g2 dIx (gVar 6) (gVar 8))) (g2 dIx (gVar 3) (gVar 9))) (gC (.int 2))) (gC (.int 1))) (sSeq (sRet (gC .none)) sNil) sNil) sNil)) sNil)) (sSeq (sRet (gTup (aCons (gCall (on1 dTuple) (aCons (gVar 2) aNil)) (aCons (gCall (on1 dTuple) (aCons (gVar 6) aNil)) (aCons (gCall (on1 dTuple) (aCons (gVar 3) aNil)) aNil))))) sNil)))))
def g_marked_by : List D → Rz D := fun ds => (m_marked_by (startE 10 ds)).rz
theorem eq_marked_by : ∀ ds, ds.length = 3 → g_marked_by ds = .st ∨ (m_marked_by (startE 10 ds)).rz = g_marked_by ds := fun _ _ => .inr rfl
def m_marks_of : GS :=
  (sSeq (sSet [] (tgN 1) (gLst (aCons (gTup aNil) aNil))) (sSeq (sFor [] (iRg (aCons (gVar 0) aNil)) (tgN 2) (sSeq (sSet [] (tgN 3) (gLst aNil)) (sSeq (sFor [3] (iSeq (gVar 1)) (tgN 4) (sSeq (sExt [3] 3 (gLst (aCons (g2 dAdd (gVar 4) (gTup (aCons (gC (.int 0)) aNil))) (aCons (g2 dAdd (gVar 4) (gTup (aCons (gC (.int 1)) aNil))) aNil)))) sNil)) (sSeq (sSet [] (tgN 1) (gVar 3)) sNil)))) (sSeq (sRet (gVar 1)) sNil)))
def g_marks_of : List D → Rz D := fun ds => (m_marks_of (startE 5 ds)).rz
theorem eq_marks_of : ∀ ds, ds.length = 1 → g_marks_of ds = .st ∨ (m_marks_of (startE 5 ds)).rz = g_marks_of ds := fun _ _ => .inr rfl
def m_all_marks : GS :=
  (sSeq (sExpr [] (gCall g_checked (aCons (gVar 0) aNil))) (sSeq (sSet [] (tgN 1) (gLst aNil)) (sSeq (sFor [1] (iSeq (gCall g_marks_of (aCons (gCall (on1 dLen) (aCons (gVar 0) aNil)) aNil))) (tgN 2) (sSeq (sFor [1] (iSeq (gTup (aCons (gC (.int 0)) (aCons (gC (.int 1)) aNil)))) (tgN 3) (sSeq (sSet [1] (tgN 4) (gCall g_marked_by (aCons (gVar 0) (aCons (gVar 3) (aCons (gVar 2) aNil))))) (sSeq (sIf (tVal (g1 dNotN (gVar 4))) (sSeq (sApp [1] 1 (gVar 4)) sNil) sNil) sNil))) sNil)) (sSeq (sRet (gCall (on1 dSorted) (aCons (gVar 1) aNil))) sNil))))
def g_all_marks : List D → Rz D := fun ds => (m_all_marks (startE 5 ds)).rz
theorem eq_all_marks : ∀ ds, ds.length = 1 → g_all_marks ds = .st ∨ (m_all_marks (startE 5 ds)).rz = g_all_marks ds := fun _ _ => .inr rfl
def m_bar : GS :=
  (sSeq (sFor [] (iSeq (gCall g_all_marks (aCons (gVar 0) aNil))) (tgN 1) (sSeq (sIf (tCm dEq (g2 dMod (g2 dAdd (g2 dAdd (gCall (on1 dSum) (aCons (g2 dIx (gVar 1) (gC (.int 0))) aNil)) (gCall (on1 dSum) (aCons (g2 dIx (gVar 1) (gC (.int 1))) aNil))) (gCall (on1 dSum) (aCons (g2 dIx (gVar 1) (gC (.int 2))) aNil))) (gC (.int 2))) (gC (.int 1))) (sSeq (sRet (gVar 1)) sNil) sNil) sNil)) (sSeq (sRet (gC .none)) sNil))
def g_bar : List D → Rz D := fun ds => (m_bar (startE 2 ds)).rz
theorem eq_bar : ∀ ds, ds.length = 1 → g_bar ds = .st ∨ (m_bar (startE 2 ds)).rz = g_bar ds := fun _ _ => .inr rfl
end DL
/-! part Cb1 -/
namespace DL
open PySem
local macro_rules | `(tactic| nofun) => `(tactic| first
  | assumption
  | omega
  | exact lim_of (by omega)
  | exact lim_lt (by omega)
  | ((simp only [List.length_map, List.length_range, List.length_append, List.length_cons, List.length_nil, List.length_replicate, List.length_set, List.length_singleton, List.length_take, List.length_drop, List.length_dropLast]) <;> first | omega | exact lim_of (by omega) | exact lim_lt (by omega))
  | decide
  | fail)
local macro_rules | `(tactic| right) => `(tactic| first
  | with_reducible assumption
  | with_reducible exact add_I _ _
  | ((with_reducible apply sub_I); nofun)
  | ((with_reducible apply mul_I); nofun)
  | ((with_reducible apply mod_I); nofun)
  | ((with_reducible apply mod_c); nofun)
  | ((with_reducible apply fdv_I) <;> nofun)
  | with_reducible exact dAdd_ii _ _
  | with_reducible exact dSub_ii _ _
  | with_reducible exact lt_I _ _
  | with_reducible exact le_I _ _
  | with_reducible exact gt_I _ _
  | with_reducible exact ge_I _ _
  | with_reducible exact eq_I _ _
  | with_reducible exact ne_I _ _
  | with_reducible exact eq_R _ _
  | with_reducible exact ne_R _ _
  | with_reducible exact eq_M _ _
  | with_reducible exact ne_M _ _
  | with_reducible exact eq_lR _ _
  | with_reducible exact ne_lR _ _
  | with_reducible exact eq_lL _ _
  | with_reducible exact ne_lL _ _
  | ((with_reducible apply ix_row); (· assumption); (· nofun))
  | ((with_reducible apply ix_cel); (· assumption); (· nofun); (· nofun))
  | ((with_reducible apply ix_R); nofun)
  | ((with_reducible apply ix_M); nofun)
  | ((with_reducible apply ix_lR); nofun)
  | ((with_reducible apply ix_lL); nofun)
  | ((with_reducible apply ix_lM); nofun)
  | ((with_reducible apply len_Ln); assumption)
  | ((with_reducible apply len_row); (· assumption); (· nofun))
  | with_reducible exact len_R _
  | with_reducible exact len_M _
  | with_reducible exact len_lR _
  | with_reducible exact len_lL _
  | with_reducible exact tup_lR _
  | with_reducible exact tup_lM _
  | with_reducible exact tup_Rt _
  | with_reducible exact tup_Mt _
  | with_reducible exact list_R' _
  | with_reducible exact list_M' _
  | ((with_reducible apply app_R); nofun)
  | ((with_reducible apply app_lR); nofun)
  | ((with_reducible apply app_lL); nofun)
  | ((with_reducible apply app_M); nofun)
  | with_reducible exact in_lR _ _
  | with_reducible exact in_R _ _
  | with_reducible exact in_lL _ _
  | with_reducible exact notIn_lR _ _
  | with_reducible exact notIn_R _ _
  | with_reducible exact notIn_lL _ _
  | with_reducible exact sum_R _
  | with_reducible exact sum_lR _
  | ((with_reducible apply tindex_ok); nofun)
  | with_reducible exact truth_bool _
  | with_reducible exact truth_I _
  | with_reducible exact truth_lR _
  | with_reducible exact truth_lL _
  | with_reducible exact truth_lf _ _
  | with_reducible exact isN_R _
  | with_reducible exact isN_M _
  | with_reducible exact isN_n
  | with_reducible exact isN_l _
  | with_reducible exact notN_R _
  | with_reducible exact notN_M _
  | with_reducible exact notN_n
  | with_reducible exact notN_l _
  | with_reducible exact isi_R _
  | with_reducible exact isi_M _
  | with_reducible exact slR_to _ _
  | with_reducible exact slR_from _ _
  | with_reducible exact slM_to _ _
  | with_reducible exact slM_from _ _
  | with_reducible exact slL_to _ _
  | with_reducible exact slL_from _ _
  | with_reducible exact sllR_to _ _
  | with_reducible exact sllR_from _ _
  | with_reducible exact within_I _ _ _
  | ((with_reducible apply shl_I) <;> nofun)
  | with_reducible exact shr_I _ _
  | with_reducible exact and1_I _
  | ((with_reducible apply fdv_c) <;> nofun)
  | with_reducible exact slR_dl _
  | with_reducible exact dNeg_i _
  | with_reducible exact eq_lS _ _
  | with_reducible exact ne_lS _ _
  | with_reducible exact len_lS _
  | with_reducible exact in_lS _ _
  | with_reducible exact notIn_lS _ _
  | ((with_reducible apply ix_lS); nofun)
  | with_reducible exact truth_lS _
  | ((with_reducible apply app_g); nofun)
  | ((with_reducible apply app_gt); nofun)
  | fail)
local macro_rules | `(tactic| left) => `(tactic| first
  | ((with_reducible apply ev_var); exact rfl)
  | with_reducible exact ev_lit _ _
  | with_reducible exact ev_C _ _
  | ((with_reducible apply g_atM); (· left); (· assumption); (· left); (· left); (· nofun); (· nofun))
  | ((with_reducible apply ev_g2); (· left); (· left); (· right))
  | ((with_reducible apply ev_g1); (· left); (· right))
  | ((with_reducible apply ev_call1); (· left); (· right))
  | ((with_reducible apply ev_callF); (· left); (· right))
  | with_reducible exact ev_a0 _
  | ((with_reducible apply ev_a1); (· left); (· left))
  | with_reducible exact ev_aI0 _
  | ((with_reducible apply ev_aI1); (· left); (· left))
  | with_reducible exact ev_aR0 _
  | ((with_reducible apply ev_aR1); (· left); (· left))
  | ((with_reducible apply ev_tupI); (· left); (· nofun))
  | ((with_reducible apply ev_tupR); (· left); (· nofun))
  | ((with_reducible apply ev_tup); (· left); (· nofun))
  | ((with_reducible apply ev_lstI); (· left); (· nofun))
  | ((with_reducible apply ev_lstR); (· left); (· nofun))
  | ((with_reducible apply ev_lst); (· left); (· nofun))
  | ((with_reducible apply ev_not); (· left); (· right))
  | ((with_reducible apply ev_andB); (· left); (· (intro _; left)))
  | ((with_reducible apply ev_orB); (· left); (· (intro _; left)))
  | ((with_reducible apply ev_M); (· left); (· rfl); (· left); (· right))
  | ((with_reducible apply ev_sl); (· left); (· left); (· left); (· right))
  | with_reducible exact ev_oNo _
  | ((with_reducible apply ev_oSm); left)
  | ((with_reducible apply ev_lRg); left)
  | ((with_reducible apply ev_tRg); left)
  | with_reducible exact Eq.refl (tYs _)
  | ((with_reducible apply ts_cm); (· left); (· left); (· right))
  | ((with_reducible apply ts_and); (· left); (· (intro _; left)))
  | ((with_reducible apply ts_or); (· left); (· (intro _; left)))
  | ((with_reducible apply ts_not); left)
  | ((with_reducible apply ts_tru); (· left); (· right))
  | ((with_reducible apply tt_val); left)
  | ((with_reducible apply tt_chn); (· left); (· left); (· right); (· (intro _; left)); (· (intro _; right)))
  | ((with_reducible apply it_rng1); (· left); (· nofun))
  | ((with_reducible apply it_rng2); (· left); (· left); (· nofun); (· nofun))
  | ((with_reducible apply it_R); left)
  | ((with_reducible apply it_M); left)
  | ((with_reducible apply it_list); left)
  | ((with_reducible apply it_tup); left)
  | ((with_reducible apply it_enMn); (· left); (· exact Lat.len (by assumption)))
  | ((with_reducible apply it_zpR); (· left); (· left); (· nofun); (· nofun))
  | ((with_reducible apply it_zpM); (· left); (· left); (· nofun); (· nofun))
  | ((with_reducible apply it_enRn); (· left); (· exact Lat.rlen (by assumption) (by nofun)))
  | ((with_reducible apply it_enR); left)
  | ((with_reducible apply it_enM); left)
  | ((with_reducible apply it_enlR); left)
  | ((with_reducible apply it_enL); left)
  | ((with_reducible apply ev_lcmI); (· left); (· nofun); (· infer_instance))
  | ((with_reducible apply ev_lcmR); (· left); (· nofun); (· infer_instance))
  | ((with_reducible apply ev_lcmL); (· left); (· nofun); (· infer_instance))
  | ((with_reducible apply ev_lcm); (· left); (· nofun); (· infer_instance))
  | ((with_reducible apply ev_lcpI); (· left); (· nofun); (· infer_instance))
  | ((with_reducible apply ev_lcf); (· left); (· nofun); (· (intro _; rfl)); (· infer_instance))
  | ((with_reducible apply ev_lc); (· left); (· nofun); (· infer_instance))
  | fail)
local macro_rules | `(tactic| infer_instance) => `(tactic| (intro a ha; (try dsimp only [wipeE, List.set_cons_succ, List.set_cons_zero]); (first | (have h1 := List.mem_range.mp ha) | (have h1 := Lat.row (by assumption) _ ha) | skip); first | left | (constructor; (· left); (· (intro hp; left)))))
local macro_rules | `(tactic| and_intros) => `(tactic| first
  | ((with_reducible apply run_set); (· left); (try dsimp only [List.set_cons_succ, List.set_cons_zero]))
  | ((with_reducible apply run_expr); (· left))
  | ((with_reducible apply run_ret); (· left))
  | (with_reducible apply run_skip)
  | (with_reducible apply run_seq)
  | (with_reducible apply run_end))
/-! ### rows of marks -/
def bitsL : Nat → List (List Nat)
  | 0 => [[]]
  | n + 1 => (bitsL n).flatMap fun b => [b ++ [0], b ++ [1]]
theorem bits_len : ∀ n, (bitsL n).length = 2 ^ n
  | 0 => rfl
  | n + 1 => by
    unfold bitsL
    rw [List.length_flatMap]
    have : (bitsL n).map (fun b => [b ++ [0], b ++ [1]].length) = (bitsL n).map fun _ => 2 := List.map_congr_left fun _ _ => rfl
    rw [this, List.map_const', List.sum_replicate_nat, bits_len n, Nat.pow_succ]
def IsMk (n : Nat) (r : List Nat) : Prop := r.length = n ∧ ∀ x ∈ r, x < 2
instance (n : Nat) (r : List Nat) : Decidable (IsMk n r) := inferInstanceAs (Decidable (_ ∧ _))
theorem mem_bits : ∀ {n : Nat} {b : List Nat}, b ∈ bitsL n ↔ IsMk n b
  | 0, b => by
    unfold bitsL IsMk
    rw [List.mem_singleton]
    constructor
    · rintro rfl
      exact ⟨rfl, fun x hx => by cases hx⟩
    · rintro ⟨h, _⟩
      exact List.length_eq_zero_iff.mp h
  | n + 1, b => by
    unfold bitsL
    rw [List.mem_flatMap]
    constructor
    · rintro ⟨a, ha, hb⟩
      obtain ⟨h1, h2⟩ := mem_bits.mp ha
      rcases List.mem_cons.mp hb with rfl | hb
      · refine ⟨by rw [List.length_append, h1]; rfl, fun x hx => ?_⟩
        rcases List.mem_append.mp hx with hx | hx
        · exact h2 x hx
        · have : x = 0 := by simpa using hx
          omega
      · have : b = a ++ [1] := by simpa using hb
        subst this
        refine ⟨by rw [List.length_append, h1]; rfl, fun x hx => ?_⟩
        rcases List.mem_append.mp hx with hx | hx
        · exact h2 x hx
        · have : x = 1 := by simpa using hx
          omega
    · rintro ⟨h1, h2⟩
      have hne : b ≠ [] := by
        intro e
        subst e
        cases h1
      refine ⟨b.dropLast, mem_bits.mpr ⟨by rw [List.length_dropLast, h1]; rfl, fun x hx => h2 x (List.dropLast_subset _ hx)⟩, ?_⟩
      have hl := h2 _ (List.getLast_mem hne)
      have e := List.dropLast_concat_getLast hne
      have : b.getLast hne = 0 ∨ b.getLast hne = 1 := by omega
      rcases this with z | z
      · rw [z] at e
        exact List.mem_cons.mpr (.inl e.symm)
      · rw [z] at e
        exact List.mem_cons.mpr (.inr (List.mem_singleton.mpr e.symm))
theorem nodup_flat {α β : Type} {f : α → List β} : ∀ {xs : List α}, xs.Nodup → (∀ a ∈ xs, (f a).Nodup) → (∀ a ∈ xs, ∀ b ∈ xs, ∀ y, y ∈ f a → y ∈ f b → a = b) → (xs.flatMap f).Nodup
  | [], _, _, _ => List.nodup_nil
  | a :: xs, h, h1, h2 => by
    obtain ⟨ha, hx⟩ := List.nodup_cons.mp h
    rw [List.flatMap_cons]
    refine List.nodup_append.mpr ⟨h1 a List.mem_cons_self, nodup_flat hx (fun b hb => h1 b (List.mem_cons_of_mem _ hb)) fun b hb c hc => h2 b (List.mem_cons_of_mem _ hb) c (List.mem_cons_of_mem _ hc), ?_⟩
    rintro y hy z hz rfl
    obtain ⟨b, hb, hz⟩ := List.mem_flatMap.mp hz
    have := h2 a List.mem_cons_self b (List.mem_cons_of_mem _ hb) y hy hz
    exact ha (this ▸ hb)
theorem nodup_bits : ∀ n, (bitsL n).Nodup
  | 0 => by simp [bitsL]
  | n + 1 => by
    unfold bitsL
    refine nodup_flat (nodup_bits n) (fun a _ => ?_) fun a _ b _ y hy hz => ?_
    · simp
    · have : ∀ c : List Nat, y ∈ [c ++ [0], c ++ [1]] → y.dropLast = c := by
        intro c hc
        rcases List.mem_cons.mp hc with rfl | hc
        · simp
        · have : y = c ++ [1] := by simpa using hc
          rw [this]
          simp
      rw [← this a hy, this b hz]
theorem take_flat {α β : Type} [Inhabited α] (xs : List α) (f : α → List β) {k : Nat} (h : k < xs.length) : (xs.take (k + 1)).flatMap f = (xs.take k).flatMap f ++ f (xs.getD k default) := by
  rw [List.take_succ, List.flatMap_append, List.getElem?_eq_getElem h, getD_el h]
  simp
theorem flat_take_len {α β : Type} (xs : List α) (f : α → List β) (c k : Nat) (h : ∀ a, (f a).length ≤ c) : ((xs.take k).flatMap f).length ≤ xs.length * c := by
  have h1 := flat_len (xs := xs.take k) (f := f) (c := c) fun a _ => h a
  have h2 : (xs.take k).length * c ≤ xs.length * c := Nat.mul_le_mul_right _ (by rw [List.length_take]; omega)
  omega
theorem marks_of_ok {n : Nat} (hn : n ≤ 9) : g_marks_of [dI n] = .ok (lL (bitsL n)) := by
  refine rz_run (m := m_marks_of) (ρ := [some (dI n), none, none, none, none]) ?_
  unfold m_marks_of
  refine run_set (d := lL (bitsL 0)) rfl ?_
  dsimp only [List.set_cons_succ, List.set_cons_zero]
  refine run_forR (n := n) (fun j ρ => ∃ x y z, ρ = [some (dI n), some (lL (bitsL j)), x, y, z]) (by left) ⟨_, _, _, rfl⟩ ?_ ?_
  · rintro j hj _ ⟨x, y, z, rfl⟩
    dsimp only [List.set_cons_succ, List.set_cons_zero]
    refine run_set (d := lL []) rfl ?_
    dsimp only [List.set_cons_succ, List.set_cons_zero]
    have lb : (bitsL j).length ≤ 512 := by
      rw [bits_len]
      exact Nat.pow_le_pow_right (n := 2) (i := j) (j := 9) (by decide) (by omega)
    refine run_for (xs := bitsL j) (enc := dR) (fun k ρ => ∃ z, ρ = [some (dI n), some (lL (bitsL j)), some (dI j), some (lL (((bitsL j).take k).flatMap fun b => [b ++ [0], b ++ [1]])), z]) (by left) ⟨_, rfl⟩ ?_ ?_
    · rintro k hk _ ⟨z, rfl⟩
      dsimp only [List.set_cons_succ, List.set_cons_zero]
      have hb : ((bitsL j).getD k default).length = j := by
        rw [getD_el hk]
        exact (mem_bits.mp (List.getElem_mem hk)).1
      refine run_extE (enc := dR) (ys := [(bitsL j).getD k default ++ [0], (bitsL j).getD k default ++ [1]]) rfl (by left) ?_ ?_
      · have := flat_take_len (bitsL j) (fun b => [b ++ [0], b ++ [1]]) 2 k fun _ => Nat.le_refl _
        show _ + 2 ≤ _
        exact lim_of (by omega)
      · refine run_end ⟨some (dR ((bitsL j).getD k default)), ?_⟩
        rw [take_flat _ _ hk]
        rfl
    · rintro _ ⟨z, rfl⟩
      rw [List.take_length]
      exact run_set (by left) (run_end ⟨_, _, _, rfl⟩)
  · rintro _ ⟨x, y, z, rfl⟩
    exact run_ret (by left) rfl
/-! ### even marks -/
def evenAt (m : List (List Nat)) (r c l : List Nat) (i j : Nat) : Nat := (r.getD i 0 + c.getD j 0 + l.getD (atM m i j) 0) % 2
def EvenM (m : List (List Nat)) (n : Nat) (r c l : List Nat) : Prop := ∀ i, i < n → ∀ j, j < n → evenAt m r c l i j = 0
instance (m : List (List Nat)) (n : Nat) (r c l : List Nat) : Decidable (EvenM m n r c l) := inferInstanceAs (Decidable (∀ i, i < n → ∀ j, j < n → _))
def letsBy (m : List (List Nat)) (n : Nat) (f : Nat) (r : List Nat) : List Nat := (List.range n).map fun x => (r.getD ((colN m 0).idxOf x) 0 + f) % 2
def colsBy (m : List (List Nat)) (n : Nat) (l r : List Nat) : List Nat := (List.range n).map fun j => (l.getD (atM m 0 j) 0 + r.getD 0 0) % 2
def mkO (m : List (List Nat)) (n : Nat) (r : List Nat) (f : Nat) : Option (List (List Nat)) :=
  if EvenM m n r (colsBy m n (letsBy m n f r) r) (letsBy m n f r) then some [r, colsBy m n (letsBy m n f r) r, letsBy m n f r] else none
section
variable {n : Nat} {m : List (List Nat)}
theorem IsMk.at_lt {r : List Nat} (h : IsMk n r) {i : Nat} (hi : i < n) : r.getD i 0 < 2 := by
  have : i < r.length := by rw [h.1]; exact hi
  rw [getD_el this]
  exact h.2 _ (List.getElem_mem this)
theorem mk_map (f : Nat → Nat) (hf : ∀ i, f i < 2) : IsMk n ((List.range n).map f) := ⟨by simp, fun x hx => by
  obtain ⟨i, _, rfl⟩ := List.mem_map.mp hx
  exact hf i⟩
theorem mk_lets (f : Nat) (r : List Nat) : IsMk n (letsBy m n f r) := mk_map _ fun _ => Nat.mod_lt _ (by decide)
theorem mk_cols (l r : List Nat) : IsMk n (colsBy m n l r) := mk_map _ fun _ => Nat.mod_lt _ (by decide)
theorem mk_ext {a b : List Nat} (ha : IsMk n a) (hb : IsMk n b) (h : ∀ i, i < n → a.getD i 0 = b.getD i 0) : a = b := by
  rw [eq_map_range (d := 0) ha.1, eq_map_range (d := 0) hb.1]
  exact List.map_congr_left fun i hi => h i (List.mem_range.mp hi)
/-- where a letter stands in the first column -/
theorem Lat.col0 (h : Lat n m) (h1 : 1 ≤ n) {x : Nat} (hx : x < n) : (colN m 0).idxOf x < n ∧ atM m ((colN m 0).idxOf x) 0 = x := by
  have hm := perm_mem (h.col_perm (j := 0) h1) hx
  have hl := List.idxOf_lt_length_iff.mpr hm
  have e := idx_at hm
  rw [List.length_map, h.len] at hl
  refine ⟨hl, ?_⟩
  rw [getD_map (e := []) (by rw [h.len]; exact hl)] at e
  exact e
theorem Lat.idx0 (h : Lat n m) (h1 : 1 ≤ n) {i : Nat} (hi : i < n) : (colN m 0).idxOf (atM m i 0) = i := by
  obtain ⟨a, b⟩ := h.col0 h1 (h.at_lt hi h1)
  exact h.col_inj a h1 hi b
theorem lets_at (h : Lat n m) (h1 : 1 ≤ n) (f : Nat) (r : List Nat) {i : Nat} (hi : i < n) : (letsBy m n f r).getD (atM m i 0) 0 = (r.getD i 0 + f) % 2 := by
  unfold letsBy
  rw [getD_range_map (h.at_lt hi h1), h.idx0 h1 hi]
theorem cols_at (l r : List Nat) {j : Nat} (hj : j < n) : (colsBy m n l r).getD j 0 = (l.getD (atM m 0 j) 0 + r.getD 0 0) % 2 := getD_range_map hj
theorem even_uniq (h : Lat n m) (h1 : 1 ≤ n) {r c l : List Nat} (hr : IsMk n r) (hc : IsMk n c) (hl : IsMk n l) (he : EvenM m n r c l) : l = letsBy m n (c.getD 0 0) r ∧ c = colsBy m n l r := by
  constructor
  · refine mk_ext hl (mk_lets _ _) fun x hx => ?_
    obtain ⟨a, b⟩ := h.col0 h1 hx
    have e := he _ a 0 h1
    have e2 := lets_at h h1 (c.getD 0 0) r a
    rw [b] at e2
    unfold evenAt at e
    rw [b] at e
    rw [e2]
    have := hl.at_lt hx
    omega
  · refine mk_ext hc (mk_cols _ _) fun j hj => ?_
    have e := he 0 h1 j hj
    rw [cols_at l r hj]
    unfold evenAt at e
    have := hc.at_lt hj
    omega
theorem mkO_some (h : Lat n m) (h1 : 1 ≤ n) {r : List Nat} {f : Nat} {t : List (List Nat)} (hr : IsMk n r) (hf : f < 2) : mkO m n r f = some t ↔ ∃ c l, t = [r, c, l] ∧ IsMk n c ∧ IsMk n l ∧ EvenM m n r c l ∧ c.getD 0 0 = f := by
  constructor
  · intro e
    unfold mkO at e
    split at e
    · rename_i he
      cases e
      refine ⟨_, _, rfl, mk_cols _ _, mk_lets _ _, he, ?_⟩
      rw [cols_at _ _ h1, lets_at h h1 f r h1]
      have := hr.at_lt h1
      omega
    · cases e
  · rintro ⟨c, l, rfl, hc, hl, he, rfl⟩
    obtain ⟨e1, e2⟩ := even_uniq h h1 hr hc hl he
    unfold mkO
    rw [← e1, ← e2, if_pos he]
def allM (m : List (List Nat)) (n : Nat) : List (List (List Nat)) := (bitsL n).flatMap fun r => [0, 1].filterMap (mkO m n r)
/-- three rows of even marks -/
def IsEv (m : List (List Nat)) (n : Nat) (t : List (List Nat)) : Prop := ∃ r c l, t = [r, c, l] ∧ IsMk n r ∧ IsMk n c ∧ IsMk n l ∧ EvenM m n r c l
theorem mem_allM (h : Lat n m) (h1 : 1 ≤ n) {t : List (List Nat)} : t ∈ allM m n ↔ IsEv m n t := by
  unfold allM
  rw [List.mem_flatMap]
  constructor
  · rintro ⟨r, hr, ht⟩
    obtain ⟨f, hf, ht⟩ := List.mem_filterMap.mp ht
    have hf2 : f < 2 := by
      have : f = 0 ∨ f = 1 := by simpa using hf
      omega
    obtain ⟨c, l, rfl, a, b, e, _⟩ := (mkO_some h h1 (mem_bits.mp hr) hf2).mp ht
    exact ⟨r, c, l, rfl, mem_bits.mp hr, a, b, e⟩
  · rintro ⟨r, c, l, rfl, hr, hc, hl, he⟩
    have hc0 := hc.at_lt h1
    refine ⟨r, mem_bits.mpr hr, List.mem_filterMap.mpr ⟨c.getD 0 0, ?_, (mkO_some h h1 hr hc0).mpr ⟨c, l, rfl, hc, hl, he, rfl⟩⟩⟩
    have : c.getD 0 0 = 0 ∨ c.getD 0 0 = 1 := by omega
    rcases this with z | z <;> rw [z] <;> simp
theorem nodup_allM (h : Lat n m) (h1 : 1 ≤ n) : (allM m n).Nodup := by
  unfold allM
  refine nodup_flat (nodup_bits n) (fun r hr => ?_) fun a ha b hb y hy hz => ?_
  · have hr := mem_bits.mp hr
    have k : ∀ t, mkO m n r 0 = some t → mkO m n r 1 = some t → False := by
      intro t e1 e2
      obtain ⟨c, l, rfl, _, _, _, z⟩ := (mkO_some h h1 hr (by decide)).mp e1
      obtain ⟨c', l', e, _, _, _, z'⟩ := (mkO_some h h1 hr (by decide)).mp e2
      injection e with _ e
      injection e with e _
      rw [e] at z
      omega
    cases e1 : mkO m n r 0 with
    | none => cases e2 : mkO m n r 1 <;> simp [e1, e2]
    | some t =>
      cases e2 : mkO m n r 1 with
      | none => simp [e1, e2]
      | some u =>
        simp only [List.filterMap_cons, e1, e2, List.filterMap_nil]
        simp
        intro e
        subst e
        exact k t e1 e2
  · obtain ⟨f, hf, hy⟩ := List.mem_filterMap.mp hy
    obtain ⟨g, hg, hz⟩ := List.mem_filterMap.mp hz
    have f2 : f < 2 := by
      have : f = 0 ∨ f = 1 := by simpa using hf
      omega
    have g2 : g < 2 := by
      have : g = 0 ∨ g = 1 := by simpa using hg
      omega
    obtain ⟨c, l, rfl, _⟩ := (mkO_some h h1 (mem_bits.mp ha) f2).mp hy
    obtain ⟨c', l', e, _⟩ := (mkO_some h h1 (mem_bits.mp hb) g2).mp hz
    injection e
end
end DL
/-! part Cb2 -/
namespace DL
open PySem
local macro_rules | `(tactic| nofun) => `(tactic| first
  | assumption
  | omega
  | exact lim_of (by omega)
  | exact lim_lt (by omega)
  | ((simp only [List.length_map, List.length_range, List.length_append, List.length_cons, List.length_nil, List.length_replicate, List.length_set, List.length_singleton, List.length_take, List.length_drop, List.length_dropLast]) <;> first | omega | exact lim_of (by omega) | exact lim_lt (by omega))
  | decide
  | fail)
local macro_rules | `(tactic| right) => `(tactic| first
  | with_reducible assumption
  | with_reducible exact add_I _ _
  | ((with_reducible apply sub_I); nofun)
  | ((with_reducible apply mul_I); nofun)
  | ((with_reducible apply mod_I); nofun)
  | ((with_reducible apply mod_c); nofun)
  | ((with_reducible apply fdv_I) <;> nofun)
  | with_reducible exact dAdd_ii _ _
  | with_reducible exact dSub_ii _ _
  | with_reducible exact lt_I _ _
  | with_reducible exact le_I _ _
  | with_reducible exact gt_I _ _
  | with_reducible exact ge_I _ _
  | with_reducible exact eq_I _ _
  | with_reducible exact ne_I _ _
  | with_reducible exact eq_R _ _
  | with_reducible exact ne_R _ _
  | with_reducible exact eq_M _ _
  | with_reducible exact ne_M _ _
  | with_reducible exact eq_lR _ _
  | with_reducible exact ne_lR _ _
  | with_reducible exact eq_lL _ _
  | with_reducible exact ne_lL _ _
  | ((with_reducible apply ix_row); (· assumption); (· nofun))
  | ((with_reducible apply ix_cel); (· assumption); (· nofun); (· nofun))
  | ((with_reducible apply ix_R); nofun)
  | ((with_reducible apply ix_M); nofun)
  | ((with_reducible apply ix_lR); nofun)
  | ((with_reducible apply ix_lL); nofun)
  | ((with_reducible apply ix_lM); nofun)
  | ((with_reducible apply len_Ln); assumption)
  | ((with_reducible apply len_row); (· assumption); (· nofun))
  | with_reducible exact len_R _
  | with_reducible exact len_M _
  | with_reducible exact len_lR _
  | with_reducible exact len_lL _
  | with_reducible exact tup_lR _
  | with_reducible exact tup_lM _
  | with_reducible exact tup_Rt _
  | with_reducible exact tup_Mt _
  | with_reducible exact list_R' _
  | with_reducible exact list_M' _
  | ((with_reducible apply app_R); nofun)
  | ((with_reducible apply app_lR); nofun)
  | ((with_reducible apply app_lL); nofun)
  | ((with_reducible apply app_M); nofun)
  | with_reducible exact in_lR _ _
  | with_reducible exact in_R _ _
  | with_reducible exact in_lL _ _
  | with_reducible exact notIn_lR _ _
  | with_reducible exact notIn_R _ _
  | with_reducible exact notIn_lL _ _
  | with_reducible exact sum_R _
  | with_reducible exact sum_lR _
  | ((with_reducible apply tindex_ok); nofun)
  | with_reducible exact truth_bool _
  | with_reducible exact truth_I _
  | with_reducible exact truth_lR _
  | with_reducible exact truth_lL _
  | with_reducible exact truth_lf _ _
  | with_reducible exact isN_R _
  | with_reducible exact isN_M _
  | with_reducible exact isN_n
  | with_reducible exact isN_l _
  | with_reducible exact notN_R _
  | with_reducible exact notN_M _
  | with_reducible exact notN_n
  | with_reducible exact notN_l _
  | with_reducible exact isi_R _
  | with_reducible exact isi_M _
  | with_reducible exact slR_to _ _
  | with_reducible exact slR_from _ _
  | with_reducible exact slM_to _ _
  | with_reducible exact slM_from _ _
  | with_reducible exact slL_to _ _
  | with_reducible exact slL_from _ _
  | with_reducible exact sllR_to _ _
  | with_reducible exact sllR_from _ _
  | with_reducible exact within_I _ _ _
  | ((with_reducible apply shl_I) <;> nofun)
  | with_reducible exact shr_I _ _
  | with_reducible exact and1_I _
  | ((with_reducible apply fdv_c) <;> nofun)
  | with_reducible exact slR_dl _
  | with_reducible exact dNeg_i _
  | with_reducible exact eq_lS _ _
  | with_reducible exact ne_lS _ _
  | with_reducible exact len_lS _
  | with_reducible exact in_lS _ _
  | with_reducible exact notIn_lS _ _
  | ((with_reducible apply ix_lS); nofun)
  | with_reducible exact truth_lS _
  | ((with_reducible apply app_g); nofun)
  | ((with_reducible apply app_gt); nofun)
  | fail)
local macro_rules | `(tactic| left) => `(tactic| first
  | ((with_reducible apply ev_var); exact rfl)
  | with_reducible exact ev_lit _ _
  | with_reducible exact ev_C _ _
  | ((with_reducible apply g_atM); (· left); (· assumption); (· left); (· left); (· nofun); (· nofun))
  | ((with_reducible apply ev_g2); (· left); (· left); (· right))
  | ((with_reducible apply ev_g1); (· left); (· right))
  | ((with_reducible apply ev_call1); (· left); (· right))
  | ((with_reducible apply ev_callF); (· left); (· right))
  | with_reducible exact ev_a0 _
  | ((with_reducible apply ev_a1); (· left); (· left))
  | with_reducible exact ev_aI0 _
  | ((with_reducible apply ev_aI1); (· left); (· left))
  | with_reducible exact ev_aR0 _
  | ((with_reducible apply ev_aR1); (· left); (· left))
  | ((with_reducible apply ev_tupI); (· left); (· nofun))
  | ((with_reducible apply ev_tupR); (· left); (· nofun))
  | ((with_reducible apply ev_tup); (· left); (· nofun))
  | ((with_reducible apply ev_lstI); (· left); (· nofun))
  | ((with_reducible apply ev_lstR); (· left); (· nofun))
  | ((with_reducible apply ev_lst); (· left); (· nofun))
  | ((with_reducible apply ev_not); (· left); (· right))
  | ((with_reducible apply ev_andB); (· left); (· (intro _; left)))
  | ((with_reducible apply ev_orB); (· left); (· (intro _; left)))
  | ((with_reducible apply ev_M); (· left); (· rfl); (· left); (· right))
  | ((with_reducible apply ev_sl); (· left); (· left); (· left); (· right))
  | with_reducible exact ev_oNo _
  | ((with_reducible apply ev_oSm); left)
  | ((with_reducible apply ev_lRg); left)
  | ((with_reducible apply ev_tRg); left)
  | with_reducible exact Eq.refl (tYs _)
  | ((with_reducible apply ts_cm); (· left); (· left); (· right))
  | ((with_reducible apply ts_and); (· left); (· (intro _; left)))
  | ((with_reducible apply ts_or); (· left); (· (intro _; left)))
  | ((with_reducible apply ts_not); left)
  | ((with_reducible apply ts_tru); (· left); (· right))
  | ((with_reducible apply tt_val); left)
  | ((with_reducible apply tt_chn); (· left); (· left); (· right); (· (intro _; left)); (· (intro _; right)))
  | ((with_reducible apply it_rng1); (· left); (· nofun))
  | ((with_reducible apply it_rng2); (· left); (· left); (· nofun); (· nofun))
  | ((with_reducible apply it_R); left)
  | ((with_reducible apply it_M); left)
  | ((with_reducible apply it_list); left)
  | ((with_reducible apply it_tup); left)
  | ((with_reducible apply it_enMn); (· left); (· exact Lat.len (by assumption)))
  | ((with_reducible apply it_zpR); (· left); (· left); (· nofun); (· nofun))
  | ((with_reducible apply it_zpM); (· left); (· left); (· nofun); (· nofun))
  | ((with_reducible apply it_enRn); (· left); (· exact Lat.rlen (by assumption) (by nofun)))
  | ((with_reducible apply it_enR); left)
  | ((with_reducible apply it_enM); left)
  | ((with_reducible apply it_enlR); left)
  | ((with_reducible apply it_enL); left)
  | ((with_reducible apply ev_lcmI); (· left); (· nofun); (· infer_instance))
  | ((with_reducible apply ev_lcmR); (· left); (· nofun); (· infer_instance))
  | ((with_reducible apply ev_lcmL); (· left); (· nofun); (· infer_instance))
  | ((with_reducible apply ev_lcm); (· left); (· nofun); (· infer_instance))
  | ((with_reducible apply ev_lcpI); (· left); (· nofun); (· infer_instance))
  | ((with_reducible apply ev_lcf); (· left); (· nofun); (· (intro _; rfl)); (· infer_instance))
  | ((with_reducible apply ev_lc); (· left); (· nofun); (· infer_instance))
  | fail)
local macro_rules | `(tactic| infer_instance) => `(tactic| (intro a ha; (try dsimp only [wipeE, List.set_cons_succ, List.set_cons_zero]); (first | (have h1 := List.mem_range.mp ha) | (have h1 := Lat.row (by assumption) _ ha) | skip); first | left | (constructor; (· left); (· (intro hp; left)))))
local macro_rules | `(tactic| and_intros) => `(tactic| first
  | ((with_reducible apply run_set); (· left); (try dsimp only [List.set_cons_succ, List.set_cons_zero]))
  | ((with_reducible apply run_expr); (· left))
  | ((with_reducible apply run_ret); (· left))
  | (with_reducible apply run_skip)
  | (with_reducible apply run_seq)
  | (with_reducible apply run_end))
def encO : Option (List (List Nat)) → D
  | none => .none
  | some t => dM t
section
variable {n : Nat} {m : List (List Nat)}
theorem marked_ok (h : Lat n m) (h1 : 1 ≤ n) (h9 : n ≤ 9) {r : List Nat} (hr : IsMk n r) {f : Nat} (hf : f < 2) : g_marked_by [dM m, dI f, dR r] = .ok (encO (mkO m n r f)) := by
  refine rz_run (m := m_marked_by) (ρ := [some (dM m), some (dI f), some (dR r), none, none, none, none, none, none, none]) ?_
  unfold m_marked_by
  have hrl := hr.1
  have hz := zeros_ok (n := n) (by omega)
  refine run_set (d := lR (List.replicate n 0)) ((gOp2 (show gLst (aCons (gC (.int 0)) aNil) _ = .ok (.list [.int 0]) from rfl) ((call1 rfl).trans (len_Ln h))).trans hz) ?_
  dsimp only [List.set_cons_succ, List.set_cons_zero]
  refine run_forP (fun j ρ => ∃ ls x y, ρ = [some (dM m), some (dI f), some (dR r), some (lR ls), x, y, none, none, none, none] ∧ ls.length = n ∧ ∀ i, i < j → ls.getD (atM m i 0) 0 = (r.getD i 0 + f) % 2) (it_enRn (by left) hrl) ⟨_, _, _, rfl, List.length_replicate, fun i hi => by omega⟩ ?_ ?_
  · rintro j hj _ ⟨ls, x, y, rfl, hl, hI⟩
    dsimp only [List.set_cons_succ, List.set_cons_zero]
    have hlt := h.at_lt hj h1
    refine run_put1 (x := atM m j 0) (r := ls) rfl (by left) (by left) (by omega) (run_end ⟨_, _, _, rfl, by rw [List.length_set, hl], fun i hi => ?_⟩)
    rw [getD_set (by omega)]
    by_cases e : atM m j 0 = atM m i 0
    · have : j = i := h.col_inj hj h1 (by omega) e
      subst this
      rw [if_pos rfl]
    · rw [if_neg e]
      refine hI i ?_
      have : i ≠ j := fun z => e (by rw [z])
      omega
  rintro _ ⟨ls, x, y, rfl, hl, hI⟩
  have els : ls = letsBy m n f r := by
    rw [eq_map_range (d := 0) hl]
    unfold letsBy
    refine List.map_congr_left fun z hz => ?_
    obtain ⟨a, b⟩ := h.col0 h1 (List.mem_range.mp hz)
    rw [← hI _ a, b]
  subst els
  have hlt0 : ∀ a ∈ m.getD 0 [], a < n := h.lt _ (h.mem h1)
  have hlets : (letsBy m n f r).length = n := (mk_lets f r).1
  have hcols : (colsBy m n (letsBy m n f r) r).length = n := (mk_cols _ _).1
  refine run_set (d := lR (colsBy m n (letsBy m n f r) r)) ?_ ?_
  · have e : colsBy m n (letsBy m n f r) r = (m.getD 0 []).map fun a => ((letsBy m n f r).getD a 0 + r.getD 0 0) % 2 := by
      conv => rhs; rw [eq_map_range (d := 0) (h.rlen h1)]
      rw [List.map_map]
      rfl
    rw [e]
    refine ev_lcmI (by left) (by have := h.rlen h1; nofun) fun a ha => ?_
    have := hlt0 a ha
    dsimp only [mk, wipeE, List.set_cons_succ, List.set_cons_zero]
    left
  dsimp only [List.set_cons_succ, List.set_cons_zero]
  generalize hL : letsBy m n f r = L at *
  generalize hC : colsBy m n L r = C at *
  have emk : mkO m n r f = if EvenM m n r C L then some [r, C, L] else none := by
    unfold mkO
    rw [hL, hC]
  refine run_forP (fun j ρ => ∃ x y z v w, ρ = [some (dM m), some (dI f), some (dR r), some (lR L), x, y, some (lR C), z, v, w] ∧ ∀ i, i < j → ∀ k, k < n → evenAt m r C L i k = 0) (by left) ⟨_, _, _, _, _, rfl, fun i hi => by omega⟩ ?_ ?_
  · rintro j hj _ ⟨x, y, z, v, w, rfl, hJ⟩
    dsimp only [List.set_cons_succ, List.set_cons_zero]
    refine run_forP (fun k ρ => ∃ v w, ρ = [some (dM m), some (dI f), some (dR r), some (lR L), some (dI j), y, some (lR C), some (dR (m.getD j [])), v, w] ∧ ∀ i, i < k → evenAt m r C L j i = 0) (by left) ⟨_, _, rfl, fun i hi => by omega⟩ ?_ ?_
    · rintro k hk _ ⟨v, w, rfl, hK⟩
      dsimp only [List.set_cons_succ, List.set_cons_zero]
      have hat : (m.getD j []).getD k 0 < n := h.at_lt hj hk
      refine run_if (by left) (fun e => ?_) (fun e => ?_)
      · refine run_seq (run_ret (by left) ?_)
        have e : evenAt m r C L j k = 1 := of_decide_eq_true e
        have : ¬ EvenM m n r C L := fun z => by
          rw [z j hj k hk] at e
          cases e
        rw [emk, if_neg this]
        rfl
      · refine run_skip (run_end ⟨_, _, rfl, fun i hi => ?_⟩)
        have e : ¬ evenAt m r C L j k = 1 := of_decide_eq_false e
        by_cases c : i = k
        · subst c
          unfold evenAt at e ⊢
          omega
        · exact hK i (by omega)
    · rintro _ ⟨v, w, rfl, hK⟩
      refine run_end ⟨_, _, _, _, _, rfl, fun i hi => ?_⟩
      by_cases c : i = j
      · subst c
        exact hK
      · exact hJ i (by omega)
  · rintro _ ⟨x, y, z, v, w, rfl, hJ⟩
    refine run_ret (d := dM [r, C, L]) (by left) ?_
    rw [emk, if_pos (show EvenM m n r C L from hJ)]
    rfl
theorem allM_len (m : List (List Nat)) (h9 : n ≤ 9) : (allM m n).length ≤ 1024 := by
  have h1 := flat_len (xs := bitsL n) (f := fun r => [0, 1].filterMap (mkO m n r)) (c := 2) fun r _ => List.length_filterMap_le _ _
  rw [bits_len] at h1
  have := Nat.pow_le_pow_right (n := 2) (i := n) (j := 9) (by decide) h9
  unfold allM
  omega
theorem take_fmap {α β : Type} [Inhabited α] (xs : List α) (f : α → Option β) {k : Nat} (h : k < xs.length) : (xs.take (k + 1)).filterMap f = (xs.take k).filterMap f ++ (f (xs.getD k default)).toList := by
  rw [List.take_succ, List.filterMap_append, List.getElem?_eq_getElem h, getD_el h]
  cases hfx : f xs[k] <;> simp [List.filterMap_cons, hfx]
def srtM (m : List (List Nat)) (n : Nat) : List (List (List Nat)) := (allM m n).mergeSort (leD dM)
theorem mem_srtM (h : Lat n m) (h1 : 1 ≤ n) {t : List (List Nat)} : t ∈ srtM m n ↔ IsEv m n t := by
  unfold srtM
  rw [List.mem_mergeSort, mem_allM h h1]
theorem allM_ne (h : Lat n m) (h1 : 1 ≤ n) : ∀ t ∈ allM m n, t ≠ [] := by
  intro t ht
  obtain ⟨r, c, l, rfl, _⟩ := (mem_allM h h1).mp ht
  intro e
  cases e
theorem all_marks_ok (h : Lat n m) (h1 : 1 ≤ n) (h9 : n ≤ 9) : g_all_marks [dM m] = .ok (lS (srtM m n)) := by
  refine rz_run (m := m_all_marks) (ρ := [some (dM m), none, none, none, none]) ?_
  unfold m_all_marks
  have hck := lat_checked h h1 h9
  have hmo := marks_of_ok h9
  have hal := allM_len m h9
  have hbl : (bitsL n).length ≤ 512 := by
    rw [bits_len]
    exact Nat.pow_le_pow_right (n := 2) (i := n) (j := 9) (by decide) h9
  have hlen : ∀ k, ((bitsL n).take k |>.flatMap fun r => [0, 1].filterMap (mkO m n r)).length ≤ 1024 := fun k => by
    have := flat_take_len (bitsL n) (fun r => [0, 1].filterMap (mkO m n r)) 2 k fun _ => List.length_filterMap_le _ _
    omega
  and_intros
  refine run_set (d := lS []) rfl ?_
  dsimp only [List.set_cons_succ, List.set_cons_zero]
  refine run_for (xs := bitsL n) (enc := dR) (fun k ρ => ∃ x y z, ρ = [some (dM m), some (lS (((bitsL n).take k).flatMap fun r => [0, 1].filterMap (mkO m n r))), x, y, z]) (by left) ⟨_, _, _, rfl⟩ ?_ ?_
  · rintro k hk _ ⟨x, y, z, rfl⟩
    dsimp only [List.set_cons_succ, List.set_cons_zero]
    have hr : IsMk n ((bitsL n).getD k default) := by
      rw [getD_el hk]
      exact mem_bits.mp (List.getElem_mem hk)
    have hl1 := hlen (k + 1)
    rw [take_flat _ _ hk] at hl1
    rw [take_flat _ _ hk]
    have hl2 := hlen k
    generalize (bitsL n).getD k default = r at *
    generalize ((bitsL n).take k).flatMap (fun r => [0, 1].filterMap (mkO m n r)) = acc at *
    refine run_for (xs := [0, 1]) (enc := dI) (fun j ρ => ∃ y z, ρ = [some (dM m), some (lS (acc ++ ([0, 1].take j).filterMap (mkO m n r))), some (dR r), y, z]) (by left) ⟨y, z, by rw [List.take_zero, List.filterMap_nil, List.append_nil]⟩ ?_ ?_
    · rintro j hj _ ⟨y, z, rfl⟩
      dsimp only [List.set_cons_succ, List.set_cons_zero]
      have hf : [0, 1].getD j default < 2 := by
        have : j = 0 ∨ j = 1 := by
          have : j < 2 := hj
          omega
        rcases this with rfl | rfl <;> decide
      have hmk := marked_ok h h1 h9 hr hf
      rw [take_fmap _ _ hj]
      refine run_set hmk ?_
      dsimp only [List.set_cons_succ, List.set_cons_zero]
      cases ho : mkO m n r ([0, 1].getD j default) with
      | none =>
        rw [Option.toList_none, List.append_nil]
        exact run_ifF (k := false) rfl rfl (run_skip (run_end ⟨_, _, rfl⟩))
      | some t =>
        rw [Option.toList_some, ← List.append_assoc]
        refine run_ifT (k := true) rfl rfl (run_seq (run_appE (enc := dM) (x := t) rfl rfl ?_ (run_skip (run_end ⟨_, _, rfl⟩))))
        · rw [List.length_append]
          have := List.length_filterMap_le (mkO m n r) ([0, 1].take j)
          rw [List.length_take] at this
          have : ([0, 1] : List Nat).length = 2 := rfl
          exact lim_lt (by omega)
    · rintro _ ⟨y, z, rfl⟩
      exact run_end ⟨_, _, _, rfl⟩
  · rintro _ ⟨x, y, z, rfl⟩
    rw [List.take_length]
    have e := sorted_sqs (xs := allM m n) (lim_of (by omega)) (allM_ne h h1)
    exact run_ret (ev_call1 (x := lS (allM m n)) rfl e) rfl
def oddT (t : List (List Nat)) : Bool := decide (((t.getD 0 []).sum + (t.getD 1 []).sum + (t.getD 2 []).sum) % 2 = 1)
theorem bar_ok (h : Lat n m) (h1 : 1 ≤ n) (h9 : n ≤ 9) : g_bar [dM m] = .ok (encO ((srtM m n).find? oddT)) := by
  refine rz_run (m := m_bar) (ρ := [some (dM m), none]) ?_
  unfold m_bar
  have ham := all_marks_ok h h1 h9
  refine run_for (xs := srtM m n) (enc := dM) (fun k ρ => ∃ x, ρ = [some (dM m), x] ∧ ((srtM m n).take k).find? oddT = none) (by left) ⟨_, rfl, rfl⟩ ?_ ?_
  · rintro k hk _ ⟨x, rfl, hI⟩
    dsimp only [List.set_cons_succ, List.set_cons_zero]
    have hel := getD_el (d := (default : List (List Nat))) hk
    have hev : IsEv m n ((srtM m n).getD k default) := (mem_srtM h h1).mp (by rw [hel]; exact List.getElem_mem hk)
    generalize ht : (srtM m n).getD k default = t at *
    have hlen : t.length = 3 := by
      obtain ⟨r, c, l, rfl, _⟩ := hev
      rfl
    refine run_if (by left) (fun e => ?_) (fun e => ?_)
    · refine run_seq (run_ret (by left) ?_)
      have : (srtM m n).find? oddT = some t := by
        rw [← List.take_append_drop k (srtM m n), List.find?_append, hI, List.drop_eq_getElem_cons hk, ← hel, List.find?_cons_of_pos (by exact e)]
        rfl
      rw [this]
      rfl
    · refine run_skip (run_end ⟨_, rfl, ?_⟩)
      have e : oddT t = false := e
      rw [List.take_succ, List.find?_append, hI, List.getElem?_eq_getElem hk, ← hel]
      simp [e]
  · rintro _ ⟨x, rfl, hI⟩
    rw [List.take_length] at hI
    rw [hI]
    exact run_ret (d := .none) rfl rfl
end
end DL
/-! part Cb3 -/
namespace DL
open PySem
local macro_rules | `(tactic| nofun) => `(tactic| first
  | assumption
  | omega
  | exact lim_of (by omega)
  | exact lim_lt (by omega)
  | ((simp only [List.length_map, List.length_range, List.length_append, List.length_cons, List.length_nil, List.length_replicate, List.length_set, List.length_singleton, List.length_take, List.length_drop, List.length_dropLast]) <;> first | omega | exact lim_of (by omega) | exact lim_lt (by omega))
  | decide
  | fail)
local macro_rules | `(tactic| right) => `(tactic| first
  | with_reducible assumption
  | with_reducible exact add_I _ _
  | ((with_reducible apply sub_I); nofun)
  | ((with_reducible apply mul_I); nofun)
  | ((with_reducible apply mod_I); nofun)
  | ((with_reducible apply mod_c); nofun)
  | ((with_reducible apply fdv_I) <;> nofun)
  | with_reducible exact dAdd_ii _ _
  | with_reducible exact dSub_ii _ _
  | with_reducible exact lt_I _ _
  | with_reducible exact le_I _ _
  | with_reducible exact gt_I _ _
  | with_reducible exact ge_I _ _
  | with_reducible exact eq_I _ _
  | with_reducible exact ne_I _ _
  | with_reducible exact eq_R _ _
  | with_reducible exact ne_R _ _
  | with_reducible exact eq_M _ _
  | with_reducible exact ne_M _ _
  | with_reducible exact eq_lR _ _
  | with_reducible exact ne_lR _ _
  | with_reducible exact eq_lL _ _
  | with_reducible exact ne_lL _ _
  | ((with_reducible apply ix_row); (· assumption); (· nofun))
  | ((with_reducible apply ix_cel); (· assumption); (· nofun); (· nofun))
  | ((with_reducible apply ix_R); nofun)
  | ((with_reducible apply ix_M); nofun)
  | ((with_reducible apply ix_lR); nofun)
  | ((with_reducible apply ix_lL); nofun)
  | ((with_reducible apply ix_lM); nofun)
  | ((with_reducible apply len_Ln); assumption)
  | ((with_reducible apply len_row); (· assumption); (· nofun))
  | with_reducible exact len_R _
  | with_reducible exact len_M _
  | with_reducible exact len_lR _
  | with_reducible exact len_lL _
  | with_reducible exact tup_lR _
  | with_reducible exact tup_lM _
  | with_reducible exact tup_Rt _
  | with_reducible exact tup_Mt _
  | with_reducible exact list_R' _
  | with_reducible exact list_M' _
  | ((with_reducible apply app_R); nofun)
  | ((with_reducible apply app_lR); nofun)
  | ((with_reducible apply app_lL); nofun)
  | ((with_reducible apply app_M); nofun)
  | with_reducible exact in_lR _ _
  | with_reducible exact in_R _ _
  | with_reducible exact in_lL _ _
  | with_reducible exact notIn_lR _ _
  | with_reducible exact notIn_R _ _
  | with_reducible exact notIn_lL _ _
  | with_reducible exact sum_R _
  | with_reducible exact sum_lR _
  | ((with_reducible apply tindex_ok); nofun)
  | with_reducible exact truth_bool _
  | with_reducible exact truth_I _
  | with_reducible exact truth_lR _
  | with_reducible exact truth_lL _
  | with_reducible exact truth_lf _ _
  | with_reducible exact isN_R _
  | with_reducible exact isN_M _
  | with_reducible exact isN_n
  | with_reducible exact isN_l _
  | with_reducible exact notN_R _
  | with_reducible exact notN_M _
  | with_reducible exact notN_n
  | with_reducible exact notN_l _
  | with_reducible exact isi_R _
  | with_reducible exact isi_M _
  | with_reducible exact slR_to _ _
  | with_reducible exact slR_from _ _
  | with_reducible exact slM_to _ _
  | with_reducible exact slM_from _ _
  | with_reducible exact slL_to _ _
  | with_reducible exact slL_from _ _
  | with_reducible exact sllR_to _ _
  | with_reducible exact sllR_from _ _
  | with_reducible exact within_I _ _ _
  | ((with_reducible apply shl_I) <;> nofun)
  | with_reducible exact shr_I _ _
  | with_reducible exact and1_I _
  | ((with_reducible apply fdv_c) <;> nofun)
  | with_reducible exact slR_dl _
  | with_reducible exact dNeg_i _
  | with_reducible exact eq_lS _ _
  | with_reducible exact ne_lS _ _
  | with_reducible exact len_lS _
  | with_reducible exact in_lS _ _
  | with_reducible exact notIn_lS _ _
  | ((with_reducible apply ix_lS); nofun)
  | with_reducible exact truth_lS _
  | ((with_reducible apply app_g); nofun)
  | ((with_reducible apply app_gt); nofun)
  | fail)
local macro_rules | `(tactic| left) => `(tactic| first
  | ((with_reducible apply ev_var); exact rfl)
  | with_reducible exact ev_lit _ _
  | with_reducible exact ev_C _ _
  | ((with_reducible apply g_atM); (· left); (· assumption); (· left); (· left); (· nofun); (· nofun))
  | ((with_reducible apply ev_g2); (· left); (· left); (· right))
  | ((with_reducible apply ev_g1); (· left); (· right))
  | ((with_reducible apply ev_call1); (· left); (· right))
  | ((with_reducible apply ev_callF); (· left); (· right))
  | with_reducible exact ev_a0 _
  | ((with_reducible apply ev_a1); (· left); (· left))
  | with_reducible exact ev_aI0 _
  | ((with_reducible apply ev_aI1); (· left); (· left))
  | with_reducible exact ev_aR0 _
  | ((with_reducible apply ev_aR1); (· left); (· left))
  | ((with_reducible apply ev_tupI); (· left); (· nofun))
  | ((with_reducible apply ev_tupR); (· left); (· nofun))
  | ((with_reducible apply ev_tup); (· left); (· nofun))
  | ((with_reducible apply ev_lstI); (· left); (· nofun))
  | ((with_reducible apply ev_lstR); (· left); (· nofun))
  | ((with_reducible apply ev_lst); (· left); (· nofun))
  | ((with_reducible apply ev_not); (· left); (· right))
  | ((with_reducible apply ev_andB); (· left); (· (intro _; left)))
  | ((with_reducible apply ev_orB); (· left); (· (intro _; left)))
  | ((with_reducible apply ev_M); (· left); (· rfl); (· left); (· right))
  | ((with_reducible apply ev_sl); (· left); (· left); (· left); (· right))
  | with_reducible exact ev_oNo _
  | ((with_reducible apply ev_oSm); left)
  | ((with_reducible apply ev_lRg); left)
  | ((with_reducible apply ev_tRg); left)
  | with_reducible exact Eq.refl (tYs _)
  | ((with_reducible apply ts_cm); (· left); (· left); (· right))
  | ((with_reducible apply ts_and); (· left); (· (intro _; left)))
  | ((with_reducible apply ts_or); (· left); (· (intro _; left)))
  | ((with_reducible apply ts_not); left)
  | ((with_reducible apply ts_tru); (· left); (· right))
  | ((with_reducible apply tt_val); left)
  | ((with_reducible apply tt_chn); (· left); (· left); (· right); (· (intro _; left)); (· (intro _; right)))
  | ((with_reducible apply it_rng1); (· left); (· nofun))
  | ((with_reducible apply it_rng2); (· left); (· left); (· nofun); (· nofun))
  | ((with_reducible apply it_R); left)
  | ((with_reducible apply it_M); left)
  | ((with_reducible apply it_list); left)
  | ((with_reducible apply it_tup); left)
  | ((with_reducible apply it_enMn); (· left); (· exact Lat.len (by assumption)))
  | ((with_reducible apply it_zpR); (· left); (· left); (· nofun); (· nofun))
  | ((with_reducible apply it_zpM); (· left); (· left); (· nofun); (· nofun))
  | ((with_reducible apply it_enRn); (· left); (· exact Lat.rlen (by assumption) (by nofun)))
  | ((with_reducible apply it_enR); left)
  | ((with_reducible apply it_enM); left)
  | ((with_reducible apply it_enlR); left)
  | ((with_reducible apply it_enL); left)
  | ((with_reducible apply ev_lcmI); (· left); (· nofun); (· infer_instance))
  | ((with_reducible apply ev_lcmR); (· left); (· nofun); (· infer_instance))
  | ((with_reducible apply ev_lcmL); (· left); (· nofun); (· infer_instance))
  | ((with_reducible apply ev_lcm); (· left); (· nofun); (· infer_instance))
  | ((with_reducible apply ev_lcpI); (· left); (· nofun); (· infer_instance))
  | ((with_reducible apply ev_lcf); (· left); (· nofun); (· (intro _; rfl)); (· infer_instance))
  | ((with_reducible apply ev_lc); (· left); (· nofun); (· infer_instance))
  | fail)
local macro_rules | `(tactic| infer_instance) => `(tactic| (intro a ha; (try dsimp only [wipeE, List.set_cons_succ, List.set_cons_zero]); (first | (have h1 := List.mem_range.mp ha) | (have h1 := Lat.row (by assumption) _ ha) | skip); first | left | (constructor; (· left); (· (intro hp; left)))))
local macro_rules | `(tactic| and_intros) => `(tactic| first
  | ((with_reducible apply run_set); (· left); (try dsimp only [List.set_cons_succ, List.set_cons_zero]))
  | ((with_reducible apply run_expr); (· left))
  | ((with_reducible apply run_ret); (· left))
  | (with_reducible apply run_skip)
  | (with_reducible apply run_seq)
  | (with_reducible apply run_end))
/-! ### is_bar -/
section
variable {n : Nat} {m : List (List Nat)}
theorem filter_nil_iff {α : Type} (p : α → Bool) (xs : List α) : (xs.filter p).isEmpty = !xs.any p := by
  rw [Bool.eq_iff_iff, List.isEmpty_iff, List.filter_eq_nil_iff, Bool.not_eq_true', List.any_eq_false]
theorem are_marks_R (n : Nat) {r : List Nat} (hl : r.length ≤ 1000) : g_are_marks [dR r, dI n] = .ok (.bool (decide (IsMk n r))) := by
  refine rz_run (m := m_are_marks) (ρ := [some (dR r), some (dI n), none]) ?_
  unfold m_are_marks
  refine run_ret (d := .bool (true && (decide (r.length = n) && !(!((r.filter fun x => !decide (0 ≤ x ∧ x ≤ 1)).isEmpty)))) ) ?_ ?_
  · refine ev_andB (by left) fun _ => ev_andB (by left) fun _ => ev_not (ev_lcf (by left) (by nofun) (fun _ => rfl) fun a ha => ?_) (truth_lf _ _)
    dsimp only [wipeE, List.set_cons_succ, List.set_cons_zero]
    left
  · rw [rz_rt]
    congr 2
    have : (r.any fun x => !decide (0 ≤ x ∧ x ≤ 1)) = !decide (∀ x ∈ r, x < 2) := by
      rw [Bool.eq_iff_iff, List.any_eq_true, Bool.not_eq_true', decide_eq_false_iff_not]
      constructor
      · rintro ⟨x, hx, e⟩ z
        have := z x hx
        simp at e
        omega
      · intro z
        exact Classical.byContradiction fun w => z fun x hx => Classical.byContradiction fun v => w ⟨x, hx, by simp; omega⟩
    rw [filter_nil_iff, this]
    have e : decide (IsMk n r) = (decide (r.length = n) && decide (∀ x ∈ r, x < 2)) := by
      rw [Bool.eq_iff_iff, Bool.and_eq_true, decide_eq_true_eq, decide_eq_true_eq, decide_eq_true_eq]
      exact Iff.rfl
    rw [e, Bool.true_and, Bool.not_not, Bool.not_not]
theorem are_marks_L (n : Nat) (r : List Nat) : g_are_marks [lR r, dI n] = .ok (.bool false) := rfl
def qB : Option Nat → D
  | some x => dI x
  | none => .bool true
def qOk : Option Nat → Bool
  | some x => decide (0 ≤ x ∧ x ≤ 1)
  | none => false
theorem qOk_eq (o : Option Nat) : g_is_within [qB o, dI 0, dI 1] = .ok (.bool (qOk o)) := by
  cases o with
  | none => rfl
  | some x => exact within_I x 0 1
theorem qB_map (r : List Nat) : (r.map dI ++ [PyData.bool true]) = (r.map some ++ [none]).map qB := by
  rw [List.map_append, List.map_map]
  rfl
def tuT (r : List Nat) : D := .tuple (r.map dI ++ [PyData.bool true])
theorem are_marks_T (n : Nat) (r : List Nat) (hl : r.length ≤ 1000) : g_are_marks [tuT r, dI n] = .ok (.bool false) := by
  refine rz_run (m := m_are_marks) (ρ := [some (tuT r), some (dI n), none]) ?_
  unfold m_are_marks
  have e1 : dLen (tuT r) = .ok (dI (r.length + 1)) := by
    show Rz.ok (PyData.int ((r.map dI ++ [PyData.bool true]).length : Nat)) = _
    rw [List.length_append, List.length_map]
    rfl
  refine run_ret (d := .bool (true && (decide (r.length + 1 = n) && !(!(((r.map some ++ [none]).filter fun o => !qOk o).isEmpty)))) ) ?_ ?_
  · refine ev_andB (k := true) rfl fun _ => ev_andB (by left) fun _ => ev_not (ev_lcf (enc := qB) ?_ ?_ (fun _ => rfl) fun a ha => ?_) (truth_lf _ _)
    · refine it_tup ?_
      rw [← qB_map]
      exact rfl
    · rw [List.length_append, List.length_map]
      exact lim_of (by rw [List.length_singleton]; omega)
    · dsimp only [wipeE, List.set_cons_succ, List.set_cons_zero]
      have := qOk_eq a
      left
  · rw [rz_rt]
    congr 2
    rw [filter_nil_iff, List.any_append]
    have : ([none].any fun o => !qOk o) = true := rfl
    rw [this, Bool.or_true]
    simp
/-- a part of what is looked at -/
inductive Part (n : Nat) : D → Bool → Prop
  | row (r : List Nat) (h : r.length ≤ 1000) : Part n (dR r) (decide (IsMk n r))
  | lst (r : List Nat) : Part n (lR r) false
  | tru (r : List Nat) (h : r.length ≤ 1000) : Part n (tuT r) false
theorem Part.are {d : D} {b : Bool} (h : Part n d b) : g_are_marks [d, dI n] = .ok (.bool b) := by
  cases h with
  | row r hl => exact are_marks_R n hl
  | lst r => exact are_marks_L n r
  | tru r hl => exact are_marks_T n r hl
theorem Part.yes {d : D} (h : Part n d true) : ∃ r, d = dR r ∧ IsMk n r := by
  generalize hb : true = b at h
  cases h with
  | row r hl => exact ⟨r, rfl, of_decide_eq_true hb.symm⟩
  | lst r => cases hb
  | tru r hl => cases hb
theorem is_bar_ok (h : Lat n m) (h1 : 1 ≤ n) (h9 : n ≤ 9) {r c l : List Nat} (hr : IsMk n r) (hc : IsMk n c) (hl : IsMk n l) : g_is_bar [dM m, dM [r, c, l]] = .ok (.bool (decide (EvenM m n r c l) && oddT [r, c, l])) := by
  refine rz_run (m := m_is_bar) (ρ := [some (dM m), some (dM [r, c, l]), none, none, none, none, none, none, none, none]) ?_
  unfold m_is_bar
  have hck := lat_checked h h1 h9
  have hrl := hr.1
  have hcl := hc.1
  have hll := hl.1
  have ar : ∀ a ∈ [r, c, l], g_are_marks [dR a, dI n] = .ok (.bool true) := by
    intro a ha
    have : IsMk n a := by
      simp at ha
      rcases ha with rfl | rfl | rfl <;> assumption
    rw [are_marks_R n (by rw [this.1]; omega), decide_eq_true this]
  and_intros
  refine run_ifF (k := false) (ts_or (k := false) (l := false) (ts_not (k := true) (ts_tru (d := .bool true) rfl rfl)) fun _ => ts_or (k := false) (l := false) (ts_cm (x := dI 3) (y := dI 3) rfl rfl ((ne_I 3 3).trans rfl)) fun _ => ts_tru (ev_lcf (p := fun _ => false) (xs := [r, c, l]) (enc := dR) (by left) (lim_of (by simp)) (fun _ => rfl) fun a ha => ?_) rfl) rfl (run_skip ?_)
  · dsimp only [wipeE, List.set_cons_succ, List.set_cons_zero]
    have := ar a ha
    exact ts_not (k := true) (by left)
  refine run_setT (ds := [dR r, dR c, dR l]) rfl rfl ?_
  dsimp only [setsE, List.set_cons_succ, List.set_cons_zero]
  refine run_forP (fun j ρ => ∃ x y z w, ρ = [some (dM m), some (dM [r, c, l]), some (dR r), some (dR c), some (dR l), x, y, z, w, none] ∧ ∀ i, i < j → ∀ k, k < n → evenAt m r c l i k = 0) (by left) ⟨_, _, _, _, rfl, fun i hi => by omega⟩ ?_ ?_
  · rintro j hj _ ⟨x, y, z, w, rfl, hJ⟩
    dsimp only [List.set_cons_succ, List.set_cons_zero]
    refine run_forP (fun k ρ => ∃ v w, ρ = [some (dM m), some (dM [r, c, l]), some (dR r), some (dR c), some (dR l), some (dI j), some (dR (m.getD j [])), v, w, none] ∧ ∀ i, i < k → evenAt m r c l j i = 0) (by left) ⟨_, _, rfl, fun i hi => by omega⟩ ?_ ?_
    · rintro k hk _ ⟨v, w, rfl, hK⟩
      dsimp only [List.set_cons_succ, List.set_cons_zero]
      have hat : (m.getD j []).getD k 0 < n := h.at_lt hj hk
      refine run_if (by left) (fun e => ?_) (fun e => ?_)
      · refine run_seq (run_ret (by left) ?_)
        have e : evenAt m r c l j k = 1 := of_decide_eq_true e
        have : ¬ EvenM m n r c l := fun z => by
          rw [z j hj k hk] at e
          cases e
        rw [decide_eq_false this]
        rfl
      · refine run_skip (run_end ⟨_, _, rfl, fun i hi => ?_⟩)
        have e : ¬ evenAt m r c l j k = 1 := of_decide_eq_false e
        by_cases c' : i = k
        · subst c'
          unfold evenAt at e ⊢
          omega
        · exact hK i (by omega)
    · rintro _ ⟨v, w, rfl, hK⟩
      refine run_end ⟨_, _, _, _, rfl, fun i hi => ?_⟩
      by_cases c' : i = j
      · subst c'
        exact hK
      · exact hJ i (by omega)
  · rintro _ ⟨x, y, z, w, rfl, hJ⟩
    refine run_ret (by left) ?_
    rw [decide_eq_true (show EvenM m n r c l from hJ)]
    rfl
@[irreducible] def partB (n : Nat) (d : D) : Bool := match g_are_marks [d, dI n] with
  | .ok (.bool b) => b
  | _ => false
theorem partB_eq {d : D} {b : Bool} (h : g_are_marks [d, dI n] = .ok (.bool b)) : g_are_marks [d, dI n] = .ok (.bool (partB n d)) := by
  unfold partB
  rw [h]
theorem is_bar_no (h : Lat n m) (h1 : 1 ≤ n) (h9 : n ≤ 9) {d : D} (hd : dIsi "tuple" d = .ok (.bool false)) : g_is_bar [dM m, d] = .ok (.bool false) := by
  refine rz_run (m := m_is_bar) (ρ := [some (dM m), some d, none, none, none, none, none, none, none, none]) ?_
  unfold m_is_bar
  have hck := lat_checked h h1 h9
  and_intros
  refine run_ifT (k := true) (ts_or (k := true) (l := false) (ts_not (k := false) (ts_tru (d := .bool false) (by left) rfl)) fun e => by cases e) rfl (run_seq (run_ret rfl rfl))
theorem is_bar_parts (h : Lat n m) (h1 : 1 ≤ n) (h9 : n ≤ 9) {ps : List D} (hp : ∀ d ∈ ps, ∃ b, Part n d b) (hl : ps.length ≤ 1000) (hd : ps.length ≠ 3 ∨ ∃ d ∈ ps, Part n d false) : g_is_bar [dM m, .tuple ps] = .ok (.bool false) := by
  refine rz_run (m := m_is_bar) (ρ := [some (dM m), some (.tuple ps), none, none, none, none, none, none, none, none]) ?_
  unfold m_is_bar
  have hck := lat_checked h h1 h9
  have hlen : dLen (.tuple ps) = .ok (dI ps.length) := rfl
  and_intros
  have t2 : tTru (gLc (iSeq (gVar 1)) (tgN 9) (tNt (tTru (gCall g_are_marks (aCons (gVar 9) (aCons (gCall (on1 dLen) (aCons (gVar 0) aNil)) aNil))))) (gVar 9) [9]) [some (dM m), some (.tuple ps), none, none, none, none, none, none, none, none] = .ok (ps.any fun d => !partB n d) := by
    refine ts_tru (ev_lcf (p := fun d => !partB n d) (xs := ps) (enc := fun d => d) ?_ (by nofun) (fun _ => rfl) fun a ha => ?_) ?_
    · rw [List.map_id']
      rfl
    · dsimp only [wipeE, List.set_cons_succ, List.set_cons_zero]
      obtain ⟨b, hb⟩ := hp a ha
      have := partB_eq hb.are
      left
    · rw [truth_lf, filter_nil_iff, Bool.not_not]
  refine run_ifT (k := true) (ts_or (k := false) (l := true) (ts_not (k := true) (ts_tru (d := .bool true) rfl rfl)) fun _ => ?_) rfl (run_seq (run_ret rfl rfl))
  have t1 : tCm dNe (gCall (on1 dLen) (aCons (gVar 1) aNil)) (gC (.int 3)) [some (dM m), some (.tuple ps), none, none, none, none, none, none, none, none] = .ok (!decide (ps.length = 3)) := by left
  have := ts_or t1 fun _ => t2
  rw [this]
  congr 1
  rcases hd with z | ⟨d, hd, z⟩
  · rw [decide_eq_false z]
    rfl
  · have : (ps.any fun d => !partB n d) = true := by
      rw [List.any_eq_true]
      refine ⟨d, hd, ?_⟩
      have := z.are
      unfold partB
      rw [this]
      rfl
    rw [this, Bool.or_true]
end
end DL
/-! part Cd0 -/
namespace DL
open PySem
def m_look_order : GS :=
  (sSeq (sIf (tNt (tTru (gCall g_is_order (aCons (gVar 1) (aCons (gCall (on1 dLen) (aCons (gVar 0) aNil)) aNil))))) (sSeq (sRaise "BadOrder") sNil) sNil) sNil)
def g_look_order : List D → Rz D := fun ds => (m_look_order (startE 2 ds)).rz
theorem eq_look_order : ∀ ds, ds.length = 2 → g_look_order ds = .st ∨ (m_look_order (startE 2 ds)).rz = g_look_order ds := fun _ _ => .inr rfl
def m_renamed_by : GS :=
  (sSeq (sRet (gCall (on1 dTuple) (aCons (gLc (iSeq (gVar 1)) (tgN 4) tYs (gCall (on1 dTuple) (aCons (gLc (iSeq (gVar 2)) (tgN 5) tYs (g2 dIx (gVar 3) (g2 dIx (g2 dIx (gVar 0) (gVar 4)) (gVar 5))) [5]) aNil)) [4]) aNil))) sNil)
def g_renamed_by : List D → Rz D := fun ds => (m_renamed_by (startE 6 ds)).rz
theorem eq_renamed_by : ∀ ds, ds.length = 4 → g_renamed_by ds = .st ∨ (m_renamed_by (startE 6 ds)).rz = g_renamed_by ds := fun _ _ => .inr rfl
def m_renamed : GS :=
  (sSeq (sExpr [] (gCall g_checked (aCons (gVar 0) aNil))) (sSeq (sExpr [] (gCall g_look_order (aCons (gVar 0) (aCons (gVar 1) aNil)))) (sSeq (sExpr [] (gCall g_look_order (aCons (gVar 0) (aCons (gVar 2) aNil)))) (sSeq (sExpr [] (gCall g_look_order (aCons (gVar 0) (aCons (gVar 3) aNil)))) (sSeq (sRet (gCall g_renamed_by (aCons (gVar 0) (aCons (gVar 1) (aCons (gVar 2) (aCons (gVar 3) aNil)))))) sNil)))))
def g_renamed : List D → Rz D := fun ds => (m_renamed (startE 4 ds)).rz
theorem eq_renamed : ∀ ds, ds.length = 4 → g_renamed ds = .st ∨ (m_renamed (startE 4 ds)).rz = g_renamed ds := fun _ _ => .inr rfl
end DL
/-! part Cd1 -/
namespace DL
open PySem
local macro_rules | `(tactic| nofun) => `(tactic| first
  | assumption
  | omega
  | exact lim_of (by omega)
  | exact lim_lt (by omega)
  | ((simp only [List.length_map, List.length_range, List.length_append, List.length_cons, List.length_nil, List.length_replicate, List.length_set, List.length_singleton, List.length_take, List.length_drop, List.length_dropLast]) <;> first | omega | exact lim_of (by omega) | exact lim_lt (by omega))
  | decide
  | fail)
local macro_rules | `(tactic| right) => `(tactic| first
  | with_reducible assumption
  | with_reducible exact add_I _ _
  | ((with_reducible apply sub_I); nofun)
  | ((with_reducible apply mul_I); nofun)
  | ((with_reducible apply mod_I); nofun)
  | ((with_reducible apply mod_c); nofun)
  | ((with_reducible apply fdv_I) <;> nofun)
  | with_reducible exact dAdd_ii _ _
  | with_reducible exact dSub_ii _ _
  | with_reducible exact lt_I _ _
  | with_reducible exact le_I _ _
  | with_reducible exact gt_I _ _
  | with_reducible exact ge_I _ _
  | with_reducible exact eq_I _ _
  | with_reducible exact ne_I _ _
  | with_reducible exact eq_R _ _
  | with_reducible exact ne_R _ _
  | with_reducible exact eq_M _ _
  | with_reducible exact ne_M _ _
  | with_reducible exact eq_lR _ _
  | with_reducible exact ne_lR _ _
  | with_reducible exact eq_lL _ _
  | with_reducible exact ne_lL _ _
  | ((with_reducible apply ix_row); (· assumption); (· nofun))
  | ((with_reducible apply ix_cel); (· assumption); (· nofun); (· nofun))
  | ((with_reducible apply ix_R); nofun)
  | ((with_reducible apply ix_M); nofun)
  | ((with_reducible apply ix_lR); nofun)
  | ((with_reducible apply ix_lL); nofun)
  | ((with_reducible apply ix_lM); nofun)
  | ((with_reducible apply len_Ln); assumption)
  | ((with_reducible apply len_row); (· assumption); (· nofun))
  | with_reducible exact len_R _
  | with_reducible exact len_M _
  | with_reducible exact len_lR _
  | with_reducible exact len_lL _
  | with_reducible exact tup_lR _
  | with_reducible exact tup_lM _
  | with_reducible exact tup_Rt _
  | with_reducible exact tup_Mt _
  | with_reducible exact list_R' _
  | with_reducible exact list_M' _
  | ((with_reducible apply app_R); nofun)
  | ((with_reducible apply app_lR); nofun)
  | ((with_reducible apply app_lL); nofun)
  | ((with_reducible apply app_M); nofun)
  | with_reducible exact in_lR _ _
  | with_reducible exact in_R _ _
  | with_reducible exact in_lL _ _
  | with_reducible exact notIn_lR _ _
  | with_reducible exact notIn_R _ _
  | with_reducible exact notIn_lL _ _
  | with_reducible exact sum_R _
  | with_reducible exact sum_lR _
  | ((with_reducible apply tindex_ok); nofun)
  | with_reducible exact truth_bool _
  | with_reducible exact truth_I _
  | with_reducible exact truth_lR _
  | with_reducible exact truth_lL _
  | with_reducible exact truth_lf _ _
  | with_reducible exact isN_R _
  | with_reducible exact isN_M _
  | with_reducible exact isN_n
  | with_reducible exact isN_l _
  | with_reducible exact notN_R _
  | with_reducible exact notN_M _
  | with_reducible exact notN_n
  | with_reducible exact notN_l _
  | with_reducible exact isi_R _
  | with_reducible exact isi_M _
  | with_reducible exact slR_to _ _
  | with_reducible exact slR_from _ _
  | with_reducible exact slM_to _ _
  | with_reducible exact slM_from _ _
  | with_reducible exact slL_to _ _
  | with_reducible exact slL_from _ _
  | with_reducible exact sllR_to _ _
  | with_reducible exact sllR_from _ _
  | with_reducible exact within_I _ _ _
  | ((with_reducible apply shl_I) <;> nofun)
  | with_reducible exact shr_I _ _
  | with_reducible exact and1_I _
  | ((with_reducible apply fdv_c) <;> nofun)
  | with_reducible exact slR_dl _
  | with_reducible exact dNeg_i _
  | with_reducible exact eq_lS _ _
  | with_reducible exact ne_lS _ _
  | with_reducible exact len_lS _
  | with_reducible exact in_lS _ _
  | with_reducible exact notIn_lS _ _
  | ((with_reducible apply ix_lS); nofun)
  | with_reducible exact truth_lS _
  | ((with_reducible apply app_g); nofun)
  | ((with_reducible apply app_gt); nofun)
  | fail)
local macro_rules | `(tactic| left) => `(tactic| first
  | ((with_reducible apply ev_var); exact rfl)
  | with_reducible exact ev_lit _ _
  | with_reducible exact ev_C _ _
  | ((with_reducible apply g_atM); (· left); (· assumption); (· left); (· left); (· nofun); (· nofun))
  | ((with_reducible apply ev_g2); (· left); (· left); (· right))
  | ((with_reducible apply ev_g1); (· left); (· right))
  | ((with_reducible apply ev_call1); (· left); (· right))
  | ((with_reducible apply ev_callF); (· left); (· right))
  | with_reducible exact ev_a0 _
  | ((with_reducible apply ev_a1); (· left); (· left))
  | with_reducible exact ev_aI0 _
  | ((with_reducible apply ev_aI1); (· left); (· left))
  | with_reducible exact ev_aR0 _
  | ((with_reducible apply ev_aR1); (· left); (· left))
  | ((with_reducible apply ev_tupI); (· left); (· nofun))
  | ((with_reducible apply ev_tupR); (· left); (· nofun))
  | ((with_reducible apply ev_tup); (· left); (· nofun))
  | ((with_reducible apply ev_lstI); (· left); (· nofun))
  | ((with_reducible apply ev_lstR); (· left); (· nofun))
  | ((with_reducible apply ev_lst); (· left); (· nofun))
  | ((with_reducible apply ev_not); (· left); (· right))
  | ((with_reducible apply ev_andB); (· left); (· (intro _; left)))
  | ((with_reducible apply ev_orB); (· left); (· (intro _; left)))
  | ((with_reducible apply ev_M); (· left); (· rfl); (· left); (· right))
  | ((with_reducible apply ev_sl); (· left); (· left); (· left); (· right))
  | with_reducible exact ev_oNo _
  | ((with_reducible apply ev_oSm); left)
  | ((with_reducible apply ev_lRg); left)
  | ((with_reducible apply ev_tRg); left)
  | with_reducible exact Eq.refl (tYs _)
  | ((with_reducible apply ts_cm); (· left); (· left); (· right))
  | ((with_reducible apply ts_and); (· left); (· (intro _; left)))
  | ((with_reducible apply ts_or); (· left); (· (intro _; left)))
  | ((with_reducible apply ts_not); left)
  | ((with_reducible apply ts_tru); (· left); (· right))
  | ((with_reducible apply tt_val); left)
  | ((with_reducible apply tt_chn); (· left); (· left); (· right); (· (intro _; left)); (· (intro _; right)))
  | ((with_reducible apply it_rng1); (· left); (· nofun))
  | ((with_reducible apply it_rng2); (· left); (· left); (· nofun); (· nofun))
  | ((with_reducible apply it_R); left)
  | ((with_reducible apply it_M); left)
  | ((with_reducible apply it_list); left)
  | ((with_reducible apply it_tup); left)
  | ((with_reducible apply it_enMn); (· left); (· exact Lat.len (by assumption)))
  | ((with_reducible apply it_zpR); (· left); (· left); (· nofun); (· nofun))
  | ((with_reducible apply it_zpM); (· left); (· left); (· nofun); (· nofun))
  | ((with_reducible apply it_enRn); (· left); (· exact Lat.rlen (by assumption) (by nofun)))
  | ((with_reducible apply it_enR); left)
  | ((with_reducible apply it_enM); left)
  | ((with_reducible apply it_enlR); left)
  | ((with_reducible apply it_enL); left)
  | ((with_reducible apply ev_lcmI); (· left); (· nofun); (· infer_instance))
  | ((with_reducible apply ev_lcmR); (· left); (· nofun); (· infer_instance))
  | ((with_reducible apply ev_lcmL); (· left); (· nofun); (· infer_instance))
  | ((with_reducible apply ev_lcm); (· left); (· nofun); (· infer_instance))
  | ((with_reducible apply ev_lcpI); (· left); (· nofun); (· infer_instance))
  | ((with_reducible apply ev_lcf); (· left); (· nofun); (· (intro _; rfl)); (· infer_instance))
  | ((with_reducible apply ev_lc); (· left); (· nofun); (· infer_instance))
  | fail)
local macro_rules | `(tactic| infer_instance) => `(tactic| (intro a ha; (try dsimp only [wipeE, List.set_cons_succ, List.set_cons_zero]); (first | (have h1 := List.mem_range.mp ha) | (have h1 := Lat.row (by assumption) _ ha) | skip); first | left | (constructor; (· left); (· (intro hp; left)))))
local macro_rules | `(tactic| and_intros) => `(tactic| first
  | ((with_reducible apply run_set); (· left); (try dsimp only [List.set_cons_succ, List.set_cons_zero]))
  | ((with_reducible apply run_expr); (· left))
  | ((with_reducible apply run_ret); (· left))
  | (with_reducible apply run_skip)
  | (with_reducible apply run_seq)
  | (with_reducible apply run_end))
section
variable {n : Nat} {m : List (List Nat)}
theorem look_order_ok (h : Lat n m) (hn : n ≤ 1000) {p : List Nat} (hp : isPerm n p) : g_look_order [dM m, dR p] = .ok .none := by
  refine rz_run (m := m_look_order) (ρ := [some (dM m), some (dR p)]) ?_
  unfold m_look_order
  have o := order_R (r := p) (n := n) (by rw [hp.len]; exact hn)
  rw [decide_eq_true ⟨hp.len, hp.lt, hp.nd⟩] at o
  exact run_ifF (k := !true) (by left) rfl (run_skip (run_end rfl))
theorem renP_ok (h : Lat n m) (h1 : 1 ≤ n) (h9 : n ≤ 9) {p q s : List Nat} (hp : isPerm n p) (hq : isPerm n q) (hs : isPerm n s) : g_renamed [dM m, dR p, dR q, dR s] = .ok (dM (ren m p q s)) := by
  refine rz_run (m := m_renamed) (ρ := [some (dM m), some (dR p), some (dR q), some (dR s)]) ?_
  unfold m_renamed
  have hck := lat_checked h h1 h9
  have l1 := look_order_ok h (by omega) hp
  have l2 := look_order_ok h (by omega) hq
  have l3 := look_order_ok h (by omega) hs
  have e : g_renamed_by [dM m, dR p, dR q, dR s] = .ok (dM (ren m p q s)) := renamed_lat h (by omega) hp hq hs
  and_intros
  and_intros
  and_intros
  and_intros
  exact run_ret (by left) rfl
/-! ### orders, and back -/
def invP (n : Nat) (c : List Nat) : List Nat := (List.range n).map fun x => c.idxOf x
theorem isPerm.idx_lt {p : List Nat} (h : isPerm n p) {x : Nat} (hx : x < n) : p.idxOf x < n := by
  have := List.idxOf_lt_length_iff.mpr (perm_mem h hx)
  rw [h.len] at this
  exact this
theorem isPerm.at_idx {p : List Nat} (h : isPerm n p) {x : Nat} (hx : x < n) : p.getD (p.idxOf x) 0 = x := idx_at (perm_mem h hx)
theorem isPerm.idx_at {p : List Nat} (h : isPerm n p) {i : Nat} (hi : i < n) : p.idxOf (p.getD i 0) = i := h.inj (h.idx_lt (h.at_lt hi)) hi (h.at_idx (h.at_lt hi))
theorem inv_at {p : List Nat} {x : Nat} (hx : x < n) : (invP n p).getD x 0 = p.idxOf x := getD_range_map hx
theorem perm_of_at {p : List Nat} (hl : p.length = n) (h1 : ∀ i, i < n → p.getD i 0 < n) (h2 : ∀ i, i < n → ∀ j, j < n → p.getD i 0 = p.getD j 0 → i = j) : isPerm n p := by
  have e := eq_map_range (d := 0) hl
  refine perm_of hl ?_ ?_
  · intro x hx
    rw [e] at hx
    obtain ⟨i, hi, rfl⟩ := List.mem_map.mp hx
    exact h1 i (List.mem_range.mp hi)
  · rw [e]
    exact nodup_range_map h2
theorem inv_perm {p : List Nat} (h : isPerm n p) : isPerm n (invP n p) := by
  refine perm_of_at (by simp [invP]) (fun i hi => ?_) (fun i hi j hj e => ?_)
  · rw [inv_at hi]
    exact h.idx_lt hi
  · rw [inv_at hi, inv_at hj] at e
    rw [← h.at_idx hi, ← h.at_idx hj, e]
theorem ren_atL (h : Lat n m) {p q s : List Nat} (hp : isPerm n p) (hq : isPerm n q) {i j : Nat} (hi : i < n) (hj : j < n) : atM (ren m p q s) i j = s.getD (atM m (p.getD i 0) (q.getD j 0)) 0 := ren_at (by rw [hp.len]; exact hi) (by rw [hq.len]; exact hj)
theorem lat_ext {a b : List (List Nat)} (ha : Lat n a) (hb : Lat n b) (e : ∀ i, i < n → ∀ j, j < n → atM a i j = atM b i j) : a = b := by
  rw [ha.tab, hb.tab]
  unfold tab
  exact List.map_congr_left fun i hi => List.map_congr_left fun j hj => e i (List.mem_range.mp hi) j (List.mem_range.mp hj)
theorem ren_back (h : Lat n m) {p q s : List Nat} (hp : isPerm n p) (hq : isPerm n q) (hs : isPerm n s) : ren (ren m p q s) (invP n p) (invP n q) (invP n s) = m := by
  have hr := ren_lat h hp hq hs
  refine lat_ext (ren_lat hr (inv_perm hp) (inv_perm hq) (inv_perm hs)) h fun i hi j hj => ?_
  rw [ren_atL hr (inv_perm hp) (inv_perm hq) hi hj, inv_at hi, inv_at hj, ren_atL h hp hq (hp.idx_lt hi) (hq.idx_lt hj), hp.at_idx hi, hq.at_idx hj, inv_at (hs.at_lt (h.at_lt hi hj)), hs.idx_at (h.at_lt hi hj)]
/-! ### sums -/
theorem perm_sum {xs ys : List Nat} (h : xs.Perm ys) : xs.sum = ys.sum := by
  induction h with
  | nil => rfl
  | cons x _ ih => rw [List.sum_cons, List.sum_cons, ih]
  | swap x y l => rw [List.sum_cons, List.sum_cons, List.sum_cons, List.sum_cons]; omega
  | trans _ _ ih1 ih2 => rw [ih1, ih2]
theorem perm_at_sum {p r : List Nat} (hp : isPerm n p) (hr : r.length = n) : (p.map fun i => r.getD i 0).sum = r.sum := by
  have h1 : (p.map fun i => r.getD i 0).Perm ((List.range n).map fun i => r.getD i 0) := List.Perm.map _ hp
  rw [perm_sum h1, ← eq_map_range hr]
theorem map_at_perm {p : List Nat} (hp : p.length = n) (f : Nat → Nat) : (List.range n).map (fun i => f (p.getD i 0)) = p.map f := by
  conv => rhs; rw [eq_map_range (d := 0) hp]
  rw [List.map_map]
  rfl
theorem idx_sum {s l : List Nat} (hs : isPerm n s) (hl : l.length = n) : ((List.range n).map fun y => l.getD (s.idxOf y) 0).sum = l.sum := by
  have := perm_at_sum (inv_perm hs) hl
  unfold invP at this
  rw [List.map_map] at this
  exact this
end
end DL
/-! part Ce0 -/
namespace DL
open PySem
def m_exchanged : GS :=
  (sSeq (sExpr [] (gCall g_checked (aCons (gVar 0) aNil))) (sSeq (sExpr [] (gCall g_look_order (aCons (gTup (aCons (gC (.int 0)) (aCons (gC (.int 0)) (aCons (gC (.int 0)) aNil)))) (aCons (gVar 1) aNil)))) (sSeq (sSet [] (tgN 2) (gCall (on1 dLen) (aCons (gVar 0) aNil))) (sSeq (sSet [] (tgN 3) (gLc (iRg (aCons (gVar 2) aNil)) (tgN 4) tYs (g2 dRep (gLst (aCons (gC (.int 0)) aNil)) (gVar 2)) [4])) (sSeq (sFor [3] (iRg (aCons (gVar 2) aNil)) (tgN 4) (sSeq (sFor [3] (iRg (aCons (gVar 2) aNil)) (tgN 5) (sSeq (sSet [3] (tgN 6) (gTup (aCons (gVar 4) (aCons (gVar 5) (aCons (g2 dIx (g2 dIx (gVar 0) (gVar 4)) (gVar 5)) aNil))))) (sSeq (sPut2 3 (g2 dIx (gVar 6) (g2 dIx (gVar 1) (gC (.int 0)))) (g2 dIx (gVar 6) (g2 dIx (gVar 1) (gC (.int 1)))) (g2 dIx (gVar 6) (g2 dIx (gVar 1) (gC (.int 2))))) sNil))) sNil)) (sSeq (sRet (gCall (on1 dTuple) (aCons (gLc (iSeq (gVar 3)) (tgN 4) tYs (gCall (on1 dTuple) (aCons (gVar 4) aNil)) [4]) aNil))) sNil))))))
def g_exchanged : List D → Rz D := fun ds => (m_exchanged (startE 7 ds)).rz
theorem eq_exchanged : ∀ ds, ds.length = 2 → g_exchanged ds = .st ∨ (m_exchanged (startE 7 ds)).rz = g_exchanged ds := fun _ _ => .inr rfl
def m_twos : GS :=
  (sSeq (sExpr [] (gCall g_checked (aCons (gVar 0) aNil))) (sSeq (sSet [] (tgN 1) (gLst aNil)) (sSeq (sFor [1] (iRg (aCons (gCall (on1 dLen) (aCons (gVar 0) aNil)) aNil)) (tgN 2) (sSeq (sFor [1] (iRg (aCons (g2 dAdd (gVar 2) (gC (.int 1))) (aCons (gCall (on1 dLen) (aCons (gVar 0) aNil)) aNil))) (tgN 3) (sSeq (sFor [1] (iRg (aCons (gCall (on1 dLen) (aCons (gVar 0) aNil)) aNil)) (tgN 4) (sSeq (sSet [1] (tgN 5) (gM isTupD dTindex (g2 dIx (gVar 0) (gVar 3)) (g2 dIx (g2 dIx (gVar 0) (gVar 2)) (gVar 4)))) (sSeq (sIf (tAn (tCm dGt (gVar 5) (gVar 4)) (tCm dEq (g2 dIx (g2 dIx (gVar 0) (gVar 2)) (gVar 5)) (g2 dIx (g2 dIx (gVar 0) (gVar 3)) (gVar 4)))) (sSeq (sApp [1] 1 (gTup (aCons (gVar 2) (aCons (gVar 3) (aCons (gVar 4) (aCons (gVar 5) aNil)))))) sNil) sNil) sNil))) sNil)) sNil)) (sSeq (sRet (gVar 1)) sNil))))
def g_twos : List D → Rz D := fun ds => (m_twos (startE 6 ds)).rz
theorem eq_twos : ∀ ds, ds.length = 1 → g_twos ds = .st ∨ (m_twos (startE 6 ds)).rz = g_twos ds := fun _ _ => .inr rfl
def m_switched : GS :=
  (sSeq (sSet [] (tgN 2) (gCall g_twos (aCons (gVar 0) aNil))) (sSeq (sIf (tOrr (tCm dNotIn (gVar 1) (gVar 2)) (tTru (gLc (iSeq (gVar 1)) (tgN 3) (tNt (tTru (gCall g_is_within (aCons (gVar 3) (aCons (gC (.int 0)) (aCons (g2 dSub (gCall (on1 dLen) (aCons (gVar 0) aNil)) (gC (.int 1))) aNil)))))) (gVar 3) [3]))) (sSeq (sRaise "BadPlace") sNil) sNil) (sSeq (sSet [] (tgT [3, 4, 5, 6]) (gVar 1)) (sSeq (sSet [] (tgN 7) (gLc (iSeq (gVar 0)) (tgN 8) tYs (gCall (on1 dList) (aCons (gVar 8) aNil)) [8])) (sSeq (sFor [7] (iSeq (gTup (aCons (gVar 3) (aCons (gVar 4) aNil)))) (tgN 8) (sSeq (sSwp 7 (gVar 8) (gVar 5) (gVar 8) (gVar 6) (g2 dIx (g2 dIx (gVar 7) (gVar 8)) (gVar 6)) (g2 dIx (g2 dIx (gVar 7) (gVar 8)) (gVar 5))) sNil)) (sSeq (sRet (gCall (on1 dTuple) (aCons (gLc (iSeq (gVar 7)) (tgN 8) tYs (gCall (on1 dTuple) (aCons (gVar 8) aNil)) [8]) aNil))) sNil))))))
def g_switched : List D → Rz D := fun ds => (m_switched (startE 9 ds)).rz
theorem eq_switched : ∀ ds, ds.length = 2 → g_switched ds = .st ∨ (m_switched (startE 9 ds)).rz = g_switched ds := fun _ _ => .inr rfl
def m_rings : GS :=
  (sSeq (sExpr [] (gCall g_checked (aCons (gVar 0) aNil))) (sSeq (sIf (tOrr (tNt (tTru (gCall g_is_within (aCons (gVar 1) (aCons (gC (.int 0)) (aCons (g2 dSub (gCall (on1 dLen) (aCons (gVar 0) aNil)) (gC (.int 1))) aNil)))))) (tOrr (tNt (tTru (gCall g_is_within (aCons (gVar 2) (aCons (gC (.int 0)) (aCons (g2 dSub (gCall (on1 dLen) (aCons (gVar 0) aNil)) (gC (.int 1))) aNil)))))) (tCm dEq (gVar 1) (gVar 2)))) (sSeq (sRaise "BadPlace") sNil) sNil) (sSeq (sSet [] (tgN 3) (gListRg (aCons (gCall (on1 dLen) (aCons (gVar 0) aNil)) aNil))) (sSeq (sSet [] (tgN 4) (gLst aNil)) (sSeq (sWhile 1000 (tTru (gVar 3)) (sSeq (sSet [4] (tgN 5) (gLst (aCons (g2 dIx (gVar 3) (gC (.int 0))) aNil))) (sSeq (sSet [5, 4] (tgN 6) (gM isTupD dTindex (g2 dIx (gVar 0) (gVar 1)) (g2 dIx (g2 dIx (gVar 0) (gVar 2)) (g2 dIx (gVar 3) (gC (.int 0)))))) (sSeq (sWhile 1000 (tCm dNe (gVar 6) (g2 dIx (gVar 5) (gC (.int 0)))) (sSeq (sApp [5, 4] 5 (gVar 6)) (sSeq (sSet [5, 4] (tgN 6) (gM isTupD dTindex (g2 dIx (gVar 0) (gVar 1)) (g2 dIx (g2 dIx (gVar 0) (gVar 2)) (gVar 6)))) sNil))) (sSeq (sSet [4] (tgN 3) (gLc (iSeq (gVar 3)) (tgN 7) (tCm dNotIn (gVar 7) (gVar 5)) (gVar 7) [7])) (sSeq (sApp [4] 4 (gVar 5)) sNil)))))) (sSeq (sRet (gVar 4)) sNil))))))
def g_rings : List D → Rz D := fun ds => (m_rings (startE 8 ds)).rz
theorem eq_rings : ∀ ds, ds.length = 3 → g_rings ds = .st ∨ (m_rings (startE 8 ds)).rz = g_rings ds := fun _ _ => .inr rfl
end DL
/-! part Ce1 -/
namespace DL
open PySem
local macro_rules | `(tactic| nofun) => `(tactic| first
  | assumption
  | omega
  | exact lim_of (by omega)
  | exact lim_lt (by omega)
  | ((simp only [List.length_map, List.length_range, List.length_append, List.length_cons, List.length_nil, List.length_replicate, List.length_set, List.length_singleton, List.length_take, List.length_drop, List.length_dropLast]) <;> first | omega | exact lim_of (by omega) | exact lim_lt (by omega))
  | decide
  | fail)
local macro_rules | `(tactic| right) => `(tactic| first
  | with_reducible assumption
  | with_reducible exact add_I _ _
  | ((with_reducible apply sub_I); nofun)
  | ((with_reducible apply mul_I); nofun)
  | ((with_reducible apply mod_I); nofun)
  | ((with_reducible apply mod_c); nofun)
  | ((with_reducible apply fdv_I) <;> nofun)
  | with_reducible exact dAdd_ii _ _
  | with_reducible exact dSub_ii _ _
  | with_reducible exact lt_I _ _
  | with_reducible exact le_I _ _
  | with_reducible exact gt_I _ _
  | with_reducible exact ge_I _ _
  | with_reducible exact eq_I _ _
  | with_reducible exact ne_I _ _
  | with_reducible exact eq_R _ _
  | with_reducible exact ne_R _ _
  | with_reducible exact eq_M _ _
  | with_reducible exact ne_M _ _
  | with_reducible exact eq_lR _ _
  | with_reducible exact ne_lR _ _
  | with_reducible exact eq_lL _ _
  | with_reducible exact ne_lL _ _
  | ((with_reducible apply ix_row); (· assumption); (· nofun))
  | ((with_reducible apply ix_cel); (· assumption); (· nofun); (· nofun))
  | ((with_reducible apply ix_R); nofun)
  | ((with_reducible apply ix_M); nofun)
  | ((with_reducible apply ix_lR); nofun)
  | ((with_reducible apply ix_lL); nofun)
  | ((with_reducible apply ix_lM); nofun)
  | ((with_reducible apply len_Ln); assumption)
  | ((with_reducible apply len_row); (· assumption); (· nofun))
  | with_reducible exact len_R _
  | with_reducible exact len_M _
  | with_reducible exact len_lR _
  | with_reducible exact len_lL _
  | with_reducible exact tup_lR _
  | with_reducible exact tup_lM _
  | with_reducible exact tup_Rt _
  | with_reducible exact tup_Mt _
  | with_reducible exact list_R' _
  | with_reducible exact list_M' _
  | ((with_reducible apply app_R); nofun)
  | ((with_reducible apply app_lR); nofun)
  | ((with_reducible apply app_lL); nofun)
  | ((with_reducible apply app_M); nofun)
  | with_reducible exact in_lR _ _
  | with_reducible exact in_R _ _
  | with_reducible exact in_lL _ _
  | with_reducible exact notIn_lR _ _
  | with_reducible exact notIn_R _ _
  | with_reducible exact notIn_lL _ _
  | with_reducible exact sum_R _
  | with_reducible exact sum_lR _
  | ((with_reducible apply tindex_ok); nofun)
  | with_reducible exact truth_bool _
  | with_reducible exact truth_I _
  | with_reducible exact truth_lR _
  | with_reducible exact truth_lL _
  | with_reducible exact truth_lf _ _
  | with_reducible exact isN_R _
  | with_reducible exact isN_M _
  | with_reducible exact isN_n
  | with_reducible exact isN_l _
  | with_reducible exact notN_R _
  | with_reducible exact notN_M _
  | with_reducible exact notN_n
  | with_reducible exact notN_l _
  | with_reducible exact isi_R _
  | with_reducible exact isi_M _
  | with_reducible exact slR_to _ _
  | with_reducible exact slR_from _ _
  | with_reducible exact slM_to _ _
  | with_reducible exact slM_from _ _
  | with_reducible exact slL_to _ _
  | with_reducible exact slL_from _ _
  | with_reducible exact sllR_to _ _
  | with_reducible exact sllR_from _ _
  | with_reducible exact within_I _ _ _
  | ((with_reducible apply shl_I) <;> nofun)
  | with_reducible exact shr_I _ _
  | with_reducible exact and1_I _
  | ((with_reducible apply fdv_c) <;> nofun)
  | with_reducible exact slR_dl _
  | with_reducible exact dNeg_i _
  | with_reducible exact eq_lS _ _
  | with_reducible exact ne_lS _ _
  | with_reducible exact len_lS _
  | with_reducible exact in_lS _ _
  | with_reducible exact notIn_lS _ _
  | ((with_reducible apply ix_lS); nofun)
  | with_reducible exact truth_lS _
  | ((with_reducible apply app_g); nofun)
  | ((with_reducible apply app_gt); nofun)
  | fail)
local macro_rules | `(tactic| left) => `(tactic| first
  | ((with_reducible apply ev_var); exact rfl)
  | with_reducible exact ev_lit _ _
  | with_reducible exact ev_C _ _
  | ((with_reducible apply g_atM); (· left); (· assumption); (· left); (· left); (· nofun); (· nofun))
  | ((with_reducible apply ev_g2); (· left); (· left); (· right))
  | ((with_reducible apply ev_g1); (· left); (· right))
  | ((with_reducible apply ev_call1); (· left); (· right))
  | ((with_reducible apply ev_callF); (· left); (· right))
  | with_reducible exact ev_a0 _
  | ((with_reducible apply ev_a1); (· left); (· left))
  | with_reducible exact ev_aI0 _
  | ((with_reducible apply ev_aI1); (· left); (· left))
  | with_reducible exact ev_aR0 _
  | ((with_reducible apply ev_aR1); (· left); (· left))
  | ((with_reducible apply ev_tupI); (· left); (· nofun))
  | ((with_reducible apply ev_tupR); (· left); (· nofun))
  | ((with_reducible apply ev_tup); (· left); (· nofun))
  | ((with_reducible apply ev_lstI); (· left); (· nofun))
  | ((with_reducible apply ev_lstR); (· left); (· nofun))
  | ((with_reducible apply ev_lst); (· left); (· nofun))
  | ((with_reducible apply ev_not); (· left); (· right))
  | ((with_reducible apply ev_andB); (· left); (· (intro _; left)))
  | ((with_reducible apply ev_orB); (· left); (· (intro _; left)))
  | ((with_reducible apply ev_M); (· left); (· rfl); (· left); (· right))
  | ((with_reducible apply ev_sl); (· left); (· left); (· left); (· right))
  | with_reducible exact ev_oNo _
  | ((with_reducible apply ev_oSm); left)
  | ((with_reducible apply ev_lRg); left)
  | ((with_reducible apply ev_tRg); left)
  | with_reducible exact Eq.refl (tYs _)
  | ((with_reducible apply ts_cm); (· left); (· left); (· right))
  | ((with_reducible apply ts_and); (· left); (· (intro _; left)))
  | ((with_reducible apply ts_or); (· left); (· (intro _; left)))
  | ((with_reducible apply ts_not); left)
  | ((with_reducible apply ts_tru); (· left); (· right))
  | ((with_reducible apply tt_val); left)
  | ((with_reducible apply tt_chn); (· left); (· left); (· right); (· (intro _; left)); (· (intro _; right)))
  | ((with_reducible apply it_rng1); (· left); (· nofun))
  | ((with_reducible apply it_rng2); (· left); (· left); (· nofun); (· nofun))
  | ((with_reducible apply it_R); left)
  | ((with_reducible apply it_M); left)
  | ((with_reducible apply it_list); left)
  | ((with_reducible apply it_tup); left)
  | ((with_reducible apply it_enMn); (· left); (· exact Lat.len (by assumption)))
  | ((with_reducible apply it_zpR); (· left); (· left); (· nofun); (· nofun))
  | ((with_reducible apply it_zpM); (· left); (· left); (· nofun); (· nofun))
  | ((with_reducible apply it_enRn); (· left); (· exact Lat.rlen (by assumption) (by nofun)))
  | ((with_reducible apply it_enR); left)
  | ((with_reducible apply it_enM); left)
  | ((with_reducible apply it_enlR); left)
  | ((with_reducible apply it_enL); left)
  | ((with_reducible apply ev_lcmI); (· left); (· nofun); (· infer_instance))
  | ((with_reducible apply ev_lcmR); (· left); (· nofun); (· infer_instance))
  | ((with_reducible apply ev_lcmL); (· left); (· nofun); (· infer_instance))
  | ((with_reducible apply ev_lcm); (· left); (· nofun); (· infer_instance))
  | ((with_reducible apply ev_lcpI); (· left); (· nofun); (· infer_instance))
  | ((with_reducible apply ev_lcf); (· left); (· nofun); (· (intro _; rfl)); (· infer_instance))
  | ((with_reducible apply ev_lc); (· left); (· nofun); (· infer_instance))
  | fail)
local macro_rules | `(tactic| infer_instance) => `(tactic| (intro a ha; (try dsimp only [wipeE, List.set_cons_succ, List.set_cons_zero]); (first | (have h1 := List.mem_range.mp ha) | (have h1 := Lat.row (by assumption) _ ha) | skip); first | left | (constructor; (· left); (· (intro hp; left)))))
local macro_rules | `(tactic| and_intros) => `(tactic| first
  | ((with_reducible apply run_set); (· left); (try dsimp only [List.set_cons_succ, List.set_cons_zero]))
  | ((with_reducible apply run_expr); (· left))
  | ((with_reducible apply run_ret); (· left))
  | (with_reducible apply run_skip)
  | (with_reducible apply run_seq)
  | (with_reducible apply run_end))
theorem put2v_ok {i : Nat} {j k : G} {ρ : En} {m : List (List Nat)} {x y z : Nat} (h : ρ[i]? = some (some (lM m))) (hj : j ρ = .ok (dI x)) (hk : k ρ = .ok (dI y)) (hx : x < m.length) (hy : y < (m.getD x []).length) : put2v i j k (dI z) ρ = some (ρ.set i (some (lM (m.set x ((m.getD x []).set y z))))) := by
  have hg : m[x]? = some (m.getD x []) := by rw [List.getElem?_eq_getElem hx, getD_el hx]
  unfold put2v
  rw [h, hj, hk]
  simp only
  rw [ixR_i, List.length_map, ixD_nat hx]
  simp only [List.getElem?_map, hg, Option.map_some]
  rw [ixR_i, List.length_map, ixD_nat hy]
  have e : lR ((m.getD x []).set y z) = PyData.list (((m.getD x []).map dI).set y (dI z)) := by
    show PyData.list (((m.getD x []).set y z).map dI) = _
    rw [List.map_set]
  show some (ρ.set i (some (PyData.list ((m.map lR).set x (PyData.list (((m.getD x []).map dI).set y (dI z))))))) = some (ρ.set i (some (PyData.list ((m.set x ((m.getD x []).set y z)).map lR))))
  rw [List.map_set, e]
/-- two places of one row -/
theorem run_swp {i : Nat} {j1 k1 j2 k2 a b : G} {u : GS} {ρ : En} {m : List (List Nat)} {x y1 y2 z1 z2 : Nat} {P : Out → Prop} (h : ρ[i]? = some (some (lM m))) (ha : a ρ = .ok (dI z1)) (hb : b ρ = .ok (dI z2)) (hj1 : j1 ρ = .ok (dI x)) (hk1 : k1 ρ = .ok (dI y1))
    (hi : ∀ d, (ρ.set i (some d))[i]? = some (some d)) (hj2 : ∀ d, j2 (ρ.set i (some d)) = .ok (dI x)) (hk2 : ∀ d, k2 (ρ.set i (some d)) = .ok (dI y2)) (hx : x < m.length) (hy1 : y1 < (m.getD x []).length) (hy2 : y2 < (m.getD x []).length)
    (k : Run u ((ρ.set i (some (lM (m.set x (((m.getD x []).set y1 z1).set y2 z2)))))) P) : Run (sSeq (sSwp i j1 k1 j2 k2 a b) u) ρ P := by
  refine run_nx (ρ' := ρ.set i (some (lM (m.set x (((m.getD x []).set y1 z1).set y2 z2))))) ?_ k
  unfold sSwp
  rw [ha, hb]
  simp only [isSc_int, Bool.and_self, if_true]
  rw [put2v_ok (z := z1) h hj1 hk1 hx hy1]
  simp only
  have hg : (m.set x ((m.getD x []).set y1 z1)).getD x [] = (m.getD x []).set y1 z1 := by rw [getD_set hx, if_pos rfl]
  rw [put2v_ok (z := z2) (hi _) (hj2 _) (hk2 _) (by rw [List.length_set]; exact hx) (by rw [hg, List.length_set]; exact hy2)]
  simp only
  rw [hg, List.set_set, List.set_set]
section
variable {n : Nat} {m : List (List Nat)}
/-! ### twos -/
def rgt (m : List (List Nat)) (i j l : Nat) : Nat := (m.getD j []).idxOf (atM m i l)
theorem rgt_ok (h : Lat n m) {i j l : Nat} (hi : i < n) (hj : j < n) (hl : l < n) : rgt m i j l < n ∧ atM m j (rgt m i j l) = atM m i l ∧ ∀ r, r < n → atM m j r = atM m i l → r = rgt m i j l := by
  have hp := h.row_perm (h.mem hj)
  have hx := h.at_lt hi hl
  have h1 := hp.idx_lt hx
  have h2 := hp.at_idx hx
  exact ⟨h1, h2, fun r hr e => h.row_inj hj hr h1 (e.trans h2.symm)⟩
theorem inner_two (h : Lat n m) {i j l : Nat} (hi : i < n) (hj : j < n) (hl : l < n) : (above l n).flatMap (two1 m i j l) = if l < rgt m i j l ∧ atM m i (rgt m i j l) = atM m j l then [[i, j, l, rgt m i j l]] else [] := by
  obtain ⟨r1, r2, r3⟩ := rgt_ok h hi hj hl
  have key : ∀ xs : List Nat, xs.Nodup → (∀ r ∈ xs, r < n) → xs.flatMap (two1 m i j l) = if rgt m i j l ∈ xs ∧ atM m i (rgt m i j l) = atM m j l then [[i, j, l, rgt m i j l]] else [] := by
    intro xs
    induction xs with
    | nil => intro _ _; simp
    | cons r xs ih =>
      intro hd hx
      obtain ⟨d1, d2⟩ := List.nodup_cons.mp hd
      have ih := ih d2 fun y hy => hx y (List.mem_cons_of_mem _ hy)
      rw [List.flatMap_cons, ih]
      have hr := hx r List.mem_cons_self
      unfold two1 isTwo
      by_cases e : r = rgt m i j l
      · rw [← e] at r2 ⊢
        rw [if_neg (show ¬ (r ∈ xs ∧ _) from fun z => d1 z.1)]
        by_cases c : atM m i r = atM m j l
        · simp [c, r2]
        · simp [c]
      · have : atM m i l ≠ atM m j r := fun z => e (r3 r hr z.symm)
        simp [this, Ne.symm e]
  rw [key (above l n) (by unfold above; exact List.nodup_range' ..) fun r hr => (mem_above.mp hr).2]
  have : rgt m i j l ∈ above l n ↔ l < rgt m i j l := by
    rw [mem_above]
    exact ⟨fun z => z.1, fun z => ⟨z, r1⟩⟩
  simp only [this]
def tL (m : List (List Nat)) (n i j l : Nat) : List (List Nat) := (above l n).flatMap (two1 m i j l)
def tJ (m : List (List Nat)) (n i j : Nat) : List (List Nat) := (List.range n).flatMap (tL m n i j)
def twI (m : List (List Nat)) (n i : Nat) : List (List Nat) := (List.range (n - (i + 1))).flatMap fun k => tJ m n i (i + 1 + k)
theorem above_range (a n : Nat) : above a n = (List.range (n - (a + 1))).map fun k => a + 1 + k := by
  unfold above
  rw [List.range'_eq_map_range]
theorem twos_twI (m : List (List Nat)) (n : Nat) : twosL m n = (List.range n).flatMap (twI m n) := by
  unfold twosL twI tJ tL
  congr 1
  funext i
  rw [above_range i n, List.flatMap_map]
theorem tL_le (h : Lat n m) {i j l : Nat} (hi : i < n) (hj : j < n) (hl : l < n) : (tL m n i j l).length ≤ 1 := by
  unfold tL
  rw [inner_two h hi hj hl]
  split <;> simp
theorem part_le {α : Type} (f : Nat → List α) (c : Nat) : ∀ k : Nat, (∀ j, j < k → (f j).length ≤ c) → ((List.range k).flatMap f).length ≤ k * c := fun k h => by
  have := flat_len (xs := List.range k) (f := f) (c := c) fun a ha => h a (List.mem_range.mp ha)
  rw [List.length_range] at this
  exact this
theorem twosP_ok (h : Lat n m) (h1 : 1 ≤ n) (h9 : n ≤ 9) : g_twos [dM m] = .ok (lL (twosL m n)) := by
  refine rz_run (m := m_twos) (ρ := [some (dM m), none, none, none, none, none]) ?_
  unfold m_twos
  have hck := lat_checked h h1 h9
  have bL : ∀ i j k, i < n → j < n → k ≤ n → ((List.range k).flatMap (tL m n i j)).length ≤ 9 := fun i j k hi hj hk => by
    have := part_le (tL m n i j) 1 k fun l hl => tL_le h hi hj (by omega)
    omega
  have bJ : ∀ i k, i < n → k ≤ n - (i + 1) → ((List.range k).flatMap fun k => tJ m n i (i + 1 + k)).length ≤ 81 := fun i k hi hk => by
    have := part_le (fun k => tJ m n i (i + 1 + k)) 9 k fun l hl => bL i (i + 1 + l) n hi (by omega) (Nat.le_refl _)
    omega
  have bI : ∀ k, k ≤ n → ((List.range k).flatMap (twI m n)).length ≤ 729 := fun k hk => by
    have := part_le (twI m n) 81 k fun l hl => bJ l _ (by omega) (Nat.le_refl _)
    omega
  and_intros
  refine run_set (d := lL []) rfl ?_
  dsimp only [List.set_cons_succ, List.set_cons_zero]
  refine run_forR (n := n) (fun i ρ => ∃ a2 a3 a4 a5, ρ = [some (dM m), some (lL ((List.range i).flatMap (twI m n))), a2, a3, a4, a5]) (by left) ⟨_, _, _, _, rfl⟩ ?_ ?_
  · rintro i hi _ ⟨a2, a3, a4, a5, rfl⟩
    dsimp only [List.set_cons_succ, List.set_cons_zero]
    have b1 := bI i (by omega)
    rw [flatMap_snoc]
    generalize hA : (List.range i).flatMap (twI m n) = A at *
    refine run_forRE (n := n - (i + 1)) (e := fun k => dI (i + 1 + k)) (fun k ρ => ∃ a3 a4 a5, ρ = [some (dM m), some (lL (A ++ (List.range k).flatMap fun k => tJ m n i (i + 1 + k))), some (dI i), a3, a4, a5]) (by left) ⟨a3, a4, a5, by simp⟩ ?_ ?_
    · rintro k hk _ ⟨a3, a4, a5, rfl⟩
      dsimp only [List.set_cons_succ, List.set_cons_zero]
      have b2 := bJ i k hi (by omega)
      rw [flatMap_snoc]
      generalize hB : (List.range k).flatMap (fun k => tJ m n i (i + 1 + k)) = B at *
      have hj : i + 1 + k < n := by omega
      generalize i + 1 + k = j at *
      refine run_forR (n := n) (fun l ρ => ∃ a4 a5, ρ = [some (dM m), some (lL (A ++ (B ++ (List.range l).flatMap (tL m n i j)))), some (dI i), some (dI j), a4, a5]) (by left) ⟨a4, a5, by simp⟩ ?_ ?_
      · rintro l hl _ ⟨a4, a5, rfl⟩
        dsimp only [List.set_cons_succ, List.set_cons_zero]
        have b3 := bL i j l hi hj (by omega)
        obtain ⟨r1, r2, r3⟩ := rgt_ok h hi hj hl
        have hidx : dTindex (dR (m.getD j [])) (dI (atM m i l)) = .ok (dI (rgt m i j l)) := tindex_ok (perm_mem (h.row_perm (h.mem hj)) (h.at_lt hi hl))
        rw [flatMap_snoc]
        have e : tL m n i j l = if l < rgt m i j l ∧ atM m i (rgt m i j l) = atM m j l then [[i, j, l, rgt m i j l]] else [] := inner_two h hi hj hl
        refine run_set (d := dI (rgt m i j l)) (by left) ?_
        dsimp only [List.set_cons_succ, List.set_cons_zero]
        generalize rgt m i j l = R at *
        generalize (List.range l).flatMap (tL m n i j) = C at *
        refine run_if (by left) (fun z => ?_) (fun z => ?_)
        · rw [Bool.and_eq_true, decide_eq_true_eq, decide_eq_true_eq] at z
          rw [if_pos z] at e
          have ee : A ++ (B ++ (C ++ [[i, j, l, R]])) = (A ++ (B ++ C)) ++ [[i, j, l, R]] := by simp
          rw [e, ee]
          refine run_seq (run_appE (enc := dR) (xs := A ++ (B ++ C)) (x := [i, j, l, R]) rfl (by left) ?_ (run_skip (run_end ⟨_, _, rfl⟩)))
          rw [List.length_append, List.length_append]
          exact lim_lt (by omega)
        · have z' : ¬ (l < R ∧ atM m i R = atM m j l) := fun w => by
            rw [decide_eq_true w.1, decide_eq_true w.2] at z
            cases z
          rw [if_neg z'] at e
          rw [e, List.append_nil]
          exact run_skip (run_end ⟨_, _, rfl⟩)
      · rintro _ ⟨a4, a5, rfl⟩
        exact run_end ⟨_, _, _, rfl⟩
    · rintro _ ⟨a3, a4, a5, rfl⟩
      exact run_end ⟨_, _, _, _, rfl⟩
  · rintro _ ⟨a2, a3, a4, a5, rfl⟩
    rw [← twos_twI]
    exact run_ret (by left) rfl
/-! ### switched -/
theorem switchedP_ok (h : Lat n m) (h1 : 1 ≤ n) (h9 : n ≤ 9) {i j l r : Nat} (ht : [i, j, l, r] ∈ twosL m n) : g_switched [dM m, dR [i, j, l, r]] = .ok (dM (swT m i j l r)) := by
  obtain ⟨i', j', l', r', e, hij, hj, hlr, hr, hi2⟩ := twos_mem ht
  cases e
  have hi : i < n := by omega
  have hl : l < n := by omega
  refine rz_run (m := m_switched) (ρ := [some (dM m), some (dR [i, j, l, r]), none, none, none, none, none, none, none]) ?_
  unfold m_switched
  have htw := twosP_ok h h1 h9
  and_intros
  refine run_ifF (k := false) ?_ rfl (run_skip ?_)
  · refine ts_or (k := false) (l := false) ?_ fun _ => ?_
    · have : (!decide ([i, j, l, r] ∈ twosL m n)) = false := by simp [ht]
      rw [← this]
      left
    · refine ts_tru (ev_lcf (p := fun _ => false) (xs := [i, j, l, r]) (enc := dI) (by left) (lim_of (by simp)) (fun _ => rfl) fun a ha => ?_) (by simp)
      dsimp only [mk, wipeE, List.set_cons_succ, List.set_cons_zero]
      have hal : a < n := by
        simp at ha
        rcases ha with rfl | rfl | rfl | rfl <;> omega
      have hw : g_is_within [dI a, dI 0, dI (n - 1)] = .ok (.bool true) := by
        rw [within_I, decide_eq_true (by omega)]
      exact ts_not (k := true) (by left)
  refine run_setT (ds := [dI i, dI j, dI l, dI r]) rfl rfl ?_
  dsimp only [setsE, List.set_cons_succ, List.set_cons_zero]
  have hll := h.len
  refine run_set (d := lM m) ?_ ?_
  · have := ev_lcmL (it := iSeq (gVar 0)) (i := 8) (e := gCall (on1 dList) (aCons (gVar 8) aNil)) (vs := [8]) (ρ := mk [] [some (dM m), some (dR [i, j, l, r]), some (lL (twosL m n)), some (dI i), some (dI j), some (dI l), some (dI r), none, none]) (xs := m) (enc := dR) (f := fun a => a) (by left) (by nofun) fun a ha => by
      dsimp only [wipeE, List.set_cons_succ, List.set_cons_zero, mk]
      left
    rw [List.map_id'] at this
    exact this
  dsimp only [List.set_cons_succ, List.set_cons_zero]
  have hlen1 : (swM m i l r).length = m.length := List.length_set
  have hjr : (swM m i l r).getD j [] = m.getD j [] := by rw [swM_row (by omega), if_neg (by omega)]
  refine run_for (xs := [i, j]) (enc := dI) (fun k ρ => ∃ x, ρ = [some (dM m), some (dR [i, j, l, r]), some (lL (twosL m n)), some (dI i), some (dI j), some (dI l), some (dI r), some (lM (if k = 0 then m else if k = 1 then swM m i l r else swT m i j l r)), x]) (by left) ⟨_, rfl⟩ ?_ ?_
  · rintro k hk _ ⟨x, rfl⟩
    dsimp only [List.set_cons_succ, List.set_cons_zero]
    have : k = 0 ∨ k = 1 := by
      have : k < 2 := hk
      omega
    have hri := h.rlen hi
    have hrj := h.rlen hj
    rcases this with rfl | rfl
    · show Run _ [some (dM m), some (dR [i, j, l, r]), some (lL (twosL m n)), some (dI i), some (dI j), some (dI l), some (dI r), some (lM m), some (dI i)] _
      refine run_swp (m := m) (x := i) (y1 := l) (y2 := r) (z1 := (m.getD i []).getD r 0) (z2 := (m.getD i []).getD l 0) rfl (by left) (by left) rfl rfl (fun _ => rfl) (fun _ => rfl) (fun _ => rfl) (by omega) (by omega) (by omega) (run_end ⟨_, rfl⟩)
    · show Run _ [some (dM m), some (dR [i, j, l, r]), some (lL (twosL m n)), some (dI i), some (dI j), some (dI l), some (dI r), some (lM (swM m i l r)), some (dI j)] _
      have hjl : ((swM m i l r).getD j []).length = n := by rw [hjr, hrj]
      refine run_swp (m := swM m i l r) (x := j) (y1 := l) (y2 := r) (z1 := ((swM m i l r).getD j []).getD r 0) (z2 := ((swM m i l r).getD j []).getD l 0) rfl (by left) (by left) rfl rfl (fun _ => rfl) (fun _ => rfl) (fun _ => rfl) (by omega) (by omega) (by omega) (run_end ⟨_, rfl⟩)
  · rintro _ ⟨x, rfl⟩
    have hTl : (swT m i j l r).length = n := by rw [swT_len, h.len]
    refine run_ret (d := dM (swT m i j l r)) (ev_call1 (x := lL (swT m i j l r)) ?_ rfl) rfl
    have := ev_lcmR (it := iSeq (gVar 7)) (i := 8) (e := gCall (on1 dTuple) (aCons (gVar 8) aNil)) (vs := [8]) (ρ := [some (dM m), some (dR [i, j, l, r]), some (lL (twosL m n)), some (dI i), some (dI j), some (dI l), some (dI r), some (lM (swT m i j l r)), x]) (xs := swT m i j l r) (enc := fun r => lR r) (f := fun a => a) (it_list rfl) (lim_of (by omega)) fun a ha => by
      dsimp only [wipeE, List.set_cons_succ, List.set_cons_zero, mk]
      left
    rw [List.map_id'] at this
    exact this
end
end DL
/-! part Ce2 -/
namespace DL
open PySem
local macro_rules | `(tactic| nofun) => `(tactic| first
  | assumption
  | omega
  | exact lim_of (by omega)
  | exact lim_lt (by omega)
  | ((simp only [List.length_map, List.length_range, List.length_append, List.length_cons, List.length_nil, List.length_replicate, List.length_set, List.length_singleton, List.length_take, List.length_drop, List.length_dropLast]) <;> first | omega | exact lim_of (by omega) | exact lim_lt (by omega))
  | decide
  | fail)
local macro_rules | `(tactic| right) => `(tactic| first
  | with_reducible assumption
  | with_reducible exact add_I _ _
  | ((with_reducible apply sub_I); nofun)
  | ((with_reducible apply mul_I); nofun)
  | ((with_reducible apply mod_I); nofun)
  | ((with_reducible apply mod_c); nofun)
  | ((with_reducible apply fdv_I) <;> nofun)
  | with_reducible exact dAdd_ii _ _
  | with_reducible exact dSub_ii _ _
  | with_reducible exact lt_I _ _
  | with_reducible exact le_I _ _
  | with_reducible exact gt_I _ _
  | with_reducible exact ge_I _ _
  | with_reducible exact eq_I _ _
  | with_reducible exact ne_I _ _
  | with_reducible exact eq_R _ _
  | with_reducible exact ne_R _ _
  | with_reducible exact eq_M _ _
  | with_reducible exact ne_M _ _
  | with_reducible exact eq_lR _ _
  | with_reducible exact ne_lR _ _
  | with_reducible exact eq_lL _ _
  | with_reducible exact ne_lL _ _
  | ((with_reducible apply ix_row); (· assumption); (· nofun))
  | ((with_reducible apply ix_cel); (· assumption); (· nofun); (· nofun))
  | ((with_reducible apply ix_R); nofun)
  | ((with_reducible apply ix_M); nofun)
  | ((with_reducible apply ix_lR); nofun)
  | ((with_reducible apply ix_lL); nofun)
  | ((with_reducible apply ix_lM); nofun)
  | ((with_reducible apply len_Ln); assumption)
  | ((with_reducible apply len_row); (· assumption); (· nofun))
  | with_reducible exact len_R _
  | with_reducible exact len_M _
  | with_reducible exact len_lR _
  | with_reducible exact len_lL _
  | with_reducible exact tup_lR _
  | with_reducible exact tup_lM _
  | with_reducible exact tup_Rt _
  | with_reducible exact tup_Mt _
  | with_reducible exact list_R' _
  | with_reducible exact list_M' _
  | ((with_reducible apply app_R); nofun)
  | ((with_reducible apply app_lR); nofun)
  | ((with_reducible apply app_lL); nofun)
  | ((with_reducible apply app_M); nofun)
  | with_reducible exact in_lR _ _
  | with_reducible exact in_R _ _
  | with_reducible exact in_lL _ _
  | with_reducible exact notIn_lR _ _
  | with_reducible exact notIn_R _ _
  | with_reducible exact notIn_lL _ _
  | with_reducible exact sum_R _
  | with_reducible exact sum_lR _
  | ((with_reducible apply tindex_ok); nofun)
  | with_reducible exact truth_bool _
  | with_reducible exact truth_I _
  | with_reducible exact truth_lR _
  | with_reducible exact truth_lL _
  | with_reducible exact truth_lf _ _
  | with_reducible exact isN_R _
  | with_reducible exact isN_M _
  | with_reducible exact isN_n
  | with_reducible exact isN_l _
  | with_reducible exact notN_R _
  | with_reducible exact notN_M _
  | with_reducible exact notN_n
  | with_reducible exact notN_l _
  | with_reducible exact isi_R _
  | with_reducible exact isi_M _
  | with_reducible exact slR_to _ _
  | with_reducible exact slR_from _ _
  | with_reducible exact slM_to _ _
  | with_reducible exact slM_from _ _
  | with_reducible exact slL_to _ _
  | with_reducible exact slL_from _ _
  | with_reducible exact sllR_to _ _
  | with_reducible exact sllR_from _ _
  | with_reducible exact within_I _ _ _
  | ((with_reducible apply shl_I) <;> nofun)
  | with_reducible exact shr_I _ _
  | with_reducible exact and1_I _
  | ((with_reducible apply fdv_c) <;> nofun)
  | with_reducible exact slR_dl _
  | with_reducible exact dNeg_i _
  | with_reducible exact eq_lS _ _
  | with_reducible exact ne_lS _ _
  | with_reducible exact len_lS _
  | with_reducible exact in_lS _ _
  | with_reducible exact notIn_lS _ _
  | ((with_reducible apply ix_lS); nofun)
  | with_reducible exact truth_lS _
  | ((with_reducible apply app_g); nofun)
  | ((with_reducible apply app_gt); nofun)
  | fail)
local macro_rules | `(tactic| left) => `(tactic| first
  | ((with_reducible apply ev_var); exact rfl)
  | with_reducible exact ev_lit _ _
  | with_reducible exact ev_C _ _
  | ((with_reducible apply g_atM); (· left); (· assumption); (· left); (· left); (· nofun); (· nofun))
  | ((with_reducible apply ev_g2); (· left); (· left); (· right))
  | ((with_reducible apply ev_g1); (· left); (· right))
  | ((with_reducible apply ev_call1); (· left); (· right))
  | ((with_reducible apply ev_callF); (· left); (· right))
  | with_reducible exact ev_a0 _
  | ((with_reducible apply ev_a1); (· left); (· left))
  | with_reducible exact ev_aI0 _
  | ((with_reducible apply ev_aI1); (· left); (· left))
  | with_reducible exact ev_aR0 _
  | ((with_reducible apply ev_aR1); (· left); (· left))
  | ((with_reducible apply ev_tupI); (· left); (· nofun))
  | ((with_reducible apply ev_tupR); (· left); (· nofun))
  | ((with_reducible apply ev_tup); (· left); (· nofun))
  | ((with_reducible apply ev_lstI); (· left); (· nofun))
  | ((with_reducible apply ev_lstR); (· left); (· nofun))
  | ((with_reducible apply ev_lst); (· left); (· nofun))
  | ((with_reducible apply ev_not); (· left); (· right))
  | ((with_reducible apply ev_andB); (· left); (· (intro _; left)))
  | ((with_reducible apply ev_orB); (· left); (· (intro _; left)))
  | ((with_reducible apply ev_M); (· left); (· rfl); (· left); (· right))
  | ((with_reducible apply ev_sl); (· left); (· left); (· left); (· right))
  | with_reducible exact ev_oNo _
  | ((with_reducible apply ev_oSm); left)
  | ((with_reducible apply ev_lRg); left)
  | ((with_reducible apply ev_tRg); left)
  | with_reducible exact Eq.refl (tYs _)
  | ((with_reducible apply ts_cm); (· left); (· left); (· right))
  | ((with_reducible apply ts_and); (· left); (· (intro _; left)))
  | ((with_reducible apply ts_or); (· left); (· (intro _; left)))
  | ((with_reducible apply ts_not); left)
  | ((with_reducible apply ts_tru); (· left); (· right))
  | ((with_reducible apply tt_val); left)
  | ((with_reducible apply tt_chn); (· left); (· left); (· right); (· (intro _; left)); (· (intro _; right)))
  | ((with_reducible apply it_rng1); (· left); (· nofun))
  | ((with_reducible apply it_rng2); (· left); (· left); (· nofun); (· nofun))
  | ((with_reducible apply it_R); left)
  | ((with_reducible apply it_M); left)
  | ((with_reducible apply it_list); left)
  | ((with_reducible apply it_tup); left)
  | ((with_reducible apply it_enMn); (· left); (· exact Lat.len (by assumption)))
  | ((with_reducible apply it_zpR); (· left); (· left); (· nofun); (· nofun))
  | ((with_reducible apply it_zpM); (· left); (· left); (· nofun); (· nofun))
  | ((with_reducible apply it_enRn); (· left); (· exact Lat.rlen (by assumption) (by nofun)))
  | ((with_reducible apply it_enR); left)
  | ((with_reducible apply it_enM); left)
  | ((with_reducible apply it_enlR); left)
  | ((with_reducible apply it_enL); left)
  | ((with_reducible apply ev_lcmI); (· left); (· nofun); (· infer_instance))
  | ((with_reducible apply ev_lcmR); (· left); (· nofun); (· infer_instance))
  | ((with_reducible apply ev_lcmL); (· left); (· nofun); (· infer_instance))
  | ((with_reducible apply ev_lcm); (· left); (· nofun); (· infer_instance))
  | ((with_reducible apply ev_lcpI); (· left); (· nofun); (· infer_instance))
  | ((with_reducible apply ev_lcf); (· left); (· nofun); (· (intro _; rfl)); (· infer_instance))
  | ((with_reducible apply ev_lc); (· left); (· nofun); (· infer_instance))
  | fail)
local macro_rules | `(tactic| infer_instance) => `(tactic| (intro a ha; (try dsimp only [wipeE, List.set_cons_succ, List.set_cons_zero]); (first | (have h1 := List.mem_range.mp ha) | (have h1 := Lat.row (by assumption) _ ha) | skip); first | left | (constructor; (· left); (· (intro hp; left)))))
local macro_rules | `(tactic| and_intros) => `(tactic| first
  | ((with_reducible apply run_set); (· left); (try dsimp only [List.set_cons_succ, List.set_cons_zero]))
  | ((with_reducible apply run_expr); (· left))
  | ((with_reducible apply run_ret); (· left))
  | (with_reducible apply run_skip)
  | (with_reducible apply run_seq)
  | (with_reducible apply run_end))
/-! ### exchanged -/
abbrev T3 (m : List (List Nat)) (i j k : Nat) : Nat := [i, j, atM m i j].getD k 0
section
variable {n : Nat} {m : List (List Nat)}
theorem T3_lt (h : Lat n m) {i j : Nat} (hi : i < n) (hj : j < n) {k : Nat} (hk : k < 3) : T3 m i j k < n := by
  have : k = 0 ∨ k = 1 ∨ k = 2 := by omega
  rcases this with rfl | rfl | rfl
  · exact hi
  · exact hj
  · exact h.at_lt hi hj
theorem oa_inj (h : Lat n m) {i j i' j' : Nat} (hi : i < n) (hj : j < n) (hi' : i' < n) (hj' : j' < n) {k l : Nat} (hk : k < 3) (hl : l < 3) (hkl : k ≠ l) (e1 : T3 m i j k = T3 m i' j' k) (e2 : T3 m i j l = T3 m i' j' l) : i = i' ∧ j = j' := by
  have c1 : k = 0 ∨ k = 1 ∨ k = 2 := by omega
  have c2 : l = 0 ∨ l = 1 ∨ l = 2 := by omega
  have r1 : i = i' → atM m i j = atM m i' j' → i = i' ∧ j = j' := fun a b => by
    subst a
    exact ⟨rfl, h.row_inj hi hj hj' b⟩
  have r2 : j = j' → atM m i j = atM m i' j' → i = i' ∧ j = j' := fun a b => by
    subst a
    exact ⟨h.col_inj hi hj hi' b, rfl⟩
  rcases c1 with rfl | rfl | rfl <;> rcases c2 with rfl | rfl | rfl
  · exact absurd rfl hkl
  · exact ⟨e1, e2⟩
  · exact r1 e1 e2
  · exact ⟨e2, e1⟩
  · exact absurd rfl hkl
  · exact r2 e1 e2
  · exact r1 e2 e1
  · exact r2 e2 e1
  · exact absurd rfl hkl
theorem oa_surj (h : Lat n m) {a b : Nat} (ha : a < n) (hb : b < n) {k l : Nat} (hk : k < 3) (hl : l < 3) (hkl : k ≠ l) : ∃ p : Nat × Nat, p.1 < n ∧ p.2 < n ∧ T3 m p.1 p.2 k = a ∧ T3 m p.1 p.2 l = b := by
  have c1 : k = 0 ∨ k = 1 ∨ k = 2 := by omega
  have c2 : l = 0 ∨ l = 1 ∨ l = 2 := by omega
  have row : ∀ {x y : Nat}, x < n → y < n → (m.getD x []).idxOf y < n ∧ atM m x ((m.getD x []).idxOf y) = y := fun {x y} hx hy => by
    have hp := h.row_perm (h.mem hx)
    exact ⟨hp.idx_lt hy, hp.at_idx hy⟩
  have col : ∀ {x y : Nat}, x < n → y < n → (colN m x).idxOf y < n ∧ atM m ((colN m x).idxOf y) x = y := fun {x y} hx hy => by
    have hp := h.col_perm hx
    have h1 := hp.idx_lt hy
    have h2 := hp.at_idx hy
    rw [getD_map (e := []) (by rw [h.len]; exact h1)] at h2
    exact ⟨h1, h2⟩
  rcases c1 with rfl | rfl | rfl <;> rcases c2 with rfl | rfl | rfl
  · exact absurd rfl hkl
  · exact ⟨(a, b), ha, hb, rfl, rfl⟩
  · exact ⟨(a, _), ha, (row ha hb).1, rfl, (row ha hb).2⟩
  · exact ⟨(b, a), hb, ha, rfl, rfl⟩
  · exact absurd rfl hkl
  · exact ⟨(_, a), (col ha hb).1, ha, rfl, (col ha hb).2⟩
  · exact ⟨(b, _), hb, (row hb ha).1, (row hb ha).2, rfl⟩
  · exact ⟨(_, b), (col hb ha).1, hb, (col hb ha).2, rfl⟩
  · exact absurd rfl hkl
open Classical in
noncomputable def exV (m : List (List Nat)) (n : Nat) (o : List Nat) (a b : Nat) : Nat :=
  if h : ∃ p : Nat × Nat, p.1 < n ∧ p.2 < n ∧ T3 m p.1 p.2 (o.getD 0 0) = a ∧ T3 m p.1 p.2 (o.getD 1 0) = b then T3 m (Classical.choose h).1 (Classical.choose h).2 (o.getD 2 0) else 0
noncomputable def exch (m : List (List Nat)) (n : Nat) (o : List Nat) : List (List Nat) := tab n (exV m n o)
theorem perm3 {o : List Nat} (ho : isPerm 3 o) : o.getD 0 0 < 3 ∧ o.getD 1 0 < 3 ∧ o.getD 2 0 < 3 ∧ o.getD 0 0 ≠ o.getD 1 0 ∧ o.getD 0 0 ≠ o.getD 2 0 ∧ o.getD 1 0 ≠ o.getD 2 0 :=
  ⟨ho.at_lt (by decide), ho.at_lt (by decide), ho.at_lt (by decide), (fun e => by
    have := ho.inj (i := 0) (j := 1) (by decide) (by decide) e
    omega), (fun e => by
    have := ho.inj (i := 0) (j := 2) (by decide) (by decide) e
    omega), fun e => by
    have := ho.inj (i := 1) (j := 2) (by decide) (by decide) e
    omega⟩
theorem exV_at (h : Lat n m) {o : List Nat} (ho : isPerm 3 o) {i j : Nat} (hi : i < n) (hj : j < n) : exV m n o (T3 m i j (o.getD 0 0)) (T3 m i j (o.getD 1 0)) = T3 m i j (o.getD 2 0) := by
  obtain ⟨o0, o1, o2, n01, _, _⟩ := perm3 ho
  have hex : ∃ p : Nat × Nat, p.1 < n ∧ p.2 < n ∧ T3 m p.1 p.2 (o.getD 0 0) = T3 m i j (o.getD 0 0) ∧ T3 m p.1 p.2 (o.getD 1 0) = T3 m i j (o.getD 1 0) := ⟨(i, j), hi, hj, rfl, rfl⟩
  unfold exV
  rw [dif_pos hex]
  obtain ⟨a, b, c, d⟩ := Classical.choose_spec hex
  obtain ⟨e1, e2⟩ := oa_inj h a b hi hj o0 o1 n01 c d
  rw [e1, e2]
theorem exch_at (h : Lat n m) {o : List Nat} (ho : isPerm 3 o) {i j : Nat} (hi : i < n) (hj : j < n) : atM (exch m n o) (T3 m i j (o.getD 0 0)) (T3 m i j (o.getD 1 0)) = T3 m i j (o.getD 2 0) := by
  obtain ⟨o0, o1, _, _, _, _⟩ := perm3 ho
  unfold exch
  rw [tab_at (T3_lt h hi hj o0) (T3_lt h hi hj o1), exV_at h ho hi hj]
theorem exch_lat (h : Lat n m) {o : List Nat} (ho : isPerm 3 o) : Lat n (exch m n o) := by
  obtain ⟨o0, o1, o2, n01, n02, n12⟩ := perm3 ho
  have pt : ∀ {a b : Nat}, a < n → b < n → ∃ i j, i < n ∧ j < n ∧ T3 m i j (o.getD 0 0) = a ∧ T3 m i j (o.getD 1 0) = b ∧ exV m n o a b = T3 m i j (o.getD 2 0) := fun {a b} ha hb => by
    obtain ⟨⟨i, j⟩, hi, hj, e1, e2⟩ := oa_surj h ha hb o0 o1 n01
    refine ⟨i, j, hi, hj, e1, e2, ?_⟩
    rw [← exV_at h ho hi hj, e1, e2]
  refine lat_tab (fun a ha b hb => ?_) (fun a ha b hb c hc e => ?_) (fun b hb a ha c hc e => ?_)
  · obtain ⟨i, j, hi, hj, _, _, e⟩ := pt ha hb
    rw [e]
    exact T3_lt h hi hj o2
  · obtain ⟨i, j, hi, hj, a1, a2, a3⟩ := pt ha hb
    obtain ⟨i', j', hi', hj', b1, b2, b3⟩ := pt ha hc
    rw [a3, b3] at e
    obtain ⟨e1, e2⟩ := oa_inj h hi hj hi' hj' o0 o2 n02 (a1.trans b1.symm) e
    rw [← a2, ← b2, e1, e2]
  · obtain ⟨i, j, hi, hj, a1, a2, a3⟩ := pt ha hb
    obtain ⟨i', j', hi', hj', b1, b2, b3⟩ := pt hc hb
    rw [a3, b3] at e
    obtain ⟨e1, e2⟩ := oa_inj h hi hj hi' hj' o1 o2 n12 (a2.trans b2.symm) e
    rw [← a1, ← b1, e1, e2]
theorem exch_is (h : Lat n m) {o : List Nat} (ho : isPerm 3 o) {E : List (List Nat)} (hl : E.length = n) (hr : ∀ r ∈ E, r.length = n) (he : ∀ i, i < n → ∀ j, j < n → atM E (T3 m i j (o.getD 0 0)) (T3 m i j (o.getD 1 0)) = T3 m i j (o.getD 2 0)) : E = exch m n o := by
  obtain ⟨o0, o1, o2, n01, n02, n12⟩ := perm3 ho
  rw [rect_tab hl hr]
  unfold exch tab
  refine List.map_congr_left fun a ha => List.map_congr_left fun b hb => ?_
  obtain ⟨⟨i, j⟩, hi, hj, e1, e2⟩ := oa_surj h (List.mem_range.mp ha) (List.mem_range.mp hb) o0 o1 n01
  have := he i hi j hj
  rw [e1, e2] at this
  rw [this, ← exV_at h ho hi hj, e1, e2]
theorem set_rows {E : List (List Nat)} (hl : E.length = n) (hr : ∀ r ∈ E, r.length = n) {x y z : Nat} (hx : x < n) : (E.set x ((E.getD x []).set y z)).length = n ∧ ∀ r ∈ E.set x ((E.getD x []).set y z), r.length = n := by
  refine ⟨by rw [List.length_set, hl], fun r h => ?_⟩
  rcases List.mem_or_eq_of_mem_set h with h | e
  · exact hr r h
  · rw [e, List.length_set, getD_el (by omega)]
    exact hr _ (List.getElem_mem _)
theorem set_at {E : List (List Nat)} (hl : E.length = n) (hr : ∀ r ∈ E, r.length = n) {x y z : Nat} (hx : x < n) (hy : y < n) (a b : Nat) : atM (E.set x ((E.getD x []).set y z)) a b = if x = a ∧ y = b then z else atM E a b := by
  unfold atM
  rw [getD_set (by omega)]
  have hrl : (E.getD x []).length = n := by
    rw [getD_el (by omega)]
    exact hr _ (List.getElem_mem _)
  by_cases e : x = a
  · subst e
    rw [if_pos rfl, getD_set (by omega)]
    by_cases e2 : y = b
    · rw [if_pos e2, if_pos ⟨rfl, e2⟩]
    · rw [if_neg e2, if_neg fun q => e2 q.2]
  · rw [if_neg e, if_neg fun q => e q.1]
theorem look3 {o : List Nat} (ho : isPerm 3 o) : g_look_order [dR [0, 0, 0], dR o] = .ok .none := by
  refine rz_run (m := m_look_order) (ρ := [some (dR [0, 0, 0]), some (dR o)]) ?_
  unfold m_look_order
  have hl : dLen (dR [0, 0, 0]) = .ok (dI 3) := rfl
  have q := order_R (r := o) (n := 3) (by rw [ho.len]; decide)
  rw [decide_eq_true ⟨ho.len, ho.lt, ho.nd⟩] at q
  exact run_ifF (k := !true) (by left) rfl (run_skip (run_end rfl))
theorem exchP_ok (h : Lat n m) (h1 : 1 ≤ n) (h9 : n ≤ 9) {o : List Nat} (ho : isPerm 3 o) : g_exchanged [dM m, dR o] = .ok (dM (exch m n o)) := by
  obtain ⟨o0, o1, o2, n01, n02, n12⟩ := perm3 ho
  have hol := ho.len
  refine rz_run (m := m_exchanged) (ρ := [some (dM m), some (dR o), none, none, none, none, none]) ?_
  unfold m_exchanged
  have hck := lat_checked h h1 h9
  have hlo := look3 ho
  have hz : dRep (lR [0]) (dI n) = .ok (lR (List.replicate n 0)) := zeros_ok (by omega)
  and_intros
  and_intros
  and_intros
  refine run_set (d := lM ((List.range n).map fun _ => List.replicate n 0)) (ev_lcmL (by left) (by nofun) fun a ha => by
    dsimp only [mk, wipeE, List.set_cons_succ, List.set_cons_zero]
    left) ?_
  dsimp only [List.set_cons_succ, List.set_cons_zero]
  refine run_forR (n := n) (fun i ρ => ∃ E a4 a5 a6, ρ = [some (dM m), some (dR o), some (dI n), some (lM E), a4, a5, a6] ∧ E.length = n ∧ (∀ r ∈ E, r.length = n) ∧ ∀ i', i' < i → ∀ j', j' < n → atM E (T3 m i' j' (o.getD 0 0)) (T3 m i' j' (o.getD 1 0)) = T3 m i' j' (o.getD 2 0)) (by left) ⟨_, _, _, _, rfl, by simp, fun r hr => by
    obtain ⟨_, _, rfl⟩ := List.mem_map.mp hr
    exact List.length_replicate, fun i' hi' => by omega⟩ ?_ ?_
  · rintro i hi _ ⟨E, a4, a5, a6, rfl, hl, hr, hI⟩
    dsimp only [List.set_cons_succ, List.set_cons_zero]
    refine run_forR (n := n) (fun j ρ => ∃ E a5 a6, ρ = [some (dM m), some (dR o), some (dI n), some (lM E), some (dI i), a5, a6] ∧ E.length = n ∧ (∀ r ∈ E, r.length = n) ∧ (∀ i', i' < i → ∀ j', j' < n → atM E (T3 m i' j' (o.getD 0 0)) (T3 m i' j' (o.getD 1 0)) = T3 m i' j' (o.getD 2 0)) ∧ ∀ j', j' < j → atM E (T3 m i j' (o.getD 0 0)) (T3 m i j' (o.getD 1 0)) = T3 m i j' (o.getD 2 0)) (by left) ⟨E, _, _, rfl, hl, hr, hI, fun j' hj' => by omega⟩ ?_ ?_
    · rintro j hj _ ⟨E, a5, a6, rfl, hl, hr, hI, hJ⟩
      dsimp only [List.set_cons_succ, List.set_cons_zero]
      refine run_set (d := dR [i, j, atM m i j]) (by left) ?_
      dsimp only [List.set_cons_succ, List.set_cons_zero]
      have t0 := T3_lt h hi hj o0
      have t1 := T3_lt h hi hj o1
      have hrow : (E.getD (T3 m i j (o.getD 0 0)) []).length = n := by
        rw [getD_el (by omega)]
        exact hr _ (List.getElem_mem _)
      obtain ⟨q1, q2⟩ := set_rows hl hr (x := T3 m i j (o.getD 0 0)) (y := T3 m i j (o.getD 1 0)) (z := T3 m i j (o.getD 2 0)) t0
      have keep : ∀ i' j', i' < n → j' < n → atM E (T3 m i' j' (o.getD 0 0)) (T3 m i' j' (o.getD 1 0)) = T3 m i' j' (o.getD 2 0) → atM (E.set (T3 m i j (o.getD 0 0)) ((E.getD (T3 m i j (o.getD 0 0)) []).set (T3 m i j (o.getD 1 0)) (T3 m i j (o.getD 2 0)))) (T3 m i' j' (o.getD 0 0)) (T3 m i' j' (o.getD 1 0)) = T3 m i' j' (o.getD 2 0) := by
        intro i' j' hi' hj' e
        rw [set_at hl hr t0 t1]
        by_cases c : T3 m i j (o.getD 0 0) = T3 m i' j' (o.getD 0 0) ∧ T3 m i j (o.getD 1 0) = T3 m i' j' (o.getD 1 0)
        · rw [if_pos c]
          obtain ⟨e1, e2⟩ := oa_inj h hi hj hi' hj' o0 o1 n01 c.1 c.2
          rw [e1, e2]
        · rw [if_neg c]
          exact e
      refine run_put2 (m := E) (x := T3 m i j (o.getD 0 0)) (y := T3 m i j (o.getD 1 0)) (z := T3 m i j (o.getD 2 0)) rfl (by left) (by left) (by left) (by omega) (by omega) (run_end ⟨_, _, _, rfl, q1, q2, fun i' hi' j' hj' => keep i' j' (by omega) hj' (hI i' hi' j' hj'), fun j' hj' => ?_⟩)
      by_cases c : j' = j
      · subst c
        rw [set_at hl hr t0 t1, if_pos ⟨rfl, rfl⟩]
      · exact keep i j' hi (by omega) (hJ j' (by omega))
    · rintro _ ⟨E, a5, a6, rfl, hl, hr, hI, hJ⟩
      refine run_end ⟨E, _, _, _, rfl, hl, hr, fun i' hi' j' hj' => ?_⟩
      by_cases c : i' = i
      · subst c
        exact hJ j' hj'
      · exact hI i' (by omega) j' hj'
  · rintro _ ⟨E, a4, a5, a6, rfl, hl, hr, hI⟩
    rw [← exch_is h ho hl hr hI]
    refine run_ret (d := dM E) (ev_call1 (x := lL E) ?_ rfl) rfl
    have := ev_lcmR (it := iSeq (gVar 3)) (i := 4) (e := gCall (on1 dTuple) (aCons (gVar 4) aNil)) (vs := [4]) (ρ := [some (dM m), some (dR o), some (dI n), some (lM E), a4, a5, a6]) (xs := E) (enc := fun r => lR r) (f := fun a => a) (it_list rfl) (lim_of (by omega)) fun a ha => by
      dsimp only [wipeE, List.set_cons_succ, List.set_cons_zero, mk]
      left
    rw [List.map_id'] at this
    exact this
end
end DL
/-! part Ce3 -/
namespace DL
open PySem
local macro_rules | `(tactic| nofun) => `(tactic| first
  | assumption
  | omega
  | exact lim_of (by omega)
  | exact lim_lt (by omega)
  | ((simp only [List.length_map, List.length_range, List.length_append, List.length_cons, List.length_nil, List.length_replicate, List.length_set, List.length_singleton, List.length_take, List.length_drop, List.length_dropLast]) <;> first | omega | exact lim_of (by omega) | exact lim_lt (by omega))
  | decide
  | fail)
local macro_rules | `(tactic| right) => `(tactic| first
  | with_reducible assumption
  | with_reducible exact add_I _ _
  | ((with_reducible apply sub_I); nofun)
  | ((with_reducible apply mul_I); nofun)
  | ((with_reducible apply mod_I); nofun)
  | ((with_reducible apply mod_c); nofun)
  | ((with_reducible apply fdv_I) <;> nofun)
  | with_reducible exact dAdd_ii _ _
  | with_reducible exact dSub_ii _ _
  | with_reducible exact lt_I _ _
  | with_reducible exact le_I _ _
  | with_reducible exact gt_I _ _
  | with_reducible exact ge_I _ _
  | with_reducible exact eq_I _ _
  | with_reducible exact ne_I _ _
  | with_reducible exact eq_R _ _
  | with_reducible exact ne_R _ _
  | with_reducible exact eq_M _ _
  | with_reducible exact ne_M _ _
  | with_reducible exact eq_lR _ _
  | with_reducible exact ne_lR _ _
  | with_reducible exact eq_lL _ _
  | with_reducible exact ne_lL _ _
  | ((with_reducible apply ix_row); (· assumption); (· nofun))
  | ((with_reducible apply ix_cel); (· assumption); (· nofun); (· nofun))
  | ((with_reducible apply ix_R); nofun)
  | ((with_reducible apply ix_M); nofun)
  | ((with_reducible apply ix_lR); nofun)
  | ((with_reducible apply ix_lL); nofun)
  | ((with_reducible apply ix_lM); nofun)
  | ((with_reducible apply len_Ln); assumption)
  | ((with_reducible apply len_row); (· assumption); (· nofun))
  | with_reducible exact len_R _
  | with_reducible exact len_M _
  | with_reducible exact len_lR _
  | with_reducible exact len_lL _
  | with_reducible exact tup_lR _
  | with_reducible exact tup_lM _
  | with_reducible exact tup_Rt _
  | with_reducible exact tup_Mt _
  | with_reducible exact list_R' _
  | with_reducible exact list_M' _
  | ((with_reducible apply app_R); nofun)
  | ((with_reducible apply app_lR); nofun)
  | ((with_reducible apply app_lL); nofun)
  | ((with_reducible apply app_M); nofun)
  | with_reducible exact in_lR _ _
  | with_reducible exact in_R _ _
  | with_reducible exact in_lL _ _
  | with_reducible exact notIn_lR _ _
  | with_reducible exact notIn_R _ _
  | with_reducible exact notIn_lL _ _
  | with_reducible exact sum_R _
  | with_reducible exact sum_lR _
  | ((with_reducible apply tindex_ok); nofun)
  | with_reducible exact truth_bool _
  | with_reducible exact truth_I _
  | with_reducible exact truth_lR _
  | with_reducible exact truth_lL _
  | with_reducible exact truth_lf _ _
  | with_reducible exact isN_R _
  | with_reducible exact isN_M _
  | with_reducible exact isN_n
  | with_reducible exact isN_l _
  | with_reducible exact notN_R _
  | with_reducible exact notN_M _
  | with_reducible exact notN_n
  | with_reducible exact notN_l _
  | with_reducible exact isi_R _
  | with_reducible exact isi_M _
  | with_reducible exact slR_to _ _
  | with_reducible exact slR_from _ _
  | with_reducible exact slM_to _ _
  | with_reducible exact slM_from _ _
  | with_reducible exact slL_to _ _
  | with_reducible exact slL_from _ _
  | with_reducible exact sllR_to _ _
  | with_reducible exact sllR_from _ _
  | with_reducible exact within_I _ _ _
  | ((with_reducible apply shl_I) <;> nofun)
  | with_reducible exact shr_I _ _
  | with_reducible exact and1_I _
  | ((with_reducible apply fdv_c) <;> nofun)
  | with_reducible exact slR_dl _
  | with_reducible exact dNeg_i _
  | with_reducible exact eq_lS _ _
  | with_reducible exact ne_lS _ _
  | with_reducible exact len_lS _
  | with_reducible exact in_lS _ _
  | with_reducible exact notIn_lS _ _
  | ((with_reducible apply ix_lS); nofun)
  | with_reducible exact truth_lS _
  | ((with_reducible apply app_g); nofun)
  | ((with_reducible apply app_gt); nofun)
  | fail)
local macro_rules | `(tactic| left) => `(tactic| first
  | ((with_reducible apply ev_var); exact rfl)
  | with_reducible exact ev_lit _ _
  | with_reducible exact ev_C _ _
  | ((with_reducible apply g_atM); (· left); (· assumption); (· left); (· left); (· nofun); (· nofun))
  | ((with_reducible apply ev_g2); (· left); (· left); (· right))
  | ((with_reducible apply ev_g1); (· left); (· right))
  | ((with_reducible apply ev_call1); (· left); (· right))
  | ((with_reducible apply ev_callF); (· left); (· right))
  | with_reducible exact ev_a0 _
  | ((with_reducible apply ev_a1); (· left); (· left))
  | with_reducible exact ev_aI0 _
  | ((with_reducible apply ev_aI1); (· left); (· left))
  | with_reducible exact ev_aR0 _
  | ((with_reducible apply ev_aR1); (· left); (· left))
  | ((with_reducible apply ev_tupI); (· left); (· nofun))
  | ((with_reducible apply ev_tupR); (· left); (· nofun))
  | ((with_reducible apply ev_tup); (· left); (· nofun))
  | ((with_reducible apply ev_lstI); (· left); (· nofun))
  | ((with_reducible apply ev_lstR); (· left); (· nofun))
  | ((with_reducible apply ev_lst); (· left); (· nofun))
  | ((with_reducible apply ev_not); (· left); (· right))
  | ((with_reducible apply ev_andB); (· left); (· (intro _; left)))
  | ((with_reducible apply ev_orB); (· left); (· (intro _; left)))
  | ((with_reducible apply ev_M); (· left); (· rfl); (· left); (· right))
  | ((with_reducible apply ev_sl); (· left); (· left); (· left); (· right))
  | with_reducible exact ev_oNo _
  | ((with_reducible apply ev_oSm); left)
  | ((with_reducible apply ev_lRg); left)
  | ((with_reducible apply ev_tRg); left)
  | with_reducible exact Eq.refl (tYs _)
  | ((with_reducible apply ts_cm); (· left); (· left); (· right))
  | ((with_reducible apply ts_and); (· left); (· (intro _; left)))
  | ((with_reducible apply ts_or); (· left); (· (intro _; left)))
  | ((with_reducible apply ts_not); left)
  | ((with_reducible apply ts_tru); (· left); (· right))
  | ((with_reducible apply tt_val); left)
  | ((with_reducible apply tt_chn); (· left); (· left); (· right); (· (intro _; left)); (· (intro _; right)))
  | ((with_reducible apply it_rng1); (· left); (· nofun))
  | ((with_reducible apply it_rng2); (· left); (· left); (· nofun); (· nofun))
  | ((with_reducible apply it_R); left)
  | ((with_reducible apply it_M); left)
  | ((with_reducible apply it_list); left)
  | ((with_reducible apply it_tup); left)
  | ((with_reducible apply it_enMn); (· left); (· exact Lat.len (by assumption)))
  | ((with_reducible apply it_zpR); (· left); (· left); (· nofun); (· nofun))
  | ((with_reducible apply it_zpM); (· left); (· left); (· nofun); (· nofun))
  | ((with_reducible apply it_enRn); (· left); (· exact Lat.rlen (by assumption) (by nofun)))
  | ((with_reducible apply it_enR); left)
  | ((with_reducible apply it_enM); left)
  | ((with_reducible apply it_enlR); left)
  | ((with_reducible apply it_enL); left)
  | ((with_reducible apply ev_lcmI); (· left); (· nofun); (· infer_instance))
  | ((with_reducible apply ev_lcmR); (· left); (· nofun); (· infer_instance))
  | ((with_reducible apply ev_lcmL); (· left); (· nofun); (· infer_instance))
  | ((with_reducible apply ev_lcm); (· left); (· nofun); (· infer_instance))
  | ((with_reducible apply ev_lcpI); (· left); (· nofun); (· infer_instance))
  | ((with_reducible apply ev_lcf); (· left); (· nofun); (· (intro _; rfl)); (· infer_instance))
  | ((with_reducible apply ev_lc); (· left); (· nofun); (· infer_instance))
  | fail)
local macro_rules | `(tactic| infer_instance) => `(tactic| (intro a ha; (try dsimp only [wipeE, List.set_cons_succ, List.set_cons_zero]); (first | (have h1 := List.mem_range.mp ha) | (have h1 := Lat.row (by assumption) _ ha) | skip); first | left | (constructor; (· left); (· (intro hp; left)))))
local macro_rules | `(tactic| and_intros) => `(tactic| first
  | ((with_reducible apply run_set); (· left); (try dsimp only [List.set_cons_succ, List.set_cons_zero]))
  | ((with_reducible apply run_expr); (· left))
  | ((with_reducible apply run_ret); (· left))
  | (with_reducible apply run_skip)
  | (with_reducible apply run_seq)
  | (with_reducible apply run_end))
/-! ### rings -/
def sg (m : List (List Nat)) (a b c : Nat) : Nat := (m.getD a []).idxOf (atM m b c)
def lastD (r : List Nat) : Nat := r.getD (r.length - 1) 0
/-- a ring under way: from c, each the next of the one before -/
structure Chain (s : Nat → Nat) (L r : List Nat) : Prop where
  ne : r ≠ []
  nd : r.Nodup
  sub : ∀ x ∈ r, x ∈ L
  nx : ∀ i, i + 1 < r.length → r.getD (i + 1) 0 = s (r.getD i 0)
theorem Chain.pos {s : Nat → Nat} {L r : List Nat} (h : Chain s L r) : 0 < r.length := List.length_pos_iff.mpr h.ne
theorem getD_mem {r : List Nat} {i : Nat} (h : i < r.length) : r.getD i 0 ∈ r := by
  rw [getD_el h]
  exact List.getElem_mem h
theorem mem_getD {r : List Nat} {x : Nat} (h : x ∈ r) : ∃ i, i < r.length ∧ r.getD i 0 = x := by
  obtain ⟨i, hi, e⟩ := List.getElem_of_mem h
  exact ⟨i, hi, by rw [getD_el hi]; exact e⟩
theorem Chain.hit {s : Nat → Nat} {L r : List Nat} (h : Chain s L r) (inj : ∀ x ∈ L, ∀ y ∈ L, s x = s y → x = y) {x : Nat} (hx : x ∈ L) (hs : s x ∈ r) : s x = r.getD 0 0 ∨ x ∈ r := by
  obtain ⟨i, hi, e⟩ := mem_getD hs
  cases i with
  | zero => exact .inl e.symm
  | succ i =>
    right
    have := h.nx i hi
    rw [e] at this
    have hm := getD_mem (r := r) (i := i) (by omega)
    rw [inj x hx _ (h.sub _ hm) this]
    exact hm
theorem Chain.fresh {s : Nat → Nat} {L r : List Nat} (h : Chain s L r) (inj : ∀ x ∈ L, ∀ y ∈ L, s x = s y → x = y) (hne : s (lastD r) ≠ r.getD 0 0) : s (lastD r) ∉ r := by
  intro hs
  obtain ⟨i, hi, e⟩ := mem_getD hs
  cases i with
  | zero => exact hne e.symm
  | succ i =>
    have hp := h.pos
    have h1 := h.nx i hi
    rw [e] at h1
    have hm := getD_mem (r := r) (i := i) (by omega)
    have hl := getD_mem (r := r) (i := r.length - 1) (by omega)
    have := inj _ (h.sub _ hl) _ (h.sub _ hm) h1
    have := nodup_inj h.nd (i := r.length - 1) (j := i) (by omega) (by omega) this
    omega
theorem Chain.snoc {s : Nat → Nat} {L r : List Nat} (h : Chain s L r) (cl : ∀ x ∈ L, s x ∈ L) (inj : ∀ x ∈ L, ∀ y ∈ L, s x = s y → x = y) (hne : s (lastD r) ≠ r.getD 0 0) : Chain s L (r ++ [s (lastD r)]) ∧ lastD (r ++ [s (lastD r)]) = s (lastD r) ∧ (r ++ [s (lastD r)]).getD 0 0 = r.getD 0 0 := by
  have hp := h.pos
  have hl := getD_mem (r := r) (i := r.length - 1) (by omega)
  have hf := h.fresh inj hne
  refine ⟨⟨by simp, List.nodup_append.mpr ⟨h.nd, by simp, fun a ha b hb e => ?_⟩, fun x hx => ?_, fun i hi => ?_⟩, ?_, snoc_lt (by omega)⟩
  · have : b = s (lastD r) := by simpa using hb
    exact hf (by rw [← this, ← e]; exact ha)
  · rcases List.mem_append.mp hx with hx | hx
    · exact h.sub x hx
    · have : x = s (lastD r) := by simpa using hx
      rw [this]
      exact cl _ (h.sub _ hl)
  · rw [List.length_append, List.length_singleton] at hi
    by_cases c : i + 1 = r.length
    · rw [c, snoc_last, snoc_lt (by omega)]
      have : i = r.length - 1 := by omega
      rw [this]
      rfl
    · rw [snoc_lt (by omega), snoc_lt (by omega)]
      exact h.nx i (by omega)
  · unfold lastD
    rw [List.length_append, List.length_singleton, Nat.add_sub_cancel, snoc_last]
/-- what the rings are -/
structure RingsOk (s : Nat → Nat) (n : Nat) (R : List (List Nat)) (left : List Nat) : Prop where
  asc : left.Pairwise (· < ·)
  cl : ∀ x ∈ left, s x ∈ left
  all : (R.flatten ++ left).Perm (List.range n)
  ring : ∀ r ∈ R, r ≠ [] ∧ (∀ i, i < r.length → r.getD ((i + 1) % r.length) 0 = s (r.getD i 0)) ∧ ∀ x ∈ r, r.getD 0 0 ≤ x
  hd : (R.map fun r => r.getD 0 0).Pairwise (· < ·)
  lo : ∀ r ∈ R, ∀ x ∈ left, r.getD 0 0 < x
theorem RingsOk.lt {s : Nat → Nat} {n : Nat} {R : List (List Nat)} {left : List Nat} (h : RingsOk s n R left) : ∀ x ∈ left, x < n := fun x hx => List.mem_range.mp ((List.Perm.mem_iff h.all).mp (List.mem_append_right _ hx))
theorem RingsOk.step {s : Nat → Nat} {n : Nat} {R : List (List Nat)} {left r : List Nat} (h : RingsOk s n R left) (inj : ∀ x, x < n → ∀ y, y < n → s x = s y → x = y) (hr : Chain s left r) (h0 : r.getD 0 0 = left.getD 0 0) (hc : s (lastD r) = r.getD 0 0) : RingsOk s n (R ++ [r]) (left.filter fun x => !decide (x ∈ r)) ∧ (left.filter fun x => !decide (x ∈ r)).length < left.length := by
  have inj' : ∀ x ∈ left, ∀ y ∈ left, s x = s y → x = y := fun x hx y hy => inj x (h.lt x hx) y (h.lt y hy)
  have hp := hr.pos
  have ndl : left.Nodup := h.asc.imp fun {a b} e => Nat.ne_of_lt e
  have hm0 : r.getD 0 0 ∈ left := hr.sub _ (getD_mem hp)
  have min : ∀ x ∈ left, r.getD 0 0 ≤ x := by
    rw [h0]
    intro x hx
    have ha := h.asc
    cases left with
    | nil => cases hx
    | cons a l =>
      rcases List.mem_cons.mp hx with rfl | hx
      · exact Nat.le_refl _
      · exact Nat.le_of_lt ((List.pairwise_cons.mp ha).1 x hx)
  refine ⟨⟨List.Pairwise.sublist List.filter_sublist h.asc, fun x hx => ?_, ?_, fun q hq => ?_, ?_, fun q hq x hx => ?_⟩, ?_⟩
  · obtain ⟨hx1, hx2⟩ := List.mem_filter.mp hx
    have hx2 : x ∉ r := by simpa using hx2
    refine List.mem_filter.mpr ⟨h.cl x hx1, ?_⟩
    have : s x ∉ r := fun z => by
      rcases hr.hit inj' hx1 z with e | e
      · have hl := getD_mem (r := r) (i := r.length - 1) (by omega)
        have : x = lastD r := inj' x hx1 _ (hr.sub _ hl) (e.trans hc.symm)
        exact hx2 (this ▸ hl)
      · exact hx2 e
    simp [this]
  · rw [List.flatten_append, List.append_assoc]
    refine (List.Perm.append_left _ ?_).trans h.all
    rw [List.flatten_cons, List.flatten_nil, List.append_nil]
    refine (List.perm_ext_iff_of_nodup ?_ ndl).mpr fun x => ?_
    · refine List.nodup_append.mpr ⟨hr.nd, List.Nodup.sublist List.filter_sublist ndl, fun a ha b hb e => ?_⟩
      have := (List.mem_filter.mp hb).2
      rw [← e] at this
      simp [ha] at this
    · rw [List.mem_append, List.mem_filter]
      constructor
      · rintro (z | z)
        · exact hr.sub x z
        · exact z.1
      · intro z
        by_cases c : x ∈ r
        · exact .inl c
        · exact .inr ⟨z, by simp [c]⟩
  · rcases List.mem_append.mp hq with hq | hq
    · exact h.ring q hq
    · have : q = r := by simpa using hq
      subst this
      refine ⟨hr.ne, fun i hi => ?_, fun x hx => min x (hr.sub x hx)⟩
      by_cases c : i + 1 = q.length
      · rw [c, Nat.mod_self, ← hc]
        unfold lastD
        rw [show q.length - 1 = i by omega]
      · rw [Nat.mod_eq_of_lt (by omega)]
        exact hr.nx i (by omega)
  · rw [List.map_append, List.map_cons, List.map_nil]
    refine List.pairwise_append.mpr ⟨h.hd, List.pairwise_singleton _ _, fun a ha b hb => ?_⟩
    obtain ⟨q, hq, rfl⟩ := List.mem_map.mp ha
    have : b = r.getD 0 0 := by simpa using hb
    rw [this]
    exact h.lo q hq _ hm0
  · obtain ⟨hx1, hx2⟩ := List.mem_filter.mp hx
    rcases List.mem_append.mp hq with hq | hq
    · exact h.lo q hq x hx1
    · have : q = r := by simpa using hq
      subst this
      have := min x hx1
      have hx2 : x ∉ q := by simpa using hx2
      have : x ≠ q.getD 0 0 := fun e => hx2 (by rw [e]; exact getD_mem hp)
      omega
  · have hl := List.length_filter_le (fun x => !decide (x ∈ r)) left
    rcases Nat.lt_or_eq_of_le hl with z | z
    · exact z
    · exfalso
      have e : left.filter (fun x => !decide (x ∈ r)) = left := List.Sublist.eq_of_length List.filter_sublist z
      rw [← e] at hm0
      have := (List.mem_filter.mp hm0).2
      rw [decide_eq_true (getD_mem hp)] at this
      cases this
section
variable {n : Nat} {m : List (List Nat)}
theorem sg_ok (h : Lat n m) {a b c : Nat} (ha : a < n) (hb : b < n) (hc : c < n) : sg m a b c < n ∧ atM m a (sg m a b c) = atM m b c := by
  have hp := h.row_perm (h.mem ha)
  exact ⟨hp.idx_lt (h.at_lt hb hc), hp.at_idx (h.at_lt hb hc)⟩
theorem sg_inj (h : Lat n m) {a b : Nat} (ha : a < n) (hb : b < n) : ∀ x, x < n → ∀ y, y < n → sg m a b x = sg m a b y → x = y := fun x hx y hy e => by
  have e1 := (sg_ok h ha hb hx).2
  have e2 := (sg_ok h ha hb hy).2
  rw [e] at e1
  exact h.row_inj hb hx hy (e1.symm.trans e2)
theorem sg_idx (h : Lat n m) {a b c : Nat} (ha : a < n) (hb : b < n) (hc : c < n) : dTindex (dR (m.getD a [])) (dI (atM m b c)) = .ok (dI (sg m a b c)) := tindex_ok (perm_mem (h.row_perm (h.mem ha)) (h.at_lt hb hc))
theorem nodup_le {L r : List Nat} (hd : r.Nodup) (hs : ∀ x ∈ r, x ∈ L) (hL : ∀ x ∈ L, x < n) : r.length ≤ n := by
  have := nodup_lenN hd (m := List.range n) fun x hx => List.mem_range.mpr (hL x (hs x hx))
  rw [List.length_range] at this
  exact this
theorem rings_ok (h : Lat n m) (h1 : 1 ≤ n) (h9 : n ≤ 9) {a b : Nat} (ha : a < n) (hb : b < n) (hab : a ≠ b) : ∃ R, g_rings [dM m, dI a, dI b] = .ok (lM R) ∧ RingsOk (sg m a b) n R [] := by
  suffices hs : Run m_rings [some (dM m), some (dI a), some (dI b), none, none, none, none, none] (fun o => ∃ R, o.rz = .ok (lM R) ∧ RingsOk (sg m a b) n R []) from run_out (P := fun o => ∃ R, o.rz = .ok (lM R) ∧ RingsOk (sg m a b) n R []) hs
  unfold m_rings
  have hck := lat_checked h h1 h9
  have w1 : g_is_within [dI a, dI 0, dI (n - 1)] = .ok (.bool true) := by rw [within_I, decide_eq_true (by omega)]
  have w2 : g_is_within [dI b, dI 0, dI (n - 1)] = .ok (.bool true) := by rw [within_I, decide_eq_true (by omega)]
  have inj := sg_inj h ha hb
  and_intros
  refine run_ifF (k := false) (ts_or (k := false) (l := false) (ts_not (k := true) (by left)) fun _ => ts_or (k := false) (l := false) (ts_not (k := true) (by left)) fun _ => ?_) rfl (run_skip ?_)
  · have : decide (a = b) = false := decide_eq_false hab
    rw [← this]
    left
  and_intros
  refine run_set (d := lM []) rfl ?_
  dsimp only [List.set_cons_succ, List.set_cons_zero]
  refine run_while (n := n) (fun j ρ => ∃ R left a5 a6, ρ = [some (dM m), some (dI a), some (dI b), some (lR left), some (lM R), a5, a6, none] ∧ RingsOk (sg m a b) n R left ∧ R.length + left.length ≤ n ∧ j = left.length) ⟨[], List.range n, none, none, rfl, ⟨List.pairwise_lt_range, fun x hx => List.mem_range.mpr (sg_ok h ha hb (List.mem_range.mp hx)).1, List.Perm.refl _, (fun r hr => by cases hr), List.Pairwise.nil, fun r hr => by cases hr⟩, by simp, by simp⟩ (by omega) ?_
  rintro j _ ⟨R, left, a5, a6, rfl, hR, hlen, rfl⟩
  refine ⟨!decide (left = []), by left, fun e => ?_, fun e => ?_⟩
  · have hne : left ≠ [] := by simpa using e
    have hpos : 0 < left.length := List.length_pos_iff.mpr hne
    have hc0 : left.getD 0 0 ∈ left := getD_mem hpos
    have hcn := hR.lt _ hc0
    have hix := sg_idx h ha hb hcn
    have inj' : ∀ x ∈ left, ∀ y ∈ left, sg m a b x = sg m a b y → x = y := fun x hx y hy => inj x (hR.lt x hx) y (hR.lt y hy)
    refine run_set (by dsimp only [mk, wipeE, List.set_cons_succ, List.set_cons_zero]; left) ?_
    dsimp only [List.set_cons_succ, List.set_cons_zero]
    refine run_set (d := dI (sg m a b (left.getD 0 0))) (by dsimp only [mk, wipeE, List.set_cons_succ, List.set_cons_zero]; left) ?_
    dsimp only [List.set_cons_succ, List.set_cons_zero]
    refine run_while (n := n) (fun j ρ => ∃ r, ρ = [some (dM m), some (dI a), some (dI b), some (lR left), some (lM R), some (lR r), some (dI (sg m a b (lastD r))), none] ∧ Chain (sg m a b) left r ∧ r.getD 0 0 = left.getD 0 0 ∧ j + r.length = n + 1) ⟨[left.getD 0 0], rfl, ⟨by simp, by simp, fun x hx => by
        have : x = left.getD 0 0 := by simpa using hx
        rw [this]
        exact hc0, fun i hi => by
          have : i + 1 < 1 := hi
          omega⟩, rfl, by rw [List.length_singleton]⟩ (by omega) ?_
    rintro j _ ⟨r, rfl, hr, hr0, hj⟩
    have hrp := hr.pos
    have hlm := hr.sub _ (getD_mem (r := r) (i := r.length - 1) (by omega))
    have hln : lastD r < n := hR.lt _ hlm
    have hsn : sg m a b (lastD r) < n := (sg_ok h ha hb hln).1
    refine ⟨!decide (sg m a b (lastD r) = r.getD 0 0), by left, fun e => ?_, fun e => ?_⟩
    · have hne : sg m a b (lastD r) ≠ r.getD 0 0 := by simpa using e
      obtain ⟨q1, q2, q3⟩ := hr.snoc hR.cl inj' hne
      have hle := nodup_le q1.nd q1.sub hR.lt
      rw [List.length_append, List.length_singleton] at hle
      have hix2 := sg_idx h ha hb hsn
      refine run_appE (enc := dI) (x := sg m a b (lastD r)) rfl rfl (lim_lt (by omega)) ?_
      dsimp only [List.set_cons_succ, List.set_cons_zero]
      refine run_set (d := dI (sg m a b (sg m a b (lastD r)))) (by dsimp only [mk, wipeE, List.set_cons_succ, List.set_cons_zero]; left) ?_
      dsimp only [List.set_cons_succ, List.set_cons_zero]
      refine run_end ⟨j - 1, by omega, r ++ [sg m a b (lastD r)], by rw [q2], q1, q3.trans hr0, by rw [List.length_append, List.length_singleton]; omega⟩
    · have hcl : sg m a b (lastD r) = r.getD 0 0 := by simpa using e
      obtain ⟨s1, s2⟩ := hR.step inj hr hr0 hcl
      have hll : left.length ≤ n := by omega
      refine run_set (d := lR (left.filter fun x => !decide (x ∈ r))) (by
        refine ev_lcf (enc := dI) (by dsimp only [mk, wipeE, List.set_cons_succ, List.set_cons_zero]; left) (by nofun) (fun _ => rfl) fun x hx => ?_
        dsimp only [mk, wipeE, List.set_cons_succ, List.set_cons_zero]
        left) ?_
      dsimp only [List.set_cons_succ, List.set_cons_zero]
      refine run_appE (enc := fun r => lR r) (x := r) rfl rfl (lim_lt (by omega)) ?_
      refine run_end ⟨_, s2, R ++ [r], _, _, _, rfl, s1, by rw [List.length_append, List.length_singleton]; omega, rfl⟩
  · have hl : left = [] := by simpa using e
    subst hl
    exact run_ret (by left) ⟨R, rfl, hR⟩
end
end DL
/-! part Cn0 -/
namespace DL
open PySem
def m_places_of : GS :=
  (sSeq (sExpr [] (gCall g_checked (aCons (gVar 0) aNil))) (sSeq (sIf (tNt (tTru (gCall g_is_within (aCons (gVar 1) (aCons (gC (.int 0)) (aCons (g2 dSub (gCall (on1 dLen) (aCons (gVar 0) aNil)) (gC (.int 1))) aNil)))))) (sSeq (sRaise "BadPlace") sNil) sNil) (sSeq (sRet (gCall (on1 dTuple) (aCons (gLc (iSeq (gVar 0)) (tgN 2) tYs (gM isTupD dTindex (gVar 2) (gVar 1)) [2]) aNil))) sNil)))
def g_places_of : List D → Rz D := fun ds => (m_places_of (startE 3 ds)).rz
theorem eq_places_of : ∀ ds, ds.length = 2 → g_places_of ds = .st ∨ (m_places_of (startE 3 ds)).rz = g_places_of ds := fun _ _ => .inr rfl
def m_pairs_on : GS :=
  (sSeq (sSet [] (tgN 2) (gLst aNil)) (sSeq (sFor [2] (iZp (gVar 0) (gVar 1)) (tgT [3, 4]) (sSeq (sExt [2] 2 (gCall dZipL (aCons (gVar 3) (aCons (gVar 4) aNil)))) sNil)) (sSeq (sRet (gVar 2)) sNil)))
def g_pairs_on : List D → Rz D := fun ds => (m_pairs_on (startE 5 ds)).rz
theorem eq_pairs_on : ∀ ds, ds.length = 2 → g_pairs_on ds = .st ∨ (m_pairs_on (startE 5 ds)).rz = g_pairs_on ds := fun _ _ => .inr rfl
def m_are_mates : GS :=
  (sSeq (sExpr [] (gCall g_checked (aCons (gVar 0) aNil))) (sSeq (sExpr [] (gCall g_checked (aCons (gVar 1) aNil))) (sSeq (sIf (tCm dNe (gCall (on1 dLen) (aCons (gVar 0) aNil)) (gCall (on1 dLen) (aCons (gVar 1) aNil))) (sSeq (sRaise "BadSquare") sNil) sNil) (sSeq (sRet (g2 dEq (g1 dLenSetT (gCall g_pairs_on (aCons (gVar 0) (aCons (gVar 1) aNil)))) (g2 dMul (gCall (on1 dLen) (aCons (gVar 0) aNil)) (gCall (on1 dLen) (aCons (gVar 0) aNil))))) sNil))))
def g_are_mates : List D → Rz D := fun ds => (m_are_mates (startE 2 ds)).rz
theorem eq_are_mates : ∀ ds, ds.length = 2 → g_are_mates ds = .st ∨ (m_are_mates (startE 2 ds)).rz = g_are_mates ds := fun _ _ => .inr rfl
def m_clashes : GS :=
  (sSeq (sIf (tTru (gCall g_are_mates (aCons (gVar 0) (aCons (gVar 1) aNil)))) (sSeq (sRet (gC .none)) sNil) sNil) (sSeq (sSet [] (tgN 2) (gCall g_pairs_on (aCons (gVar 0) (aCons (gVar 1) aNil)))) (sSeq (sSet [] (tgN 3) (g2 dIx (gLc (iSeq (g1 dSortSetT (gVar 2))) (tgN 6) (tCm dGt (gM isLstD dLcountD (gVar 2) (gVar 6)) (gC (.int 1))) (gVar 6) [6]) (gC (.int 0)))) (sSeq (sSet [] (tgN 4) (gM isLstD dLindex (gVar 2) (gVar 3))) (sSeq (sSet [] (tgN 5) (gM2 isLstD dLindex3 (gVar 2) (gVar 3) (g2 dAdd (gVar 4) (gC (.int 1))))) (sSeq (sRet (gTup (aCons (gVar 3) (aCons (gCall (dDivmod) (aCons (gVar 4) (aCons (gCall (on1 dLen) (aCons (gVar 0) aNil)) aNil))) (aCons (gCall (dDivmod) (aCons (gVar 5) (aCons (gCall (on1 dLen) (aCons (gVar 0) aNil)) aNil))) aNil))))) sNil))))))
def g_clashes : List D → Rz D := fun ds => (m_clashes (startE 7 ds)).rz
theorem eq_clashes : ∀ ds, ds.length = 2 → g_clashes ds = .st ∨ (m_clashes (startE 7 ds)).rz = g_clashes ds := fun _ _ => .inr rfl
def m_cuts_by : GS :=
  (sSeq (sIf (tNt (tTru (gCall g_are_mates (aCons (gVar 0) (aCons (gVar 1) aNil))))) (sSeq (sRaise "BadSquare") sNil) sNil) (sSeq (sRet (gLc (iRg (aCons (gCall (on1 dLen) (aCons (gVar 0) aNil)) aNil)) (tgN 2) tYs (gCall g_places_of (aCons (gVar 1) (aCons (gVar 2) aNil))) [2])) sNil))
def g_cuts_by : List D → Rz D := fun ds => (m_cuts_by (startE 3 ds)).rz
theorem eq_cuts_by : ∀ ds, ds.length = 2 → g_cuts_by ds = .st ∨ (m_cuts_by (startE 3 ds)).rz = g_cuts_by ds := fun _ _ => .inr rfl
end DL
/-! part Cn1 -/
set_option maxHeartbeats 1000000
namespace DL
open PySem
local macro_rules | `(tactic| nofun) => `(tactic| first
  | assumption
  | omega
  | exact lim_of (by omega)
  | exact lim_lt (by omega)
  | ((simp only [List.length_map, List.length_range, List.length_append, List.length_cons, List.length_nil, List.length_replicate, List.length_set, List.length_singleton, List.length_take, List.length_drop, List.length_dropLast]) <;> first | omega | exact lim_of (by omega) | exact lim_lt (by omega))
  | decide
  | fail)
local macro_rules | `(tactic| right) => `(tactic| first
  | with_reducible assumption
  | with_reducible exact add_I _ _
  | ((with_reducible apply sub_I); nofun)
  | ((with_reducible apply mul_I); nofun)
  | ((with_reducible apply mod_I); nofun)
  | ((with_reducible apply mod_c); nofun)
  | ((with_reducible apply fdv_I) <;> nofun)
  | with_reducible exact dAdd_ii _ _
  | with_reducible exact dSub_ii _ _
  | with_reducible exact lt_I _ _
  | with_reducible exact le_I _ _
  | with_reducible exact gt_I _ _
  | with_reducible exact ge_I _ _
  | with_reducible exact eq_I _ _
  | with_reducible exact ne_I _ _
  | with_reducible exact eq_R _ _
  | with_reducible exact ne_R _ _
  | with_reducible exact eq_M _ _
  | with_reducible exact ne_M _ _
  | with_reducible exact eq_lR _ _
  | with_reducible exact ne_lR _ _
  | with_reducible exact eq_lL _ _
  | with_reducible exact ne_lL _ _
  | ((with_reducible apply ix_row); (· assumption); (· nofun))
  | ((with_reducible apply ix_cel); (· assumption); (· nofun); (· nofun))
  | ((with_reducible apply ix_R); nofun)
  | ((with_reducible apply ix_M); nofun)
  | ((with_reducible apply ix_lR); nofun)
  | ((with_reducible apply ix_lL); nofun)
  | ((with_reducible apply ix_lM); nofun)
  | ((with_reducible apply len_Ln); assumption)
  | ((with_reducible apply len_row); (· assumption); (· nofun))
  | with_reducible exact len_R _
  | with_reducible exact len_M _
  | with_reducible exact len_lR _
  | with_reducible exact len_lL _
  | with_reducible exact tup_lR _
  | with_reducible exact tup_lM _
  | with_reducible exact tup_Rt _
  | with_reducible exact tup_Mt _
  | with_reducible exact list_R' _
  | with_reducible exact list_M' _
  | ((with_reducible apply app_R); nofun)
  | ((with_reducible apply app_lR); nofun)
  | ((with_reducible apply app_lL); nofun)
  | ((with_reducible apply app_M); nofun)
  | with_reducible exact in_lR _ _
  | with_reducible exact in_R _ _
  | with_reducible exact in_lL _ _
  | with_reducible exact notIn_lR _ _
  | with_reducible exact notIn_R _ _
  | with_reducible exact notIn_lL _ _
  | with_reducible exact sum_R _
  | with_reducible exact sum_lR _
  | ((with_reducible apply tindex_ok); nofun)
  | with_reducible exact truth_bool _
  | with_reducible exact truth_I _
  | with_reducible exact truth_lR _
  | with_reducible exact truth_lL _
  | with_reducible exact truth_lf _ _
  | with_reducible exact isN_R _
  | with_reducible exact isN_M _
  | with_reducible exact isN_n
  | with_reducible exact isN_l _
  | with_reducible exact notN_R _
  | with_reducible exact notN_M _
  | with_reducible exact notN_n
  | with_reducible exact notN_l _
  | with_reducible exact isi_R _
  | with_reducible exact isi_M _
  | with_reducible exact slR_to _ _
  | with_reducible exact slR_from _ _
  | with_reducible exact slM_to _ _
  | with_reducible exact slM_from _ _
  | with_reducible exact slL_to _ _
  | with_reducible exact slL_from _ _
  | with_reducible exact sllR_to _ _
  | with_reducible exact sllR_from _ _
  | with_reducible exact within_I _ _ _
  | ((with_reducible apply shl_I) <;> nofun)
  | with_reducible exact shr_I _ _
  | with_reducible exact and1_I _
  | ((with_reducible apply fdv_c) <;> nofun)
  | with_reducible exact slR_dl _
  | with_reducible exact dNeg_i _
  | with_reducible exact eq_lS _ _
  | with_reducible exact ne_lS _ _
  | with_reducible exact len_lS _
  | with_reducible exact in_lS _ _
  | with_reducible exact notIn_lS _ _
  | ((with_reducible apply ix_lS); nofun)
  | with_reducible exact truth_lS _
  | ((with_reducible apply app_g); nofun)
  | ((with_reducible apply app_gt); nofun)
  | fail)
local macro_rules | `(tactic| left) => `(tactic| first
  | ((with_reducible apply ev_var); exact rfl)
  | with_reducible exact ev_lit _ _
  | with_reducible exact ev_C _ _
  | ((with_reducible apply g_atM); (· left); (· assumption); (· left); (· left); (· nofun); (· nofun))
  | ((with_reducible apply ev_g2); (· left); (· left); (· right))
  | ((with_reducible apply ev_g1); (· left); (· right))
  | ((with_reducible apply ev_call1); (· left); (· right))
  | ((with_reducible apply ev_callF); (· left); (· right))
  | with_reducible exact ev_a0 _
  | ((with_reducible apply ev_a1); (· left); (· left))
  | with_reducible exact ev_aI0 _
  | ((with_reducible apply ev_aI1); (· left); (· left))
  | with_reducible exact ev_aR0 _
  | ((with_reducible apply ev_aR1); (· left); (· left))
  | ((with_reducible apply ev_tupI); (· left); (· nofun))
  | ((with_reducible apply ev_tupR); (· left); (· nofun))
  | ((with_reducible apply ev_tup); (· left); (· nofun))
  | ((with_reducible apply ev_lstI); (· left); (· nofun))
  | ((with_reducible apply ev_lstR); (· left); (· nofun))
  | ((with_reducible apply ev_lst); (· left); (· nofun))
  | ((with_reducible apply ev_not); (· left); (· right))
  | ((with_reducible apply ev_andB); (· left); (· (intro _; left)))
  | ((with_reducible apply ev_orB); (· left); (· (intro _; left)))
  | ((with_reducible apply ev_M); (· left); (· rfl); (· left); (· right))
  | ((with_reducible apply ev_sl); (· left); (· left); (· left); (· right))
  | with_reducible exact ev_oNo _
  | ((with_reducible apply ev_oSm); left)
  | ((with_reducible apply ev_lRg); left)
  | ((with_reducible apply ev_tRg); left)
  | with_reducible exact Eq.refl (tYs _)
  | ((with_reducible apply ts_cm); (· left); (· left); (· right))
  | ((with_reducible apply ts_and); (· left); (· (intro _; left)))
  | ((with_reducible apply ts_or); (· left); (· (intro _; left)))
  | ((with_reducible apply ts_not); left)
  | ((with_reducible apply ts_tru); (· left); (· right))
  | ((with_reducible apply tt_val); left)
  | ((with_reducible apply tt_chn); (· left); (· left); (· right); (· (intro _; left)); (· (intro _; right)))
  | ((with_reducible apply it_rng1); (· left); (· nofun))
  | ((with_reducible apply it_rng2); (· left); (· left); (· nofun); (· nofun))
  | ((with_reducible apply it_R); left)
  | ((with_reducible apply it_M); left)
  | ((with_reducible apply it_list); left)
  | ((with_reducible apply it_tup); left)
  | ((with_reducible apply it_enMn); (· left); (· exact Lat.len (by assumption)))
  | ((with_reducible apply it_zpR); (· left); (· left); (· nofun); (· nofun))
  | ((with_reducible apply it_zpM); (· left); (· left); (· nofun); (· nofun))
  | ((with_reducible apply it_enRn); (· left); (· exact Lat.rlen (by assumption) (by nofun)))
  | ((with_reducible apply it_enR); left)
  | ((with_reducible apply it_enM); left)
  | ((with_reducible apply it_enlR); left)
  | ((with_reducible apply it_enL); left)
  | ((with_reducible apply ev_lcmI); (· left); (· nofun); (· infer_instance))
  | ((with_reducible apply ev_lcmR); (· left); (· nofun); (· infer_instance))
  | ((with_reducible apply ev_lcmL); (· left); (· nofun); (· infer_instance))
  | ((with_reducible apply ev_lcm); (· left); (· nofun); (· infer_instance))
  | ((with_reducible apply ev_lcpI); (· left); (· nofun); (· infer_instance))
  | ((with_reducible apply ev_lcf); (· left); (· nofun); (· (intro _; rfl)); (· infer_instance))
  | ((with_reducible apply ev_lc); (· left); (· nofun); (· infer_instance))
  | fail)
local macro_rules | `(tactic| infer_instance) => `(tactic| (intro a ha; (try dsimp only [wipeE, List.set_cons_succ, List.set_cons_zero]); (first | (have h1 := List.mem_range.mp ha) | (have h1 := Lat.row (by assumption) _ ha) | skip); first | left | (constructor; (· left); (· (intro hp; left)))))
local macro_rules | `(tactic| and_intros) => `(tactic| first
  | ((with_reducible apply run_set); (· left); (try dsimp only [List.set_cons_succ, List.set_cons_zero]))
  | ((with_reducible apply run_expr); (· left))
  | ((with_reducible apply run_ret); (· left))
  | (with_reducible apply run_skip)
  | (with_reducible apply run_seq)
  | (with_reducible apply run_end))
/-! ### mates -/
variable {n : Nat} {a b : List (List Nat)}
def prR (a b : List (List Nat)) (n i : Nat) : List (List Nat) := (List.range n).map fun j => [atM a i j, atM b i j]
def prL (a b : List (List Nat)) (n : Nat) : List (List Nat) := (List.range n).flatMap (prR a b n)
theorem zip_R {r s : List Nat} {n : Nat} (hr : r.length = n) (hs : s.length = n) : zipT (r.map dI) (s.map dI) = ((List.range n).map fun j => [r.getD j 0, s.getD j 0]).map dR := by
  rw [eq_map_range (d := 0) hr, eq_map_range (d := 0) hs]
  unfold zipT
  rw [List.map_map, List.map_map, List.zipWith_map, List.zipWith_self, List.map_map]
  refine List.map_congr_left fun j hj => ?_
  have hj := List.mem_range.mp hj
  show PyData.tuple [dI (r.getD j 0), dI (s.getD j 0)] = dR [((List.range n).map fun i => r.getD i 0).getD j 0, ((List.range n).map fun i => s.getD i 0).getD j 0]
  rw [getD_range_map hj, getD_range_map hj]
  rfl
theorem prL_len (a b : List (List Nat)) (n : Nat) : (prL a b n).length = n * n := by
  unfold prL prR
  rw [List.length_flatMap]
  simp only [List.length_map, List.length_range, List.map_const', List.sum_replicate_nat]
theorem part_le' {α : Type} (f : Nat → List α) (c k : Nat) (h : ∀ j, j < k → (f j).length ≤ c) : ((List.range k).flatMap f).length ≤ k * c := by
  induction k with
  | zero => simp
  | succ k ih =>
    rw [flatMap_snoc, List.length_append, Nat.succ_mul]
    have := ih fun j hj => h j (by omega)
    have := h k (by omega)
    omega
theorem pairs_ok (ha : Lat n a) (hb : Lat n b) (h9 : n ≤ 9) : g_pairs_on [dM a, dM b] = .ok (lL (prL a b n)) := by
  refine rz_run (m := m_pairs_on) (ρ := [some (dM a), some (dM b), none, none, none]) ?_
  unfold m_pairs_on
  have la := ha.len
  have lb := hb.len
  refine run_set (d := lL []) (by left) ?_
  dsimp only [List.set_cons_succ, List.set_cons_zero]
  refine run_forP (n := n) (e1 := fun t => dR (a.getD t [])) (e2 := fun t => dR (b.getD t [])) (fun k ρ => ∃ z w, ρ = [some (dM a), some (dM b), some (lL ((List.range k).flatMap (prR a b n))), z, w]) (by left) ⟨_, _, rfl⟩ ?_ ?_
  · rintro j hj _ ⟨z, w, rfl⟩
    dsimp only [List.set_cons_succ, List.set_cons_zero]
    have hz : dZipL [dR (a.getD j []), dR (b.getD j [])] = .ok (lL (prR a b n j)) := by
      have e := zip_R (ha.rlen hj) (hb.rlen hj)
      show (if ((a.getD j []).map dI).length = ((b.getD j []).map dI).length ∧ ((a.getD j []).map dI).length ≤ 1000 then Rz.ok (PyData.list (zipT ((a.getD j []).map dI) ((b.getD j []).map dI))) else .st) = _
      rw [if_pos (by rw [List.length_map, List.length_map, ha.rlen hj, hb.rlen hj]; omega), e]
      rfl
    refine run_extE (enc := dR) (ys := prR a b n j) rfl (by left) ?_ ?_
    · have h1 : ((List.range j).flatMap (prR a b n)).length ≤ j * n := part_le' (prR a b n) n j fun i _ => by unfold prR; simp
      have h2 : (prR a b n j).length = n := by unfold prR; simp
      have h3 : j * n ≤ 9 * 9 := Nat.mul_le_mul (by omega) h9
      exact lim_of (by omega)
    · refine run_end ⟨some (dR (a.getD j [])), some (dR (b.getD j [])), ?_⟩
      rw [flatMap_snoc]
      rfl
  · rintro _ ⟨z, w, rfl⟩
    exact run_ret rfl rfl
theorem tupsD_of : ∀ ks : List (List Int), tupsD (ks.map tI) = some ks
  | [] => rfl
  | k :: ks => by
    show tupsD (PyData.tuple (k.map .int) :: ks.map tI) = _
    unfold tupsD
    rw [intsD_of, tupsD_of ks]
theorem dR_tI (xs : List (List Nat)) : xs.map dR = (xs.map cI).map tI := by
  rw [List.map_map]
  refine List.map_congr_left fun r _ => ?_
  show PyData.tuple (r.map dI) = PyData.tuple ((cI r).map .int)
  rw [dI_cI]
theorem cI_inj {r s : List Nat} (h : cI r = cI s) : r = s := by
  have := List.map_inj_right (f := fun x : Nat => (x : Int)) (fun x y e => by exact Int.ofNat.inj e) |>.mp h
  exact this
theorem nodup_mcI (xs : List (List Nat)) : (xs.map cI).Nodup ↔ xs.Nodup := by
  unfold List.Nodup
  rw [List.pairwise_map]
  constructor
  · exact fun h => h.imp fun {a b} e z => e (by rw [z])
  · exact fun h => h.imp fun {a b} e z => e (cI_inj z)
theorem nodup_of_lenG {l m : List (List Int)} (h1 : l.Nodup) (h2 : ∀ x ∈ l, x ∈ m) (h3 : m.length = l.length) : m.Nodup := by
  induction m generalizing l with
  | nil => exact List.nodup_nil
  | cons a m ih =>
    by_cases ha : a ∈ m
    · have : l.length ≤ m.length := nodup_lenG h1 fun x hx => by
        rcases List.mem_cons.mp (h2 x hx) with e | e
        · rw [e]
          exact ha
        · exact e
      rw [List.length_cons] at h3
      omega
    · refine List.nodup_cons.mpr ⟨ha, ih (l := l.erase a) (h1.erase a) (fun x hx => ?_) ?_⟩
      · have hx' := (h1.mem_erase_iff).mp hx
        rcases List.mem_cons.mp (h2 x hx'.2) with e | e
        · exact absurd e hx'.1
        · exact e
      · by_cases hl : a ∈ l
        · rw [List.length_erase_of_mem hl, ← h3, List.length_cons]
          omega
        · have : l.length ≤ m.length := nodup_lenG h1 fun x hx => by
            rcases List.mem_cons.mp (h2 x hx) with e | e
            · exact absurd (e ▸ hx) hl
            · exact e
          rw [List.length_cons] at h3
          omega
theorem uniqG_iff (ks : List (List Int)) : (uniqG ks).length = ks.length ↔ ks.Nodup := by
  constructor
  · intro h
    exact nodup_of_lenG (uniqG_nodup ks) (fun x hx => (uniqG_mem ks x).mp hx) h.symm
  · intro h
    exact (uniqG_len h (fun _ h => h) fun _ h => h).symm
theorem lenSetT_L {xs : List (List Nat)} (h : xs.length < 64) : dLenSetT (lL xs) = .ok (dI (uniqG (xs.map cI)).length) := by
  show ((orSt (tupsD (xs.map dR))).bind fun ks => if ks.length < 64 then Rz.ok (PyData.int (uniqG ks).length) else .st) = _
  rw [dR_tI, tupsD_of]
  show (if (xs.map cI).length < 64 then Rz.ok (PyData.int (uniqG (xs.map cI)).length) else .st) = _
  rw [if_pos (by rw [List.length_map]; exact h)]

/-- each pair but once -/
def Orth (a b : List (List Nat)) (n : Nat) : Prop := (prL a b n).Nodup
instance (a b : List (List Nat)) (n : Nat) : Decidable (Orth a b n) := by
  unfold Orth
  infer_instance
theorem orth_iff : Orth a b n ↔ (uniqG ((prL a b n).map cI)).length = n * n := by
  unfold Orth
  rw [← nodup_mcI, ← uniqG_iff, List.length_map, prL_len]
theorem are_ok (ha : Lat n a) (hb : Lat n b) (h1 : 1 ≤ n) (h7 : n ≤ 7) : g_are_mates [dM a, dM b] = .ok (.bool (decide (Orth a b n))) := by
  refine rz_run (m := m_are_mates) (ρ := [some (dM a), some (dM b)]) ?_
  unfold m_are_mates
  have ca := lat_checked ha h1 (by omega)
  have cb := lat_checked hb h1 (by omega)
  have hp := pairs_ok ha hb (by omega)
  and_intros
  and_intros
  have e : dNe (dI n) (dI n) = .ok (.bool false) := by rw [ne_I, decide_eq_true rfl]; rfl
  have la := len_Ln ha
  have lb := len_Ln hb
  refine run_ifF (k := false) (ts_cm (x := dI n) (y := dI n) (ev_call1 rfl la) (ev_call1 rfl lb) e) rfl (run_skip ?_)
  have h64 : (prL a b n).length < 64 := by
    rw [prL_len]
    have : n * n ≤ 7 * 7 := Nat.mul_le_mul h7 h7
    omega
  have hs := lenSetT_L h64
  refine run_ret (d := .bool (decide ((uniqG ((prL a b n).map cI)).length = n * n))) (ev_g2 (x := dI (uniqG ((prL a b n).map cI)).length) (y := dI (n * n)) (ev_g1 (by left) hs) (ev_g2 (ev_call1 rfl la) (ev_call1 rfl la) (mul_I (by omega))) (eq_I _ _)) ?_
  show Rz.ok (PyData.bool _) = Rz.ok (PyData.bool _)
  congr 2
  rw [Bool.eq_iff_iff, decide_eq_true_eq, decide_eq_true_eq]
  exact orth_iff.symm
theorem are_other {k : Nat} (ha : Lat n a) (hb : Lat k b) (h1 : 1 ≤ n) (h9 : n ≤ 9) (k1 : 1 ≤ k) (k9 : k ≤ 9) (hk : n ≠ k) : g_are_mates [dM a, dM b] = .ex "BadSquare" := by
  refine rz_run (m := m_are_mates) (ρ := [some (dM a), some (dM b)]) ?_
  unfold m_are_mates
  have ca := lat_checked ha h1 h9
  have cb := lat_checked hb k1 k9
  and_intros
  and_intros
  have e : dNe (dI n) (dI k) = .ok (.bool true) := by rw [ne_I, decide_eq_false hk]; rfl
  exact run_ifT (k := true) (ts_cm (x := dI n) (y := dI k) (ev_call1 rfl (len_Ln ha)) (ev_call1 rfl (len_Ln hb)) e) rfl (run_seq (run_raise rfl))
theorem mem_prL {p : List Nat} : p ∈ prL a b n ↔ ∃ i, i < n ∧ ∃ j, j < n ∧ p = [atM a i j, atM b i j] := by
  unfold prL prR
  simp only [List.mem_flatMap, List.mem_range, List.mem_map]
  constructor
  · rintro ⟨i, hi, j, hj, rfl⟩
    exact ⟨i, hi, j, hj, rfl⟩
  · rintro ⟨i, hi, j, hj, rfl⟩
    exact ⟨i, hi, j, hj, rfl⟩
theorem nodup_flat_iff {β : Type} (f : Nat → List β) (k : Nat) : ((List.range k).flatMap f).Nodup ↔ (∀ i, i < k → (f i).Nodup) ∧ ∀ i, i < k → ∀ j, j < k → ∀ y, y ∈ f i → y ∈ f j → i = j := by
  induction k with
  | zero =>
    simp
  | succ k ih =>
    rw [flatMap_snoc, List.nodup_append, ih]
    constructor
    · rintro ⟨⟨h1, h2⟩, h3, h4⟩
      refine ⟨fun i hi => ?_, fun i hi j hj y hy hz => ?_⟩
      · rcases Nat.lt_succ_iff_lt_or_eq.mp hi with h | rfl
        · exact h1 i h
        · exact h3
      · rcases Nat.lt_succ_iff_lt_or_eq.mp hi with h | rfl <;> rcases Nat.lt_succ_iff_lt_or_eq.mp hj with h' | rfl
        · exact h2 i h j h' y hy hz
        · exact absurd rfl (h4 y (List.mem_flatMap.mpr ⟨i, List.mem_range.mpr h, hy⟩) y hz)
        · exact absurd rfl (h4 y (List.mem_flatMap.mpr ⟨j, List.mem_range.mpr h', hz⟩) y hy)
        · rfl
    · rintro ⟨h1, h2⟩
      refine ⟨⟨fun i hi => h1 i (by omega), fun i hi j hj => h2 i (by omega) j (by omega)⟩, h1 k (by omega), fun x hx y hy e => ?_⟩
      obtain ⟨i, hi, hx⟩ := List.mem_flatMap.mp hx
      have hi := List.mem_range.mp hi
      have := h2 i (by omega) k (by omega) x hx (by rw [e]; exact hy)
      omega
theorem nodup_map_iff {β : Type} (g : Nat → β) (n : Nat) : ((List.range n).map g).Nodup ↔ ∀ i, i < n → ∀ j, j < n → g i = g j → i = j := by
  constructor
  · intro h i hi j hj e
    have := (List.getElem_inj (i := i) (j := j) (h₀ := by simpa using hi) (h₁ := by simpa using hj) h).mp (by simpa using e)
    exact this
  · intro h
    unfold List.Nodup
    rw [List.pairwise_map]
    exact List.Pairwise.imp_of_mem (fun {a b} ha hb hab e => hab (h a (List.mem_range.mp ha) b (List.mem_range.mp hb) e)) List.nodup_range
theorem orth_at : Orth a b n ↔ ∀ i, i < n → ∀ j, j < n → ∀ k, k < n → ∀ l, l < n → atM a i j = atM a k l → atM b i j = atM b k l → i = k ∧ j = l := by
  unfold Orth prL
  rw [nodup_flat_iff]
  constructor
  · rintro ⟨h1, h2⟩ i hi j hj k hk l hl e1 e2
    have m1 : [atM a i j, atM b i j] ∈ prR a b n i := List.mem_map.mpr ⟨j, List.mem_range.mpr hj, rfl⟩
    have m2 : [atM a i j, atM b i j] ∈ prR a b n k := List.mem_map.mpr ⟨l, List.mem_range.mpr hl, by rw [e1, e2]⟩
    have := h2 i hi k hk _ m1 m2
    subst this
    exact ⟨rfl, (nodup_map_iff _ n).mp (h1 i hi) j hj l hl (by show [atM a i j, atM b i j] = [atM a i l, atM b i l]; rw [e1, e2])⟩
  · intro h
    refine ⟨fun i hi => (nodup_map_iff _ n).mpr fun j hj l hl e => ?_, fun i hi k hk y hy hz => ?_⟩
    · injection e with e1 e
      injection e with e2 e
      exact (h i hi j hj i hi l hl e1 e2).2
    · obtain ⟨j, hj, rfl⟩ := List.mem_map.mp hy
      obtain ⟨l, hl, e⟩ := List.mem_map.mp hz
      injection e with e1 e
      injection e with e2 e
      exact (h i hi j (List.mem_range.mp hj) k hk l (List.mem_range.mp hl) e1.symm e2.symm).1
theorem places_ok (h : Lat n a) (h1 : 1 ≤ n) (h9 : n ≤ 9) {x : Nat} (hx : x < n) : g_places_of [dM a, dI x] = .ok (dR (a.map fun r => r.idxOf x)) := by
  refine rz_run (m := m_places_of) (ρ := [some (dM a), some (dI x), none]) ?_
  unfold m_places_of
  have hck := lat_checked h h1 h9
  and_intros
  have wa := within_I x 0 (n - 1)
  rw [decide_eq_true (by omega)] at wa
  refine run_ifF (k := false) (ts_not (k := true) (by left)) rfl (run_skip ?_)
  have hl := h.len
  refine run_ret (d := dR (a.map fun r => r.idxOf x)) ?_ rfl
  refine ev_call1 (x := lR (a.map fun r => r.idxOf x)) ?_ (tup_lR _)
  refine ev_lcmI (xs := a) (enc := dR) (by left) (by nofun) fun r hr => ?_
  have hm : x ∈ r := perm_mem (h.row_perm hr) hx
  dsimp only [mk, wipeE, List.set_cons_succ, List.set_cons_zero]
  left
theorem cuts_by_ok (ha : Lat n a) (hb : Lat n b) (h1 : 1 ≤ n) (h7 : n ≤ 7) (ho : Orth a b n) : g_cuts_by [dM a, dM b] = .ok (lL ((List.range n).map fun x => b.map fun r => r.idxOf x)) := by
  refine rz_run (m := m_cuts_by) (ρ := [some (dM a), some (dM b), none]) ?_
  unfold m_cuts_by
  have hm := are_ok ha hb h1 h7
  rw [decide_eq_true ho] at hm
  refine run_ifF (k := false) (ts_not (k := true) (by left)) rfl (run_skip ?_)
  have la := len_Ln ha
  refine run_ret (d := lL ((List.range n).map fun x => b.map fun r => r.idxOf x)) (ev_lcmR (xs := List.range n) (enc := dI) (it_rng1 (ev_call1 rfl la) (by omega)) (by nofun) fun x hx => ?_) rfl
  have hx := List.mem_range.mp hx
  have hp := places_ok hb h1 (by omega) hx
  dsimp only [mk, wipeE, List.set_cons_succ, List.set_cons_zero]
  left
theorem cuts_by_no (ha : Lat n a) (hb : Lat n b) (h1 : 1 ≤ n) (h7 : n ≤ 7) (ho : ¬ Orth a b n) : g_cuts_by [dM a, dM b] = .ex "BadSquare" := by
  refine rz_run (m := m_cuts_by) (ρ := [some (dM a), some (dM b), none]) ?_
  unfold m_cuts_by
  have hm := are_ok ha hb h1 h7
  rw [decide_eq_false ho] at hm
  exact run_ifT (ts_not (k := false) (by left)) rfl (run_seq (run_raise rfl))
end DL
/-! part Cn2 -/
set_option maxHeartbeats 1000000
namespace DL
open PySem
local macro_rules | `(tactic| nofun) => `(tactic| first
  | assumption
  | omega
  | exact lim_of (by omega)
  | exact lim_lt (by omega)
  | ((simp only [List.length_map, List.length_range, List.length_append, List.length_cons, List.length_nil, List.length_replicate, List.length_set, List.length_singleton, List.length_take, List.length_drop, List.length_dropLast]) <;> first | omega | exact lim_of (by omega) | exact lim_lt (by omega))
  | decide
  | fail)
local macro_rules | `(tactic| right) => `(tactic| first
  | with_reducible assumption
  | with_reducible exact add_I _ _
  | ((with_reducible apply sub_I); nofun)
  | ((with_reducible apply mul_I); nofun)
  | ((with_reducible apply mod_I); nofun)
  | ((with_reducible apply mod_c); nofun)
  | ((with_reducible apply fdv_I) <;> nofun)
  | with_reducible exact dAdd_ii _ _
  | with_reducible exact dSub_ii _ _
  | with_reducible exact lt_I _ _
  | with_reducible exact le_I _ _
  | with_reducible exact gt_I _ _
  | with_reducible exact ge_I _ _
  | with_reducible exact eq_I _ _
  | with_reducible exact ne_I _ _
  | with_reducible exact eq_R _ _
  | with_reducible exact ne_R _ _
  | with_reducible exact eq_M _ _
  | with_reducible exact ne_M _ _
  | with_reducible exact eq_lR _ _
  | with_reducible exact ne_lR _ _
  | with_reducible exact eq_lL _ _
  | with_reducible exact ne_lL _ _
  | ((with_reducible apply ix_row); (· assumption); (· nofun))
  | ((with_reducible apply ix_cel); (· assumption); (· nofun); (· nofun))
  | ((with_reducible apply ix_R); nofun)
  | ((with_reducible apply ix_M); nofun)
  | ((with_reducible apply ix_lR); nofun)
  | ((with_reducible apply ix_lL); nofun)
  | ((with_reducible apply ix_lM); nofun)
  | ((with_reducible apply len_Ln); assumption)
  | ((with_reducible apply len_row); (· assumption); (· nofun))
  | with_reducible exact len_R _
  | with_reducible exact len_M _
  | with_reducible exact len_lR _
  | with_reducible exact len_lL _
  | with_reducible exact tup_lR _
  | with_reducible exact tup_lM _
  | with_reducible exact tup_Rt _
  | with_reducible exact tup_Mt _
  | with_reducible exact list_R' _
  | with_reducible exact list_M' _
  | ((with_reducible apply app_R); nofun)
  | ((with_reducible apply app_lR); nofun)
  | ((with_reducible apply app_lL); nofun)
  | ((with_reducible apply app_M); nofun)
  | with_reducible exact in_lR _ _
  | with_reducible exact in_R _ _
  | with_reducible exact in_lL _ _
  | with_reducible exact notIn_lR _ _
  | with_reducible exact notIn_R _ _
  | with_reducible exact notIn_lL _ _
  | with_reducible exact sum_R _
  | with_reducible exact sum_lR _
  | ((with_reducible apply tindex_ok); nofun)
  | with_reducible exact truth_bool _
  | with_reducible exact truth_I _
  | with_reducible exact truth_lR _
  | with_reducible exact truth_lL _
  | with_reducible exact truth_lf _ _
  | with_reducible exact isN_R _
  | with_reducible exact isN_M _
  | with_reducible exact isN_n
  | with_reducible exact isN_l _
  | with_reducible exact notN_R _
  | with_reducible exact notN_M _
  | with_reducible exact notN_n
  | with_reducible exact notN_l _
  | with_reducible exact isi_R _
  | with_reducible exact isi_M _
  | with_reducible exact slR_to _ _
  | with_reducible exact slR_from _ _
  | with_reducible exact slM_to _ _
  | with_reducible exact slM_from _ _
  | with_reducible exact slL_to _ _
  | with_reducible exact slL_from _ _
  | with_reducible exact sllR_to _ _
  | with_reducible exact sllR_from _ _
  | with_reducible exact within_I _ _ _
  | ((with_reducible apply shl_I) <;> nofun)
  | with_reducible exact shr_I _ _
  | with_reducible exact and1_I _
  | ((with_reducible apply fdv_c) <;> nofun)
  | with_reducible exact slR_dl _
  | with_reducible exact dNeg_i _
  | with_reducible exact eq_lS _ _
  | with_reducible exact ne_lS _ _
  | with_reducible exact len_lS _
  | with_reducible exact in_lS _ _
  | with_reducible exact notIn_lS _ _
  | ((with_reducible apply ix_lS); nofun)
  | with_reducible exact truth_lS _
  | ((with_reducible apply app_g); nofun)
  | ((with_reducible apply app_gt); nofun)
  | fail)
local macro_rules | `(tactic| left) => `(tactic| first
  | ((with_reducible apply ev_var); exact rfl)
  | with_reducible exact ev_lit _ _
  | with_reducible exact ev_C _ _
  | ((with_reducible apply g_atM); (· left); (· assumption); (· left); (· left); (· nofun); (· nofun))
  | ((with_reducible apply ev_g2); (· left); (· left); (· right))
  | ((with_reducible apply ev_g1); (· left); (· right))
  | ((with_reducible apply ev_call1); (· left); (· right))
  | ((with_reducible apply ev_callF); (· left); (· right))
  | with_reducible exact ev_a0 _
  | ((with_reducible apply ev_a1); (· left); (· left))
  | with_reducible exact ev_aI0 _
  | ((with_reducible apply ev_aI1); (· left); (· left))
  | with_reducible exact ev_aR0 _
  | ((with_reducible apply ev_aR1); (· left); (· left))
  | ((with_reducible apply ev_tupI); (· left); (· nofun))
  | ((with_reducible apply ev_tupR); (· left); (· nofun))
  | ((with_reducible apply ev_tup); (· left); (· nofun))
  | ((with_reducible apply ev_lstI); (· left); (· nofun))
  | ((with_reducible apply ev_lstR); (· left); (· nofun))
  | ((with_reducible apply ev_lst); (· left); (· nofun))
  | ((with_reducible apply ev_not); (· left); (· right))
  | ((with_reducible apply ev_andB); (· left); (· (intro _; left)))
  | ((with_reducible apply ev_orB); (· left); (· (intro _; left)))
  | ((with_reducible apply ev_M); (· left); (· rfl); (· left); (· right))
  | ((with_reducible apply ev_sl); (· left); (· left); (· left); (· right))
  | with_reducible exact ev_oNo _
  | ((with_reducible apply ev_oSm); left)
  | ((with_reducible apply ev_lRg); left)
  | ((with_reducible apply ev_tRg); left)
  | with_reducible exact Eq.refl (tYs _)
  | ((with_reducible apply ts_cm); (· left); (· left); (· right))
  | ((with_reducible apply ts_and); (· left); (· (intro _; left)))
  | ((with_reducible apply ts_or); (· left); (· (intro _; left)))
  | ((with_reducible apply ts_not); left)
  | ((with_reducible apply ts_tru); (· left); (· right))
  | ((with_reducible apply tt_val); left)
  | ((with_reducible apply tt_chn); (· left); (· left); (· right); (· (intro _; left)); (· (intro _; right)))
  | ((with_reducible apply it_rng1); (· left); (· nofun))
  | ((with_reducible apply it_rng2); (· left); (· left); (· nofun); (· nofun))
  | ((with_reducible apply it_R); left)
  | ((with_reducible apply it_M); left)
  | ((with_reducible apply it_list); left)
  | ((with_reducible apply it_tup); left)
  | ((with_reducible apply it_enMn); (· left); (· exact Lat.len (by assumption)))
  | ((with_reducible apply it_zpR); (· left); (· left); (· nofun); (· nofun))
  | ((with_reducible apply it_zpM); (· left); (· left); (· nofun); (· nofun))
  | ((with_reducible apply it_enRn); (· left); (· exact Lat.rlen (by assumption) (by nofun)))
  | ((with_reducible apply it_enR); left)
  | ((with_reducible apply it_enM); left)
  | ((with_reducible apply it_enlR); left)
  | ((with_reducible apply it_enL); left)
  | ((with_reducible apply ev_lcmI); (· left); (· nofun); (· infer_instance))
  | ((with_reducible apply ev_lcmR); (· left); (· nofun); (· infer_instance))
  | ((with_reducible apply ev_lcmL); (· left); (· nofun); (· infer_instance))
  | ((with_reducible apply ev_lcm); (· left); (· nofun); (· infer_instance))
  | ((with_reducible apply ev_lcpI); (· left); (· nofun); (· infer_instance))
  | ((with_reducible apply ev_lcf); (· left); (· nofun); (· (intro _; rfl)); (· infer_instance))
  | ((with_reducible apply ev_lc); (· left); (· nofun); (· infer_instance))
  | fail)
local macro_rules | `(tactic| infer_instance) => `(tactic| (intro a ha; (try dsimp only [wipeE, List.set_cons_succ, List.set_cons_zero]); (first | (have h1 := List.mem_range.mp ha) | (have h1 := Lat.row (by assumption) _ ha) | skip); first | left | (constructor; (· left); (· (intro hp; left)))))
local macro_rules | `(tactic| and_intros) => `(tactic| first
  | ((with_reducible apply run_set); (· left); (try dsimp only [List.set_cons_succ, List.set_cons_zero]))
  | ((with_reducible apply run_expr); (· left))
  | ((with_reducible apply run_ret); (· left))
  | (with_reducible apply run_skip)
  | (with_reducible apply run_seq)
  | (with_reducible apply run_end))
/-! ### clashes -/
variable {n : Nat} {a b : List (List Nat)}
/-- the first pair that stands twice, its places -/
structure IsCl (L : List (List Nat)) (p : List Nat) (f t : Nat) : Prop where
  ft : f < t
  tl : t < L.length
  at1 : L[f]? = some p
  at2 : L[t]? = some p
  no1 : ∀ i, i < f → L[i]? ≠ some p
  no2 : ∀ i, f < i → i < t → L[i]? ≠ some p
  least : ∀ q ∈ L, 1 < L.count q → TS.code 64 (cI p) ≤ TS.code 64 (cI q)
theorem count_D (L : List (List Nat)) (r : List Nat) : dLcountD (lL L) (dR r) = .ok (dI (L.count r)) := by
  show (if SeqAt.shaped (dR r) && SeqAt.shaped (lL L) then Rz.ok (PyData.int (((L.map dR).countP fun z => PyData.eqv z (dR r) : Nat) : Int)) else .st) = _
  rw [sh_R, sh_lL]
  show Rz.ok (PyData.int (((L.map dR).countP fun z => PyData.eqv z (dR r) : Nat) : Int)) = _
  have : (L.map dR).countP (fun z => PyData.eqv z (dR r)) = L.count r := by
    rw [List.countP_map]
    unfold List.count
    refine List.countP_congr fun x _ => ?_
    show PyData.eqv (dR x) (dR r) = true ↔ (x == r) = true
    rw [eqv_R, beq_iff_eq]
  rw [this]
def srtL (L : List (List Nat)) : List (List Nat) := (srtP (uniqG (L.map cI))).map fun k => k.map Int.toNat
theorem toNat_cI (r : List Nat) : (cI r).map Int.toNat = r := by
  rw [List.map_map]
  conv => rhs; rw [← List.map_id r]
  rfl
theorem srtL_cI (L : List (List Nat)) : (srtL L).map cI = srtP (uniqG (L.map cI)) := by
  unfold srtL
  rw [List.map_map]
  conv => rhs; rw [← List.map_id (srtP (uniqG (L.map cI)))]
  refine List.map_congr_left fun k hk => ?_
  have hk := (uniqG_mem _ _).mp ((List.mergeSort_perm _ _).mem_iff.mp hk)
  obtain ⟨r, _, rfl⟩ := List.mem_map.mp hk
  show cI ((cI r).map Int.toNat) = cI r
  rw [toNat_cI]
theorem mem_srtL {L : List (List Nat)} {r : List Nat} : r ∈ srtL L ↔ r ∈ L := by
  constructor
  · intro h
    have : cI r ∈ (srtL L).map cI := List.mem_map.mpr ⟨r, h, rfl⟩
    rw [srtL_cI] at this
    obtain ⟨s, hs, e⟩ := List.mem_map.mp ((uniqG_mem _ _).mp ((List.mergeSort_perm _ _).mem_iff.mp this))
    rw [← cI_inj e]
    exact hs
  · intro h
    have : cI r ∈ srtP (uniqG (L.map cI)) := (List.mergeSort_perm _ _).mem_iff.mpr ((uniqG_mem _ _).mpr (List.mem_map.mpr ⟨r, h, rfl⟩))
    rw [← srtL_cI] at this
    obtain ⟨s, hs, e⟩ := List.mem_map.mp this
    rw [← cI_inj e]
    exact hs
theorem srtL_len (L : List (List Nat)) : (srtL L).length ≤ L.length := by
  unfold srtL srtP
  rw [List.length_map, List.length_mergeSort]
  have := nodup_lenG (uniqG_nodup (L.map cI)) fun x hx => (uniqG_mem _ x).mp hx
  rw [List.length_map] at this
  exact this
theorem srtL_pw (L : List (List Nat)) : (srtL L).Pairwise fun p q => TS.code 64 (cI p) ≤ TS.code 64 (cI q) := by
  have := srtP_pw (uniqG (L.map cI))
  rw [← srtL_cI, List.pairwise_map] at this
  exact this
theorem sort_D {L : List (List Nat)} (h : L.length < 64) (hp : ∀ p ∈ L, ∃ x y, p = [x, y] ∧ x < 64 ∧ y < 64) : dSortSetT (lL L) = .ok (lL (srtL L)) := by
  show ((orSt (tupsD (L.map dR))).bind fun ks => if ks.length < 64 ∧ ks.all pairOk = true then Rz.ok (PyData.list ((srtP (uniqG ks)).map tI)) else .st) = _
  rw [dR_tI, tupsD_of]
  show (if (L.map cI).length < 64 ∧ (L.map cI).all pairOk = true then Rz.ok (PyData.list ((srtP (uniqG (L.map cI))).map tI)) else .st) = _
  rw [if_pos, ← srtL_cI, ← dR_tI]
  refine ⟨by rw [List.length_map]; exact h, List.all_eq_true.mpr fun k hk => ?_⟩
  obtain ⟨p, hp', rfl⟩ := List.mem_map.mp hk
  obtain ⟨x, y, rfl, hx, hy⟩ := hp p hp'
  show (decide (0 ≤ (x : Int)) && decide ((x : Int) < 64) && decide (0 ≤ (y : Int)) && decide ((y : Int) < 64)) = true
  rw [decide_eq_true (by omega), decide_eq_true (by omega), decide_eq_true (by omega), decide_eq_true (by omega)]
  rfl
theorem index_D {L : List (List Nat)} {p : List Nat} {f : Nat} (h1 : L[f]? = some p) (h2 : ∀ i, i < f → L[i]? ≠ some p) : dLindex (lL L) (dR p) = .ok (dI f) := by
  show (if SeqAt.shaped (dR p) && SeqAt.shaped (lL L) then (match (L.map dR).findIdx? fun z => PyData.eqv z (dR p) with
    | some j => Rz.ok (PyData.int (j : Nat)) | none => .st) else .st) = _
  rw [sh_R, sh_lL]
  have : (L.map dR).findIdx? (fun z => PyData.eqv z (dR p)) = some f := by
    rw [List.findIdx?_eq_some_iff_getElem]
    obtain ⟨hf, e⟩ := List.getElem?_eq_some_iff.mp h1
    refine ⟨by rw [List.length_map]; exact hf, ?_, fun j hj => ?_⟩
    · rw [List.getElem_map, e]
      exact (eqv_R _ _).mpr rfl
    · rw [List.getElem_map]
      intro z
      have := (eqv_R _ _).mp z
      exact h2 j hj (by rw [List.getElem?_eq_getElem (by omega), this])
  rw [this]
  rfl
theorem index3_D {L : List (List Nat)} {p : List Nat} {c t : Nat} (hc : c ≤ t) (h1 : L[t]? = some p) (h2 : ∀ i, c ≤ i → i < t → L[i]? ≠ some p) : dLindex3 (lL L) (dR p) (dI c) = .ok (dI t) := by
  show (if SeqAt.shaped (dR p) && SeqAt.shaped (lL L) && decide ((0 : Int) ≤ (c : Int)) then (match ((L.map dR).drop (c : Int).toNat).findIdx? fun z => PyData.eqv z (dR p) with
    | some j => Rz.ok (PyData.int (((c : Int).toNat + j : Nat) : Int)) | none => .st) else .st) = _
  rw [sh_R, sh_lL, decide_eq_true (by omega), Int.toNat_natCast]
  have : ((L.map dR).drop c).findIdx? (fun z => PyData.eqv z (dR p)) = some (t - c) := by
    rw [List.findIdx?_eq_some_iff_getElem]
    obtain ⟨hf, e⟩ := List.getElem?_eq_some_iff.mp h1
    have et : c + (t - c) = t := by omega
    refine ⟨by rw [List.length_drop, List.length_map]; omega, ?_, fun j hj => ?_⟩
    · rw [List.getElem_drop, List.getElem_map]
      simp only [et, e]
      exact (eqv_R _ _).mpr rfl
    · rw [List.getElem_drop, List.getElem_map]
      intro z
      have := (eqv_R _ _).mp z
      exact h2 (c + j) (by omega) (by omega) (by rw [List.getElem?_eq_getElem (by omega), this])
  rw [this]
  show Rz.ok (PyData.int ((c + (t - c) : Nat) : Int)) = _
  rw [show c + (t - c) = t by omega]

theorem find_from {L : List (List Nat)} {p : List Nat} (c : Nat) (h : ∃ i, c ≤ i ∧ L[i]? = some p) : ∃ f, c ≤ f ∧ L[f]? = some p ∧ ∀ i, c ≤ i → i < f → L[i]? ≠ some p := by
  obtain ⟨i, hc, hi⟩ := h
  induction i using Nat.strongRecOn with
  | ind i ih =>
    by_cases hx : ∃ j, c ≤ j ∧ j < i ∧ L[j]? = some p
    · obtain ⟨j, h1, h2, h3⟩ := hx
      exact ih j h2 h1 h3
    · exact ⟨i, hc, hi, fun j h1 h2 h3 => hx ⟨j, h1, h2, h3⟩⟩
theorem twice_at {L : List (List Nat)} {p : List Nat} {f : Nat} (h : 1 < L.count p) (h1 : L[f]? = some p) (h2 : ∀ i, i < f → L[i]? ≠ some p) : ∃ i, f + 1 ≤ i ∧ L[i]? = some p := by
  have hf := (List.getElem?_eq_some_iff.mp h1).1
  have e : L = L.take (f + 1) ++ L.drop (f + 1) := (List.take_append_drop _ _).symm
  have ct : (L.take (f + 1)).count p ≤ 1 := by
    rw [List.take_succ, h1, List.count_append]
    have z : (L.take f).count p = 0 := by
      rw [List.count_eq_zero]
      intro hm
      obtain ⟨i, hi, e⟩ := List.getElem_of_mem hm
      rw [List.length_take] at hi
      rw [List.getElem_take] at e
      exact h2 i (by omega) (by rw [List.getElem?_eq_getElem (by omega), e])
    rw [z]
    simp
  have : 0 < (L.drop (f + 1)).count p := by
    rw [e, List.count_append] at h
    omega
  obtain ⟨i, hi, e2⟩ := List.getElem_of_mem (List.count_pos_iff.mp this)
  rw [List.getElem_drop] at e2
  rw [List.length_drop] at hi
  exact ⟨f + 1 + i, by omega, by rw [List.getElem?_eq_getElem (by omega), e2]⟩
theorem cl_ex {L : List (List Nat)} (h : ¬ L.Nodup) : ∃ p f t, IsCl L p f t ∧ ((srtL L).filter fun r => decide (1 < L.count r)).head? = some p := by
  have hd : ∃ q ∈ L, 1 < L.count q := by
    rcases Classical.em (∃ q ∈ L, 1 < L.count q) with x | x
    · exact x
    · refine absurd (List.nodup_iff_count.mpr fun q => ?_) h
      by_cases hq : q ∈ L
      · have : ¬ 1 < L.count q := fun z => x ⟨q, hq, z⟩
        omega
      · rw [List.count_eq_zero.mpr hq]
        omega
  obtain ⟨q, hq, hc⟩ := hd
  have hm : q ∈ (srtL L).filter fun r => decide (1 < L.count r) := List.mem_filter.mpr ⟨mem_srtL.mpr hq, decide_eq_true hc⟩
  cases hl : (srtL L).filter fun r => decide (1 < L.count r) with
  | nil => rw [hl] at hm; cases hm
  | cons p r =>
    have hp : p ∈ (srtL L).filter fun r => decide (1 < L.count r) := by rw [hl]; exact List.mem_cons_self
    have pc := of_decide_eq_true (List.mem_filter.mp hp).2
    have pL := mem_srtL.mp (List.mem_filter.mp hp).1
    obtain ⟨i, hi, e⟩ := List.getElem_of_mem pL
    obtain ⟨f, _, f1, f2⟩ := find_from (L := L) (p := p) 0 ⟨i, Nat.zero_le _, by rw [List.getElem?_eq_getElem hi, e]⟩
    have f2 := fun i h => f2 i (Nat.zero_le _) h
    obtain ⟨t, t0, t1, t2⟩ := find_from (L := L) (p := p) (f + 1) (twice_at pc f1 f2)
    refine ⟨p, f, t, ⟨by omega, (List.getElem?_eq_some_iff.mp t1).1, f1, t1, f2, fun i h1 h2 => t2 i (by omega) h2, fun q hq hc => ?_⟩, rfl⟩
    have hm : q ∈ (srtL L).filter fun r => decide (1 < L.count r) := List.mem_filter.mpr ⟨mem_srtL.mpr hq, decide_eq_true hc⟩
    have pw := (srtL_pw L).filter fun r => decide (1 < L.count r)
    rw [hl] at hm pw
    rcases List.mem_cons.mp hm with rfl | hm
    · exact Int.le_refl _
    · exact (List.pairwise_cons.mp pw).1 q hm
theorem prL_small (ha : Lat n a) (hb : Lat n b) (h7 : n ≤ 7) : ∀ p ∈ prL a b n, ∃ x y, p = [x, y] ∧ x < 64 ∧ y < 64 := fun p hp => by
  obtain ⟨i, hi, j, hj, rfl⟩ := mem_prL.mp hp
  have := ha.at_lt hi hj
  have := hb.at_lt hi hj
  exact ⟨_, _, rfl, by omega, by omega⟩
theorem divmod_ok {f n : Nat} (hn : 1 ≤ n) (h : n ≤ 1000000) (hf : f ≤ 1000000) : dDivmod [dI f, dI n] = .ok (dR [f / n, f % n]) := by
  show (if (0 : Int) ≤ (f : Int) ∧ (f : Int) ≤ 1000000 ∧ 0 < (n : Int) ∧ (n : Int) ≤ 1000000 then Rz.ok (PyData.tuple [.int ((f : Int) / n), .int ((f : Int) % n)]) else .st) = _
  rw [if_pos (by omega)]
  rfl
theorem ev_M2 {k : D → Bool} {op : D → D → D → Rz D} {a b c : G} {ρ : En} {x y z d : D} (h1 : a ρ = .ok x) (hk : k x = true) (h2 : b ρ = .ok y) (h3 : c ρ = .ok z) (h4 : op x y z = .ok d) : gM2 k op a b c ρ = .ok d := by
  unfold gM2
  rw [h1, Rz.bind_ok, if_pos hk, h2, Rz.bind_ok, h3, Rz.bind_ok, h4]
theorem clashes_none (ha : Lat n a) (hb : Lat n b) (h1 : 1 ≤ n) (h7 : n ≤ 7) (ho : Orth a b n) : g_clashes [dM a, dM b] = .ok .none := by
  refine rz_run (m := m_clashes) (ρ := [some (dM a), some (dM b), none, none, none, none, none]) ?_
  unfold m_clashes
  have hm := are_ok ha hb h1 h7
  rw [decide_eq_true ho] at hm
  exact run_ifT (ts_tru (k := true) (by left) rfl) rfl (run_seq (run_ret (d := .none) (ev_C _ _) rfl))
theorem clashes_ok (ha : Lat n a) (hb : Lat n b) (h1 : 1 ≤ n) (h7 : n ≤ 7) (ho : ¬ Orth a b n) : ∃ p f t, IsCl (prL a b n) p f t ∧ ((srtL (prL a b n)).filter fun r => decide (1 < (prL a b n).count r)).head? = some p ∧ g_clashes [dM a, dM b] = .ok (.tuple [dR p, dR [f / n, f % n], dR [t / n, t % n]]) := by
  obtain ⟨p, f, t, hc, hh⟩ := cl_ex ho
  refine ⟨p, f, t, hc, hh, ?_⟩
  refine rz_run (m := m_clashes) (ρ := [some (dM a), some (dM b), none, none, none, none, none]) ?_
  unfold m_clashes
  have hm := are_ok ha hb h1 h7
  rw [decide_eq_false ho] at hm
  have hp := pairs_ok ha hb (by omega)
  have l64 : (prL a b n).length < 64 := by
    rw [prL_len]
    have : n * n ≤ 7 * 7 := Nat.mul_le_mul h7 h7
    omega
  have hs := sort_D l64 (prL_small ha hb h7)
  refine run_ifF (k := false) (ts_tru (by left) rfl) rfl (run_skip ?_)
  generalize prL a b n = L at hc hh hp l64 hs
  have tl := hc.tl
  have ft := hc.ft
  and_intros
  have hx : dIx (lL ((srtL L).filter fun r => decide (1 < L.count r))) (dI 0) = .ok (dR p) := by
    cases hl : (srtL L).filter fun r => decide (1 < L.count r) with
    | nil => rw [hl] at hh; cases hh
    | cons q r =>
      rw [hl] at hh
      cases hh
      exact ix_l (k := 0) rfl
  have sl := srtL_len L
  refine run_set (d := dR p) (ev_g2 (x := lL ((srtL L).filter fun r => decide (1 < L.count r))) (y := dI 0) (ev_lcf (p := fun r => decide (1 < L.count r)) (xs := srtL L) (enc := dR) (it_list (ev_g1 (x := lL L) (by left) hs)) (lim_of (by omega)) (fun _ => rfl) fun r hr => ?_) (by left) hx) ?_
  · dsimp only [mk, wipeE, List.set_cons_succ, List.set_cons_zero]
    have := count_D L r
    left
  dsimp only [List.set_cons_succ, List.set_cons_zero]
  have i1 := index_D hc.at1 hc.no1
  have i2 := index3_D (c := f + 1) (t := t) (by omega) hc.at2 fun i h1 h2 => hc.no2 i (by omega) h2
  and_intros
  refine run_set (d := dI t) ?_ ?_
  · exact ev_M2 (x := lL L) (y := dR p) (z := dI (f + 1)) (by left) rfl (by left) (by left) i2
  dsimp only [List.set_cons_succ, List.set_cons_zero]
  have d1 := divmod_ok (f := f) h1 (by omega) (by omega)
  have d2 := divmod_ok (f := t) h1 (by omega) (by omega)
  have la := len_Ln ha
  exact run_ret (d := .tuple [dR p, dR [f / n, f % n], dR [t / n, t % n]]) (ev_tup (ev_a1 (by left) (ev_a1 (ev_callF (ev_a1 (by left) (ev_a1 (ev_call1 rfl la) (ev_a0 _))) d1) (ev_a1 (ev_callF (ev_a1 (by left) (ev_a1 (ev_call1 rfl la) (ev_a0 _))) d2) (ev_a0 _)))) (lim_of (by simp))) rfl
end DL
/-! part Cn3 -/
set_option maxHeartbeats 1000000
namespace DL
open PySem
local macro_rules | `(tactic| nofun) => `(tactic| first
  | assumption
  | omega
  | exact lim_of (by omega)
  | exact lim_lt (by omega)
  | ((simp only [List.length_map, List.length_range, List.length_append, List.length_cons, List.length_nil, List.length_replicate, List.length_set, List.length_singleton, List.length_take, List.length_drop, List.length_dropLast]) <;> first | omega | exact lim_of (by omega) | exact lim_lt (by omega))
  | decide
  | fail)
local macro_rules | `(tactic| right) => `(tactic| first
  | with_reducible assumption
  | with_reducible exact add_I _ _
  | ((with_reducible apply sub_I); nofun)
  | ((with_reducible apply mul_I); nofun)
  | ((with_reducible apply mod_I); nofun)
  | ((with_reducible apply mod_c); nofun)
  | ((with_reducible apply fdv_I) <;> nofun)
  | with_reducible exact dAdd_ii _ _
  | with_reducible exact dSub_ii _ _
  | with_reducible exact lt_I _ _
  | with_reducible exact le_I _ _
  | with_reducible exact gt_I _ _
  | with_reducible exact ge_I _ _
  | with_reducible exact eq_I _ _
  | with_reducible exact ne_I _ _
  | with_reducible exact eq_R _ _
  | with_reducible exact ne_R _ _
  | with_reducible exact eq_M _ _
  | with_reducible exact ne_M _ _
  | with_reducible exact eq_lR _ _
  | with_reducible exact ne_lR _ _
  | with_reducible exact eq_lL _ _
  | with_reducible exact ne_lL _ _
  | ((with_reducible apply ix_row); (· assumption); (· nofun))
  | ((with_reducible apply ix_cel); (· assumption); (· nofun); (· nofun))
  | ((with_reducible apply ix_R); nofun)
  | ((with_reducible apply ix_M); nofun)
  | ((with_reducible apply ix_lR); nofun)
  | ((with_reducible apply ix_lL); nofun)
  | ((with_reducible apply ix_lM); nofun)
  | ((with_reducible apply len_Ln); assumption)
  | ((with_reducible apply len_row); (· assumption); (· nofun))
  | with_reducible exact len_R _
  | with_reducible exact len_M _
  | with_reducible exact len_lR _
  | with_reducible exact len_lL _
  | with_reducible exact tup_lR _
  | with_reducible exact tup_lM _
  | with_reducible exact tup_Rt _
  | with_reducible exact tup_Mt _
  | with_reducible exact list_R' _
  | with_reducible exact list_M' _
  | ((with_reducible apply app_R); nofun)
  | ((with_reducible apply app_lR); nofun)
  | ((with_reducible apply app_lL); nofun)
  | ((with_reducible apply app_M); nofun)
  | with_reducible exact in_lR _ _
  | with_reducible exact in_R _ _
  | with_reducible exact in_lL _ _
  | with_reducible exact notIn_lR _ _
  | with_reducible exact notIn_R _ _
  | with_reducible exact notIn_lL _ _
  | with_reducible exact sum_R _
  | with_reducible exact sum_lR _
  | ((with_reducible apply tindex_ok); nofun)
  | with_reducible exact truth_bool _
  | with_reducible exact truth_I _
  | with_reducible exact truth_lR _
  | with_reducible exact truth_lL _
  | with_reducible exact truth_lf _ _
  | with_reducible exact isN_R _
  | with_reducible exact isN_M _
  | with_reducible exact isN_n
  | with_reducible exact isN_l _
  | with_reducible exact notN_R _
  | with_reducible exact notN_M _
  | with_reducible exact notN_n
  | with_reducible exact notN_l _
  | with_reducible exact isi_R _
  | with_reducible exact isi_M _
  | with_reducible exact slR_to _ _
  | with_reducible exact slR_from _ _
  | with_reducible exact slM_to _ _
  | with_reducible exact slM_from _ _
  | with_reducible exact slL_to _ _
  | with_reducible exact slL_from _ _
  | with_reducible exact sllR_to _ _
  | with_reducible exact sllR_from _ _
  | with_reducible exact within_I _ _ _
  | ((with_reducible apply shl_I) <;> nofun)
  | with_reducible exact shr_I _ _
  | with_reducible exact and1_I _
  | ((with_reducible apply fdv_c) <;> nofun)
  | with_reducible exact slR_dl _
  | with_reducible exact dNeg_i _
  | with_reducible exact eq_lS _ _
  | with_reducible exact ne_lS _ _
  | with_reducible exact len_lS _
  | with_reducible exact in_lS _ _
  | with_reducible exact notIn_lS _ _
  | ((with_reducible apply ix_lS); nofun)
  | with_reducible exact truth_lS _
  | ((with_reducible apply app_g); nofun)
  | ((with_reducible apply app_gt); nofun)
  | fail)
local macro_rules | `(tactic| left) => `(tactic| first
  | ((with_reducible apply ev_var); exact rfl)
  | with_reducible exact ev_lit _ _
  | with_reducible exact ev_C _ _
  | ((with_reducible apply g_atM); (· left); (· assumption); (· left); (· left); (· nofun); (· nofun))
  | ((with_reducible apply ev_g2); (· left); (· left); (· right))
  | ((with_reducible apply ev_g1); (· left); (· right))
  | ((with_reducible apply ev_call1); (· left); (· right))
  | ((with_reducible apply ev_callF); (· left); (· right))
  | with_reducible exact ev_a0 _
  | ((with_reducible apply ev_a1); (· left); (· left))
  | with_reducible exact ev_aI0 _
  | ((with_reducible apply ev_aI1); (· left); (· left))
  | with_reducible exact ev_aR0 _
  | ((with_reducible apply ev_aR1); (· left); (· left))
  | ((with_reducible apply ev_tupI); (· left); (· nofun))
  | ((with_reducible apply ev_tupR); (· left); (· nofun))
  | ((with_reducible apply ev_tup); (· left); (· nofun))
  | ((with_reducible apply ev_lstI); (· left); (· nofun))
  | ((with_reducible apply ev_lstR); (· left); (· nofun))
  | ((with_reducible apply ev_lst); (· left); (· nofun))
  | ((with_reducible apply ev_not); (· left); (· right))
  | ((with_reducible apply ev_andB); (· left); (· (intro _; left)))
  | ((with_reducible apply ev_orB); (· left); (· (intro _; left)))
  | ((with_reducible apply ev_M); (· left); (· rfl); (· left); (· right))
  | ((with_reducible apply ev_sl); (· left); (· left); (· left); (· right))
  | with_reducible exact ev_oNo _
  | ((with_reducible apply ev_oSm); left)
  | ((with_reducible apply ev_lRg); left)
  | ((with_reducible apply ev_tRg); left)
  | with_reducible exact Eq.refl (tYs _)
  | ((with_reducible apply ts_cm); (· left); (· left); (· right))
  | ((with_reducible apply ts_and); (· left); (· (intro _; left)))
  | ((with_reducible apply ts_or); (· left); (· (intro _; left)))
  | ((with_reducible apply ts_not); left)
  | ((with_reducible apply ts_tru); (· left); (· right))
  | ((with_reducible apply tt_val); left)
  | ((with_reducible apply tt_chn); (· left); (· left); (· right); (· (intro _; left)); (· (intro _; right)))
  | ((with_reducible apply it_rng1); (· left); (· nofun))
  | ((with_reducible apply it_rng2); (· left); (· left); (· nofun); (· nofun))
  | ((with_reducible apply it_R); left)
  | ((with_reducible apply it_M); left)
  | ((with_reducible apply it_list); left)
  | ((with_reducible apply it_tup); left)
  | ((with_reducible apply it_enMn); (· left); (· exact Lat.len (by assumption)))
  | ((with_reducible apply it_zpR); (· left); (· left); (· nofun); (· nofun))
  | ((with_reducible apply it_zpM); (· left); (· left); (· nofun); (· nofun))
  | ((with_reducible apply it_enRn); (· left); (· exact Lat.rlen (by assumption) (by nofun)))
  | ((with_reducible apply it_enR); left)
  | ((with_reducible apply it_enM); left)
  | ((with_reducible apply it_enlR); left)
  | ((with_reducible apply it_enL); left)
  | ((with_reducible apply ev_lcmI); (· left); (· nofun); (· infer_instance))
  | ((with_reducible apply ev_lcmR); (· left); (· nofun); (· infer_instance))
  | ((with_reducible apply ev_lcmL); (· left); (· nofun); (· infer_instance))
  | ((with_reducible apply ev_lcm); (· left); (· nofun); (· infer_instance))
  | ((with_reducible apply ev_lcpI); (· left); (· nofun); (· infer_instance))
  | ((with_reducible apply ev_lcf); (· left); (· nofun); (· (intro _; rfl)); (· infer_instance))
  | ((with_reducible apply ev_lc); (· left); (· nofun); (· infer_instance))
  | fail)
local macro_rules | `(tactic| infer_instance) => `(tactic| (intro a ha; (try dsimp only [wipeE, List.set_cons_succ, List.set_cons_zero]); (first | (have h1 := List.mem_range.mp ha) | (have h1 := Lat.row (by assumption) _ ha) | skip); first | left | (constructor; (· left); (· (intro hp; left)))))
local macro_rules | `(tactic| and_intros) => `(tactic| first
  | ((with_reducible apply run_set); (· left); (try dsimp only [List.set_cons_succ, List.set_cons_zero]))
  | ((with_reducible apply run_expr); (· left))
  | ((with_reducible apply run_ret); (· left))
  | (with_reducible apply run_skip)
  | (with_reducible apply run_seq)
  | (with_reducible apply run_end))
variable {n : Nat} {m : List (List Nat)}
theorem mateFold {t : List (List Nat)} {i : Nat} (hv : ∀ k, k < n → (t.getD k []).getD i 0 < n) (hi : ∀ k, k < n → ∀ l, l < n → (t.getD k []).getD i 0 = (t.getD l []).getD i 0 → k = l) : ∀ K, K ≤ n → ((List.range K).foldl (mateStep t i) (List.replicate n 0)).length = n ∧ ∀ k, k < K → ((List.range K).foldl (mateStep t i) (List.replicate n 0)).getD ((t.getD k []).getD i 0) 0 = k
  | 0, _ => ⟨by simp, fun k hk => by omega⟩
  | K + 1, hK => by
    obtain ⟨l1, l2⟩ := mateFold hv hi K (by omega)
    rw [List.range_succ, List.foldl_append]
    show (mateStep t i _ K).length = n ∧ _
    rw [mateStep_len]
    refine ⟨l1, fun k hk => ?_⟩
    show ((((List.range K).foldl (mateStep t i) (List.replicate n 0)).set ((t.getD K []).getD i 0) K).getD ((t.getD k []).getD i 0) 0) = k
    have hb := hv K (by omega)
    by_cases e : k = K
    · subst e
      rw [List.getD_eq_getElem?_getD, List.getElem?_set_self (by omega)]
      rfl
    · have hne : (t.getD K []).getD i 0 ≠ (t.getD k []).getD i 0 := fun z => e (hi K (by omega) k (by omega) z).symm
      rw [List.getD_eq_getElem?_getD, List.getElem?_set_ne hne, ← List.getD_eq_getElem?_getD]
      exact l2 k (by omega)

section
variable {t : List (List Nat)} (h : Lat n m) (ht : Tkn (cutsOf m n) t) (hl : t.length = n)
include h ht hl
theorem tk_mem {k : Nat} (hk : k < n) : t.getD k [] ∈ cutsOf m n := by
  rw [getD_el (by omega)]
  exact ht.fam.sub _ (List.getElem_mem _)
theorem tk_perm {k : Nat} (hk : k < n) : isPerm n (t.getD k []) := cut_perm (tk_mem h ht hl hk)
theorem tk_inj {i : Nat} (hi : i < n) : ∀ k, k < n → ∀ l, l < n → (t.getD k []).getD i 0 = (t.getD l []).getD i 0 → k = l := by
  have lt : ∀ k l, k < l → l < n → (t.getD k []).getD i 0 ≠ (t.getD l []).getD i 0 := fun k l hkl hl' e => by
    have z : shr (t.getD k []) (t.getD l []) = false := by
      rw [getD_el (by omega), getD_el (by omega)]
      exact List.pairwise_iff_getElem.mp ht.fam.ap k l (by omega) (by omega) hkl
    have : shr (t.getD k []) (t.getD l []) = true := shr_iff.mpr ⟨i, by rw [(tk_perm h ht hl (by omega : k < n)).len]; exact hi, e⟩
    rw [z] at this
    cases this
  intro k hk l hl' e
  rcases Nat.lt_trichotomy k l with z | z | z
  · exact absurd e (lt k l z hl')
  · exact z
  · exact absurd e.symm (lt l k z hk)
theorem mate_at {i k : Nat} (hi : i < n) (hk : k < n) : atM (mateOf t n) i ((t.getD k []).getD i 0) = k := by
  have e := (mateFold (t := t) (i := i) (fun k hk => (tk_perm h ht hl hk).at_lt hi) (tk_inj h ht hl hi) n (Nat.le_refl _)).2 k hk
  show ((mateOf t n).getD i []).getD _ 0 = k
  unfold mateOf
  rw [getD_range_map hi]
  unfold mateR
  rw [hl]
  exact e
theorem mate_cov {i j : Nat} (hi : i < n) (hj : j < n) : ∃ k, k < n ∧ (t.getD k []).getD i 0 = j := by
  have hp : isPerm n ((List.range n).map fun k => (t.getD k []).getD i 0) := perm_of_at (by simp) (fun k hk => by
    rw [getD_range_map hk]
    exact (tk_perm h ht hl hk).at_lt hi) fun k hk l hl' e => by
    rw [getD_range_map hk, getD_range_map hl'] at e
    exact tk_inj h ht hl hi k hk l hl' e
  refine ⟨_, hp.idx_lt hj, ?_⟩
  have := hp.at_idx hj
  rw [getD_range_map (hp.idx_lt hj)] at this
  exact this
theorem mate_rect : (mateOf t n).length = n ∧ ∀ r ∈ mateOf t n, r.length = n := by
  unfold mateOf
  refine ⟨by simp, fun r hr => ?_⟩
  obtain ⟨i, hi, rfl⟩ := List.mem_map.mp hr
  unfold mateR
  rw [hl]
  exact (mateFold (t := t) (i := i) (fun k hk => (tk_perm h ht hl hk).at_lt (List.mem_range.mp hi)) (tk_inj h ht hl (List.mem_range.mp hi)) n (Nat.le_refl _)).1
theorem mate_lat : Lat n (mateOf t n) := by
  obtain ⟨r1, r2⟩ := mate_rect h ht hl
  rw [rect_tab r1 r2]
  refine lat_tab (fun i hi j hj => ?_) (fun i hi j hj k hk e => ?_) (fun j hj i hi k hk e => ?_)
  · obtain ⟨c, hc, rfl⟩ := mate_cov h ht hl hi hj
    rw [mate_at h ht hl hi hc]
    exact hc
  · obtain ⟨c, hc, rfl⟩ := mate_cov h ht hl hi hj
    obtain ⟨d, hd, rfl⟩ := mate_cov h ht hl hi hk
    rw [mate_at h ht hl hi hc, mate_at h ht hl hi hd] at e
    rw [e]
  · obtain ⟨c, hc, ec⟩ := mate_cov h ht hl hi hj
    obtain ⟨d, hd, ed⟩ := mate_cov h ht hl hk hj
    have e1 := mate_at h ht hl hi hc
    have e2 := mate_at h ht hl hk hd
    rw [ec] at e1
    rw [ed] at e2
    rw [e1, e2] at e
    subst e
    exact (tk_perm h ht hl hc).inj hi hk (ec.trans ed.symm)
theorem mate_orth : Orth m (mateOf t n) n := by
  rw [orth_at]
  intro i hi j hj k hk l hl' e1 e2
  obtain ⟨c, hc, rfl⟩ := mate_cov h ht hl hi hj
  obtain ⟨d, hd, rfl⟩ := mate_cov h ht hl hk hl'
  rw [mate_at h ht hl hi hc, mate_at h ht hl hk hd] at e2
  subst e2
  have hm := (mem_cuts.mp (tk_mem h ht hl hc)).2.2.2
  have : i = k := by
    unfold lettersOf at hm
    rw [(tk_perm h ht hl hc).len] at hm
    exact (nodup_map_iff (fun i => atM m i ((t.getD c []).getD i 0)) n).mp hm i hi k hk e1
  subst this
  exact ⟨rfl, rfl⟩
end
end DL
/-! part K15h -/
namespace DL
open PySem
def cl : List Str := ["BadSquare", "BadPlace", "BadBlock", "BadNumber", "TooBig"]
def m_is_block : GS :=
  (sSeq (sIf (tOrr (tNt (tTru (g1 (dIsi "tuple") (gVar 1)))) (tNt (tChn dLe dLe (gC (.int 1)) (gCall (on1 dLen) (aCons (gVar 1) aNil)) (gVar 0)))) (sSeq (sRet (gC (.bool false))) sNil) sNil) (sSeq (sFor [] (iSeq (gVar 1)) (tgN 2) (sSeq (sIf (tOrr (tNt (tTru (g1 (dIsi "tuple") (gVar 2)))) (tOrr (tNt (tChn dLe dLe (gC (.int 1)) (gCall (on1 dLen) (aCons (gVar 2) aNil)) (gVar 0))) (tCm dNe (gCall (on1 dLen) (aCons (gVar 2) aNil)) (gCall (on1 dLen) (aCons (g2 dIx (gVar 1) (gC (.int 0))) aNil))))) (sSeq (sRet (gC (.bool false))) sNil) sNil) (sSeq (sIf (tOrr (tTru (gLc (iSeq (gVar 2)) (tgN 3) (tNt (tTru (gCall g_is_within (aCons (gVar 3) (aCons (gC (.int 0)) (aCons (g2 dSub (gVar 0) (gC (.int 1))) aNil)))))) (gVar 3) [3])) (tCm dLt (g1 dLenSet (gVar 2)) (gCall (on1 dLen) (aCons (gVar 2) aNil)))) (sSeq (sRet (gC (.bool false))) sNil) sNil) sNil))) (sSeq (sRet (gNot (gLc (iSeq (gCall g_columns_of (aCons (gVar 1) aNil))) (tgN 4) (tCm dLt (g1 dLenSet (gVar 4)) (gCall (on1 dLen) (aCons (gVar 1) aNil))) (gVar 4) [4]))) sNil)))
def g_is_block : List D → Rz D := fun ds => (m_is_block (startE 5 ds)).rz
theorem eq_is_block : ∀ ds, ds.length = 2 → g_is_block ds = .st ∨ (m_is_block (startE 5 ds)).rz = g_is_block ds := fun _ _ => .inr rfl
def m_look_block : GS :=
  (sSeq (sIf (tNt (tTru (gCall g_is_within (aCons (gVar 0) (aCons (gC (.int 1)) (aCons (gC (.int 9)) aNil)))))) (sSeq (sRaise "BadNumber") sNil) sNil) (sSeq (sIf (tNt (tTru (gCall g_is_block (aCons (gVar 0) (aCons (gVar 1) aNil))))) (sSeq (sRaise "BadBlock") sNil) sNil) sNil))
def g_look_block : List D → Rz D := fun ds => (m_look_block (startE 2 ds)).rz
theorem eq_look_block : ∀ ds, ds.length = 2 → g_look_block ds = .st ∨ (m_look_block (startE 2 ds)).rz = g_look_block ds := fun _ _ => .inr rfl
def m_scarce : GS :=
  (sSeq (sExpr [] (gCall g_look_block (aCons (gVar 0) (aCons (gVar 1) aNil)))) (sSeq (sSet [] (tgN 2) (g2 dSub (g2 dAdd (gCall (on1 dLen) (aCons (gVar 1) aNil)) (gCall (on1 dLen) (aCons (g2 dIx (gVar 1) (gC (.int 0))) aNil))) (gVar 0))) (sSeq (sSet [] (tgN 3) (gLst aNil)) (sSeq (sFor [] (iSeq (gVar 1)) (tgN 4) (sSeq (sSet [] (tgN 3) (g2 dAdd (gVar 3) (gCall (on1 dList) (aCons (gVar 4) aNil)))) sNil)) (sSeq (sRet (gLc (iRg (aCons (gVar 0) aNil)) (tgN 5) (tCm dLt (gM isLstD dLcount (gVar 3) (gVar 5)) (gVar 2)) (gVar 5) [5])) sNil)))))
def g_scarce : List D → Rz D := fun ds => (m_scarce (startE 6 ds)).rz
theorem eq_scarce : ∀ ds, ds.length = 2 → g_scarce ds = .st ∨ (m_scarce (startE 6 ds)).rz = g_scarce ds := fun _ _ => .inr rfl
def m__law_lists : GS :=
  (sSeq (sSet [] (tgN 2) (gLst (aCons (gCall g_all_cuts (aCons (gVar 0) aNil)) (aCons (gCall g_cuts_at (aCons (gVar 0) (aCons (gVar 1) (aCons (gC (.int 0)) aNil)))) (aCons (gCall g_most_apart (aCons (gVar 0) aNil)) (aCons (gCall g_all_marks (aCons (gVar 0) aNil)) (aCons (gCall g_twos (aCons (gVar 0) aNil)) aNil))))))) (sSeq (sIf (tVal (g1 dNotN (gCall g_mate (aCons (gVar 0) aNil)))) (sSeq (sSet [] (tgN 2) (g2 dAdd (gVar 2) (gLst (aCons (gCall g_parting (aCons (gVar 0) aNil)) (aCons (gCall g_cuts_by (aCons (gVar 0) (aCons (gCall g_mate (aCons (gVar 0) aNil)) aNil))) aNil))))) sNil) sNil) (sSeq (sIf (tCm dGt (gCall (on1 dLen) (aCons (gVar 0) aNil)) (gC (.int 1))) (sSeq (sSet [] (tgN 2) (g2 dAdd (g2 dAdd (gVar 2) (gCall g_rings (aCons (gVar 0) (aCons (gC (.int 0)) (aCons (gC (.int 1)) aNil))))) (gLst (aCons (gCall g_rings (aCons (gVar 0) (aCons (gC (.int 0)) (aCons (gC (.int 1)) aNil)))) aNil)))) sNil) sNil) (sSeq (sRet (g2 dAdd (gVar 2) (gLst (aCons (gCall g_scarce (aCons (gC (.int 3)) (aCons (gTup (aCons (gTup (aCons (gC (.int 0)) (aCons (gC (.int 1)) aNil))) (aCons (gTup (aCons (gC (.int 1)) (aCons (gC (.int 0)) aNil))) aNil))) aNil))) aNil)))) sNil))))
def g__law_lists : List D → Rz D := fun ds => (m__law_lists (startE 3 ds)).rz
theorem eq__law_lists : ∀ ds, ds.length = 2 → g__law_lists ds = .st ∨ (m__law_lists (startE 3 ds)).rz = g__law_lists ds := fun _ _ => .inr rfl
def m_law : GS :=
  (sSeq (sSet [] (tgN 1) (gCall g__law_sized (aCons (gVar 0) (aCons (gC (.int 2)) (aCons (g2 dIx (gLst (aCons (gC (.int 4)) (aCons (gC (.int 3)) (aCons (gC (.int 5)) (aCons (gC (.int 4)) (aCons (gC (.int 2)) (aCons (gC (.int 1)) aNil))))))) (g2 dMod (gCall g__law_cell (aCons (gVar 0) (aCons (gC (.int 0)) aNil))) (gC (.int 6)))) aNil))))) (sSeq (sSet [] (tgN 2) (g2 dMod (gCall g__law_cell (aCons (gVar 0) (aCons (gC (.int 1)) aNil))) (gCall (on1 dLen) (aCons (gVar 1) aNil)))) (sSeq (sRows 3 4 5 (gCall g__law_lists (aCons (gVar 1) (aCons (gVar 2) aNil)))) (sSeq (sIf (tOrr (tCm dNe (gCall g__law_lists (aCons (gVar 1) (aCons (gVar 2) aNil))) (gVar 4)) (tCm dNe (gCall g_checked (aCons (gVar 1) aNil)) (gVar 1))) (sSeq (sRet (gC (.bool false))) sNil) sNil) (sSeq (sRet (gAnd (g2 dEq (g2 dIx (gVar 4) (gC (.int 0))) (gCall g__law_cuts (aCons (gVar 1) (aCons (gTup aNil) aNil)))) (g2 dEq (g2 dIx (gVar 4) (gC (.int 4))) (gCall g__law_twos (aCons (gVar 1) aNil))))) sNil)))))
end DL
/-! part K15q -/
set_option maxHeartbeats 1000000
namespace DL
open PySem
local macro_rules | `(tactic| nofun) => `(tactic| first
  | assumption
  | omega
  | exact lim_of (by omega)
  | exact lim_lt (by omega)
  | ((simp only [List.length_map, List.length_range, List.length_append, List.length_cons, List.length_nil, List.length_replicate, List.length_set, List.length_singleton, List.length_take, List.length_drop, List.length_dropLast]) <;> first | omega | exact lim_of (by omega) | exact lim_lt (by omega))
  | decide
  | fail)
local macro_rules | `(tactic| right) => `(tactic| first
  | with_reducible assumption
  | with_reducible exact add_I _ _
  | ((with_reducible apply sub_I); nofun)
  | ((with_reducible apply mul_I); nofun)
  | ((with_reducible apply mod_I); nofun)
  | ((with_reducible apply mod_c); nofun)
  | ((with_reducible apply fdv_I) <;> nofun)
  | with_reducible exact dAdd_ii _ _
  | with_reducible exact dSub_ii _ _
  | with_reducible exact lt_I _ _
  | with_reducible exact le_I _ _
  | with_reducible exact gt_I _ _
  | with_reducible exact ge_I _ _
  | with_reducible exact eq_I _ _
  | with_reducible exact ne_I _ _
  | with_reducible exact eq_R _ _
  | with_reducible exact ne_R _ _
  | with_reducible exact eq_M _ _
  | with_reducible exact ne_M _ _
  | with_reducible exact eq_lR _ _
  | with_reducible exact ne_lR _ _
  | with_reducible exact eq_lL _ _
  | with_reducible exact ne_lL _ _
  | ((with_reducible apply ix_row); (· assumption); (· nofun))
  | ((with_reducible apply ix_cel); (· assumption); (· nofun); (· nofun))
  | ((with_reducible apply ix_R); nofun)
  | ((with_reducible apply ix_M); nofun)
  | ((with_reducible apply ix_lR); nofun)
  | ((with_reducible apply ix_lL); nofun)
  | ((with_reducible apply ix_lM); nofun)
  | ((with_reducible apply len_Ln); assumption)
  | ((with_reducible apply len_row); (· assumption); (· nofun))
  | with_reducible exact len_R _
  | with_reducible exact len_M _
  | with_reducible exact len_lR _
  | with_reducible exact len_lL _
  | with_reducible exact tup_lR _
  | with_reducible exact tup_lM _
  | with_reducible exact tup_Rt _
  | with_reducible exact tup_Mt _
  | with_reducible exact list_R' _
  | with_reducible exact list_M' _
  | ((with_reducible apply app_R); nofun)
  | ((with_reducible apply app_lR); nofun)
  | ((with_reducible apply app_lL); nofun)
  | ((with_reducible apply app_M); nofun)
  | with_reducible exact in_lR _ _
  | with_reducible exact in_R _ _
  | with_reducible exact in_lL _ _
  | with_reducible exact notIn_lR _ _
  | with_reducible exact notIn_R _ _
  | with_reducible exact notIn_lL _ _
  | with_reducible exact sum_R _
  | with_reducible exact sum_lR _
  | ((with_reducible apply tindex_ok); nofun)
  | with_reducible exact truth_bool _
  | with_reducible exact truth_I _
  | with_reducible exact truth_lR _
  | with_reducible exact truth_lL _
  | with_reducible exact truth_lf _ _
  | with_reducible exact isN_R _
  | with_reducible exact isN_M _
  | with_reducible exact isN_n
  | with_reducible exact isN_l _
  | with_reducible exact notN_R _
  | with_reducible exact notN_M _
  | with_reducible exact notN_n
  | with_reducible exact notN_l _
  | with_reducible exact isi_R _
  | with_reducible exact isi_M _
  | with_reducible exact slR_to _ _
  | with_reducible exact slR_from _ _
  | with_reducible exact slM_to _ _
  | with_reducible exact slM_from _ _
  | with_reducible exact slL_to _ _
  | with_reducible exact slL_from _ _
  | with_reducible exact sllR_to _ _
  | with_reducible exact sllR_from _ _
  | with_reducible exact within_I _ _ _
  | ((with_reducible apply shl_I) <;> nofun)
  | with_reducible exact shr_I _ _
  | with_reducible exact and1_I _
  | ((with_reducible apply fdv_c) <;> nofun)
  | with_reducible exact slR_dl _
  | with_reducible exact dNeg_i _
  | with_reducible exact eq_lS _ _
  | with_reducible exact ne_lS _ _
  | with_reducible exact len_lS _
  | with_reducible exact in_lS _ _
  | with_reducible exact notIn_lS _ _
  | ((with_reducible apply ix_lS); nofun)
  | with_reducible exact truth_lS _
  | ((with_reducible apply app_g); nofun)
  | ((with_reducible apply app_gt); nofun)
  | fail)
local macro_rules | `(tactic| left) => `(tactic| first
  | ((with_reducible apply ev_var); exact rfl)
  | with_reducible exact ev_lit _ _
  | with_reducible exact ev_C _ _
  | ((with_reducible apply g_atM); (· left); (· assumption); (· left); (· left); (· nofun); (· nofun))
  | ((with_reducible apply ev_g2); (· left); (· left); (· right))
  | ((with_reducible apply ev_g1); (· left); (· right))
  | ((with_reducible apply ev_call1); (· left); (· right))
  | ((with_reducible apply ev_callF); (· left); (· right))
  | with_reducible exact ev_a0 _
  | ((with_reducible apply ev_a1); (· left); (· left))
  | with_reducible exact ev_aI0 _
  | ((with_reducible apply ev_aI1); (· left); (· left))
  | with_reducible exact ev_aR0 _
  | ((with_reducible apply ev_aR1); (· left); (· left))
  | ((with_reducible apply ev_tupI); (· left); (· nofun))
  | ((with_reducible apply ev_tupR); (· left); (· nofun))
  | ((with_reducible apply ev_tup); (· left); (· nofun))
  | ((with_reducible apply ev_lstI); (· left); (· nofun))
  | ((with_reducible apply ev_lstR); (· left); (· nofun))
  | ((with_reducible apply ev_lst); (· left); (· nofun))
  | ((with_reducible apply ev_not); (· left); (· right))
  | ((with_reducible apply ev_andB); (· left); (· (intro _; left)))
  | ((with_reducible apply ev_orB); (· left); (· (intro _; left)))
  | ((with_reducible apply ev_M); (· left); (· rfl); (· left); (· right))
  | ((with_reducible apply ev_sl); (· left); (· left); (· left); (· right))
  | with_reducible exact ev_oNo _
  | ((with_reducible apply ev_oSm); left)
  | ((with_reducible apply ev_lRg); left)
  | ((with_reducible apply ev_tRg); left)
  | with_reducible exact Eq.refl (tYs _)
  | ((with_reducible apply ts_cm); (· left); (· left); (· right))
  | ((with_reducible apply ts_and); (· left); (· (intro _; left)))
  | ((with_reducible apply ts_or); (· left); (· (intro _; left)))
  | ((with_reducible apply ts_not); left)
  | ((with_reducible apply ts_tru); (· left); (· right))
  | ((with_reducible apply tt_val); left)
  | ((with_reducible apply tt_chn); (· left); (· left); (· right); (· (intro _; left)); (· (intro _; right)))
  | ((with_reducible apply it_rng1); (· left); (· nofun))
  | ((with_reducible apply it_rng2); (· left); (· left); (· nofun); (· nofun))
  | ((with_reducible apply it_R); left)
  | ((with_reducible apply it_M); left)
  | ((with_reducible apply it_list); left)
  | ((with_reducible apply it_tup); left)
  | ((with_reducible apply it_enMn); (· left); (· exact Lat.len (by assumption)))
  | ((with_reducible apply it_zpR); (· left); (· left); (· nofun); (· nofun))
  | ((with_reducible apply it_zpM); (· left); (· left); (· nofun); (· nofun))
  | ((with_reducible apply it_enRn); (· left); (· exact Lat.rlen (by assumption) (by nofun)))
  | ((with_reducible apply it_enR); left)
  | ((with_reducible apply it_enM); left)
  | ((with_reducible apply it_enlR); left)
  | ((with_reducible apply it_enL); left)
  | ((with_reducible apply ev_lcmI); (· left); (· nofun); (· infer_instance))
  | ((with_reducible apply ev_lcmR); (· left); (· nofun); (· infer_instance))
  | ((with_reducible apply ev_lcmL); (· left); (· nofun); (· infer_instance))
  | ((with_reducible apply ev_lcm); (· left); (· nofun); (· infer_instance))
  | ((with_reducible apply ev_lcpI); (· left); (· nofun); (· infer_instance))
  | ((with_reducible apply ev_lcf); (· left); (· nofun); (· (intro _; rfl)); (· infer_instance))
  | ((with_reducible apply ev_lc); (· left); (· nofun); (· infer_instance))
  | fail)
local macro_rules | `(tactic| infer_instance) => `(tactic| (intro a ha; (try dsimp only [wipeE, List.set_cons_succ, List.set_cons_zero]); (first | (have h1 := List.mem_range.mp ha) | (have h1 := Lat.row (by assumption) _ ha) | skip); first | left | (constructor; (· left); (· (intro hp; left)))))
local macro_rules | `(tactic| and_intros) => `(tactic| first
  | ((with_reducible apply run_set); (· left); (try dsimp only [List.set_cons_succ, List.set_cons_zero]))
  | ((with_reducible apply run_expr); (· left))
  | ((with_reducible apply run_ret); (· left))
  | (with_reducible apply run_skip)
  | (with_reducible apply run_seq)
  | (with_reducible apply run_end))
variable {n : Nat} {m : List (List Nat)}
/-! ### what the lists are -/
structure GoodL (e : D) : Prop where
  dp : dpD 2 e = true
  lay : e.canLay0 = true
  dep : e.depth ≤ 10
theorem nolAll_map {α : Type} (f : α → D) (h : ∀ a, nolD (f a) = true) : ∀ xs : List α, nolAll (xs.map f) = true
  | [] => rfl
  | x :: xs => by
    rw [List.map_cons]
    unfold nolAll
    rw [h, nolAll_map f h xs]
    rfl
theorem nol_I (x : Nat) : nolD (dI x) = true := by simp [nolD]
theorem nol_R (r : List Nat) : nolD (dR r) = true := by
  show nolD (.tuple (r.map dI)) = true
  simp only [nolD]
  exact nolAll_map dI nol_I r
theorem nol_M (m : List (List Nat)) : nolD (dM m) = true := by
  show nolD (.tuple (m.map dR)) = true
  simp only [nolD]
  exact nolAll_map dR nol_R m
theorem dp_of {d : D} (h : nolD d = true) (k : Nat) : dpD k d = true := by
  cases k with
  | zero => exact h
  | succ k =>
    cases d with
    | list ds => simp [nolD] at h
    | _ => exact h
theorem dp_list {α : Type} {f : α → D} {k : Nat} {xs : List α} (hl : xs.length ≤ lim) (h : ∀ a ∈ xs, dpD k (f a) = true) : dpD (k + 1) (.list (xs.map f)) = true := by
  show (decide ((xs.map f).length ≤ lim) && (xs.map f).all (dpD k)) = true
  rw [List.length_map, decide_eq_true hl, Bool.true_and, List.all_eq_true]
  intro d hd
  obtain ⟨a, ha, rfl⟩ := List.mem_map.mp hd
  exact h a ha
theorem good_of {α : Type} {f : α → D} {xs : List α} (hl : xs.length ≤ lim) (h1 : ∀ a ∈ xs, dpD 1 (f a) = true) (h2 : ∀ a, (f a).canLay0 = true) (h3 : ∀ a, (f a).depth ≤ 2) : GoodL (.list (xs.map f)) := by
  refine ⟨dp_list hl h1, ?_, ?_⟩
  · simp only [PyData.canLay0]
    exact lay_map f h2 xs
  · have := dep_map f 2 h3 xs
    simp only [PyData.depth]
    omega
theorem good_lL {xs : List (List Nat)} (hl : xs.length ≤ lim) : GoodL (lL xs) := good_of hl (fun a _ => dp_of (nol_R a) 1) lay_R (fun a => Nat.le_trans (dep_R a) (by decide))
theorem good_lS {xs : List (List (List Nat))} (hl : xs.length ≤ lim) : GoodL (lS xs) := good_of hl (fun a _ => dp_of (nol_M a) 1) lay_M dep_M
theorem good_lR {r : List Nat} (hl : r.length ≤ lim) : GoodL (lR r) := good_of hl (fun a _ => dp_of (nol_I a) 1) lay_I (fun a => Nat.le_trans (dep_I a) (by decide))
theorem lay_lR' (r : List Nat) : (lR r).canLay0 = true := by
  simp only [PyData.canLay0]
  exact lay_map dI lay_I r
theorem dep_lR' (r : List Nat) : (lR r).depth ≤ 1 := by
  have := dep_map dI 0 dep_I r
  simp only [PyData.depth]
  omega
theorem good_lM {R : List (List Nat)} (hl : R.length ≤ lim) (h : ∀ r ∈ R, r.length ≤ lim) : GoodL (lM R) := good_of hl (fun a ha => dp_list (h a ha) fun x _ => nol_I x) lay_lR' (fun a => Nat.le_trans (dep_lR' a) (by decide))
/-- a list of such lists -/
theorem good_all {ds : List D} (hl : ds.length ≤ lim) (h : ∀ e ∈ ds, GoodL e) : dpD 3 (.list ds) = true ∧ SeqAt.shaped (.list ds) = true ∧ (PyData.list ds).canLay0 = true := by
  refine ⟨?_, ?_⟩
  · show (decide (ds.length ≤ lim) && ds.all (dpD 2)) = true
    rw [decide_eq_true hl, Bool.true_and, List.all_eq_true]
    exact fun d hd => (h d hd).dp
  · have lay : ∀ {ds : List D}, (∀ e ∈ ds, GoodL e) → PyData.canLayAll0 ds = true := by
      intro ds
      induction ds with
      | nil => intro _; rfl
      | cons d ds ih =>
        intro h
        simp only [PyData.canLayAll0]
        rw [(h d List.mem_cons_self).lay, ih fun e he => h e (List.mem_cons_of_mem _ he)]
        rfl
    have dep : ∀ {ds : List D}, (∀ e ∈ ds, GoodL e) → PyData.depthAll ds ≤ 10 := by
      intro ds
      induction ds with
      | nil => intro _; simp [PyData.depthAll]
      | cons d ds ih =>
        intro h
        simp only [PyData.depthAll]
        have h1 := (h d List.mem_cons_self).dep
        have h2 := ih fun e he => h e (List.mem_cons_of_mem _ he)
        omega
    refine ⟨shaped_of (by simp only [PyData.canLay0]; exact lay h) ?_, by simp only [PyData.canLay0]; exact lay h⟩
    have := dep h
    simp only [PyData.depth]
    omega
theorem scarce_3 : g_scarce [.int 3, .tuple [.tuple [.int 0, .int 1], .tuple [.int 1, .int 0]]] = .ok (lR [2]) := by kernel_rfl
theorem marks_len (m : List (List Nat)) (h5 : n ≤ 5) : (srtM m n).length ≤ lim := by
  unfold srtM
  rw [List.length_mergeSort]
  exact Nat.le_trans (allM_len m (by omega)) (by decide)
theorem rings_len {s : Nat → Nat} {R : List (List Nat)} (h : RingsOk s n R []) (h5 : n ≤ 5) : R.length ≤ 5 ∧ ∀ r ∈ R, r.length ≤ 5 := by
  have hp := h.all.length_eq
  rw [List.append_nil, List.length_range] at hp
  have key : ∀ {Q : List (List Nat)}, (∀ r ∈ Q, r ≠ []) → Q.length ≤ Q.flatten.length ∧ ∀ r ∈ Q, r.length ≤ Q.flatten.length := by
    intro Q
    induction Q with
    | nil => intro _; exact ⟨Nat.le_refl _, fun r hr => nomatch hr⟩
    | cons q Q ih =>
      intro hq
      obtain ⟨i1, i2⟩ := ih fun r hr => hq r (List.mem_cons_of_mem _ hr)
      have hq0 := List.length_pos_iff.mpr (hq q List.mem_cons_self)
      rw [List.flatten_cons, List.length_append, List.length_cons]
      refine ⟨by omega, fun r hr => ?_⟩
      rcases List.mem_cons.mp hr with rfl | hr
      · omega
      · have := i2 r hr
        omega
  obtain ⟨k1, k2⟩ := key fun r hr => (h.ring r hr).1
  exact ⟨by omega, fun r hr => by have := k2 r hr; omega⟩
theorem lists_ok (h : Lat n m) (h1 : 1 ≤ n) (h5 : n ≤ 5) {r : Nat} (hr : r < n) : ∃ ds, g__law_lists [dM m, dI r] = .ok (.list ds) ∧ ds.length ≤ lim ∧ (∀ e ∈ ds, GoodL e) ∧ ds[0]? = some (lL (cutsOf m n)) ∧ ds[4]? = some (lL (twosL m n)) := by
  suffices hs : Run m__law_lists [some (dM m), some (dI r), none] (fun o => ∃ ds, o.rz = .ok (.list ds) ∧ ds.length ≤ lim ∧ (∀ e ∈ ds, GoodL e) ∧ ds[0]? = some (lL (cutsOf m n)) ∧ ds[4]? = some (lL (twosL m n))) from run_out (P := fun o => ∃ ds, o.rz = .ok (.list ds) ∧ ds.length ≤ lim ∧ (∀ e ∈ ds, GoodL e) ∧ ds[0]? = some (lL (cutsOf m n)) ∧ ds[4]? = some (lL (twosL m n))) hs
  unfold m__law_lists
  have c1 := all_cuts_ok h h1 (by omega)
  have c2 := cuts_at_ok h h1 (by omega) hr (c := 0) (by omega)
  obtain ⟨best, c3, hB⟩ := most_ok h h1 h5
  have c4 := all_marks_ok h h1 (by omega)
  have c5 := twosP_ok h h1 (by omega)
  have cl := cuts_lim m (n := n) (by omega)
  have g1 : GoodL (lL (cutsOf m n)) := good_lL cl
  have g2 : GoodL (lL ((cutsOf m n).filter fun x => decide (x.getD r 0 = 0))) := good_lL (Nat.le_trans (List.length_filter_le _ _) cl)
  have g3 : GoodL (lL best) := good_lL (Nat.le_trans (hB.fam.len fun x hx => by rw [cuts_len x hx]; exact h1) cl)
  have g4 : GoodL (lS (srtM m n)) := good_lS (marks_len m h5)
  have g5 : GoodL (lL (twosL m n)) := good_lL (Nat.le_trans (twos_len m (n := n) (by omega)) (by decide))
  obtain ⟨ds0, e0, l0, q0, a0, b0⟩ : ∃ ds0 : List D, ds0 = [lL (cutsOf m n), lL ((cutsOf m n).filter fun x => decide (x.getD r 0 = 0)), lL best, lS (srtM m n), lL (twosL m n)] ∧ ds0.length = 5 ∧ (∀ e ∈ ds0, GoodL e) ∧ ds0[0]? = some (lL (cutsOf m n)) ∧ ds0[4]? = some (lL (twosL m n)) := ⟨_, rfl, rfl, fun e he => by
    simp only [List.mem_cons, List.not_mem_nil, or_false] at he
    rcases he with rfl | rfl | rfl | rfl | rfl
    · exact g1
    · exact g2
    · exact g3
    · exact g4
    · exact g5, rfl, rfl⟩
  refine run_set (d := .list ds0) ?_ ?_
  · rw [e0]
    exact ev_lst (ev_a1 (ev_callF (ev_a1 rfl (ev_a0 _)) c1) (ev_a1 (ev_callF (ev_a1 rfl (ev_a1 rfl (ev_a1 rfl (ev_a0 _)))) c2) (ev_a1 (ev_callF (ev_a1 rfl (ev_a0 _)) c3) (ev_a1 (ev_callF (ev_a1 rfl (ev_a0 _)) c4) (ev_a1 (ev_callF (ev_a1 rfl (ev_a0 _)) c5) (ev_a0 _)))))) (lim_of (by simp))
  dsimp only [List.set_cons_succ, List.set_cons_zero]
  have keep : ∀ {ds es : List D} {L : D} {i : Nat}, ds[i]? = some L → (ds ++ es)[i]? = some L := fun {ds es L i} e => by
    rw [List.getElem?_append_left (List.getElem?_eq_some_iff.mp e).1]
    exact e
  refine run_join (fun ρ => ∃ ds, ρ = [some (dM m), some (dI r), some (.list ds)] ∧ ds.length ≤ 7 ∧ (∀ e ∈ ds, GoodL e) ∧ ds[0]? = some (lL (cutsOf m n)) ∧ ds[4]? = some (lL (twosL m n))) ?_ ?_
  · obtain ⟨d, hd, hp⟩ := parting_ok h h1 (by omega)
    cases hp with
    | none hg =>
      have hm := mate_none hd
      refine run_iff (k := false) (tt_val (ev_g1 (ev_callF (ev_a1 rfl (ev_a0 _)) hm) notN_n)) (fun e => by cases e) fun _ => run_end ⟨ds0, rfl, by omega, q0, a0, b0⟩
    | some t ht htl =>
      have hm := mate_some h (by omega) hd fun c hc => (fun k => ⟨k.1, k.2.1⟩) (mem_cuts.mp (ht.fam.sub c hc))
      have ml := mate_lat h ht htl
      have mo := mate_orth h ht htl
      generalize mateOf t n = q at hm ml mo
      have hcb := cuts_by_ok h ml h1 (by omega) mo
      refine run_iff (k := true) (tt_val (ev_g1 (ev_callF (ev_a1 rfl (ev_a0 _)) hm) (notN_M q))) (fun _ => ?_) fun e => by cases e
      refine run_set (d := .list (ds0 ++ [lL t, lL ((List.range n).map fun x => q.map fun r => r.idxOf x)])) ?_ (run_end ⟨_, rfl, by rw [List.length_append, l0]; simp, fun e he => ?_, keep a0, keep b0⟩)
      · refine ev_g2 (x := .list ds0) rfl (ev_lst (ev_a1 (ev_callF (ev_a1 rfl (ev_a0 _)) hd) (ev_a1 (ev_callF (ev_a1 rfl (ev_a1 (ev_callF (ev_a1 rfl (ev_a0 _)) hm) (ev_a0 _))) hcb) (ev_a0 _))) (lim_of (by simp))) (app_g (lim_of (by rw [l0]; simp)))
      · rcases List.mem_append.mp he with z | z
        · exact q0 e z
        · simp only [List.mem_cons, List.not_mem_nil, or_false] at z
          rcases z with rfl | rfl
          · exact good_lL (lim_of (by omega))
          · exact good_lL (lim_of (by simp; omega))
  rintro _ ⟨ds1, rfl, l1, q1, a1, b1⟩
  refine run_join (fun ρ => ∃ ds, ρ = [some (dM m), some (dI r), some (.list ds)] ∧ ds.length ≤ 13 ∧ (∀ e ∈ ds, GoodL e) ∧ ds[0]? = some (lL (cutsOf m n)) ∧ ds[4]? = some (lL (twosL m n))) ?_ ?_
  · refine run_iff (k := decide (1 < n)) (ts_cm (ev_call1 rfl (len_Ln h)) (ev_lit 1 _) (gt_I _ _)) (fun e => ?_) fun _ => run_end ⟨ds1, rfl, by omega, q1, a1, b1⟩
    obtain ⟨R, hR, hro⟩ := rings_ok h h1 (by omega) (a := 0) (b := 1) (by omega) (of_decide_eq_true e) (by decide)
    obtain ⟨rl, rs⟩ := rings_len hro h5
    have lR' : (R.map fun r => lR r).length = R.length := List.length_map ..
    refine run_set (d := .list ((ds1 ++ R.map lR) ++ [lM R])) ?_ (run_end ⟨_, rfl, by rw [List.length_append, List.length_append, List.length_map]; simp; omega, fun e he => ?_, keep (keep a1), keep (keep b1)⟩)
    · have hr := ev_callF (f := g_rings) (as := aCons (gVar 0) (aCons (gC (.int 0)) (aCons (gC (.int 1)) aNil))) (ρ := [some (dM m), some (dI r), some (.list ds1)]) (ev_a1 rfl (ev_a1 rfl (ev_a1 rfl (ev_a0 _)))) hR
      refine ev_g2 (x := .list (ds1 ++ R.map lR)) (ev_g2 (x := .list ds1) rfl hr (app_g (lim_of (by rw [List.length_map]; omega)))) (ev_lst (ev_a1 hr (ev_a0 _)) (lim_of (by simp))) (app_g (lim_of (by rw [List.length_append, List.length_map]; simp; omega)))
    · rcases List.mem_append.mp he with z | z
      · rcases List.mem_append.mp z with z | z
        · exact q1 e z
        · obtain ⟨a, ha, rfl⟩ := List.mem_map.mp z
          exact good_lR (lim_of (by have := rs a ha; omega))
      · rw [List.mem_singleton.mp z]
        exact good_lM (lim_of (by omega)) fun a ha => lim_of (by have := rs a ha; omega)
  rintro _ ⟨ds2, rfl, l2, q2, a2, b2⟩
  refine run_ret (d := .list (ds2 ++ [lR [2]])) (ev_g2 (x := .list ds2) rfl (ev_lst (ev_a1 (ev_callF (ev_a1 (ev_C _ _) (ev_a1 (ev_tup (ev_a1 (ev_tup (ev_a1 (ev_C _ _) (ev_a1 (ev_C _ _) (ev_a0 _))) (by decide)) (ev_a1 (ev_tup (ev_a1 (ev_C _ _) (ev_a1 (ev_C _ _) (ev_a0 _))) (by decide)) (ev_a0 _))) (by decide)) (ev_a0 _))) scarce_3) (ev_a0 _)) (by decide)) (app_g (lim_of (by simp; omega)))) ⟨_, rfl, lim_of (by simp; omega), fun e he => ?_, keep a2, keep b2⟩
  rcases List.mem_append.mp he with z | z
  · exact q2 e z
  · rw [List.mem_singleton.mp z]
    exact good_lR (by decide)
theorem law_true (ns : List Int) (hl : ns.length ≤ 63) : (m_law (startE 6 [ro ns])).rz = .ok (.bool true) := by
  have hc0 := cell_ok ns 0
  have hc1 := cell_ok ns 1
  refine rz_run (m := m_law) (ρ := [some (ro ns), none, none, none, none, none]) ?_
  have tab : ∀ K : Nat, K < 6 → ∃ n, 1 ≤ n ∧ n ≤ 5 ∧ dIx (lR [4, 3, 5, 4, 2, 1]) (dI K) = .ok (dI n) := by
    intro K hK
    refine ⟨[4, 3, 5, 4, 2, 1].getD K 0, ?_⟩
    have : ∀ K, K < 6 → 1 ≤ [4, 3, 5, 4, 2, 1].getD K 0 ∧ [4, 3, 5, 4, 2, 1].getD K 0 ≤ 5 := by decide
    exact ⟨(this K hK).1, (this K hK).2, ix_lR hK⟩
  obtain ⟨n, h1, h5, hn⟩ := tab (ns.getD 0 0 % ((6 : Nat) : Int)).toNat (by omega)
  obtain ⟨m, hm, h⟩ := sized_ok ns 2 h1 (by omega)
  unfold m_law
  have lm := len_Ln h
  refine run_set (d := dM m) (by left) ?_
  dsimp only [List.set_cons_succ, List.set_cons_zero]
  obtain ⟨r, hr⟩ : ∃ r : Nat, r = (ns.getD 1 0 % (n : Int)).toNat := ⟨_, rfl⟩
  have hrn : r < n := by
    rw [hr]
    have := Int.emod_lt_of_pos (ns.getD 1 0) (by omega : (0 : Int) < (n : Int))
    omega
  refine run_set (d := dI r) ?_ ?_
  · rw [hr]
    left
  dsimp only [List.set_cons_succ, List.set_cons_zero]
  obtain ⟨ds, hds, dl, dg, da, db⟩ := lists_ok h h1 h5 hrn
  obtain ⟨gp, gs, lay⟩ := good_all dl dg
  have eR : rsE [some (ro ns), some (dM m), some (dI r), none, none, none] = [none, some (dM m), some (dI r), none, none, none] := by
    show [if nolD (ro ns) = true then some (ro ns) else none, if nolD (dM m) = true then some (dM m) else none, if nolD (dI r) = true then some (dI r) else none, none, none, none] = _
    rw [nol_M, nol_I, show nolD (ro ns) = false from by simp [nolD]]
    rfl
  have eS : sRows 3 4 5 (gCall g__law_lists (aCons (gVar 1) (aCons (gVar 2) aNil))) [some (ro ns), some (dM m), some (dI r), none, none, none] = .nx [some (ro ns), some (dM m), some (dI r), none, some (.list ds), none] := by
    unfold sRows
    rw [eR, ev_callF (f := g__law_lists) (ev_a1 rfl (ev_a1 rfl (ev_a0 _))) hds]
    simp only
    rw [gp]
    rfl
  refine run_nx eS ?_
  have hck := lat_checked h h1 (by omega)
  have q1 : dNe (.list ds) (.list ds) = .ok (.bool false) := by
    unfold dNe
    rw [gs, SeqAt.eqv_refl _ lay]
    rfl
  have q2 : dNe (dM m) (dM m) = .ok (.bool false) := by rw [ne_M]; simp
  refine run_ifF (k := false) (ts_or (k := false) (l := false) (ts_cm (x := .list ds) (y := .list ds) (by left) rfl q1) fun _ => ts_cm (x := dM m) (y := dM m) (by left) rfl q2) rfl (run_skip ?_)
  have hcu : g__law_cuts [dM m, dR []] = .ok (lL (cutsOf m n)) := law_cuts_ok h (by omega) n 9 [] (by simp) (fun x hx => by cases hx) (by omega)
  have htw : g__law_twos [dM m] = .ok (lL (twosL m n)) := twos_ok h.len (fun i hi => h.rlen hi) (by omega)
  have x0 : dIx (.list ds) (dI 0) = .ok (lL (cutsOf m n)) := ix_l (k := 0) da
  have x4 : dIx (.list ds) (dI 4) = .ok (lL (twosL m n)) := ix_l (k := 4) db
  refine run_ret (d := .bool true) (gAnd_ok (ev_g2 (x := lL (cutsOf m n)) (y := lL (cutsOf m n)) (ev_g2 (x := .list ds) (y := dI 0) rfl (ev_lit 0 _) x0) (ev_callF (ev_a1 (x := dM m) rfl (ev_a1 (x := dR []) rfl (ev_a0 _))) hcu) ((eq_lL _ _).trans (by simp))) (ev_g2 (x := lL (twosL m n)) (y := lL (twosL m n)) (ev_g2 (x := .list ds) (y := dI 4) rfl (ev_lit 4 _) x4) (ev_callF (ev_a1 (x := dM m) rfl (ev_a0 _)) htw) ((eq_lL _ _).trans (by simp)))) rfl
theorem eq_law : ∀ ds, ds.length = 1 → gLaw ds = .st ∨ (m_law (startE 6 ds)).rz = gLaw ds := law_end law_true
end DL
/-! part K15 -/
namespace DL
open PySem PySem.Spec PyProof.Rows L2
def topS (i : Nat) : Stmt := PySem.Challenge.pw_matesquare_k15_nothing_is_kept.main.body.getD i (.Pass ⟨0, 0, 0, 0⟩)
structure Bl (mg : Str → Option Value) : Prop where
  n_bool : mg "bool" = none
  n_enumerate : mg "enumerate" = none
  n_int : mg "int" = none
  n_isinstance : mg "isinstance" = none
  n_len : mg "len" = none
  n_list : mg "list" = none
  n_range : mg "range" = none
  n_set : mg "set" = none
  n_sorted : mg "sorted" = none
  n_tuple : mg "tuple" = none
  n_zip : mg "zip" = none
  c_MOST : ∃ t : Tok, mg "MOST" = some (.int 9 t)
  c_MOST_CUT : ∃ t : Tok, mg "MOST_CUT" = some (.int 7 t)
section
variable {P : Program} {w : World} {K : PySem.W.Frag} {mg : Str → Option Value} {base : Heap}
abbrev s__law_cell : Stmt := topS 44
theorem sc__law_cell : FnScope ["_law_script", "_law_k"] ["_law_script", "_law_k"] (defScope s__law_cell) := ⟨rfl, rfl, rfl, by decide +kernel, rfl, by decide +kernel, by decide +kernel⟩
theorem cal__law_cell (B : Bl mg) (F : FunAt K mg "_law_cell" s__law_cell ["_law_script", "_law_k"]) : Cal P w K mg base 1 "_law_cell" ["_law_script", "_law_k"] g__law_cell :=
  cal_of (k := 0) (N := ["_law_script", "_law_k"]) (o' := []) F sc__law_cell (by decide) (fun f cdv A outer s H E hr tk po => by
    exact (ds_cons (o' := []) (ds_if (dt_cmp od_lt (de_var 1) (de_blt cd_len B.n_len PySem.boot_len (da_cons (de_var 0) da_nil))) (ds_cons (ds_ret (de_ix (de_var 0) (de_var 1))) ds_nil) ds_nil) (ds_cons (ds_ret de_int) ds_nil))) eq__law_cell
abbrev s__law_first : Stmt := topS 49
theorem sc__law_first : FnScope ["_law_many", "_law_way", "_law_row", "_law_column"] ["_law_many", "_law_way"] (defScope s__law_first) := ⟨rfl, rfl, rfl, by decide +kernel, rfl, by decide +kernel, by decide +kernel⟩
theorem cal__law_first (B : Bl mg) (F : FunAt K mg "_law_first" s__law_first ["_law_many", "_law_way"]) : Cal P w K mg base 1 "_law_first" ["_law_many", "_law_way"] g__law_first :=
  cal_of (k := 0) (N := ["_law_many", "_law_way", "_law_row", "_law_column"]) (o' := []) F sc__law_first (by decide) (fun f cdv A outer s H E hr tk po => by
    exact (ds_cons (o' := []) (ds_if (dt_w (dw_and (dt_cmp (od_eq hr.units) (de_var 0) de_int) (dw_and1 (dt_cmp (od_eq hr.units) (de_bin od_mod (de_var 1) de_int) de_int)))) (ds_cons (ds_ret (de_tup (da_cons (de_tup (da_cons de_int (da_cons de_int (da_cons de_int (da_cons de_int (da_cons de_int da_nil)))))) (da_cons (de_tup (da_cons de_int (da_cons de_int (da_cons de_int (da_cons de_int (da_cons de_int da_nil)))))) (da_cons (de_tup (da_cons de_int (da_cons de_int (da_cons de_int (da_cons de_int (da_cons de_int da_nil)))))) (da_cons (de_tup (da_cons de_int (da_cons de_int (da_cons de_int (da_cons de_int (da_cons de_int da_nil)))))) (da_cons (de_tup (da_cons de_int (da_cons de_int (da_cons de_int (da_cons de_int (da_cons de_int da_nil)))))) da_nil))))))) ds_nil) ds_nil) (ds_cons (o' := []) (ds_if (dt_w (dw_and (dt_cmp (od_eq hr.units) (de_var 0) de_int) (dw_and1 (dt_cmp (od_eq hr.units) (de_bin od_mod (de_var 1) de_int) de_int)))) (ds_cons (ds_ret (de_tup (da_cons (de_tup (da_cons de_int (da_cons de_int (da_cons de_int (da_cons de_int da_nil))))) (da_cons (de_tup (da_cons de_int (da_cons de_int (da_cons de_int (da_cons de_int da_nil))))) (da_cons (de_tup (da_cons de_int (da_cons de_int (da_cons de_int (da_cons de_int da_nil))))) (da_cons (de_tup (da_cons de_int (da_cons de_int (da_cons de_int (da_cons de_int da_nil))))) da_nil)))))) ds_nil) ds_nil) (ds_cons (ds_ret (de_ty cd_tuple B.n_tuple boot_tuple (da_cons (de_new (dn_lc (own := [("_law_row", 2)]) rfl sc__law_first.nd (di_rng1 B.n_range (de_var 0)) (blkOk_by (by kernel_rfl)) (fun _ _ _ _ _ => (dg_name 2 sc__law_first.nd)) (fun _ _ _ _ _ => dts_nil) (fun _ _ _ _ _ => (de_ty cd_tuple B.n_tuple boot_tuple (da_cons (de_new (dn_lc (own := [("_law_column", 3)]) rfl sc__law_first.nd (di_rng1 B.n_range (de_var 0)) (blkOk_by (by kernel_rfl)) (fun _ _ _ _ _ => (dg_name 3 sc__law_first.nd)) (fun _ _ _ _ _ => dts_nil) (fun _ _ _ _ _ => (de_bin od_mod (de_bin od_add (de_var 2) (de_var 3)) (de_var 0))))) da_nil))))) da_nil))) ds_nil)))) eq__law_first
abbrev s__law_mix : Stmt := topS 45
theorem sc__law_mix : FnScope ["_law_cell_here", "_law_prime", "_law_many"] ["_law_cell_here", "_law_prime", "_law_many"] (defScope s__law_mix) := ⟨rfl, rfl, rfl, by decide +kernel, rfl, by decide +kernel, by decide +kernel⟩
theorem cal__law_mix (B : Bl mg) (F : FunAt K mg "_law_mix" s__law_mix ["_law_cell_here", "_law_prime", "_law_many"]) : Cal P w K mg base 1 "_law_mix" ["_law_cell_here", "_law_prime", "_law_many"] g__law_mix :=
  cal_of (k := 0) (N := ["_law_cell_here", "_law_prime", "_law_many"]) (o' := []) F sc__law_mix (by decide) (fun f cdv A outer s H E hr tk po => by
    exact (ds_cons (ds_ret (de_bin od_mod (de_bin od_mod (de_bin od_mul (de_var 0) de_int) (de_var 1)) (de_var 2))) ds_nil)) eq__law_mix
abbrev s__law_twos : Stmt := topS 50
theorem sc__law_twos : FnScope ["_law_square", "_law_found", "_law_many", "_law_one", "_law_two", "_law_left", "_law_right"] ["_law_square"] (defScope s__law_twos) := ⟨rfl, rfl, rfl, by decide +kernel, rfl, by decide +kernel, by decide +kernel⟩
theorem cal__law_twos (B : Bl mg) (F : FunAt K mg "_law_twos" s__law_twos ["_law_square"]) : Cal P w K mg base 1 "_law_twos" ["_law_square"] g__law_twos :=
  cal_of (k := 0) (N := ["_law_square", "_law_found", "_law_many", "_law_one", "_law_two", "_law_left", "_law_right"]) (o' := []) F sc__law_twos (by decide) (fun f cdv A outer s H E hr tk po => by
    exact (ds_cons (o' := [(1, 1)]) (ds_setN (o := []) (o' := [(1, 1)]) (n := 1) (i := 1) (dn_lst da_nil) sc__law_twos.nd (by intro j; by_cases h : j = 1 <;> simp [ow, h])) (ds_cons (o' := [(1, 1)]) (ds_set (o := [(1, 1)]) (de_blt cd_len B.n_len PySem.boot_len (da_cons (de_var 0) da_nil)) (dg_name 2 sc__law_twos.nd)) (ds_cons (o' := [(1, 1)]) (ds_for (o := [(1, 1)]) po rfl (di_rng1 B.n_range (de_var 2)) (dg_name 3 sc__law_twos.nd) (ds_cons (o' := [(1, 1)]) (ds_for (o := [(1, 1)]) po rfl (di_rng2 B.n_range (de_bin od_add (de_var 3) de_int) (de_var 2)) (dg_name 4 sc__law_twos.nd) (ds_cons (o' := [(1, 1)]) (ds_for (o := [(1, 1)]) po rfl (di_rng1 B.n_range (de_var 2)) (dg_name 5 sc__law_twos.nd) (ds_cons (o' := [(1, 1)]) (ds_for (o := [(1, 1)]) po rfl (di_rng2 B.n_range (de_bin od_add (de_var 5) de_int) (de_var 2)) (dg_name 6 sc__law_twos.nd) (ds_cons (o' := [(1, 1)]) (ds_if (dt_w (dw_and (dt_cmp (od_eq hr.units) (de_ix (de_ix (de_var 0) (de_var 3)) (de_var 5)) (de_ix (de_ix (de_var 0) (de_var 4)) (de_var 6))) (dw_and1 (dt_cmp (od_eq hr.units) (de_ix (de_ix (de_var 0) (de_var 3)) (de_var 6)) (de_ix (de_ix (de_var 0) (de_var 4)) (de_var 5)))))) (ds_cons (o' := [(1, 1)]) (ds_app (o := [(1, 1)]) (i := 1) (de_tup (da_cons (de_var 3) (da_cons (de_var 4) (da_cons (de_var 5) (da_cons (de_var 6) da_nil)))))) ds_nil) ds_nil) ds_nil)) ds_nil)) ds_nil)) ds_nil)) (ds_cons (ds_ret (de_var 1)) ds_nil))))) eq__law_twos
abbrev s__law_switched : Stmt := topS 51
theorem sc__law_switched : FnScope ["_law_square", "_law_two", "_law_rows", "_law_row", "_law_left"] ["_law_square", "_law_two"] (defScope s__law_switched) := ⟨rfl, rfl, rfl, by decide +kernel, rfl, by decide +kernel, by decide +kernel⟩
theorem cal__law_switched (B : Bl mg) (F : FunAt K mg "_law_switched" s__law_switched ["_law_square", "_law_two"]) : Cal P w K mg base 1 "_law_switched" ["_law_square", "_law_two"] g__law_switched :=
  cal_of (k := 0) (N := ["_law_square", "_law_two", "_law_rows", "_law_row", "_law_left"]) (o' := []) F sc__law_switched (by decide) (fun f cdv A outer s H E hr tk po => by
    exact (ds_cons (o' := [(2, 2)]) (ds_setLc1 (o := []) (o' := [(2, 2)]) (i := 2) (own := [("_law_row", 3)]) rfl sc__law_switched.nd (di_seq (de_var 0)) (blkOk_by (by kernel_rfl)) (fun _ _ _ _ _ => (dg_name 3 sc__law_switched.nd)) (fun _ _ _ _ _ => dts_nil) (fun _ _ _ _ _ => (dn_list B.n_list (de_var 3))) (by intro j; by_cases h : j = 2 <;> simp [ow, h])) (ds_cons (o' := [(2, 2)]) (ds_for (o := [(2, 2)]) po rfl (di_seq (de_sl (de_var 1) do_none (do_some de_int))) (dg_name 3 sc__law_switched.nd) (ds_cons (o' := [(2, 2)]) (ds_setB (o := [(2, 2)]) (i := 4) (de_ix (de_ix (de_var 2) (de_var 3)) (de_ix (de_var 1) de_int)) sc__law_switched.nd) (ds_cons (o' := [(2, 2)]) (ds_put2 (o := [(2, 2)]) (i := 2) (de_ix (de_ix (de_var 2) (de_var 3)) (de_ix (de_var 1) de_int)) (de_var 3) (de_ix (de_var 1) de_int)) (ds_cons (o' := [(2, 2)]) (ds_put2 (o := [(2, 2)]) (i := 2) (de_var 4) (de_var 3) (de_ix (de_var 1) de_int)) ds_nil)))) (ds_cons (ds_ret (de_ty cd_tuple B.n_tuple boot_tuple (da_cons (de_new (dn_lc (own := [("_law_row", 3)]) rfl sc__law_switched.nd (di_seq (de_var 2)) (blkOk_by (by kernel_rfl)) (fun _ _ _ _ _ => (dg_name 3 sc__law_switched.nd)) (fun _ _ _ _ _ => dts_nil) (fun _ _ _ _ _ => (de_ty cd_tuple B.n_tuple boot_tuple (da_cons (de_var 3) da_nil))))) da_nil))) ds_nil)))) eq__law_switched
abbrev s__law_order : Stmt := topS 48
theorem sc__law_order : FnScope ["_law_cell_here", "_law_many", "_law_keys", "_law_k", "_law_key"] ["_law_cell_here", "_law_many"] (defScope s__law_order) := ⟨rfl, rfl, rfl, by decide +kernel, rfl, by decide +kernel, by decide +kernel⟩
theorem cal__law_order (B : Bl mg) (F : FunAt K mg "_law_order" s__law_order ["_law_cell_here", "_law_many"]) (c__law_mix : Cal P w K mg base 1 "_law_mix" ["_law_cell_here", "_law_prime", "_law_many"] g__law_mix) : Cal P w K mg base 2 "_law_order" ["_law_cell_here", "_law_many"] g__law_order :=
  cal_of (k := 1) (N := ["_law_cell_here", "_law_many", "_law_keys", "_law_k", "_law_key"]) (o' := []) F sc__law_order (by decide) (fun f cdv A outer s H E hr tk po => by
    exact (ds_cons (o' := [(2, 1)]) (ds_setLc (o := []) (o' := [(2, 1)]) (i := 2) (own := [("_law_k", 3)]) rfl sc__law_order.nd (di_rng1 B.n_range (de_var 1)) (blkOk_by (by kernel_rfl)) (fun _ _ _ _ _ => (dg_name 3 sc__law_order.nd)) (fun _ _ _ _ _ => dts_nil) (fun _ _ _ _ _ => (de_tup (da_cons (de_cal c__law_mix (hr.mono (by decide)) takes0 (da_cons (de_bin od_add (de_bin od_add (de_var 0) (de_bin od_mul (de_bin od_mul de_int (de_var 3)) (de_var 3))) (de_bin od_mul de_int (de_var 3))) (da_cons de_int (da_cons de_int da_nil)))) (da_cons (de_var 3) da_nil)))) (by intro j; by_cases h : j = 2 <;> simp [ow, h])) (ds_frz (o' := []) 2 (ds_cons (ds_ret (de_ty cd_tuple B.n_tuple boot_tuple (da_cons (de_new (dn_lc (own := [("_law_key", 4)]) rfl sc__law_order.nd (di_seq (de_blt (cd_sorted (u65 hr)) B.n_sorted boot_sorted (da_cons (de_var 2) da_nil))) (blkOk_by (by kernel_rfl)) (fun _ _ _ _ _ => (dg_name 4 sc__law_order.nd)) (fun _ _ _ _ _ => dts_nil) (fun _ _ _ _ _ => (de_ix (de_var 4) de_int)))) da_nil))) ds_nil) (by intro j; by_cases h : j = 2 <;> simp [ow, h])))) eq__law_order
abbrev s__law_renamed : Stmt := topS 52
theorem sc__law_renamed : FnScope ["_law_square", "_law_rows", "_law_columns", "_law_letters", "_law_row", "_law_column"] ["_law_square", "_law_rows", "_law_columns", "_law_letters"] (defScope s__law_renamed) := ⟨rfl, rfl, rfl, by decide +kernel, rfl, by decide +kernel, by decide +kernel⟩
theorem cal__law_renamed (B : Bl mg) (F : FunAt K mg "_law_renamed" s__law_renamed ["_law_square", "_law_rows", "_law_columns", "_law_letters"]) : Cal P w K mg base 1 "_law_renamed" ["_law_square", "_law_rows", "_law_columns", "_law_letters"] g__law_renamed :=
  cal_of (k := 0) (N := ["_law_square", "_law_rows", "_law_columns", "_law_letters", "_law_row", "_law_column"]) (o' := []) F sc__law_renamed (by decide) (fun f cdv A outer s H E hr tk po => by
    exact (ds_cons (ds_ret (de_ty cd_tuple B.n_tuple boot_tuple (da_cons (de_new (dn_lc (own := [("_law_row", 4)]) rfl sc__law_renamed.nd (di_seq (de_var 1)) (blkOk_by (by kernel_rfl)) (fun _ _ _ _ _ => (dg_name 4 sc__law_renamed.nd)) (fun _ _ _ _ _ => dts_nil) (fun _ _ _ _ _ => (de_ty cd_tuple B.n_tuple boot_tuple (da_cons (de_new (dn_lc (own := [("_law_column", 5)]) rfl sc__law_renamed.nd (di_seq (de_var 2)) (blkOk_by (by kernel_rfl)) (fun _ _ _ _ _ => (dg_name 5 sc__law_renamed.nd)) (fun _ _ _ _ _ => dts_nil) (fun _ _ _ _ _ => (de_ix (de_var 3) (de_ix (de_ix (de_var 0) (de_var 4)) (de_var 5)))))) da_nil))))) da_nil))) ds_nil)) eq__law_renamed
abbrev s__law_sized : Stmt := topS 53
theorem sc__law_sized : FnScope ["_law_script", "_law_at", "_law_many", "_law_cell_here", "_law_found", "_law_k", "_law_some", "_law_orders"] ["_law_script", "_law_at", "_law_many"] (defScope s__law_sized) := ⟨rfl, rfl, rfl, by decide +kernel, rfl, by decide +kernel, by decide +kernel⟩
theorem cal__law_sized (B : Bl mg) (F : FunAt K mg "_law_sized" s__law_sized ["_law_script", "_law_at", "_law_many"]) (c__law_cell : Cal P w K mg base 1 "_law_cell" ["_law_script", "_law_k"] g__law_cell) (c__law_first : Cal P w K mg base 1 "_law_first" ["_law_many", "_law_way"] g__law_first) (c__law_mix : Cal P w K mg base 1 "_law_mix" ["_law_cell_here", "_law_prime", "_law_many"] g__law_mix) (c__law_twos : Cal P w K mg base 1 "_law_twos" ["_law_square"] g__law_twos) (c__law_switched : Cal P w K mg base 1 "_law_switched" ["_law_square", "_law_two"] g__law_switched) (c__law_order : Cal P w K mg base 2 "_law_order" ["_law_cell_here", "_law_many"] g__law_order) (c__law_renamed : Cal P w K mg base 1 "_law_renamed" ["_law_square", "_law_rows", "_law_columns", "_law_letters"] g__law_renamed) : Cal P w K mg base 3 "_law_sized" ["_law_script", "_law_at", "_law_many"] g__law_sized :=
  cal_of (k := 2) (N := ["_law_script", "_law_at", "_law_many", "_law_cell_here", "_law_found", "_law_k", "_law_some", "_law_orders"]) (o' := []) F sc__law_sized (by decide) (fun f cdv A outer s H E hr tk po => by
    exact (ds_cons (o' := []) (ds_set (o := []) (de_cal c__law_cell (hr.mono (by decide)) tk (da_cons (de_var 0) (da_cons (de_var 1) da_nil))) (dg_name 3 sc__law_sized.nd)) (ds_cons (o' := []) (ds_set (o := []) (de_cal c__law_first (hr.mono (by decide)) tk (da_cons (de_var 2) (da_cons (de_bin od_fdv (de_var 3) de_int) da_nil))) (dg_name 4 sc__law_sized.nd)) (ds_cons (o' := []) (ds_for (o := []) po rfl (di_rng1 B.n_range (de_cal c__law_mix (hr.mono (by decide)) tk (da_cons (de_var 3) (da_cons de_int (da_cons de_int da_nil))))) (dg_name 5 sc__law_sized.nd) (ds_cons (o' := []) (ds_set (o := []) (de_cal c__law_twos (hr.mono (by decide)) tk (da_cons (de_var 4) da_nil)) (dg_name 6 sc__law_sized.nd)) (ds_cons (o' := []) (ds_if (dt_cmp (od_ne hr.units) (de_var 6) (de_lst da_nil)) (ds_cons (o' := []) (ds_set (o := []) (de_cal c__law_switched (hr.mono (by decide)) tk (da_cons (de_var 4) (da_cons (de_ix (de_var 6) (de_cal c__law_mix (hr.mono (by decide)) tk (da_cons (de_bin od_add (de_cal c__law_cell (hr.mono (by decide)) tk (da_cons (de_var 0) (da_cons (de_bin od_add (de_var 1) de_int) da_nil))) (de_bin od_mul de_int (de_var 5))) (da_cons de_int (da_cons (de_blt cd_len B.n_len PySem.boot_len (da_cons (de_var 6) da_nil)) da_nil))))) da_nil))) (dg_name 4 sc__law_sized.nd)) ds_nil) ds_nil) ds_nil))) (ds_cons (o' := [(7, 1)]) (ds_setLc (o := []) (o' := [(7, 1)]) (i := 7) (own := [("_law_k", 5)]) rfl sc__law_sized.nd (di_rng1 B.n_range de_int) (blkOk_by (by kernel_rfl)) (fun _ _ _ _ _ => (dg_name 5 sc__law_sized.nd)) (fun _ _ _ _ _ => dts_nil) (fun _ _ _ _ _ => (de_cal c__law_order (hr.mono (by decide)) takes0 (da_cons (de_bin od_add (de_cal c__law_cell (hr.mono (by decide)) takes0 (da_cons (de_var 0) (da_cons (de_bin od_add (de_var 1) de_int) da_nil))) (de_bin od_mul de_int (de_var 5))) (da_cons (de_var 2) da_nil)))) (by intro j; by_cases h : j = 7 <;> simp [ow, h])) (ds_frz (o' := []) 7 (ds_cons (ds_ret (de_cal c__law_renamed (hr.mono (by decide)) tk (da_cons (de_var 4) (da_cons (de_ix (de_var 7) de_int) (da_cons (de_ix (de_var 7) de_int) (da_cons (de_ix (de_var 7) de_int) da_nil)))))) ds_nil) (by intro j; by_cases h : j = 7 <;> simp [ow, h]))))))) eq__law_sized
abbrev s_is_within : Stmt := topS 9
theorem sc_is_within : FnScope ["thing", "low", "high"] ["thing", "low", "high"] (defScope s_is_within) := ⟨rfl, rfl, rfl, by decide +kernel, rfl, by decide +kernel, by decide +kernel⟩
theorem cal_is_within (B : Bl mg) (F : FunAt K mg "is_within" s_is_within ["thing", "low", "high"]) : Cal P w K mg base 1 "is_within" ["thing", "low", "high"] g_is_within :=
  cal_of (k := 0) (N := ["thing", "low", "high"]) (o' := []) F sc_is_within (by decide) (fun f cdv A outer s H E hr tk po => by
    exact (ds_cons (ds_ret (de_and (de_isi B.n_isinstance B.n_int boot_int rfl (de_var 0)) (de_and (de_not (de_isi B.n_isinstance B.n_bool boot_bool rfl (de_var 0))) (de_one (de_chain od_le od_le (de_var 1) (de_var 0) (de_var 2)))))) ds_nil)) eq_is_within
abbrev s_is_order : Stmt := topS 10
theorem sc_is_order : FnScope ["thing", "many", "one"] ["thing", "many"] (defScope s_is_order) := ⟨rfl, rfl, rfl, by decide +kernel, rfl, by decide +kernel, by decide +kernel⟩
theorem cal_is_order (B : Bl mg) (F : FunAt K mg "is_order" s_is_order ["thing", "many"]) (c_is_within : Cal P w K mg base 1 "is_within" ["thing", "low", "high"] g_is_within) : Cal P w K mg base 2 "is_order" ["thing", "many"] g_is_order :=
  cal_of (k := 1) (N := ["thing", "many", "one"]) (o' := []) F sc_is_order (by decide) (fun f cdv A outer s H E hr tk po => by
    exact (ds_cons (o' := []) (ds_if (dt_w (dw_or (dt_not (dt_tru (de_isi B.n_isinstance B.n_tuple boot_tuple rfl (de_var 0)))) (dw_or1 (dt_cmp (od_ne hr.units) (de_blt cd_len B.n_len PySem.boot_len (da_cons (de_var 0) da_nil)) (de_var 1))))) (ds_cons (ds_ret de_bl) ds_nil) ds_nil) (ds_cons (ds_ret (de_and (de_not (de_new (dn_lc (own := [("one", 2)]) rfl sc_is_order.nd (di_seq (de_var 0)) (blkOk_by (by kernel_rfl)) (fun _ _ _ _ _ => (dg_name 2 sc_is_order.nd)) (fun _ _ _ _ _ => (dts_one (dt_not (dt_tru (de_cal c_is_within (hr.mono (by decide)) takes0 (da_cons (de_var 2) (da_cons de_int (da_cons (de_bin od_sub (de_var 1) de_int) da_nil)))))))) (fun _ _ _ _ _ => (de_var 2))))) (de_one (de_cmp (od_eq hr.units) (de_lenSet B.n_len B.n_set (de_var 0)) (de_var 1))))) ds_nil))) eq_is_order
abbrev s_columns_of : Stmt := topS 12
theorem sc_columns_of : FnScope ["square", "place", "row"] ["square"] (defScope s_columns_of) := ⟨rfl, rfl, rfl, by decide +kernel, rfl, by decide +kernel, by decide +kernel⟩
theorem cal_columns_of (B : Bl mg) (F : FunAt K mg "columns_of" s_columns_of ["square"]) : Cal P w K mg base 1 "columns_of" ["square"] g_columns_of :=
  cal_of (k := 0) (N := ["square", "place", "row"]) (o' := []) F sc_columns_of (by decide) (fun f cdv A outer s H E hr tk po => by
    exact (ds_cons (ds_ret (de_new (dn_lc (own := [("place", 1)]) rfl sc_columns_of.nd (di_rng1 B.n_range (de_blt cd_len B.n_len PySem.boot_len (da_cons (de_ix (de_var 0) de_int) da_nil))) (blkOk_by (by kernel_rfl)) (fun _ _ _ _ _ => (dg_name 1 sc_columns_of.nd)) (fun _ _ _ _ _ => dts_nil) (fun _ _ _ _ _ => (de_ty cd_tuple B.n_tuple boot_tuple (da_cons (de_new (dn_lc (own := [("row", 2)]) rfl sc_columns_of.nd (di_seq (de_var 0)) (blkOk_by (by kernel_rfl)) (fun _ _ _ _ _ => (dg_name 2 sc_columns_of.nd)) (fun _ _ _ _ _ => dts_nil) (fun _ _ _ _ _ => (de_ix (de_var 2) (de_var 1))))) da_nil)))))) ds_nil)) eq_columns_of
abbrev s_is_square : Stmt := topS 11
theorem sc_is_square : FnScope ["thing", "row", "column"] ["thing"] (defScope s_is_square) := ⟨rfl, rfl, rfl, by decide +kernel, rfl, by decide +kernel, by decide +kernel⟩
theorem cal_is_square (B : Bl mg) (F : FunAt K mg "is_square" s_is_square ["thing"]) (c_is_order : Cal P w K mg base 2 "is_order" ["thing", "many"] g_is_order) (c_columns_of : Cal P w K mg base 1 "columns_of" ["square"] g_columns_of) : Cal P w K mg base 3 "is_square" ["thing"] g_is_square :=
  cal_of (k := 2) (N := ["thing", "row", "column"]) (o' := []) F sc_is_square (by decide) (fun f cdv A outer s H E hr tk po => by
    exact (ds_cons (o' := []) (ds_if (dt_w (dw_or (dt_not (dt_tru (de_isi B.n_isinstance B.n_tuple boot_tuple rfl (de_var 0)))) (dw_or1 (dt_not (dt_chain od_le od_le de_int (de_blt cd_len B.n_len PySem.boot_len (da_cons (de_var 0) da_nil)) (de_globI B.c_MOST.choose_spec)))))) (ds_cons (ds_ret de_bl) ds_nil) ds_nil) (ds_cons (o' := []) (ds_if (dt_tru (de_new (dn_lc (own := [("row", 1)]) rfl sc_is_square.nd (di_seq (de_var 0)) (blkOk_by (by kernel_rfl)) (fun _ _ _ _ _ => (dg_name 1 sc_is_square.nd)) (fun _ _ _ _ _ => (dts_one (dt_not (dt_tru (de_cal c_is_order (hr.mono (by decide)) takes0 (da_cons (de_var 1) (da_cons (de_blt cd_len B.n_len PySem.boot_len (da_cons (de_var 0) da_nil)) da_nil))))))) (fun _ _ _ _ _ => (de_var 1))))) (ds_cons (ds_ret de_bl) ds_nil) ds_nil) (ds_cons (ds_ret (de_not (de_new (dn_lc (own := [("column", 2)]) rfl sc_is_square.nd (di_seq (de_cal c_columns_of (hr.mono (by decide)) tk (da_cons (de_var 0) da_nil))) (blkOk_by (by kernel_rfl)) (fun _ _ _ _ _ => (dg_name 2 sc_is_square.nd)) (fun _ _ _ _ _ => (dts_one (dt_cmp od_lt (de_lenSet B.n_len B.n_set (de_var 2)) (de_blt cd_len B.n_len PySem.boot_len (da_cons (de_var 0) da_nil))))) (fun _ _ _ _ _ => (de_var 2)))))) ds_nil)))) eq_is_square
abbrev s_checked : Stmt := topS 13
theorem sc_checked : FnScope ["square"] ["square"] (defScope s_checked) := ⟨rfl, rfl, rfl, by decide +kernel, rfl, by decide +kernel, by decide +kernel⟩
theorem cal_checked (B : Bl mg) (F : FunAt K mg "checked" s_checked ["square"]) (c_is_square : Cal P w K mg base 3 "is_square" ["thing"] g_is_square) {C_BadSquare : Addr} (X_BadSquare : ExcF K mg "BadSquare" C_BadSquare) : Cal P w K mg base 4 "checked" ["square"] g_checked :=
  cal_of (k := 3) (N := ["square"]) (o' := []) F sc_checked (by decide) (fun f cdv A outer s H E hr tk po => by
    exact (ds_cons (o' := []) (ds_if (dt_not (dt_tru (de_cal c_is_square (hr.mono (by decide)) tk (da_cons (de_var 0) da_nil)))) (ds_cons (ds_raiseT X_BadSquare tk rfl) ds_nil) ds_nil) (ds_cons (ds_ret (de_var 0)) ds_nil))) eq_checked
abbrev s_twos : Stmt := topS 30
theorem sc_twos : FnScope ["square", "found", "one", "two", "left", "right"] ["square"] (defScope s_twos) := ⟨rfl, rfl, rfl, by decide +kernel, rfl, by decide +kernel, by decide +kernel⟩
theorem cal_twos (B : Bl mg) (F : FunAt K mg "twos" s_twos ["square"]) (c_checked : Cal P w K mg base 4 "checked" ["square"] g_checked) : Cal P w K mg base 5 "twos" ["square"] g_twos :=
  cal_of (k := 4) (N := ["square", "found", "one", "two", "left", "right"]) (o' := []) F sc_twos (by decide) (fun f cdv A outer s H E hr tk po => by
    exact (ds_cons (o' := []) (ds_expr (o := []) (de_cal c_checked (hr.mono (by decide)) tk (da_cons (de_var 0) da_nil))) (ds_cons (o' := [(1, 1)]) (ds_setN (o := []) (o' := [(1, 1)]) (n := 1) (i := 1) (dn_lst da_nil) sc_twos.nd (by intro j; by_cases h : j = 1 <;> simp [ow, h])) (ds_cons (o' := [(1, 1)]) (ds_for (o := [(1, 1)]) po rfl (di_rng1 B.n_range (de_blt cd_len B.n_len PySem.boot_len (da_cons (de_var 0) da_nil))) (dg_name 2 sc_twos.nd) (ds_cons (o' := [(1, 1)]) (ds_for (o := [(1, 1)]) po rfl (di_rng2 B.n_range (de_bin od_add (de_var 2) de_int) (de_blt cd_len B.n_len PySem.boot_len (da_cons (de_var 0) da_nil))) (dg_name 3 sc_twos.nd) (ds_cons (o' := [(1, 1)]) (ds_for (o := [(1, 1)]) po rfl (di_rng1 B.n_range (de_blt cd_len B.n_len PySem.boot_len (da_cons (de_var 0) da_nil))) (dg_name 4 sc_twos.nd) (ds_cons (o' := [(1, 1)]) (ds_set (o := [(1, 1)]) (de_m_tindex (de_ix (de_var 0) (de_var 3)) (de_ix (de_ix (de_var 0) (de_var 2)) (de_var 4))) (dg_name 5 sc_twos.nd)) (ds_cons (o' := [(1, 1)]) (ds_if (dt_w (dw_and (dt_cmp od_gt (de_var 5) (de_var 4)) (dw_and1 (dt_cmp (od_eq hr.units) (de_ix (de_ix (de_var 0) (de_var 2)) (de_var 5)) (de_ix (de_ix (de_var 0) (de_var 3)) (de_var 4)))))) (ds_cons (o' := [(1, 1)]) (ds_app (o := [(1, 1)]) (i := 1) (de_tup (da_cons (de_var 2) (da_cons (de_var 3) (da_cons (de_var 4) (da_cons (de_var 5) da_nil)))))) ds_nil) ds_nil) ds_nil))) ds_nil)) ds_nil)) (ds_cons (ds_ret (de_var 1)) ds_nil))))) eq_twos
abbrev s_marks_of : Stmt := topS 27
theorem sc_marks_of : FnScope ["many", "found", "place", "longer", "marks"] ["many"] (defScope s_marks_of) := ⟨rfl, rfl, rfl, by decide +kernel, rfl, by decide +kernel, by decide +kernel⟩
theorem cal_marks_of (B : Bl mg) (F : FunAt K mg "marks_of" s_marks_of ["many"]) : Cal P w K mg base 1 "marks_of" ["many"] g_marks_of :=
  cal_of (k := 0) (N := ["many", "found", "place", "longer", "marks"]) (o' := []) F sc_marks_of (by decide) (fun f cdv A outer s H E hr tk po => by
    exact (ds_cons (o' := []) (ds_set (o := []) (de_lst (da_cons (de_tup da_nil) da_nil)) (dg_name 1 sc_marks_of.nd)) (ds_cons (o' := []) (ds_for (o := []) po rfl (di_rng1 B.n_range (de_var 0)) (dg_name 2 sc_marks_of.nd) (ds_cons (o' := [(3, 1)]) (ds_setN (o := []) (o' := [(3, 1)]) (n := 1) (i := 3) (dn_lst da_nil) sc_marks_of.nd (by intro j; by_cases h : j = 3 <;> simp [ow, h])) (ds_cons (o' := [(3, 1)]) (ds_for (o := [(3, 1)]) po rfl (di_seq (de_var 1)) (dg_name 4 sc_marks_of.nd) (ds_cons (o' := [(3, 1)]) (ds_ext (o := [(3, 1)]) (i := 3) (de_lst (da_cons (de_bin od_add (de_var 4) (de_tup (da_cons de_int da_nil))) (da_cons (de_bin od_add (de_var 4) (de_tup (da_cons de_int da_nil))) da_nil)))) ds_nil)) (ds_frz (o' := []) 3 (ds_cons (o' := []) (ds_set (o := []) (de_var 3) (dg_name 1 sc_marks_of.nd)) ds_nil) (by intro j; by_cases h : j = 3 <;> simp [ow, h]))))) (ds_cons (ds_ret (de_var 1)) ds_nil)))) eq_marks_of
abbrev s_marked_by : Stmt := topS 26
theorem sc_marked_by : FnScope ["square", "first", "rows", "letters", "row", "mark", "columns", "line", "column", "letter"] ["square", "first", "rows"] (defScope s_marked_by) := ⟨rfl, rfl, rfl, by decide +kernel, rfl, by decide +kernel, by decide +kernel⟩
theorem cal_marked_by (B : Bl mg) (F : FunAt K mg "marked_by" s_marked_by ["square", "first", "rows"]) : Cal P w K mg base 1 "marked_by" ["square", "first", "rows"] g_marked_by :=
  cal_of (k := 0) (N := ["square", "first", "rows", "letters", "row", "mark", "columns", "line", "column", "letter"]) (o' := []) F sc_marked_by (by decide) (fun f cdv A outer s H E hr tk po => by
    exact (ds_cons (o' := [(3, 1)]) (ds_setN (o := []) (o' := [(3, 1)]) (n := 1) (i := 3) (dn_rep (de_lst (da_cons de_int da_nil)) (de_blt cd_len B.n_len PySem.boot_len (da_cons (de_var 0) da_nil))) sc_marked_by.nd (by intro j; by_cases h : j = 3 <;> simp [ow, h])) (ds_cons (o' := [(3, 1)]) (ds_for (o := [(3, 1)]) po rfl (di_enum B.n_enumerate (de_var 2)) (dg_tup rfl (dgs_cons 4 sc_marked_by.nd (dgs_cons 5 sc_marked_by.nd dgs_nil))) (ds_cons (o' := [(3, 1)]) (ds_put (o := [(3, 1)]) (i := 3) (de_bin od_mod (de_bin od_add (de_var 5) (de_var 1)) de_int) (de_ix (de_ix (de_var 0) (de_var 4)) de_int)) ds_nil)) (ds_frz (o' := []) 3 (ds_cons (o' := [(6, 1)]) (ds_setLc (o := []) (o' := [(6, 1)]) (i := 6) (own := [("letter", 9)]) rfl sc_marked_by.nd (di_seq (de_ix (de_var 0) de_int)) (blkOk_by (by kernel_rfl)) (fun _ _ _ _ _ => (dg_name 9 sc_marked_by.nd)) (fun _ _ _ _ _ => dts_nil) (fun _ _ _ _ _ => (de_bin od_mod (de_bin od_add (de_ix (de_var 3) (de_var 9)) (de_ix (de_var 2) de_int)) de_int)) (by intro j; by_cases h : j = 6 <;> simp [ow, h])) (ds_frz (o' := []) 6 (ds_cons (o' := []) (ds_for (o := []) po rfl (di_enum B.n_enumerate (de_var 0)) (dg_tup rfl (dgs_cons 4 sc_marked_by.nd (dgs_cons 7 sc_marked_by.nd dgs_nil))) (ds_cons (o' := []) (ds_for (o := []) po rfl (di_enum B.n_enumerate (de_var 7)) (dg_tup rfl (dgs_cons 8 sc_marked_by.nd (dgs_cons 9 sc_marked_by.nd dgs_nil))) (ds_cons (o' := []) (ds_if (dt_cmp (od_eq hr.units) (de_bin od_mod (de_bin od_add (de_bin od_add (de_ix (de_var 2) (de_var 4)) (de_ix (de_var 6) (de_var 8))) (de_ix (de_var 3) (de_var 9))) de_int) de_int) (ds_cons (ds_ret de_non) ds_nil) ds_nil) ds_nil)) ds_nil)) (ds_cons (ds_ret (de_tup (da_cons (de_ty cd_tuple B.n_tuple boot_tuple (da_cons (de_var 2) da_nil)) (da_cons (de_ty cd_tuple B.n_tuple boot_tuple (da_cons (de_var 6) da_nil)) (da_cons (de_ty cd_tuple B.n_tuple boot_tuple (da_cons (de_var 3) da_nil)) da_nil))))) ds_nil)) (by intro j; by_cases h : j = 6 <;> simp [ow, h]))) (by intro j; by_cases h : j = 3 <;> simp [ow, h]))))) eq_marked_by
abbrev s_all_marks : Stmt := topS 28
theorem sc_all_marks : FnScope ["square", "found", "rows", "first", "marks"] ["square"] (defScope s_all_marks) := ⟨rfl, rfl, rfl, by decide +kernel, rfl, by decide +kernel, by decide +kernel⟩
theorem cal_all_marks (B : Bl mg) (F : FunAt K mg "all_marks" s_all_marks ["square"]) (c_checked : Cal P w K mg base 4 "checked" ["square"] g_checked) (c_marks_of : Cal P w K mg base 1 "marks_of" ["many"] g_marks_of) (c_marked_by : Cal P w K mg base 1 "marked_by" ["square", "first", "rows"] g_marked_by) : Cal P w K mg base 5 "all_marks" ["square"] g_all_marks :=
  cal_of (k := 4) (N := ["square", "found", "rows", "first", "marks"]) (o' := []) F sc_all_marks (by decide) (fun f cdv A outer s H E hr tk po => by
    exact (ds_cons (o' := []) (ds_expr (o := []) (de_cal c_checked (hr.mono (by decide)) tk (da_cons (de_var 0) da_nil))) (ds_cons (o' := [(1, 1)]) (ds_setN (o := []) (o' := [(1, 1)]) (n := 1) (i := 1) (dn_lst da_nil) sc_all_marks.nd (by intro j; by_cases h : j = 1 <;> simp [ow, h])) (ds_cons (o' := [(1, 1)]) (ds_for (o := [(1, 1)]) po rfl (di_seq (de_cal c_marks_of (hr.mono (by decide)) tk (da_cons (de_blt cd_len B.n_len PySem.boot_len (da_cons (de_var 0) da_nil)) da_nil))) (dg_name 2 sc_all_marks.nd) (ds_cons (o' := [(1, 1)]) (ds_for (o := [(1, 1)]) po rfl (di_seq (de_tup (da_cons de_int (da_cons de_int da_nil)))) (dg_name 3 sc_all_marks.nd) (ds_cons (o' := [(1, 1)]) (ds_set (o := [(1, 1)]) (de_cal c_marked_by (hr.mono (by decide)) tk (da_cons (de_var 0) (da_cons (de_var 3) (da_cons (de_var 2) da_nil)))) (dg_name 4 sc_all_marks.nd)) (ds_cons (o' := [(1, 1)]) (ds_if (dt_notN (de_var 4)) (ds_cons (o' := [(1, 1)]) (ds_app (o := [(1, 1)]) (i := 1) (de_var 4)) ds_nil) ds_nil) ds_nil))) ds_nil)) (ds_cons (ds_ret (de_blt (cd_sorted (u65 hr)) B.n_sorted boot_sorted (da_cons (de_var 1) da_nil))) ds_nil))))) eq_all_marks
abbrev s_look_small : Stmt := topS 18
theorem sc_look_small : FnScope ["square"] ["square"] (defScope s_look_small) := ⟨rfl, rfl, rfl, by decide +kernel, rfl, by decide +kernel, by decide +kernel⟩
theorem cal_look_small (B : Bl mg) (F : FunAt K mg "look_small" s_look_small ["square"]) (c_checked : Cal P w K mg base 4 "checked" ["square"] g_checked) {C_TooBig : Addr} (X_TooBig : ExcF K mg "TooBig" C_TooBig) : Cal P w K mg base 5 "look_small" ["square"] g_look_small :=
  cal_of (k := 4) (N := ["square"]) (o' := []) F sc_look_small (by decide) (fun f cdv A outer s H E hr tk po => by
    exact (ds_cons (o' := []) (ds_expr (o := []) (de_cal c_checked (hr.mono (by decide)) tk (da_cons (de_var 0) da_nil))) (ds_cons (o' := []) (ds_if (dt_cmp od_gt (de_blt cd_len B.n_len PySem.boot_len (da_cons (de_var 0) da_nil)) (de_globI B.c_MOST_CUT.choose_spec)) (ds_cons (ds_raiseT X_TooBig tk rfl) ds_nil) ds_nil) ds_nil))) eq_look_small
abbrev s_longer_cuts : Stmt := topS 19
theorem sc_longer_cuts : FnScope ["square", "begun", "letters", "found", "column", "letter"] ["square", "begun", "letters"] (defScope s_longer_cuts) := ⟨rfl, rfl, rfl, by decide +kernel, rfl, by decide +kernel, by decide +kernel⟩
theorem cal_longer_cuts {k : Nat} {rec g : List D → Rz D} (B : Bl mg) (F : FunAt K mg "longer_cuts" s_longer_cuts ["square", "begun", "letters"]) (cself : Cal P w K mg base k "longer_cuts" ["square", "begun", "letters"] rec) (hk : 0 ≤ k)
    (hg : ∀ ds, ds.length = 3 → g ds = .st ∨ (m_longer_cuts rec (startE 6 ds)).rz = g ds) : Cal P w K mg base (k + 1) "longer_cuts" ["square", "begun", "letters"] g :=
  cal_of (N := ["square", "begun", "letters", "found", "column", "letter"]) (o' := []) F sc_longer_cuts (by decide) (fun f cdv A outer s H E hr tk po => by
    exact (ds_cons (o' := []) (ds_if (dt_cmp (od_eq hr.units) (de_blt cd_len B.n_len PySem.boot_len (da_cons (de_var 1) da_nil)) (de_blt cd_len B.n_len PySem.boot_len (da_cons (de_var 0) da_nil))) (ds_cons (ds_ret (de_lst (da_cons (de_ty cd_tuple B.n_tuple boot_tuple (da_cons (de_var 1) da_nil)) da_nil))) ds_nil) ds_nil) (ds_cons (o' := [(3, 1)]) (ds_setN (o := []) (o' := [(3, 1)]) (n := 1) (i := 3) (dn_lst da_nil) sc_longer_cuts.nd (by intro j; by_cases h : j = 3 <;> simp [ow, h])) (ds_cons (o' := [(3, 1)]) (ds_for (o := [(3, 1)]) po rfl (di_enum B.n_enumerate (de_ix (de_var 0) (de_blt cd_len B.n_len PySem.boot_len (da_cons (de_var 1) da_nil)))) (dg_tup rfl (dgs_cons 4 sc_longer_cuts.nd (dgs_cons 5 sc_longer_cuts.nd dgs_nil))) (ds_cons (o' := [(3, 1)]) (ds_if (dt_w (dw_and (dt_cmp (od_notIn (u65 hr)) (de_var 4) (de_var 1) (by rfl)) (dw_and1 (dt_cmp (od_notIn (u65 hr)) (de_var 5) (de_var 2) (by rfl))))) (ds_cons (o' := [(3, 1)]) (ds_ext (o := [(3, 1)]) (i := 3) (de_cal cself (hr.mono (by omega)) tk (da_cons (de_var 0) (da_cons (de_bin od_add (de_var 1) (de_lst (da_cons (de_var 4) da_nil))) (da_cons (de_bin od_add (de_var 2) (de_lst (da_cons (de_var 5) da_nil))) da_nil))))) ds_nil) ds_nil) ds_nil)) (ds_cons (ds_ret (de_var 3)) ds_nil))))) hg
theorem calR_longer_cuts (B : Bl mg) (F : FunAt K mg "longer_cuts" s_longer_cuts ["square", "begun", "letters"]) : ∀ n : Nat, Cal P w K mg base (0 + n) "longer_cuts" ["square", "begun", "letters"] (gR_longer_cuts n)
  | 0 => cal_st F
  | n + 1 => cal_longer_cuts B F (calR_longer_cuts B F n) (Nat.le_add_right _ _) (fun ds _ => .inr rfl)
abbrev s_share : Stmt := topS 22
theorem sc_share : FnScope ["one", "other", "row"] ["one", "other"] (defScope s_share) := ⟨rfl, rfl, rfl, by decide +kernel, rfl, by decide +kernel, by decide +kernel⟩
theorem cal_share (B : Bl mg) (F : FunAt K mg "share" s_share ["one", "other"]) : Cal P w K mg base 1 "share" ["one", "other"] g_share :=
  cal_of (k := 0) (N := ["one", "other", "row"]) (o' := []) F sc_share (by decide) (fun f cdv A outer s H E hr tk po => by
    exact (ds_cons (ds_ret (de_cmp (od_ne hr.units) (de_new (dn_lc (own := [("row", 2)]) rfl sc_share.nd (di_rng1 B.n_range (de_blt cd_len B.n_len PySem.boot_len (da_cons (de_var 0) da_nil))) (blkOk_by (by kernel_rfl)) (fun _ _ _ _ _ => (dg_name 2 sc_share.nd)) (fun _ _ _ _ _ => (dts_one (dt_cmp (od_eq hr.units) (de_ix (de_var 0) (de_var 2)) (de_ix (de_var 1) (de_var 2))))) (fun _ _ _ _ _ => (de_var 2)))) (de_lst da_nil))) ds_nil)) eq_share
abbrev s_apart_from : Stmt := topS 23
theorem sc_apart_from : FnScope ["cuts", "taken", "best", "at", "cut", "rest", "found", "other"] ["cuts", "taken"] (defScope s_apart_from) := ⟨rfl, rfl, rfl, by decide +kernel, rfl, by decide +kernel, by decide +kernel⟩
theorem cal_apart_from {k : Nat} {rec g : List D → Rz D} (B : Bl mg) (F : FunAt K mg "apart_from" s_apart_from ["cuts", "taken"]) (c_share : Cal P w K mg base 1 "share" ["one", "other"] g_share) (cself : Cal P w K mg base k "apart_from" ["cuts", "taken"] rec) (hk : 1 ≤ k)
    (hg : ∀ ds, ds.length = 2 → g ds = .st ∨ (m_apart_from rec (startE 8 ds)).rz = g ds) : Cal P w K mg base (k + 1) "apart_from" ["cuts", "taken"] g :=
  cal_of (N := ["cuts", "taken", "best", "at", "cut", "rest", "found", "other"]) (o' := []) F sc_apart_from (by decide) (fun f cdv A outer s H E hr tk po => by
    exact (ds_cons (o' := []) (ds_set (o := []) (de_lst da_nil) (dg_name 2 sc_apart_from.nd)) (ds_cons (o' := []) (ds_for (o := []) po rfl (di_enum B.n_enumerate (de_var 0)) (dg_tup rfl (dgs_cons 3 sc_apart_from.nd (dgs_cons 4 sc_apart_from.nd dgs_nil))) (ds_cons (o' := []) (ds_if (dt_cmp od_le (de_bin od_sub (de_blt cd_len B.n_len PySem.boot_len (da_cons (de_var 0) da_nil)) (de_var 3)) (de_blt cd_len B.n_len PySem.boot_len (da_cons (de_var 2) da_nil))) (ds_cons (ds_ret (de_var 2)) ds_nil) ds_nil) (ds_cons (o' := []) (ds_if (dt_not (dt_tru (de_new (dn_lc (own := [("other", 7)]) rfl sc_apart_from.nd (di_seq (de_var 1)) (blkOk_by (by kernel_rfl)) (fun _ _ _ _ _ => (dg_name 7 sc_apart_from.nd)) (fun _ _ _ _ _ => (dts_one (dt_tru (de_cal c_share (hr.mono (by omega)) takes0 (da_cons (de_var 4) (da_cons (de_var 7) da_nil)))))) (fun _ _ _ _ _ => (de_var 7)))))) (ds_cons (o' := [(5, 1)]) (ds_setLc (o := []) (o' := [(5, 1)]) (i := 5) (own := [("other", 7)]) rfl sc_apart_from.nd (di_seq (de_sl (de_var 0) (do_some (de_bin od_add (de_var 3) de_int)) do_none)) (blkOk_by (by kernel_rfl)) (fun _ _ _ _ _ => (dg_name 7 sc_apart_from.nd)) (fun _ _ _ _ _ => (dts_one (dt_not (dt_tru (de_cal c_share (hr.mono (by omega)) takes0 (da_cons (de_var 4) (da_cons (de_var 7) da_nil))))))) (fun _ _ _ _ _ => (de_var 7)) (by intro j; by_cases h : j = 5 <;> simp [ow, h])) (ds_frz (o' := []) 5 (ds_cons (o' := []) (ds_set (o := []) (de_bin od_add (de_lst (da_cons (de_var 4) da_nil)) (de_cal cself (hr.mono (by omega)) tk (da_cons (de_var 5) (da_cons (de_lst da_nil) da_nil)))) (dg_name 6 sc_apart_from.nd)) (ds_cons (o' := []) (ds_if (dt_cmp od_gt (de_blt cd_len B.n_len PySem.boot_len (da_cons (de_var 6) da_nil)) (de_blt cd_len B.n_len PySem.boot_len (da_cons (de_var 2) da_nil))) (ds_cons (o' := []) (ds_set (o := []) (de_var 6) (dg_name 2 sc_apart_from.nd)) ds_nil) ds_nil) ds_nil)) (by intro j; by_cases h : j = 5 <;> simp [ow, h]))) ds_nil) ds_nil))) (ds_cons (ds_ret (de_var 2)) ds_nil)))) hg
theorem calR_apart_from (B : Bl mg) (F : FunAt K mg "apart_from" s_apart_from ["cuts", "taken"]) (c_share : Cal P w K mg base 1 "share" ["one", "other"] g_share) : ∀ n : Nat, Cal P w K mg base (1 + n) "apart_from" ["cuts", "taken"] (gR_apart_from n)
  | 0 => cal_st F
  | n + 1 => cal_apart_from B F c_share (calR_apart_from B F c_share n) (Nat.le_add_right _ _) (fun ds _ => .inr rfl)
abbrev s_most_apart : Stmt := topS 24
theorem sc_most_apart : FnScope ["square"] ["square"] (defScope s_most_apart) := ⟨rfl, rfl, rfl, by decide +kernel, rfl, by decide +kernel, by decide +kernel⟩
theorem cal_most_apart (B : Bl mg) (F : FunAt K mg "most_apart" s_most_apart ["square"]) (c_look_small : Cal P w K mg base 5 "look_small" ["square"] g_look_small) (c_longer_cuts : Cal P w K mg base 9 "longer_cuts" ["square", "begun", "letters"] g_longer_cuts) (c_apart_from : Cal P w K mg base 10 "apart_from" ["cuts", "taken"] g_apart_from) {C_TooBig : Addr} (X_TooBig : ExcF K mg "TooBig" C_TooBig) : Cal P w K mg base 11 "most_apart" ["square"] g_most_apart :=
  cal_of (k := 10) (N := ["square"]) (o' := []) F sc_most_apart (by decide) (fun f cdv A outer s H E hr tk po => by
    exact (ds_cons (o' := []) (ds_expr (o := []) (de_cal c_look_small (hr.mono (by decide)) tk (da_cons (de_var 0) da_nil))) (ds_cons (o' := []) (ds_if (dt_cmp od_gt (de_blt cd_len B.n_len PySem.boot_len (da_cons (de_var 0) da_nil)) de_int) (ds_cons (ds_raiseT X_TooBig tk rfl) ds_nil) ds_nil) (ds_cons (ds_ret (de_cal c_apart_from (hr.mono (by decide)) tk (da_cons (de_cal c_longer_cuts (hr.mono (by decide)) tk (da_cons (de_var 0) (da_cons (de_lst da_nil) (da_cons (de_lst da_nil) da_nil)))) (da_cons (de_lst da_nil) da_nil)))) ds_nil)))) eq_most_apart
abbrev s_look_place : Stmt := topS 14
theorem sc_look_place : FnScope ["square", "row", "column"] ["square", "row", "column"] (defScope s_look_place) := ⟨rfl, rfl, rfl, by decide +kernel, rfl, by decide +kernel, by decide +kernel⟩
theorem cal_look_place (B : Bl mg) (F : FunAt K mg "look_place" s_look_place ["square", "row", "column"]) (c_checked : Cal P w K mg base 4 "checked" ["square"] g_checked) (c_is_within : Cal P w K mg base 1 "is_within" ["thing", "low", "high"] g_is_within) {C_BadPlace : Addr} (X_BadPlace : ExcF K mg "BadPlace" C_BadPlace) : Cal P w K mg base 5 "look_place" ["square", "row", "column"] g_look_place :=
  cal_of (k := 4) (N := ["square", "row", "column"]) (o' := []) F sc_look_place (by decide) (fun f cdv A outer s H E hr tk po => by
    exact (ds_cons (o' := []) (ds_expr (o := []) (de_cal c_checked (hr.mono (by decide)) tk (da_cons (de_var 0) da_nil))) (ds_cons (o' := []) (ds_if (dt_w (dw_or (dt_not (dt_tru (de_cal c_is_within (hr.mono (by decide)) tk (da_cons (de_var 1) (da_cons de_int (da_cons (de_bin od_sub (de_blt cd_len B.n_len PySem.boot_len (da_cons (de_var 0) da_nil)) de_int) da_nil)))))) (dw_or1 (dt_not (dt_tru (de_cal c_is_within (hr.mono (by decide)) tk (da_cons (de_var 2) (da_cons de_int (da_cons (de_bin od_sub (de_blt cd_len B.n_len PySem.boot_len (da_cons (de_var 0) da_nil)) de_int) da_nil))))))))) (ds_cons (ds_raiseT X_BadPlace tk rfl) ds_nil) ds_nil) ds_nil))) eq_look_place
abbrev s_cuts_at : Stmt := topS 21
theorem sc_cuts_at : FnScope ["square", "row", "column", "cut"] ["square", "row", "column"] (defScope s_cuts_at) := ⟨rfl, rfl, rfl, by decide +kernel, rfl, by decide +kernel, by decide +kernel⟩
theorem cal_cuts_at (B : Bl mg) (F : FunAt K mg "cuts_at" s_cuts_at ["square", "row", "column"]) (c_look_small : Cal P w K mg base 5 "look_small" ["square"] g_look_small) (c_look_place : Cal P w K mg base 5 "look_place" ["square", "row", "column"] g_look_place) (c_longer_cuts : Cal P w K mg base 9 "longer_cuts" ["square", "begun", "letters"] g_longer_cuts) : Cal P w K mg base 10 "cuts_at" ["square", "row", "column"] g_cuts_at :=
  cal_of (k := 9) (N := ["square", "row", "column", "cut"]) (o' := []) F sc_cuts_at (by decide) (fun f cdv A outer s H E hr tk po => by
    exact (ds_cons (o' := []) (ds_expr (o := []) (de_cal c_look_small (hr.mono (by decide)) tk (da_cons (de_var 0) da_nil))) (ds_cons (o' := []) (ds_expr (o := []) (de_cal c_look_place (hr.mono (by decide)) tk (da_cons (de_var 0) (da_cons (de_var 1) (da_cons (de_var 2) da_nil))))) (ds_cons (ds_ret (de_new (dn_lc (own := [("cut", 3)]) rfl sc_cuts_at.nd (di_seq (de_cal c_longer_cuts (hr.mono (by decide)) tk (da_cons (de_var 0) (da_cons (de_lst da_nil) (da_cons (de_lst da_nil) da_nil))))) (blkOk_by (by kernel_rfl)) (fun _ _ _ _ _ => (dg_name 3 sc_cuts_at.nd)) (fun _ _ _ _ _ => (dts_one (dt_cmp (od_eq hr.units) (de_ix (de_var 3) (de_var 1)) (de_var 2)))) (fun _ _ _ _ _ => (de_var 3))))) ds_nil)))) eq_cuts_at
abbrev s_all_cuts : Stmt := topS 20
theorem sc_all_cuts : FnScope ["square"] ["square"] (defScope s_all_cuts) := ⟨rfl, rfl, rfl, by decide +kernel, rfl, by decide +kernel, by decide +kernel⟩
theorem cal_all_cuts (B : Bl mg) (F : FunAt K mg "all_cuts" s_all_cuts ["square"]) (c_look_small : Cal P w K mg base 5 "look_small" ["square"] g_look_small) (c_longer_cuts : Cal P w K mg base 9 "longer_cuts" ["square", "begun", "letters"] g_longer_cuts) : Cal P w K mg base 10 "all_cuts" ["square"] g_all_cuts :=
  cal_of (k := 9) (N := ["square"]) (o' := []) F sc_all_cuts (by decide) (fun f cdv A outer s H E hr tk po => by
    exact (ds_cons (o' := []) (ds_expr (o := []) (de_cal c_look_small (hr.mono (by decide)) tk (da_cons (de_var 0) da_nil))) (ds_cons (ds_ret (de_cal c_longer_cuts (hr.mono (by decide)) tk (da_cons (de_var 0) (da_cons (de_lst da_nil) (da_cons (de_lst da_nil) da_nil))))) ds_nil))) eq_all_cuts
abbrev s_parting_by : Stmt := topS 39
theorem sc_parting_by : FnScope ["cuts", "many", "taken", "cut", "found", "other"] ["cuts", "many", "taken"] (defScope s_parting_by) := ⟨rfl, rfl, rfl, by decide +kernel, rfl, by decide +kernel, by decide +kernel⟩
theorem cal_parting_by {k : Nat} {rec g : List D → Rz D} (B : Bl mg) (F : FunAt K mg "parting_by" s_parting_by ["cuts", "many", "taken"]) (c_share : Cal P w K mg base 1 "share" ["one", "other"] g_share) (cself : Cal P w K mg base k "parting_by" ["cuts", "many", "taken"] rec) (hk : 1 ≤ k)
    (hg : ∀ ds, ds.length = 3 → g ds = .st ∨ (m_parting_by rec (startE 6 ds)).rz = g ds) : Cal P w K mg base (k + 1) "parting_by" ["cuts", "many", "taken"] g :=
  cal_of (N := ["cuts", "many", "taken", "cut", "found", "other"]) (o' := []) F sc_parting_by (by decide) (fun f cdv A outer s H E hr tk po => by
    exact (ds_cons (o' := []) (ds_if (dt_cmp (od_eq hr.units) (de_blt cd_len B.n_len PySem.boot_len (da_cons (de_var 2) da_nil)) (de_var 1)) (ds_cons (ds_ret (de_var 2)) ds_nil) ds_nil) (ds_cons (o' := []) (ds_for (o := []) po rfl (di_seq (de_var 0)) (dg_name 3 sc_parting_by.nd) (ds_cons (o' := []) (ds_if (dt_w (dw_and (dt_cmp (od_eq hr.units) (de_ix (de_var 3) de_int) (de_blt cd_len B.n_len PySem.boot_len (da_cons (de_var 2) da_nil))) (dw_and1 (dt_not (dt_tru (de_new (dn_lc (own := [("other", 5)]) rfl sc_parting_by.nd (di_seq (de_var 2)) (blkOk_by (by kernel_rfl)) (fun _ _ _ _ _ => (dg_name 5 sc_parting_by.nd)) (fun _ _ _ _ _ => (dts_one (dt_tru (de_cal c_share (hr.mono (by omega)) takes0 (da_cons (de_var 3) (da_cons (de_var 5) da_nil)))))) (fun _ _ _ _ _ => (de_var 5))))))))) (ds_cons (o' := []) (ds_set (o := []) (de_cal cself (hr.mono (by omega)) tk (da_cons (de_var 0) (da_cons (de_var 1) (da_cons (de_bin od_add (de_var 2) (de_lst (da_cons (de_var 3) da_nil))) da_nil)))) (dg_name 4 sc_parting_by.nd)) (ds_cons (o' := []) (ds_if (dt_notN (de_var 4)) (ds_cons (ds_ret (de_var 4)) ds_nil) ds_nil) ds_nil)) ds_nil) ds_nil)) (ds_cons (ds_ret de_non) ds_nil)))) hg
theorem calR_parting_by (B : Bl mg) (F : FunAt K mg "parting_by" s_parting_by ["cuts", "many", "taken"]) (c_share : Cal P w K mg base 1 "share" ["one", "other"] g_share) : ∀ n : Nat, Cal P w K mg base (1 + n) "parting_by" ["cuts", "many", "taken"] (gR_parting_by n)
  | 0 => cal_st F
  | n + 1 => cal_parting_by B F c_share (calR_parting_by B F c_share n) (Nat.le_add_right _ _) (fun ds _ => .inr rfl)
abbrev s_parting : Stmt := topS 40
theorem sc_parting : FnScope ["square"] ["square"] (defScope s_parting) := ⟨rfl, rfl, rfl, by decide +kernel, rfl, by decide +kernel, by decide +kernel⟩
theorem cal_parting (B : Bl mg) (F : FunAt K mg "parting" s_parting ["square"]) (c_look_small : Cal P w K mg base 5 "look_small" ["square"] g_look_small) (c_longer_cuts : Cal P w K mg base 9 "longer_cuts" ["square", "begun", "letters"] g_longer_cuts) (c_parting_by : Cal P w K mg base 10 "parting_by" ["cuts", "many", "taken"] g_parting_by) : Cal P w K mg base 11 "parting" ["square"] g_parting :=
  cal_of (k := 10) (N := ["square"]) (o' := []) F sc_parting (by decide) (fun f cdv A outer s H E hr tk po => by
    exact (ds_cons (o' := []) (ds_expr (o := []) (de_cal c_look_small (hr.mono (by decide)) tk (da_cons (de_var 0) da_nil))) (ds_cons (ds_ret (de_cal c_parting_by (hr.mono (by decide)) tk (da_cons (de_cal c_longer_cuts (hr.mono (by decide)) tk (da_cons (de_var 0) (da_cons (de_lst da_nil) (da_cons (de_lst da_nil) da_nil)))) (da_cons (de_blt cd_len B.n_len PySem.boot_len (da_cons (de_var 0) da_nil)) (da_cons (de_lst da_nil) da_nil))))) ds_nil))) eq_parting
abbrev s_mate : Stmt := topS 41
theorem sc_mate : FnScope ["square", "cuts", "found", "row", "letters", "letter", "cut"] ["square"] (defScope s_mate) := ⟨rfl, rfl, rfl, by decide +kernel, rfl, by decide +kernel, by decide +kernel⟩
theorem cal_mate (B : Bl mg) (F : FunAt K mg "mate" s_mate ["square"]) (c_parting : Cal P w K mg base 11 "parting" ["square"] g_parting) : Cal P w K mg base 12 "mate" ["square"] g_mate :=
  cal_of (k := 11) (N := ["square", "cuts", "found", "row", "letters", "letter", "cut"]) (o' := []) F sc_mate (by decide) (fun f cdv A outer s H E hr tk po => by
    exact (ds_cons (o' := []) (ds_set (o := []) (de_cal c_parting (hr.mono (by decide)) tk (da_cons (de_var 0) da_nil)) (dg_name 1 sc_mate.nd)) (ds_cons (o' := []) (ds_if (dt_isN (de_var 1)) (ds_cons (ds_ret de_non) ds_nil) ds_nil) (ds_cons (o' := [(2, 1)]) (ds_setN (o := []) (o' := [(2, 1)]) (n := 1) (i := 2) (dn_lst da_nil) sc_mate.nd (by intro j; by_cases h : j = 2 <;> simp [ow, h])) (ds_cons (o' := [(2, 1)]) (ds_for (o := [(2, 1)]) po rfl (di_rng1 B.n_range (de_blt cd_len B.n_len PySem.boot_len (da_cons (de_var 0) da_nil))) (dg_name 3 sc_mate.nd) (ds_cons (o' := [(4, 1), (2, 1)]) (ds_setN (o := [(2, 1)]) (o' := [(4, 1), (2, 1)]) (n := 1) (i := 4) (dn_rep (de_lst (da_cons de_int da_nil)) (de_blt cd_len B.n_len PySem.boot_len (da_cons (de_var 0) da_nil))) sc_mate.nd (by intro j; by_cases h : j = 4 <;> simp [ow, h])) (ds_cons (o' := [(4, 1), (2, 1)]) (ds_for (o := [(4, 1), (2, 1)]) po rfl (di_enum B.n_enumerate (de_var 1)) (dg_tup rfl (dgs_cons 5 sc_mate.nd (dgs_cons 6 sc_mate.nd dgs_nil))) (ds_cons (o' := [(4, 1), (2, 1)]) (ds_put (o := [(4, 1), (2, 1)]) (i := 4) (de_var 5) (de_ix (de_var 6) (de_var 3))) ds_nil)) (ds_frz (o' := [(2, 1)]) 4 (ds_cons (o' := [(2, 1)]) (ds_app (o := [(2, 1)]) (i := 2) (de_ty cd_tuple B.n_tuple boot_tuple (da_cons (de_var 4) da_nil))) ds_nil) (by intro j; by_cases h : j = 4 <;> simp [ow, h]))))) (ds_cons (ds_ret (de_ty cd_tuple B.n_tuple boot_tuple (da_cons (de_var 2) da_nil))) ds_nil)))))) eq_mate
abbrev s_pairs_on : Stmt := topS 37
theorem sc_pairs_on : FnScope ["one", "other", "found", "mine", "theirs"] ["one", "other"] (defScope s_pairs_on) := ⟨rfl, rfl, rfl, by decide +kernel, rfl, by decide +kernel, by decide +kernel⟩
theorem cal_pairs_on (B : Bl mg) (F : FunAt K mg "pairs_on" s_pairs_on ["one", "other"]) : Cal P w K mg base 1 "pairs_on" ["one", "other"] g_pairs_on :=
  cal_of (k := 0) (N := ["one", "other", "found", "mine", "theirs"]) (o' := []) F sc_pairs_on (by decide) (fun f cdv A outer s H E hr tk po => by
    exact (ds_cons (o' := [(2, 1)]) (ds_setN (o := []) (o' := [(2, 1)]) (n := 1) (i := 2) (dn_lst da_nil) sc_pairs_on.nd (by intro j; by_cases h : j = 2 <;> simp [ow, h])) (ds_cons (o' := [(2, 1)]) (ds_for (o := [(2, 1)]) po rfl (di_zip B.n_zip (de_var 0) (de_var 1)) (dg_tup rfl (dgs_cons 3 sc_pairs_on.nd (dgs_cons 4 sc_pairs_on.nd dgs_nil))) (ds_cons (o' := [(2, 1)]) (ds_ext (o := [(2, 1)]) (i := 2) (de_listZip B.n_list B.n_zip (da_cons (de_var 3) (da_cons (de_var 4) da_nil)))) ds_nil)) (ds_cons (ds_ret (de_var 2)) ds_nil)))) eq_pairs_on
abbrev s_are_mates : Stmt := topS 38
theorem sc_are_mates : FnScope ["one", "other"] ["one", "other"] (defScope s_are_mates) := ⟨rfl, rfl, rfl, by decide +kernel, rfl, by decide +kernel, by decide +kernel⟩
theorem cal_are_mates (B : Bl mg) (F : FunAt K mg "are_mates" s_are_mates ["one", "other"]) (c_checked : Cal P w K mg base 4 "checked" ["square"] g_checked) (c_pairs_on : Cal P w K mg base 1 "pairs_on" ["one", "other"] g_pairs_on) {C_BadSquare : Addr} (X_BadSquare : ExcF K mg "BadSquare" C_BadSquare) : Cal P w K mg base 5 "are_mates" ["one", "other"] g_are_mates :=
  cal_of (k := 4) (N := ["one", "other"]) (o' := []) F sc_are_mates (by decide) (fun f cdv A outer s H E hr tk po => by
    exact (ds_cons (o' := []) (ds_expr (o := []) (de_cal c_checked (hr.mono (by decide)) tk (da_cons (de_var 0) da_nil))) (ds_cons (o' := []) (ds_expr (o := []) (de_cal c_checked (hr.mono (by decide)) tk (da_cons (de_var 1) da_nil))) (ds_cons (o' := []) (ds_if (dt_cmp (od_ne hr.units) (de_blt cd_len B.n_len PySem.boot_len (da_cons (de_var 0) da_nil)) (de_blt cd_len B.n_len PySem.boot_len (da_cons (de_var 1) da_nil))) (ds_cons (ds_raiseT X_BadSquare tk rfl) ds_nil) ds_nil) (ds_cons (ds_ret (de_cmp (od_eq hr.units) (de_lenSetT (u65 hr) B.n_len B.n_set (de_cal c_pairs_on (hr.mono (by decide)) tk (da_cons (de_var 0) (da_cons (de_var 1) da_nil)))) (de_bin od_mul (de_blt cd_len B.n_len PySem.boot_len (da_cons (de_var 0) da_nil)) (de_blt cd_len B.n_len PySem.boot_len (da_cons (de_var 0) da_nil))))) ds_nil))))) eq_are_mates
abbrev s_places_of : Stmt := topS 15
theorem sc_places_of : FnScope ["square", "letter", "row"] ["square", "letter"] (defScope s_places_of) := ⟨rfl, rfl, rfl, by decide +kernel, rfl, by decide +kernel, by decide +kernel⟩
theorem cal_places_of (B : Bl mg) (F : FunAt K mg "places_of" s_places_of ["square", "letter"]) (c_checked : Cal P w K mg base 4 "checked" ["square"] g_checked) (c_is_within : Cal P w K mg base 1 "is_within" ["thing", "low", "high"] g_is_within) {C_BadPlace : Addr} (X_BadPlace : ExcF K mg "BadPlace" C_BadPlace) : Cal P w K mg base 5 "places_of" ["square", "letter"] g_places_of :=
  cal_of (k := 4) (N := ["square", "letter", "row"]) (o' := []) F sc_places_of (by decide) (fun f cdv A outer s H E hr tk po => by
    exact (ds_cons (o' := []) (ds_expr (o := []) (de_cal c_checked (hr.mono (by decide)) tk (da_cons (de_var 0) da_nil))) (ds_cons (o' := []) (ds_if (dt_not (dt_tru (de_cal c_is_within (hr.mono (by decide)) tk (da_cons (de_var 1) (da_cons de_int (da_cons (de_bin od_sub (de_blt cd_len B.n_len PySem.boot_len (da_cons (de_var 0) da_nil)) de_int) da_nil)))))) (ds_cons (ds_raiseT X_BadPlace tk rfl) ds_nil) ds_nil) (ds_cons (ds_ret (de_ty cd_tuple B.n_tuple boot_tuple (da_cons (de_new (dn_lc (own := [("row", 2)]) rfl sc_places_of.nd (di_seq (de_var 0)) (blkOk_by (by kernel_rfl)) (fun _ _ _ _ _ => (dg_name 2 sc_places_of.nd)) (fun _ _ _ _ _ => dts_nil) (fun _ _ _ _ _ => (de_m_tindex (de_var 2) (de_var 1))))) da_nil))) ds_nil)))) eq_places_of
abbrev s_cuts_by : Stmt := topS 42
theorem sc_cuts_by : FnScope ["one", "other", "letter"] ["one", "other"] (defScope s_cuts_by) := ⟨rfl, rfl, rfl, by decide +kernel, rfl, by decide +kernel, by decide +kernel⟩
theorem cal_cuts_by (B : Bl mg) (F : FunAt K mg "cuts_by" s_cuts_by ["one", "other"]) (c_are_mates : Cal P w K mg base 5 "are_mates" ["one", "other"] g_are_mates) (c_places_of : Cal P w K mg base 5 "places_of" ["square", "letter"] g_places_of) {C_BadSquare : Addr} (X_BadSquare : ExcF K mg "BadSquare" C_BadSquare) : Cal P w K mg base 6 "cuts_by" ["one", "other"] g_cuts_by :=
  cal_of (k := 5) (N := ["one", "other", "letter"]) (o' := []) F sc_cuts_by (by decide) (fun f cdv A outer s H E hr tk po => by
    exact (ds_cons (o' := []) (ds_if (dt_not (dt_tru (de_cal c_are_mates (hr.mono (by decide)) tk (da_cons (de_var 0) (da_cons (de_var 1) da_nil))))) (ds_cons (ds_raiseT X_BadSquare tk rfl) ds_nil) ds_nil) (ds_cons (ds_ret (de_new (dn_lc (own := [("letter", 2)]) rfl sc_cuts_by.nd (di_rng1 B.n_range (de_blt cd_len B.n_len PySem.boot_len (da_cons (de_var 0) da_nil))) (blkOk_by (by kernel_rfl)) (fun _ _ _ _ _ => (dg_name 2 sc_cuts_by.nd)) (fun _ _ _ _ _ => dts_nil) (fun _ _ _ _ _ => (de_cal c_places_of (hr.mono (by decide)) takes0 (da_cons (de_var 1) (da_cons (de_var 2) da_nil))))))) ds_nil))) eq_cuts_by
abbrev s_rings : Stmt := topS 31
theorem sc_rings : FnScope ["square", "one", "two", "left", "found", "ring", "here", "column"] ["square", "one", "two"] (defScope s_rings) := ⟨rfl, rfl, rfl, by decide +kernel, rfl, by decide +kernel, by decide +kernel⟩
theorem cal_rings (B : Bl mg) (F : FunAt K mg "rings" s_rings ["square", "one", "two"]) (c_checked : Cal P w K mg base 4 "checked" ["square"] g_checked) (c_is_within : Cal P w K mg base 1 "is_within" ["thing", "low", "high"] g_is_within) {C_BadPlace : Addr} (X_BadPlace : ExcF K mg "BadPlace" C_BadPlace) : Cal P w K mg base 5 "rings" ["square", "one", "two"] g_rings :=
  cal_of (k := 4) (N := ["square", "one", "two", "left", "found", "ring", "here", "column"]) (o' := []) F sc_rings (by decide) (fun f cdv A outer s H E hr tk po => by
    exact (ds_cons (o' := []) (ds_expr (o := []) (de_cal c_checked (hr.mono (by decide)) tk (da_cons (de_var 0) da_nil))) (ds_cons (o' := []) (ds_if (dt_w (dw_or (dt_not (dt_tru (de_cal c_is_within (hr.mono (by decide)) tk (da_cons (de_var 1) (da_cons de_int (da_cons (de_bin od_sub (de_blt cd_len B.n_len PySem.boot_len (da_cons (de_var 0) da_nil)) de_int) da_nil)))))) (dw_or (dt_not (dt_tru (de_cal c_is_within (hr.mono (by decide)) tk (da_cons (de_var 2) (da_cons de_int (da_cons (de_bin od_sub (de_blt cd_len B.n_len PySem.boot_len (da_cons (de_var 0) da_nil)) de_int) da_nil)))))) (dw_or1 (dt_cmp (od_eq hr.units) (de_var 1) (de_var 2)))))) (ds_cons (ds_raiseT X_BadPlace tk rfl) ds_nil) ds_nil) (ds_cons (o' := []) (ds_set (o := []) (de_listRg1 B.n_list B.n_range (de_blt cd_len B.n_len PySem.boot_len (da_cons (de_var 0) da_nil))) (dg_name 3 sc_rings.nd)) (ds_cons (o' := [(4, 1)]) (ds_setN (o := []) (o' := [(4, 1)]) (n := 1) (i := 4) (dn_lst da_nil) sc_rings.nd (by intro j; by_cases h : j = 4 <;> simp [ow, h])) (ds_cons (o' := [(4, 1)]) (ds_while (o := [(4, 1)]) 1000 po (dt_tru (de_var 3)) (ds_cons (o' := [(5, 1), (4, 1)]) (ds_setN (o := [(4, 1)]) (o' := [(5, 1), (4, 1)]) (n := 1) (i := 5) (dn_lst (da_cons (de_ix (de_var 3) de_int) da_nil)) sc_rings.nd (by intro j; by_cases h : j = 5 <;> simp [ow, h])) (ds_cons (o' := [(5, 1), (4, 1)]) (ds_set (o := [(5, 1), (4, 1)]) (de_m_tindex (de_ix (de_var 0) (de_var 1)) (de_ix (de_ix (de_var 0) (de_var 2)) (de_ix (de_var 3) de_int))) (dg_name 6 sc_rings.nd)) (ds_cons (o' := [(5, 1), (4, 1)]) (ds_while (o := [(5, 1), (4, 1)]) 1000 po (dt_cmp (od_ne hr.units) (de_var 6) (de_ix (de_var 5) de_int)) (ds_cons (o' := [(5, 1), (4, 1)]) (ds_app (o := [(5, 1), (4, 1)]) (i := 5) (de_var 6)) (ds_cons (o' := [(5, 1), (4, 1)]) (ds_set (o := [(5, 1), (4, 1)]) (de_m_tindex (de_ix (de_var 0) (de_var 1)) (de_ix (de_ix (de_var 0) (de_var 2)) (de_var 6))) (dg_name 6 sc_rings.nd)) ds_nil))) (ds_frz (o' := [(4, 1)]) 5 (ds_cons (o' := [(3, 1), (4, 1)]) (ds_setLc (o := [(4, 1)]) (o' := [(3, 1), (4, 1)]) (i := 3) (own := [("column", 7)]) rfl sc_rings.nd (di_seq (de_var 3)) (blkOk_by (by kernel_rfl)) (fun _ _ _ _ _ => (dg_name 7 sc_rings.nd)) (fun _ _ _ _ _ => (dts_one (dt_cmp (od_notIn (u65 hr)) (de_var 7) (de_var 5) (by rfl)))) (fun _ _ _ _ _ => (de_var 7)) (by intro j; by_cases h : j = 3 <;> simp [ow, h])) (ds_frz (o' := [(4, 1)]) 3 (ds_cons (o' := [(4, 1)]) (ds_app (o := [(4, 1)]) (i := 4) (de_var 5)) ds_nil) (by intro j; by_cases h : j = 3 <;> simp [ow, h]))) (by intro j; by_cases h : j = 5 <;> simp [ow, h])))))) (ds_cons (ds_ret (de_var 4)) ds_nil))))))) eq_rings
abbrev s_is_block : Stmt := topS 33
theorem sc_is_block : FnScope ["many", "thing", "row", "letter", "column"] ["many", "thing"] (defScope s_is_block) := ⟨rfl, rfl, rfl, by decide +kernel, rfl, by decide +kernel, by decide +kernel⟩
theorem cal_is_block (B : Bl mg) (F : FunAt K mg "is_block" s_is_block ["many", "thing"]) (c_is_within : Cal P w K mg base 1 "is_within" ["thing", "low", "high"] g_is_within) (c_columns_of : Cal P w K mg base 1 "columns_of" ["square"] g_columns_of) : Cal P w K mg base 2 "is_block" ["many", "thing"] g_is_block :=
  cal_of (k := 1) (N := ["many", "thing", "row", "letter", "column"]) (o' := []) F sc_is_block (by decide) (fun f cdv A outer s H E hr tk po => by
    exact (ds_cons (o' := []) (ds_if (dt_w (dw_or (dt_not (dt_tru (de_isi B.n_isinstance B.n_tuple boot_tuple rfl (de_var 1)))) (dw_or1 (dt_not (dt_chain od_le od_le de_int (de_blt cd_len B.n_len PySem.boot_len (da_cons (de_var 1) da_nil)) (de_var 0)))))) (ds_cons (ds_ret de_bl) ds_nil) ds_nil) (ds_cons (o' := []) (ds_for (o := []) po rfl (di_seq (de_var 1)) (dg_name 2 sc_is_block.nd) (ds_cons (o' := []) (ds_if (dt_w (dw_or (dt_not (dt_tru (de_isi B.n_isinstance B.n_tuple boot_tuple rfl (de_var 2)))) (dw_or (dt_not (dt_chain od_le od_le de_int (de_blt cd_len B.n_len PySem.boot_len (da_cons (de_var 2) da_nil)) (de_var 0))) (dw_or1 (dt_cmp (od_ne hr.units) (de_blt cd_len B.n_len PySem.boot_len (da_cons (de_var 2) da_nil)) (de_blt cd_len B.n_len PySem.boot_len (da_cons (de_ix (de_var 1) de_int) da_nil))))))) (ds_cons (ds_ret de_bl) ds_nil) ds_nil) (ds_cons (o' := []) (ds_if (dt_w (dw_or (dt_tru (de_new (dn_lc (own := [("letter", 3)]) rfl sc_is_block.nd (di_seq (de_var 2)) (blkOk_by (by kernel_rfl)) (fun _ _ _ _ _ => (dg_name 3 sc_is_block.nd)) (fun _ _ _ _ _ => (dts_one (dt_not (dt_tru (de_cal c_is_within (hr.mono (by decide)) takes0 (da_cons (de_var 3) (da_cons de_int (da_cons (de_bin od_sub (de_var 0) de_int) da_nil)))))))) (fun _ _ _ _ _ => (de_var 3))))) (dw_or1 (dt_cmp od_lt (de_lenSet B.n_len B.n_set (de_var 2)) (de_blt cd_len B.n_len PySem.boot_len (da_cons (de_var 2) da_nil)))))) (ds_cons (ds_ret de_bl) ds_nil) ds_nil) ds_nil))) (ds_cons (ds_ret (de_not (de_new (dn_lc (own := [("column", 4)]) rfl sc_is_block.nd (di_seq (de_cal c_columns_of (hr.mono (by decide)) tk (da_cons (de_var 1) da_nil))) (blkOk_by (by kernel_rfl)) (fun _ _ _ _ _ => (dg_name 4 sc_is_block.nd)) (fun _ _ _ _ _ => (dts_one (dt_cmp od_lt (de_lenSet B.n_len B.n_set (de_var 4)) (de_blt cd_len B.n_len PySem.boot_len (da_cons (de_var 1) da_nil))))) (fun _ _ _ _ _ => (de_var 4)))))) ds_nil)))) eq_is_block
abbrev s_look_block : Stmt := topS 34
theorem sc_look_block : FnScope ["many", "block"] ["many", "block"] (defScope s_look_block) := ⟨rfl, rfl, rfl, by decide +kernel, rfl, by decide +kernel, by decide +kernel⟩
theorem cal_look_block (B : Bl mg) (F : FunAt K mg "look_block" s_look_block ["many", "block"]) (c_is_within : Cal P w K mg base 1 "is_within" ["thing", "low", "high"] g_is_within) (c_is_block : Cal P w K mg base 2 "is_block" ["many", "thing"] g_is_block) {C_BadBlock : Addr} (X_BadBlock : ExcF K mg "BadBlock" C_BadBlock) {C_BadNumber : Addr} (X_BadNumber : ExcF K mg "BadNumber" C_BadNumber) : Cal P w K mg base 3 "look_block" ["many", "block"] g_look_block :=
  cal_of (k := 2) (N := ["many", "block"]) (o' := []) F sc_look_block (by decide) (fun f cdv A outer s H E hr tk po => by
    exact (ds_cons (o' := []) (ds_if (dt_not (dt_tru (de_cal c_is_within (hr.mono (by decide)) tk (da_cons (de_var 0) (da_cons de_int (da_cons (de_globI B.c_MOST.choose_spec) da_nil)))))) (ds_cons (ds_raiseT X_BadNumber tk rfl) ds_nil) ds_nil) (ds_cons (o' := []) (ds_if (dt_not (dt_tru (de_cal c_is_block (hr.mono (by decide)) tk (da_cons (de_var 0) (da_cons (de_var 1) da_nil))))) (ds_cons (ds_raiseT X_BadBlock tk rfl) ds_nil) ds_nil) ds_nil))) eq_look_block
abbrev s_scarce : Stmt := topS 35
theorem sc_scarce : FnScope ["many", "block", "least", "some", "row", "letter"] ["many", "block"] (defScope s_scarce) := ⟨rfl, rfl, rfl, by decide +kernel, rfl, by decide +kernel, by decide +kernel⟩
theorem cal_scarce (B : Bl mg) (F : FunAt K mg "scarce" s_scarce ["many", "block"]) (c_look_block : Cal P w K mg base 3 "look_block" ["many", "block"] g_look_block) : Cal P w K mg base 4 "scarce" ["many", "block"] g_scarce :=
  cal_of (k := 3) (N := ["many", "block", "least", "some", "row", "letter"]) (o' := []) F sc_scarce (by decide) (fun f cdv A outer s H E hr tk po => by
    exact (ds_cons (o' := []) (ds_expr (o := []) (de_cal c_look_block (hr.mono (by decide)) tk (da_cons (de_var 0) (da_cons (de_var 1) da_nil)))) (ds_cons (o' := []) (ds_set (o := []) (de_bin od_sub (de_bin od_add (de_blt cd_len B.n_len PySem.boot_len (da_cons (de_var 1) da_nil)) (de_blt cd_len B.n_len PySem.boot_len (da_cons (de_ix (de_var 1) de_int) da_nil))) (de_var 0)) (dg_name 2 sc_scarce.nd)) (ds_cons (o' := []) (ds_set (o := []) (de_lst da_nil) (dg_name 3 sc_scarce.nd)) (ds_cons (o' := []) (ds_for (o := []) po rfl (di_seq (de_var 1)) (dg_name 4 sc_scarce.nd) (ds_cons (o' := []) (ds_set (o := []) (de_bin od_add (de_var 3) (de_ty cd_list B.n_list boot_list (da_cons (de_var 4) da_nil))) (dg_name 3 sc_scarce.nd)) ds_nil)) (ds_cons (ds_ret (de_new (dn_lc (own := [("letter", 5)]) rfl sc_scarce.nd (di_rng1 B.n_range (de_var 0)) (blkOk_by (by kernel_rfl)) (fun _ _ _ _ _ => (dg_name 5 sc_scarce.nd)) (fun _ _ _ _ _ => (dts_one (dt_cmp od_lt (de_m_lcount (de_var 3) (de_var 5)) (de_var 2)))) (fun _ _ _ _ _ => (de_var 5))))) ds_nil)))))) eq_scarce
abbrev s__law_lists : Stmt := topS 55
theorem sc__law_lists : FnScope ["_law_square", "_law_row", "_law_found"] ["_law_square", "_law_row"] (defScope s__law_lists) := ⟨rfl, rfl, rfl, by decide +kernel, rfl, by decide +kernel, by decide +kernel⟩
theorem cal__law_lists (B : Bl mg) (F : FunAt K mg "_law_lists" s__law_lists ["_law_square", "_law_row"]) (c_twos : Cal P w K mg base 5 "twos" ["square"] g_twos) (c_all_marks : Cal P w K mg base 5 "all_marks" ["square"] g_all_marks) (c_most_apart : Cal P w K mg base 11 "most_apart" ["square"] g_most_apart) (c_cuts_at : Cal P w K mg base 10 "cuts_at" ["square", "row", "column"] g_cuts_at) (c_all_cuts : Cal P w K mg base 10 "all_cuts" ["square"] g_all_cuts) (c_mate : Cal P w K mg base 12 "mate" ["square"] g_mate) (c_cuts_by : Cal P w K mg base 6 "cuts_by" ["one", "other"] g_cuts_by) (c_parting : Cal P w K mg base 11 "parting" ["square"] g_parting) (c_rings : Cal P w K mg base 5 "rings" ["square", "one", "two"] g_rings) (c_scarce : Cal P w K mg base 4 "scarce" ["many", "block"] g_scarce) : Cal P w K mg base 13 "_law_lists" ["_law_square", "_law_row"] g__law_lists :=
  cal_of (k := 12) (N := ["_law_square", "_law_row", "_law_found"]) (o' := []) F sc__law_lists (by decide) (fun f cdv A outer s H E hr tk po => by
    exact (ds_cons (o' := []) (ds_set (o := []) (de_lst (da_cons (de_cal c_all_cuts (hr.mono (by decide)) tk (da_cons (de_var 0) da_nil)) (da_cons (de_cal c_cuts_at (hr.mono (by decide)) tk (da_cons (de_var 0) (da_cons (de_var 1) (da_cons de_int da_nil)))) (da_cons (de_cal c_most_apart (hr.mono (by decide)) tk (da_cons (de_var 0) da_nil)) (da_cons (de_cal c_all_marks (hr.mono (by decide)) tk (da_cons (de_var 0) da_nil)) (da_cons (de_cal c_twos (hr.mono (by decide)) tk (da_cons (de_var 0) da_nil)) da_nil)))))) (dg_name 2 sc__law_lists.nd)) (ds_cons (o' := []) (ds_if (dt_notN (de_cal c_mate (hr.mono (by decide)) tk (da_cons (de_var 0) da_nil))) (ds_cons (o' := []) (ds_set (o := []) (de_bin od_add (de_var 2) (de_lst (da_cons (de_cal c_parting (hr.mono (by decide)) tk (da_cons (de_var 0) da_nil)) (da_cons (de_cal c_cuts_by (hr.mono (by decide)) tk (da_cons (de_var 0) (da_cons (de_cal c_mate (hr.mono (by decide)) tk (da_cons (de_var 0) da_nil)) da_nil))) da_nil)))) (dg_name 2 sc__law_lists.nd)) ds_nil) ds_nil) (ds_cons (o' := []) (ds_if (dt_cmp od_gt (de_blt cd_len B.n_len PySem.boot_len (da_cons (de_var 0) da_nil)) de_int) (ds_cons (o' := []) (ds_set (o := []) (de_bin od_add (de_bin od_add (de_var 2) (de_cal c_rings (hr.mono (by decide)) tk (da_cons (de_var 0) (da_cons de_int (da_cons de_int da_nil))))) (de_lst (da_cons (de_cal c_rings (hr.mono (by decide)) tk (da_cons (de_var 0) (da_cons de_int (da_cons de_int da_nil)))) da_nil))) (dg_name 2 sc__law_lists.nd)) ds_nil) ds_nil) (ds_cons (ds_ret (de_bin od_add (de_var 2) (de_lst (da_cons (de_cal c_scarce (hr.mono (by decide)) tk (da_cons de_int (da_cons (de_tup (da_cons (de_tup (da_cons de_int (da_cons de_int da_nil))) (da_cons (de_tup (da_cons de_int (da_cons de_int da_nil))) da_nil))) da_nil))) da_nil)))) ds_nil))))) eq__law_lists
theorem calS_st {x : Str} {st : Stmt} {ps : List Str} {k : Nat} {sp : Sp} (hs : ∀ vs H Q E, ¬ sp vs H Q E) (Fn : FunAt K mg x st ps) : CalS P w K mg base k x ps sp := by
  obtain ⟨f, fd, F, m1, b⟩ := Fn.ex
  exact ⟨f, fd, ⟨fun vs H Q E h => absurd h (hs _ _ _ _), fun A outer s H args us vs Q E hr h0 hb hv h => absurd h (hs _ _ _ _)⟩, m1, F.kp, b⟩
abbrev s__law_twin : Stmt := topS 46
theorem sc__law_twin : FnScope ["_law_thing", "_law_one"] ["_law_thing"] (defScope s__law_twin) := ⟨rfl, rfl, rfl, by decide +kernel, rfl, by decide +kernel, by decide +kernel⟩
theorem calR__law_twin (B : Bl mg) (Fn : FunAt K mg "_law_twin" s__law_twin ["_law_thing"]) : ∀ n : Nat, CalS P w K mg base n "_law_twin" ["_law_thing"] (spTwN K n)
  | 0 => calS_st (fun _ _ _ _ h => h) Fn
  | n + 1 => by
    have cself := calR__law_twin B Fn n
    obtain ⟨f, fd, F, m1, b⟩ := Fn.ex
    refine ⟨f, fd, F.okX sc__law_twin (fun vs H Q E ⟨_, v, _, e, _⟩ => by rw [e]; rfl) (fun cdv A outer s H vs Q E hr h => ⟨_, pss_cons (ps_if (pt_not (pt_val (pe_callB call_isi rfl B.n_isinstance (by decide +kernel) (pa_cons (pe_var (i := 0) rfl (.inl rfl)) (pa_cons (pe_bltn (v := .ty "list") rfl B.n_list boot_list rfl) pa_nil))))) (pss_one (ps_ret (pe_var (i := 0) rfl (.inl rfl)))) pss_nil)
      (pss_one (ps_ret (pe_lc (own := [("_law_one", 1)]) rfl sc__law_twin.nd (pi_list (pe_var (i := 0) rfl (.inl rfl))) (blkOk_by (by kernel_rfl)) (fun _ _ _ _ _ => pg_name (i := 1) sc__law_twin.nd rfl (.inl rfl)) (fun _ _ _ _ _ => pts_nil) (fun _ _ _ _ _ => pe_calS cself hr takes0 (pa_cons (pe_var (i := 1) rfl (.inl rfl)) pa_nil))))), ?_⟩), m1, F.kp, b⟩
    have hv : ∃ v, vs = [v] := by
      obtain ⟨_, v, _, e, _⟩ := h
      exact ⟨v, e⟩
    obtain ⟨v, rfl⟩ := hv
    exact tw_read (E := E) h
abbrev s__law_emptied : Stmt := topS 47
theorem sc__law_emptied : FnScope ["_law_thing", "_law_one"] ["_law_thing"] (defScope s__law_emptied) := ⟨rfl, rfl, rfl, by decide +kernel, rfl, by decide +kernel, by decide +kernel⟩
theorem calR__law_emptied (B : Bl mg) (Fn : FunAt K mg "_law_emptied" s__law_emptied ["_law_thing"]) : ∀ n : Nat, CalS P w K mg base n "_law_emptied" ["_law_thing"] (spEmN K n)
  | 0 => calS_st (fun _ _ _ _ h => h) Fn
  | n + 1 => by
    have cself := calR__law_emptied B Fn n
    obtain ⟨f, fd, F, m1, b⟩ := Fn.ex
    refine ⟨f, fd, F.okX sc__law_emptied (fun vs H Q E ⟨_, _, _, _, v, e, _⟩ => by rw [e]; rfl) (fun cdv A outer s H vs Q E hr h => ⟨_, pss_one (ps_if (pt_val (pe_callB call_isi rfl B.n_isinstance (by decide +kernel) (pa_cons (pe_var (i := 0) rfl (.inl rfl)) (pa_cons (pe_bltn (v := .ty "list") rfl B.n_list boot_list rfl) pa_nil))))
      (pss_cons (ps_for (passes_of (X := cxOf (L2.CX P w) P w K mg base ["_law_thing", "_law_one"] "_law_emptied" (defScope s__law_emptied) f cdv A outer s H E) rfl) rfl (pi_list (pe_callTy call_list_of rfl B.n_list (by decide +kernel) (pa_cons (pe_var (i := 0) rfl (.inl rfl)) pa_nil))) (pg_name (i := 1) sc__law_emptied.nd rfl (.inl rfl))
        (pss_one (ps_expr (pe_calS cself hr (takes_of (X := cxOf (L2.CX P w) P w K mg base ["_law_thing", "_law_one"] "_law_emptied" (defScope s__law_emptied) f cdv A outer s H E) rfl rfl rfl rfl) (pa_cons (pe_var (i := 1) rfl (.inl rfl)) pa_nil)))))
      (pss_one (ps_expr (pe_bm0 PySem.F.plainAttrs_list PySem.F.slot_list_clear PySem.F.type_list_clear mt_clear (pe_var (i := 0) rfl (.inl rfl)))))) pss_nil), ?_⟩), m1, F.kp, b⟩
    obtain ⟨G, S, r, k, v, rfl, a1, a2, a3, a4, a5, hQ⟩ := h
    exact em_read (E := E) (D := { nx := fun _ H' => Q .non H', rt := Q }) ⟨G, S, r, k, v, rfl, a1, a2, a3, a4, a5, fun H' x y => ⟨rfl, fun _ => hQ H' x y⟩⟩
abbrev s__law_cuts : Stmt := topS 54
theorem sc__law_cuts : FnScope ["_law_square", "_law_begun", "_law_found", "_law_met", "_law_column", "_law_row"] ["_law_square", "_law_begun"] (defScope s__law_cuts) := ⟨rfl, rfl, rfl, by decide +kernel, rfl, by decide +kernel, by decide +kernel⟩
theorem cal__law_cuts {k : Nat} {rec g : List D → Rz D} (B : Bl mg) (F : FunAt K mg "_law_cuts" s__law_cuts ["_law_square", "_law_begun"]) (cself : Cal P w K mg base k "_law_cuts" ["_law_square", "_law_begun"] rec) (hk : 0 ≤ k)
    (hg : ∀ ds, ds.length = 2 → g ds = .st ∨ (m__law_cuts rec (startE 6 ds)).rz = g ds) : Cal P w K mg base (k + 1) "_law_cuts" ["_law_square", "_law_begun"] g :=
  cal_of (N := ["_law_square", "_law_begun", "_law_found", "_law_met", "_law_column", "_law_row"]) (o' := []) F sc__law_cuts (by decide) (fun f cdv A outer s H E hr tk po => by
    exact (ds_cons (o' := []) (ds_if (dt_cmp (od_eq hr.units) (de_blt cd_len B.n_len PySem.boot_len (da_cons (de_var 1) da_nil)) (de_blt cd_len B.n_len PySem.boot_len (da_cons (de_var 0) da_nil))) (ds_cons (ds_ret (de_lst (da_cons (de_var 1) da_nil))) ds_nil) ds_nil) (ds_cons (o' := []) (ds_set (o := []) (de_lst da_nil) (dg_name 2 sc__law_cuts.nd)) (ds_cons (o' := [(3, 1)]) (ds_setLc (o := []) (o' := [(3, 1)]) (i := 3) (own := [("_law_row", 5), ("_law_column", 4)]) rfl sc__law_cuts.nd (di_enum B.n_enumerate (de_var 1)) (blkOk_by (by kernel_rfl)) (fun _ _ _ _ _ => (dg_tup rfl (dgs_cons 5 sc__law_cuts.nd (dgs_cons 4 sc__law_cuts.nd dgs_nil)))) (fun _ _ _ _ _ => dts_nil) (fun _ _ _ _ _ => (de_ix (de_ix (de_var 0) (de_var 5)) (de_var 4))) (by intro j; by_cases h : j = 3 <;> simp [ow, h])) (ds_frz (o' := []) 3 (ds_cons (o' := []) (ds_for (o := []) po rfl (di_rng1 B.n_range (de_blt cd_len B.n_len PySem.boot_len (da_cons (de_var 0) da_nil))) (dg_name 4 sc__law_cuts.nd) (ds_cons (o' := []) (ds_if (dt_w (dw_and (dt_cmp (od_notIn (u65 hr)) (de_var 4) (de_var 1) (by rfl)) (dw_and1 (dt_cmp (od_notIn (u65 hr)) (de_ix (de_ix (de_var 0) (de_blt cd_len B.n_len PySem.boot_len (da_cons (de_var 1) da_nil))) (de_var 4)) (de_var 3) (by rfl))))) (ds_cons (o' := []) (ds_set (o := []) (de_bin od_add (de_var 2) (de_cal cself (hr.mono (by omega)) tk (da_cons (de_var 0) (da_cons (de_bin od_add (de_var 1) (de_tup (da_cons (de_var 4) da_nil))) da_nil)))) (dg_name 2 sc__law_cuts.nd)) ds_nil) ds_nil) ds_nil)) (ds_cons (ds_ret (de_var 2)) ds_nil)) (by intro j; by_cases h : j = 3 <;> simp [ow, h])))))) hg
theorem calR__law_cuts (B : Bl mg) (F : FunAt K mg "_law_cuts" s__law_cuts ["_law_square", "_law_begun"]) : ∀ n : Nat, Cal P w K mg base (0 + n) "_law_cuts" ["_law_square", "_law_begun"] (gR__law_cuts n)
  | 0 => cal_st F
  | n + 1 => cal__law_cuts B F (calR__law_cuts B F n) (Nat.le_add_right _ _) (fun ds _ => .inr rfl)
abbrev s_law : Stmt := topS 56
theorem sc_law : FnScope ["_law_script", "_law_square", "_law_row", "_law_rows", "_law_due", "_law_one"] ["_law_script"] (defScope s_law) := ⟨rfl, rfl, rfl, by decide +kernel, rfl, by decide +kernel, by decide +kernel⟩
theorem fnd_law (B : Bl mg) {f : Addr} {fd : FuncData} (F : Fun K "law" "law" s_law f fd) (c__law_cell : Cal P w K mg base 1 "_law_cell" ["_law_script", "_law_k"] g__law_cell) (c__law_sized : Cal P w K mg base 3 "_law_sized" ["_law_script", "_law_at", "_law_many"] g__law_sized) (c__law_lists : Cal P w K mg base 13 "_law_lists" ["_law_square", "_law_row"] g__law_lists) (c__law_twin : CalS P w K mg base 4 "_law_twin" ["_law_thing"] (spTwN K 4)) (c__law_emptied : CalS P w K mg base 4 "_law_emptied" ["_law_thing"] (spEmN K 4)) (c_checked : Cal P w K mg base 4 "checked" ["square"] g_checked) (c__law_twos : Cal P w K mg base 1 "_law_twos" ["_law_square"] g__law_twos) (c__law_cuts : Cal P w K mg base 9 "_law_cuts" ["_law_square", "_law_begun"] g__law_cuts) : FnD P w K mg base 14 f fd ["_law_script"] gLaw :=
  law_of (k := 13) (N := ["_law_script", "_law_square", "_law_row", "_law_rows", "_law_due", "_law_one"]) (o' := []) F sc_law (by decide) (fun f cdv A outer s H E hr tk po => by
    exact (ds_cons (o' := []) (ds_set (o := []) (de_cal c__law_sized (hr.mono (by decide)) tk (da_cons (de_var 0) (da_cons de_int (da_cons (de_ix (de_lst (da_cons de_int (da_cons de_int (da_cons de_int (da_cons de_int (da_cons de_int (da_cons de_int da_nil))))))) (de_bin od_mod (de_cal c__law_cell (hr.mono (by decide)) tk (da_cons (de_var 0) (da_cons de_int da_nil))) de_int)) da_nil)))) (dg_name 1 sc_law.nd)) (ds_cons (o' := []) (ds_set (o := []) (de_bin od_mod (de_cal c__law_cell (hr.mono (by decide)) tk (da_cons (de_var 0) (da_cons de_int da_nil))) (de_blt cd_len B.n_len PySem.boot_len (da_cons (de_var 1) da_nil))) (dg_name 2 sc_law.nd)) (dss_rows (ir := 3) (idue := 4) (ione := 5) po rfl sc_law.nd (de_cal c__law_lists (hr.mono (by decide)) tk (da_cons (de_var 1) (da_cons (de_var 2) da_nil))) c__law_twin (hr.mono (by decide)) c__law_emptied (hr.mono (by decide)) tk (ds_cons (o' := []) (ds_if (dt_w (dw_or (dt_cmp (od_ne hr.units) (de_cal c__law_lists (hr.mono (by decide)) tk (da_cons (de_var 1) (da_cons (de_var 2) da_nil))) (de_var 4)) (dw_or1 (dt_cmp (od_ne hr.units) (de_cal c_checked (hr.mono (by decide)) tk (da_cons (de_var 1) da_nil)) (de_var 1))))) (ds_cons (ds_ret de_bl) ds_nil) ds_nil) (ds_cons (ds_ret (de_and (de_cmp (od_eq hr.units) (de_ix (de_var 4) de_int) (de_cal c__law_cuts (hr.mono (by decide)) tk (da_cons (de_var 1) (da_cons (de_tup da_nil) da_nil)))) (de_one (de_cmp (od_eq hr.units) (de_ix (de_var 4) de_int) (de_cal c__law_twos (hr.mono (by decide)) tk (da_cons (de_var 1) da_nil)))))) ds_nil)))))) eq_law
end
def fnL : List He.FnD := [defF "_law_cell" (topS 44), defF "_law_first" (topS 49), defF "_law_mix" (topS 45), defF "_law_twos" (topS 50), defF "_law_switched" (topS 51), defF "_law_order" (topS 48), defF "_law_renamed" (topS 52), defF "_law_sized" (topS 53), defF "is_within" (topS 9), defF "is_order" (topS 10), defF "columns_of" (topS 12), defF "is_square" (topS 11), defF "checked" (topS 13), defF "twos" (topS 30), defF "marks_of" (topS 27), defF "marked_by" (topS 26), defF "all_marks" (topS 28), defF "look_small" (topS 18), defF "longer_cuts" (topS 19), defF "share" (topS 22), defF "apart_from" (topS 23), defF "most_apart" (topS 24), defF "look_place" (topS 14), defF "cuts_at" (topS 21), defF "all_cuts" (topS 20), defF "parting_by" (topS 39), defF "parting" (topS 40), defF "mate" (topS 41), defF "pairs_on" (topS 37), defF "are_mates" (topS 38), defF "places_of" (topS 15), defF "cuts_by" (topS 42), defF "rings" (topS 31), defF "is_block" (topS 33), defF "look_block" (topS 34), defF "scarce" (topS 35), defF "_law_lists" (topS 55), defF "_law_twin" (topS 46), defF "_law_emptied" (topS 47), defF "_law_cuts" (topS 54), defF "law" (topS 56)]
def faL : List He.Fa := [.glo "_law_cell", .keep "_law_cell", .glo "_law_first", .keep "_law_first", .glo "_law_mix", .keep "_law_mix", .glo "_law_twos", .keep "_law_twos", .glo "_law_switched", .keep "_law_switched", .glo "_law_order", .keep "_law_order", .glo "_law_renamed", .keep "_law_renamed", .glo "_law_sized", .keep "_law_sized", .glo "is_within", .keep "is_within", .glo "is_order", .keep "is_order", .glo "columns_of", .keep "columns_of", .glo "is_square", .keep "is_square", .glo "checked", .keep "checked", .glo "twos", .keep "twos", .glo "marks_of", .keep "marks_of", .glo "marked_by", .keep "marked_by", .glo "all_marks", .keep "all_marks", .glo "look_small", .keep "look_small", .glo "longer_cuts", .keep "longer_cuts", .glo "share", .keep "share", .glo "apart_from", .keep "apart_from", .glo "most_apart", .keep "most_apart", .glo "look_place", .keep "look_place", .glo "cuts_at", .keep "cuts_at", .glo "all_cuts", .keep "all_cuts", .glo "parting_by", .keep "parting_by", .glo "parting", .keep "parting", .glo "mate", .keep "mate", .glo "pairs_on", .keep "pairs_on", .glo "are_mates", .keep "are_mates", .glo "places_of", .keep "places_of", .glo "cuts_by", .keep "cuts_by", .glo "rings", .keep "rings", .glo "is_block", .keep "is_block", .glo "look_block", .keep "look_block", .glo "scarce", .keep "scarce", .glo "_law_lists", .keep "_law_lists", .glo "_law_twin", .keep "_law_twin", .glo "_law_emptied", .keep "_law_emptied", .glo "_law_cuts", .keep "_law_cuts", .glo "law", .keep "law", .free "bool", .free "enumerate", .free "int", .free "isinstance", .free "len", .free "list", .free "range", .free "set", .free "sorted", .free "tuple", .free "zip", .int "MOST" 9, .int "MOST_CUT" 7, .glo "BadBlock", .exc "BadBlock", .glo "BadNumber", .exc "BadNumber", .glo "BadPlace", .exc "BadPlace", .glo "BadSquare", .exc "BadSquare", .glo "TooBig", .exc "TooBig"]
def exL : PySem.W.Frag → Bool := fun _ => true
theorem facts {P : Program} {w : World} {K : PySem.W.Frag} {mg : Str → Option Value} {base : Heap} {f : Addr} {fd : FuncData} (c : SaysX faL fnL exL K) (X : K.In base) (G : base.Ns mainGlobals mg) (F : Fun K "law" "law" s_law f fd) : FnD P w K mg base 14 f fd ["_law_script"] gLaw := by
  have B : Bl mg := ⟨He.free_ok X G (c.e.fact 82 rfl), He.free_ok X G (c.e.fact 83 rfl), He.free_ok X G (c.e.fact 84 rfl), He.free_ok X G (c.e.fact 85 rfl), He.free_ok X G (c.e.fact 86 rfl), He.free_ok X G (c.e.fact 87 rfl), He.free_ok X G (c.e.fact 88 rfl), He.free_ok X G (c.e.fact 89 rfl), He.free_ok X G (c.e.fact 90 rfl), He.free_ok X G (c.e.fact 91 rfl), He.free_ok X G (c.e.fact 92 rfl), He.int_ok X G (c.e.fact 93 rfl), He.int_ok X G (c.e.fact 94 rfl)⟩
  have X_BadBlock : ExcF K mg "BadBlock" _ := excF X G c 95 96
  have X_BadNumber : ExcF K mg "BadNumber" _ := excF X G c 97 98
  have X_BadPlace : ExcF K mg "BadPlace" _ := excF X G c 99 100
  have X_BadSquare : ExcF K mg "BadSquare" _ := excF X G c 101 102
  have X_TooBig : ExcF K mg "TooBig" _ := excF X G c 103 104
  have F__law_cell : FunAt K mg "_law_cell" s__law_cell ["_law_script", "_law_k"] := funAt X G c 0 0 1 (fun _ _ _ _ _ _ us hl => match us, hl with | [_, _], _ => rfl)
  have c__law_cell : Cal P w K mg base 1 "_law_cell" ["_law_script", "_law_k"] g__law_cell := cal__law_cell B F__law_cell
  have F__law_first : FunAt K mg "_law_first" s__law_first ["_law_many", "_law_way"] := funAt X G c 1 2 3 (fun _ _ _ _ _ _ us hl => match us, hl with | [_, _], _ => rfl)
  have c__law_first : Cal P w K mg base 1 "_law_first" ["_law_many", "_law_way"] g__law_first := cal__law_first B F__law_first
  have F__law_mix : FunAt K mg "_law_mix" s__law_mix ["_law_cell_here", "_law_prime", "_law_many"] := funAt X G c 2 4 5 (fun _ _ _ _ _ _ us hl => match us, hl with | [_, _, _], _ => rfl)
  have c__law_mix : Cal P w K mg base 1 "_law_mix" ["_law_cell_here", "_law_prime", "_law_many"] g__law_mix := cal__law_mix B F__law_mix
  have F__law_twos : FunAt K mg "_law_twos" s__law_twos ["_law_square"] := funAt X G c 3 6 7 (fun _ _ _ _ _ _ us hl => match us, hl with | [_], _ => rfl)
  have c__law_twos : Cal P w K mg base 1 "_law_twos" ["_law_square"] g__law_twos := cal__law_twos B F__law_twos
  have F__law_switched : FunAt K mg "_law_switched" s__law_switched ["_law_square", "_law_two"] := funAt X G c 4 8 9 (fun _ _ _ _ _ _ us hl => match us, hl with | [_, _], _ => rfl)
  have c__law_switched : Cal P w K mg base 1 "_law_switched" ["_law_square", "_law_two"] g__law_switched := cal__law_switched B F__law_switched
  have F__law_order : FunAt K mg "_law_order" s__law_order ["_law_cell_here", "_law_many"] := funAt X G c 5 10 11 (fun _ _ _ _ _ _ us hl => match us, hl with | [_, _], _ => rfl)
  have c__law_order : Cal P w K mg base 2 "_law_order" ["_law_cell_here", "_law_many"] g__law_order := cal__law_order B F__law_order c__law_mix
  have F__law_renamed : FunAt K mg "_law_renamed" s__law_renamed ["_law_square", "_law_rows", "_law_columns", "_law_letters"] := funAt X G c 6 12 13 (fun _ _ _ _ _ _ us hl => match us, hl with | [_, _, _, _], _ => rfl)
  have c__law_renamed : Cal P w K mg base 1 "_law_renamed" ["_law_square", "_law_rows", "_law_columns", "_law_letters"] g__law_renamed := cal__law_renamed B F__law_renamed
  have F__law_sized : FunAt K mg "_law_sized" s__law_sized ["_law_script", "_law_at", "_law_many"] := funAt X G c 7 14 15 (fun _ _ _ _ _ _ us hl => match us, hl with | [_, _, _], _ => rfl)
  have c__law_sized : Cal P w K mg base 3 "_law_sized" ["_law_script", "_law_at", "_law_many"] g__law_sized := cal__law_sized B F__law_sized c__law_cell c__law_first c__law_mix c__law_twos c__law_switched c__law_order c__law_renamed
  have F_is_within : FunAt K mg "is_within" s_is_within ["thing", "low", "high"] := funAt X G c 8 16 17 (fun _ _ _ _ _ _ us hl => match us, hl with | [_, _, _], _ => rfl)
  have c_is_within : Cal P w K mg base 1 "is_within" ["thing", "low", "high"] g_is_within := cal_is_within B F_is_within
  have F_is_order : FunAt K mg "is_order" s_is_order ["thing", "many"] := funAt X G c 9 18 19 (fun _ _ _ _ _ _ us hl => match us, hl with | [_, _], _ => rfl)
  have c_is_order : Cal P w K mg base 2 "is_order" ["thing", "many"] g_is_order := cal_is_order B F_is_order c_is_within
  have F_columns_of : FunAt K mg "columns_of" s_columns_of ["square"] := funAt X G c 10 20 21 (fun _ _ _ _ _ _ us hl => match us, hl with | [_], _ => rfl)
  have c_columns_of : Cal P w K mg base 1 "columns_of" ["square"] g_columns_of := cal_columns_of B F_columns_of
  have F_is_square : FunAt K mg "is_square" s_is_square ["thing"] := funAt X G c 11 22 23 (fun _ _ _ _ _ _ us hl => match us, hl with | [_], _ => rfl)
  have c_is_square : Cal P w K mg base 3 "is_square" ["thing"] g_is_square := cal_is_square B F_is_square c_is_order c_columns_of
  have F_checked : FunAt K mg "checked" s_checked ["square"] := funAt X G c 12 24 25 (fun _ _ _ _ _ _ us hl => match us, hl with | [_], _ => rfl)
  have c_checked : Cal P w K mg base 4 "checked" ["square"] g_checked := cal_checked B F_checked c_is_square X_BadSquare
  have F_twos : FunAt K mg "twos" s_twos ["square"] := funAt X G c 13 26 27 (fun _ _ _ _ _ _ us hl => match us, hl with | [_], _ => rfl)
  have c_twos : Cal P w K mg base 5 "twos" ["square"] g_twos := cal_twos B F_twos c_checked
  have F_marks_of : FunAt K mg "marks_of" s_marks_of ["many"] := funAt X G c 14 28 29 (fun _ _ _ _ _ _ us hl => match us, hl with | [_], _ => rfl)
  have c_marks_of : Cal P w K mg base 1 "marks_of" ["many"] g_marks_of := cal_marks_of B F_marks_of
  have F_marked_by : FunAt K mg "marked_by" s_marked_by ["square", "first", "rows"] := funAt X G c 15 30 31 (fun _ _ _ _ _ _ us hl => match us, hl with | [_, _, _], _ => rfl)
  have c_marked_by : Cal P w K mg base 1 "marked_by" ["square", "first", "rows"] g_marked_by := cal_marked_by B F_marked_by
  have F_all_marks : FunAt K mg "all_marks" s_all_marks ["square"] := funAt X G c 16 32 33 (fun _ _ _ _ _ _ us hl => match us, hl with | [_], _ => rfl)
  have c_all_marks : Cal P w K mg base 5 "all_marks" ["square"] g_all_marks := cal_all_marks B F_all_marks c_checked c_marks_of c_marked_by
  have F_look_small : FunAt K mg "look_small" s_look_small ["square"] := funAt X G c 17 34 35 (fun _ _ _ _ _ _ us hl => match us, hl with | [_], _ => rfl)
  have c_look_small : Cal P w K mg base 5 "look_small" ["square"] g_look_small := cal_look_small B F_look_small c_checked X_TooBig
  have F_longer_cuts : FunAt K mg "longer_cuts" s_longer_cuts ["square", "begun", "letters"] := funAt X G c 18 36 37 (fun _ _ _ _ _ _ us hl => match us, hl with | [_, _, _], _ => rfl)
  have c_longer_cuts : Cal P w K mg base 9 "longer_cuts" ["square", "begun", "letters"] g_longer_cuts := calR_longer_cuts B F_longer_cuts 9
  have F_share : FunAt K mg "share" s_share ["one", "other"] := funAt X G c 19 38 39 (fun _ _ _ _ _ _ us hl => match us, hl with | [_, _], _ => rfl)
  have c_share : Cal P w K mg base 1 "share" ["one", "other"] g_share := cal_share B F_share
  have F_apart_from : FunAt K mg "apart_from" s_apart_from ["cuts", "taken"] := funAt X G c 20 40 41 (fun _ _ _ _ _ _ us hl => match us, hl with | [_, _], _ => rfl)
  have c_apart_from : Cal P w K mg base 10 "apart_from" ["cuts", "taken"] g_apart_from := calR_apart_from B F_apart_from c_share 9
  have F_most_apart : FunAt K mg "most_apart" s_most_apart ["square"] := funAt X G c 21 42 43 (fun _ _ _ _ _ _ us hl => match us, hl with | [_], _ => rfl)
  have c_most_apart : Cal P w K mg base 11 "most_apart" ["square"] g_most_apart := cal_most_apart B F_most_apart c_look_small c_longer_cuts c_apart_from X_TooBig
  have F_look_place : FunAt K mg "look_place" s_look_place ["square", "row", "column"] := funAt X G c 22 44 45 (fun _ _ _ _ _ _ us hl => match us, hl with | [_, _, _], _ => rfl)
  have c_look_place : Cal P w K mg base 5 "look_place" ["square", "row", "column"] g_look_place := cal_look_place B F_look_place c_checked c_is_within X_BadPlace
  have F_cuts_at : FunAt K mg "cuts_at" s_cuts_at ["square", "row", "column"] := funAt X G c 23 46 47 (fun _ _ _ _ _ _ us hl => match us, hl with | [_, _, _], _ => rfl)
  have c_cuts_at : Cal P w K mg base 10 "cuts_at" ["square", "row", "column"] g_cuts_at := cal_cuts_at B F_cuts_at c_look_small c_look_place c_longer_cuts
  have F_all_cuts : FunAt K mg "all_cuts" s_all_cuts ["square"] := funAt X G c 24 48 49 (fun _ _ _ _ _ _ us hl => match us, hl with | [_], _ => rfl)
  have c_all_cuts : Cal P w K mg base 10 "all_cuts" ["square"] g_all_cuts := cal_all_cuts B F_all_cuts c_look_small c_longer_cuts
  have F_parting_by : FunAt K mg "parting_by" s_parting_by ["cuts", "many", "taken"] := funAt X G c 25 50 51 (fun _ _ _ _ _ _ us hl => match us, hl with | [_, _, _], _ => rfl)
  have c_parting_by : Cal P w K mg base 10 "parting_by" ["cuts", "many", "taken"] g_parting_by := calR_parting_by B F_parting_by c_share 9
  have F_parting : FunAt K mg "parting" s_parting ["square"] := funAt X G c 26 52 53 (fun _ _ _ _ _ _ us hl => match us, hl with | [_], _ => rfl)
  have c_parting : Cal P w K mg base 11 "parting" ["square"] g_parting := cal_parting B F_parting c_look_small c_longer_cuts c_parting_by
  have F_mate : FunAt K mg "mate" s_mate ["square"] := funAt X G c 27 54 55 (fun _ _ _ _ _ _ us hl => match us, hl with | [_], _ => rfl)
  have c_mate : Cal P w K mg base 12 "mate" ["square"] g_mate := cal_mate B F_mate c_parting
  have F_pairs_on : FunAt K mg "pairs_on" s_pairs_on ["one", "other"] := funAt X G c 28 56 57 (fun _ _ _ _ _ _ us hl => match us, hl with | [_, _], _ => rfl)
  have c_pairs_on : Cal P w K mg base 1 "pairs_on" ["one", "other"] g_pairs_on := cal_pairs_on B F_pairs_on
  have F_are_mates : FunAt K mg "are_mates" s_are_mates ["one", "other"] := funAt X G c 29 58 59 (fun _ _ _ _ _ _ us hl => match us, hl with | [_, _], _ => rfl)
  have c_are_mates : Cal P w K mg base 5 "are_mates" ["one", "other"] g_are_mates := cal_are_mates B F_are_mates c_checked c_pairs_on X_BadSquare
  have F_places_of : FunAt K mg "places_of" s_places_of ["square", "letter"] := funAt X G c 30 60 61 (fun _ _ _ _ _ _ us hl => match us, hl with | [_, _], _ => rfl)
  have c_places_of : Cal P w K mg base 5 "places_of" ["square", "letter"] g_places_of := cal_places_of B F_places_of c_checked c_is_within X_BadPlace
  have F_cuts_by : FunAt K mg "cuts_by" s_cuts_by ["one", "other"] := funAt X G c 31 62 63 (fun _ _ _ _ _ _ us hl => match us, hl with | [_, _], _ => rfl)
  have c_cuts_by : Cal P w K mg base 6 "cuts_by" ["one", "other"] g_cuts_by := cal_cuts_by B F_cuts_by c_are_mates c_places_of X_BadSquare
  have F_rings : FunAt K mg "rings" s_rings ["square", "one", "two"] := funAt X G c 32 64 65 (fun _ _ _ _ _ _ us hl => match us, hl with | [_, _, _], _ => rfl)
  have c_rings : Cal P w K mg base 5 "rings" ["square", "one", "two"] g_rings := cal_rings B F_rings c_checked c_is_within X_BadPlace
  have F_is_block : FunAt K mg "is_block" s_is_block ["many", "thing"] := funAt X G c 33 66 67 (fun _ _ _ _ _ _ us hl => match us, hl with | [_, _], _ => rfl)
  have c_is_block : Cal P w K mg base 2 "is_block" ["many", "thing"] g_is_block := cal_is_block B F_is_block c_is_within c_columns_of
  have F_look_block : FunAt K mg "look_block" s_look_block ["many", "block"] := funAt X G c 34 68 69 (fun _ _ _ _ _ _ us hl => match us, hl with | [_, _], _ => rfl)
  have c_look_block : Cal P w K mg base 3 "look_block" ["many", "block"] g_look_block := cal_look_block B F_look_block c_is_within c_is_block X_BadBlock X_BadNumber
  have F_scarce : FunAt K mg "scarce" s_scarce ["many", "block"] := funAt X G c 35 70 71 (fun _ _ _ _ _ _ us hl => match us, hl with | [_, _], _ => rfl)
  have c_scarce : Cal P w K mg base 4 "scarce" ["many", "block"] g_scarce := cal_scarce B F_scarce c_look_block
  have F__law_lists : FunAt K mg "_law_lists" s__law_lists ["_law_square", "_law_row"] := funAt X G c 36 72 73 (fun _ _ _ _ _ _ us hl => match us, hl with | [_, _], _ => rfl)
  have c__law_lists : Cal P w K mg base 13 "_law_lists" ["_law_square", "_law_row"] g__law_lists := cal__law_lists B F__law_lists c_twos c_all_marks c_most_apart c_cuts_at c_all_cuts c_mate c_cuts_by c_parting c_rings c_scarce
  have F__law_twin : FunAt K mg "_law_twin" s__law_twin ["_law_thing"] := funAt X G c 37 74 75 (fun _ _ _ _ _ _ us hl => match us, hl with | [_], _ => rfl)
  have c__law_twin : CalS P w K mg base 4 "_law_twin" ["_law_thing"] (spTwN K 4) := calR__law_twin B F__law_twin 4
  have F__law_emptied : FunAt K mg "_law_emptied" s__law_emptied ["_law_thing"] := funAt X G c 38 76 77 (fun _ _ _ _ _ _ us hl => match us, hl with | [_], _ => rfl)
  have c__law_emptied : CalS P w K mg base 4 "_law_emptied" ["_law_thing"] (spEmN K 4) := calR__law_emptied B F__law_emptied 4
  have F__law_cuts : FunAt K mg "_law_cuts" s__law_cuts ["_law_square", "_law_begun"] := funAt X G c 39 78 79 (fun _ _ _ _ _ _ us hl => match us, hl with | [_, _], _ => rfl)
  have c__law_cuts : Cal P w K mg base 9 "_law_cuts" ["_law_square", "_law_begun"] g__law_cuts := calR__law_cuts B F__law_cuts 9
  exact fnd_law B F c__law_cell c__law_sized c__law_lists c__law_twin c__law_emptied c_checked c__law_twos c__law_cuts
abbrev RL : PySem.W.OpenRow := PySem.W.OpenLaw.row PySem.Challenge.rw_matesquare_k15_nothing_is_kept
abbrev hkL : PySem.W.Hook := hookX 5 faL fnL exL
def obL (s : PySem.W.SharedT) : AlX := obsXG 5 faL fnL exL (HandSHeadRun.getT s)
theorem obL_eq (s : PySem.W.SharedT) : obL s = hkL.obs s.abs := obsXG_eq (HandSHeadRun.getT_eq s)
def lo0 : List PySem.Str := ["SquareError", "BadSquare", "BadPlace", "BadBlock", "BadNumber", "TooBig", "MOST", "is_within", "is_order", "is_square", "columns_of", "checked", "look_place", "places_of", "MOST_CUT", "look_small", "longer_cuts", "all_cuts", "cuts_at", "share", "apart_from", "most_apart", "marked_by", "marks_of", "all_marks", "twos", "rings", "is_block", "look_block", "scarce"]
def lo1 : List PySem.Str := ["pairs_on", "are_mates", "parting_by", "parting", "mate", "cuts_by", "_law_cell", "_law_mix", "_law_twin", "_law_emptied", "_law_order", "_law_first", "_law_twos", "_law_switched", "_law_renamed", "_law_sized", "_law_cuts", "_law_lists"]
def looseL : List PySem.Str := lo0 ++ lo1
theorem runL (w : World) : HandSHeadRun.RunEq RL (PySem.W.view RL.prog [56]) hkL obL 8000 looseL w := by
  intro os
  kernel_rfl
end DL
open PySem PySem.W PySem.Calls PyProof.Rows
set_option maxRecDepth 100000 in
set_option maxHeartbeats 0 in
theorem PySem.Challenge.cw_matesquare_k15_nothing_is_kept_holds : PySem.Challenge.rw_matesquare_k15_nothing_is_kept.Holds := by
  w_on; o_law
  refine HandSHeadRun.head_any (r := OpenLaw.row PySem.Challenge.rw_matesquare_k15_nothing_is_kept) (q := view (OpenLaw.row PySem.Challenge.rw_matesquare_k15_nothing_is_kept).prog [56]) (H := DL.hkL) (ob := DL.obL) (M := 8000) (loose := DL.looseL) (d := HandSHeadRun.topDef (OpenLaw.row PySem.Challenge.rw_matesquare_k15_nothing_is_kept).prog 56) (kwd := []) DL.obL_eq
    (by kernel_rfl) (fun s => by kernel_rfl) DL.runL (by kernel_rfl) (by kernel_rfl) (by kernel_rfl) (by rfl) (by first | assumption | decide +kernel) (by decide +kernel) ⟨rfl, rfl, rfl, rfl, rfl, by decide +kernel⟩ ?hw ?hc
  case hw => w_witness2
  case hc =>
    exact DL.walk_ofX (l := PySem.Challenge.rw_matesquare_k15_nothing_is_kept) (k := 14) (x := "_law_script") (st := DL.topS 56) rfl (by kernel_rfl) ⟨rfl, by decide, by decide⟩ (by kernel_rfl) 40 80 81 rfl rfl rfl (fun _ _ _ _ _ _ us hl => match us, hl with | [_], _ => rfl) (fun w K mg base f fd c X G F => DL.facts c X G F)
