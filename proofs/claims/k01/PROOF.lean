import PyProof.Rows.All
import Wide.All
import OpenK.AllK
import Wide.FinOn
import KE.KStateDown
import HandS.ForMost
import HandS.Exc
import HandS.ExcOwn
import HandS.CallSlots
import HandS.WordsExc
import HandS.Defaults
import HandS.HeadHook1
import HandS.HeadHook2
import HandS.Lambda
import HandS.ExcInit
import HandS.EndTab
import HandS.Wide
import HandS.Deep
import HandS.TupAny
import HandS.Conv
import HandS.Star
import HandS.IsInst
import HandS.Property
import HandS.Style
import KE.SortData
import HandS.Codes
import HandS.HeadEnd
import HandS.Head0
import HandS.Head1
import HandS.Head2
import HandS.Strs
import HandS.Zip
import HandS.Zip0
import HandS.WideBits
import PyProof.InstNe
import PyProof.StrWalks
import KE.KExcInit
import HandS.ExcField
import HandS.TryMany
import KE.KTryMore
import KE.KExcIs
import HandS.HotCalls
import HandS.HeadHook4
import PyProof.EqKinds
import KE.KEqNest
import KE.KCallOwn
import HandS.FStr
import HandS.TupMul
import PyProof.StrOps2
import HandS.Set
import HandS.ClsMeth
import Wide.Txt
import PyProof.Rows.StrItems
import PyProof.Rows.CallKw2
import PyProof.CollectStr
import PyProof.Conv_bool
import HandS.StrMore
import PyProof.StrLawsFirst
import PyProof.StrLawsIn
import KE.GoesEnum
import PyProof.NeKinds
import HandS.Records
import HandS.RaiseMore
import HandS.Text
import HandS.ExcValue
import PySem.Challenge.RW_twobytwos_k01_limits_and_errors
set_option Elab.async false
set_option linter.all false
set_option maxRecDepth 100000
set_option maxHeartbeats 0
set_option autoImplicit false
namespace My
abbrev Nm := List Nat
inductive PV where
  | non
  | bl (b : Bool)
  | int (i : Int)
  | str (s : List Nat)
  | ty (n : String)
  | tup (xs : List PV)
  | lst (xs : List PV)
  | dct (kvs : List (PV × PV))
  | ins (c : Nm) (fs : List (Nm × PV))
  | obj (n : Nat)
  | cls (c : Nm)
  | scr (ns : List Int)
  /-- the text that shows a datum -/
  | rep (d : PV)
  /-- an exception as a value -/
  | exn (c : Nm) (fs : List (Nm × PV))
  deriving Inhabited
inductive IO where
  | lst (xs : List PV)
  | dct (kvs : List (PV × PV))
  | ins (c : Nm) (fs : List (Nm × PV))
  deriving Inhabited
abbrev IS := List IO
inductive Res (α : Type) where
  | ok (a : α) (S : IS)
  | ex (x : PV) (S : IS)
  | no
namespace Res
def bind {α β : Type} : Res α → (α → IS → Res β) → Res β
  | .ok a S, f => f a S
  | .ex x S, _ => .ex x S
  | .no, _ => .no
def of {α : Type} (o : Option α) (S : IS) : Res α := match o with
  | some a => .ok a S
  | none => .no
end Res
inductive Slot where
  | no
  | val (v : PV)
  | own (o : IO)
  /-- the caught exception -/
  | exc (x : PV)
  /-- the lambda that the def got -/
  | lam
  deriving Inhabited
abbrev Rho := List Slot
abbrev FE := Nm → List PV → IS → Res PV
abbrev DE := FE → Rho → IS → Res PV
abbrev DEs := FE → Rho → IS → Res (List PV)
abbrev DT := PV → Rho → Option Rho
inductive Fl where
  | nx (ρ : Rho)
  | rt (v : PV)
  | bk (ρ : Rho)
  | ct (ρ : Rho)
inductive RS where
  | fl (f : Fl) (S : IS)
  | ex (x : PV) (ρ : Rho) (S : IS)
  | no
abbrev DS := FE → Rho → IS → RS
abbrev lim : Nat := 16777216
mutual
def eqB : PV → PV → Bool
  | .non, .non => true
  | .bl a, .bl b => a == b
  | .bl a, .int j => (if a then 1 else 0) == j
  | .int i, .bl b => i == (if b then 1 else 0)
  | .int i, .int j => i == j
  | .str x, .str y => x == y
  | .lst xs, .lst ys => eqBs xs ys
  | .tup xs, .tup ys => eqBs xs ys
  | _, _ => false
def eqBs : List PV → List PV → Bool
  | [], [] => true
  | x :: xs, y :: ys => eqB x y && eqBs xs ys
  | _, _ => false
end
mutual
def shp : Nat → PV → Bool
  | _, .non => true
  | _, .bl _ => true
  | _, .int _ => true
  | _, .str _ => true
  | n + 1, .lst xs => shps n xs
  | n + 1, .tup xs => shps n xs
  | _, _ => false
def shps : Nat → List PV → Bool
  | _, [] => true
  | n, x :: xs => shp n x && shps n xs
end
def eqPV (x y : PV) : Option Bool := if shp 60 x && shp 60 y then some (eqB x y) else none
def ltL : List Nat → List Nat → Bool
  | [], [] => false
  | [], _ :: _ => true
  | _ :: _, [] => false
  | x :: xs, y :: ys => if x = y then ltL xs ys else decide (x < y)
def mulOk (i j : Int) : Bool := decide (i.natAbs < 2 ^ 64) || decide (j.natAbs < 2 ^ 64) || decide (i.natAbs.log2 + j.natAbs.log2 < 1000000)
def divOk (j : Int) : Bool := decide (0 < j) && decide (j.natAbs.log2 < 9000) || (decide (j ≠ 0) && decide (j.natAbs < 1073741824))
def pyAdd : PV → PV → Option PV
  | .int i, .int j => some (.int (i + j))
  | .str x, .str y => if x.length + y.length ≤ lim then some (.str (x ++ y)) else none
  | .lst x, .lst y => if x.length + y.length ≤ lim then some (.lst (x ++ y)) else none
  | .tup x, .tup y => if x.length + y.length ≤ lim then some (.tup (x ++ y)) else none
  | _, _ => none
def pyMul : PV → PV → Option PV
  | .int i, .int j => if mulOk i j then some (.int (i * j)) else none
  | .lst x, .int k => if 0 ≤ k ∧ k < 1000 ∧ x.length * k.toNat ≤ lim then some (.lst (List.replicate k.toNat x).flatten) else none
  | _, _ => none
def pyDiv : PV → PV → Option PV
  | .int i, .int j => if divOk j then some (.int (i.fdiv j)) else none
  | _, _ => none
def pyMod : PV → PV → Option PV
  | .int i, .int j => if j ≠ 0 then some (.int (i.fmod j)) else none
  | _, _ => none
def pyPow : PV → PV → Option PV
  | .int i, .int j => if 0 ≤ j ∧ j ≤ 1000 ∧ i.natAbs < 2 ^ 64 then some (.int (i ^ j.toNat)) else none
  | _, _ => none
def pyNeg : PV → Option PV
  | .int i => some (.int (-i))
  | _ => none
def pyLt (x y : PV) : Option PV := match x, y with
  | .int i, .int j => some (.bl (decide (i < j)))
  | .str a, .str b => some (.bl (ltL a b))
  | _, _ => none
def pyGt (x y : PV) : Option PV := match x, y with
  | .int i, .int j => some (.bl (decide (j < i)))
  | .str a, .str b => some (.bl (ltL b a))
  | _, _ => none
def pyGe (x y : PV) : Option PV := match x, y with
  | .int i, .int j => some (.bl (decide (j ≤ i)))
  | .str a, .str b => some (.bl (!ltL a b))
  | _, _ => none
def pyEq (x y : PV) : Option PV := (eqPV x y).map .bl
def pyNe (x y : PV) : Option PV := (eqPV x y).map fun b => .bl (!b)
def keyOk : PV → Bool
  | .int _ => true
  | .str _ => true
  | _ => false
def dLook (k : PV) : List (PV × PV) → Option PV
  | [] => none
  | (j, v) :: r => if eqB j k then some v else dLook k r
def pyIn (x y : PV) : Option Bool := match y with
  | .lst ys => if shp 50 x && shps 50 ys then some (ys.any fun z => eqB z x) else none
  | .tup ys => if shp 50 x && shps 50 ys then some (ys.any fun z => eqB z x) else none
  | .str t => match x with
    | .str [c] => some (decide (c ∈ t))
    | _ => none
  | .dct kvs => if keyOk x then some (dLook x kvs).isSome else none
  | _ => none
def pyInB (x y : PV) : Option PV := (pyIn x y).map .bl
def ixN (n : Nat) (i : Int) : Option Nat := if 0 ≤ i then (if i < n then some i.toNat else none) else if -(n : Int) ≤ i then some (i + n).toNat else none
def atI {α : Type} (xs : List α) (i : Int) : Option α := (ixN xs.length i).bind fun j => xs[j]?
def sIx (n d : Nat) : Option Int → Nat
  | none => d
  | some v => if v < 0 then (v + (n : Int)).toNat else min v.toNat n
def cut {α : Type} (xs : List α) (lo hi : Option Int) : List α := (xs.drop (sIx xs.length 0 lo)).take (sIx xs.length xs.length hi - sIx xs.length 0 lo)
def pyAt : PV → PV → Option PV
  | .scr ns, .int i => (atI ns i).map .int
  | .lst xs, .int i => atI xs i
  | .tup xs, .int i => atI xs i
  | .str s, .int i => (atI s i).map fun c => .str [c]
  | .dct kvs, k => if keyOk k then dLook k kvs else none
  | _, _ => none
def pyCut (x : PV) (lo hi : Option Int) : Option PV := match x with
  | .scr ns => some (.lst ((cut ns lo hi).map .int))
  | .lst xs => some (.lst (cut xs lo hi))
  | .tup xs => some (.tup (cut xs lo hi))
  | .str s => some (.str (cut s lo hi))
  | _ => none
def pyLen : PV → Option PV
  | .scr ns => some (.int ns.length)
  | .lst xs => some (.int xs.length)
  | .tup xs => some (.int xs.length)
  | .str s => some (.int s.length)
  | _ => none
def pyInt : PV → Option PV
  | .int i => some (.int i)
  | .bl b => some (.int (if b then 1 else 0))
  | _ => none
def pyAbs : PV → Option PV
  | .int i => some (.int (if i < 0 then -i else i))
  | _ => none
def pyMax2 : PV → PV → Option PV
  | .int i, .int j => some (.int (if j > i then j else i))
  | _, _ => none
def pyMin2 : PV → PV → Option PV
  | .int i, .int j => some (.int (if j < i then j else i))
  | _, _ => none
def intOf : PV → Option Int
  | .int i => some i
  | _ => none
def blOf : PV → Option Bool
  | .bl b => some b
  | _ => none
def allM {α : Type} (f : PV → Option α) : List PV → Option (List α)
  | [] => some []
  | x :: xs => match f x, allM f xs with
    | some a, some r => some (a :: r)
    | _, _ => none
def pyAll : PV → Option PV
  | .lst xs => (allM blOf xs).map fun l => .bl (l.all id)
  | _ => none
def itemsOf : PV → Option (List PV)
  | .lst xs => some xs
  | .tup xs => some xs
  | .str s => some (s.map fun c => .str [c])
  | .dct kvs => some (kvs.map (·.1))
  | _ => none
def varE (i : Nat) : DE := fun _ ρ S => match ρ[i]? with
  | some (.val v) => .ok v S
  | _ => .no
def ovarE (i : Nat) : DE := fun _ ρ S => match ρ[i]? with
  | some (.own (.lst xs)) => .ok (.lst xs) S
  | some (.own (.dct kvs)) => .ok (.dct kvs) S
  | _ => .no
def cstE (v : PV) : DE := fun _ _ S => .ok v S
def un (f : PV → Option PV) (a : DE) : DE := fun fe ρ S => (a fe ρ S).bind fun x S1 => .of (f x) S1
def bin (f : PV → PV → Option PV) (a b : DE) : DE := fun fe ρ S => (a fe ρ S).bind fun x S1 => (b fe ρ S1).bind fun y S2 => .of (f x y) S2
def andE (a b : DE) : DE := fun fe ρ S => (a fe ρ S).bind fun x S1 => match x with
  | .bl true => b fe ρ S1
  | .bl false => .ok (.bl false) S1
  | _ => .no
def orE (a b : DE) : DE := fun fe ρ S => (a fe ρ S).bind fun x S1 => match x with
  | .bl true => .ok (.bl true) S1
  | .bl false => b fe ρ S1
  | _ => .no
def iteE (c a b : DE) : DE := fun fe ρ S => (c fe ρ S).bind fun x S1 => match x with
  | .bl true => a fe ρ S1
  | .bl false => b fe ρ S1
  | _ => .no
def nilA : DEs := fun _ _ S => .ok [] S
def consA (a : DE) (r : DEs) : DEs := fun fe ρ S => (a fe ρ S).bind fun x S1 => (r fe ρ S1).bind fun xs S2 => .ok (x :: xs) S2
def tupE (es : DEs) : DE := fun fe ρ S => (es fe ρ S).bind fun xs S1 => if xs.length ≤ lim then .ok (.tup xs) S1 else .no
def lstE (es : DEs) : DE := fun fe ρ S => (es fe ρ S).bind fun xs S1 => if xs.length ≤ lim then .ok (.lst xs) S1 else .no
def callE (f : Nm) (es : DEs) : DE := fun fe ρ S => (es fe ρ S).bind fun xs S1 => fe f xs S1
def fLook (f : Nm) : List (Nm × PV) → Option PV
  | [] => none
  | (g, v) :: r => if g = f then some v else fLook f r
def noEx {α : Type} : Res α → Res α
  | .ex _ _ => .no
  | r => r
def subE (a b : DE) : DE := fun fe ρ S => (a fe ρ S).bind fun x S1 => (b fe ρ S1).bind fun y S2 => match x with
  | .obj n => (match S2[n]?, y with
    | some (.lst xs), .int i => .of (atI xs i) S2
    | _, _ => .no)
  | x => .of (pyAt x y) S2
def sliceE (a : DE) (lo hi : Option DE) : DE := fun fe ρ S => (a fe ρ S).bind fun x S1 =>
  (match lo with
    | none => .ok none S1
    | some l => (l fe ρ S1).bind fun v S2 => .of ((intOf v).map some) S2 : Res (Option Int)).bind fun l S2 =>
  (match hi with
    | none => .ok none S2
    | some h => (h fe ρ S2).bind fun v S3 => .of ((intOf v).map some) S3 : Res (Option Int)).bind fun h S3 => .of (pyCut x l h) S3
def tgN (i : Nat) : DT := fun v ρ => if i < ρ.length then some (ρ.set i (.val v)) else none
abbrev DI := FE → Rho → IS → Res (List PV)
def itE (a : DE) : DI := fun fe ρ S => (a fe ρ S).bind fun x S1 => .of (itemsOf x) S1
def rangeL (lo : Int) (n : Nat) : List PV := (List.range n).map fun (k : Nat) => .int (lo + k)
def rng1 (a : DE) : DI := fun fe ρ S => (a fe ρ S).bind fun x S1 => match x with
  | .int n => if -16777216 ≤ n ∧ n ≤ 16777216 then .ok (rangeL 0 n.toNat) S1 else .no
  | _ => .no
def wipe (ρ : Rho) : List Nat → Rho
  | [] => ρ
  | v :: vs => (wipe ρ vs).set v .no
def lcLoop (fe : FE) (tg : DT) (c e : DE) (ρ : Rho) : List PV → List PV → IS → Res (List PV)
  | [], acc, S => .ok acc S
  | x :: xs, acc, S => match tg x ρ with
    | none => .no
    | some ρ1 => (c fe ρ1 S).bind fun b S1 => match b with
      | .bl true => (e fe ρ1 S1).bind fun v S2 => lcLoop fe tg c e ρ xs (acc ++ [v]) S2
      | .bl false => lcLoop fe tg c e ρ xs acc S1
      | _ => .no
def lcE (own : List Nat) (it : DI) (tg : DT) (c e : DE) : DE := fun fe ρ S => (it fe ρ S).bind fun xs S1 =>
  (noEx (lcLoop fe tg c e (wipe ρ own) xs [] S1)).bind fun vs S2 => .ok (.lst vs) S2
def yesE : DE := cstE (.bl true)
def nextS : DS := fun _ ρ S => .fl (.nx ρ) S
def seqS (a b : DS) : DS := fun fe ρ S => match a fe ρ S with
  | .fl (.nx ρ1) S1 => b fe ρ1 S1
  | r => r
def RS.ofE (ρ : Rho) : Res PV → (PV → IS → RS) → RS
  | .ok v S, f => f v S
  | .ex x S, _ => .ex x ρ S
  | .no, _ => .no
def retS (e : DE) : DS := fun fe ρ S => .ofE ρ (e fe ρ S) fun v S1 => .fl (.rt v) S1
def asgS (t : DT) (e : DE) : DS := fun fe ρ S => .ofE ρ (e fe ρ S) fun v S1 => match t v ρ with
  | some ρ1 => .fl (.nx ρ1) S1
  | none => .no
def ioOf : PV → Option IO
  | .lst xs => some (.lst xs)
  | .dct kvs => some (.dct kvs)
  | _ => none
def osetS (i : Nat) (e : DE) : DS := fun fe ρ S => .ofE ρ (e fe ρ S) fun v S1 => match ioOf v with
  | some o => if i < ρ.length then .fl (.nx (ρ.set i (.own o))) S1 else .no
  | none => .no
def parT : List (Nat × Bool) → List PV → Rho → Option Rho
  | [], [], ρ => some ρ
  | (i, false) :: ts, v :: vs, ρ => if i < ρ.length then parT ts vs (ρ.set i (.val v)) else none
  | (i, true) :: ts, v :: vs, ρ => match ioOf v with
    | some o => if i < ρ.length then parT ts vs (ρ.set i (.own o)) else none
    | none => none
  | _, _, _ => none
def parS (ts : List (Nat × Bool)) (es : DEs) : DS := fun fe ρ S => match es fe ρ S with
  | .ok vs S1 => (match parT ts vs ρ with
    | some ρ1 => .fl (.nx ρ1) S1
    | none => .no)
  | .ex x S1 => .ex x ρ S1
  | .no => .no
def ifS (c : DE) (a b : DS) : DS := fun fe ρ S => .ofE ρ (c fe ρ S) fun v S1 => match v with
  | .bl true => a fe ρ S1
  | .bl false => b fe ρ S1
  | _ => .no
def forLoop (fe : FE) (tg : DT) (b : DS) : List PV → Rho → IS → RS
  | [], ρ, S => .fl (.nx ρ) S
  | x :: xs, ρ, S => match tg x ρ with
    | none => .no
    | some ρ1 => match b fe ρ1 S with
      | .fl (.nx ρ2) S2 => forLoop fe tg b xs ρ2 S2
      | .fl (.ct ρ2) S2 => forLoop fe tg b xs ρ2 S2
      | .fl (.bk ρ2) S2 => .fl (.nx ρ2) S2
      | r => r
def forS (it : DI) (tg : DT) (b : DS) : DS := fun fe ρ S => match it fe ρ S with
  | .ok xs S1 => forLoop fe tg b xs ρ S1
  | .ex x S1 => .ex x ρ S1
  | .no => .no
def appS (i : Nat) (e : DE) : DS := fun fe ρ S => match ρ[i]? with
  | some (.own (.lst xs)) => .ofE ρ (e fe ρ S) fun v S1 => if xs.length < lim then .fl (.nx (ρ.set i (.own (.lst (xs ++ [v]))))) S1 else .no
  | _ => .no
def isetS (o k e : DE) : DS := fun fe ρ S => .ofE ρ (e fe ρ S) fun v S1 => .ofE ρ (o fe ρ S1) fun ov S2 => .ofE ρ (k fe ρ S2) fun kv S3 => match ov, kv with
  | .obj n, .int i => (match S3[n]? with
    | some (.lst xs) => (match ixN xs.length i with
      | some j => .fl (.nx ρ) (S3.set n (.lst (xs.set j v)))
      | none => .no)
    | _ => .no)
  | _, _ => .no
def newE (es : DEs) : DE := fun fe ρ S => (es fe ρ S).bind fun xs S1 => if xs.length ≤ lim then .ok (.obj S1.length) (S1 ++ [.lst xs]) else .no
structure Fn where
  ps : Nat
  slots : Nat
  init : Option Nm := none
  body : DS
def startR (n : Nat) (args : List PV) : Rho := args.map Slot.val ++ List.replicate (n - args.length) Slot.no
abbrev Tab := Nm → Option Fn
end My
namespace My
def noExc : Slot → Slot
  | .exc _ => .no
  | s => s
def noExcs (ρ : Rho) : Rho := ρ.map noExc
structure Hd where
  tb : List (Nm × Bool)
  nm : Option Nat
  suite : DS
def unE (i : Option Nat) (ρ : Rho) : Rho := match i with
  | none => noExcs ρ
  | some i => (noExcs ρ).set i .no
def unS (i : Option Nat) : RS → RS
  | .fl (.nx ρ) S => .fl (.nx (unE i ρ)) S
  | .fl (.rt v) S => .fl (.rt v) S
  | .fl (.bk ρ) S => .fl (.bk (unE i ρ)) S
  | .fl (.ct ρ) S => .fl (.ct (unE i ρ)) S
  | .ex _ _ _ => .no
  | .no => .no
end My
namespace My
open PySem PySem.Spec PyProof.Rows L2
class LT where
  T : List (Addr × Str)
  /-- in an except suite: the exception, its class, its dict -/
  hot : Option (Addr × Value × Option Addr) := none
  /-- in a def that got a lambda: where this lies -/
  fn : Option Addr := none
variable [LT]
def noT (o : HO) : Prop := ∀ ps, o ≠ .tbl ps
def sN (s : List Nat) : Str := ⟨s.toArray⟩
theorem sN_inj {s t : List Nat} (h : sN s = sN t) : s = t := by
  have := congrArg (fun x : Str => x.cps.toList) h
  exact this
def sOk (s : List Nat) : Prop := s.length ≤ lim ∧ s.all (· < 1114112) = true
def keyR : PV → Key → Prop
  | .int i, k => k = Sum.inl i
  | .str s, k => k = Sum.inr (sN s) ∧ sOk s
  | _, _ => False
def Sub (F H : Hp) : Prop := ∀ a o, F a = some o → H a = some o
theorem Sub.refl (F : Hp) : Sub F F := fun _ _ h => h
theorem Sub.trans {F G H : Hp} (a : Sub F G) (b : Sub G H) : Sub F H := fun x o h => b x o (a x o h)
theorem Sub.rd {F G : Hp} (h : Sub F G) {a : Addr} {u : HO} (r : Rd F a u) : Rd G a u := by
  rcases r with r | ⟨o, r⟩
  · exact .inl (h _ _ r)
  · exact .inr ⟨o, h _ _ r⟩
theorem Sub.sqL {F G : Hp} (h : Sub F G) {K : PySem.W.Frag} {a : Addr} {xs : List V} (r : SqL K F a xs) : SqL K G a xs := r.imp h.rd id
theorem Sub.sqT {F G : Hp} (h : Sub F G) {K : PySem.W.Frag} {a : Addr} {xs : List V} (r : SqT K F a xs) : SqT K G a xs := r.imp h.rd id
mutual
def toD : PV → PyData
  | .bl b => .bool b
  | .int i => .int i
  | .str s => .str (sN s)
  | .lst xs => .list (toDs xs)
  | .tup xs => .tuple (toDs xs)
  | _ => .none
def toDs : List PV → List PyData
  | [] => []
  | x :: xs => toD x :: toDs xs
end
variable (K : PySem.W.Frag)
mutual
def RV (F : Hp) (ι : List Addr) : PV → V → Prop
  | .non, v => v = .non
  | .bl b, v => v = .bl b
  | .int i, v => v = .int i
  | .str s, v => v = .str (sN s) ∧ sOk s
  | .ty n, v => v = .ty n
  | .tup ps, v => ∃ a xs, v = .ref a ∧ SqT K F a xs ∧ ps.length ≤ lim ∧ RVs F ι ps xs
  | .lst ps, v => ∃ a xs, v = .ref a ∧ F a = some (.lst xs) ∧ ps.length ≤ lim ∧ RVs F ι ps xs
  | .dct kvs, v => ∃ a o ks, v = .ref a ∧ F a = some (.frz o (.dK ks)) ∧ kvs.length ≤ lim ∧ RVd F ι kvs ks
  | .ins c fs, v => ∃ a dx gs, v = .ref a ∧ F a = some (.ins (He.ga K (sN c)) dx gs) ∧ RVf F ι fs gs
  | .obj n, v => ∃ a, v = .ref a ∧ ι[n]? = some a
  | .cls c, v => v = .ref (He.ga K (sN c))
  | .scr ns, v => ∃ a, v = .ref a ∧ SqL K F a (ns.map V.int) ∧ ns.length ≤ lim
  | .rep d, v => v = .str (toD d).shown
  | .exn c fs, v => ∃ a d gs, v = .ref a ∧ F a = some (exo a (He.ga K (sN c)) d) ∧ RVf F ι fs gs ∧ ((d = none ∧ gs = []) ∨ ∃ dx, d = some dx ∧ F dx = some (exd dx gs))
def RVs (F : Hp) (ι : List Addr) : List PV → List V → Prop
  | [], vs => vs = []
  | p :: ps, vs => ∃ v r, vs = v :: r ∧ RV F ι p v ∧ RVs F ι ps r
def RVd (F : Hp) (ι : List Addr) : List (PV × PV) → List (Key × V) → Prop
  | [], vs => vs = []
  | (k, p) :: ps, vs => ∃ kk v r, vs = (kk, v) :: r ∧ keyR k kk ∧ RV F ι p v ∧ RVd F ι ps r
def RVf (F : Hp) (ι : List Addr) : List (Nm × PV) → List (Str × V) → Prop
  | [], vs => vs = []
  | (f, p) :: ps, vs => ∃ v r, vs = (sN f, v) :: r ∧ RV F ι p v ∧ RVf F ι ps r
end
def Pre (ι ι' : List Addr) : Prop := ∀ (n : Nat) (a : Addr), ι[n]? = some a → ι'[n]? = some a
theorem Pre.refl (ι : List Addr) : Pre ι ι := fun _ _ h => h
theorem Pre.trans {a b c : List Addr} (h : Pre a b) (g : Pre b c) : Pre a c := fun n x e => g n x (h n x e)
section
variable {K : PySem.W.Frag} {F G : Hp} {ι ι' : List Addr}
mutual
theorem RV.mono (h : Sub F G) (p : Pre ι ι') : ∀ {x : PV} {v : V}, RV K F ι x v → RV K G ι' x v
  | .non, _, r => r
  | .bl _, _, r => r
  | .int _, _, r => r
  | .str _, _, r => r
  | .ty _, _, r => r
  | .tup _, _, ⟨a, xs, e, q, l, r⟩ => ⟨a, xs, e, h.sqT q, l, RVs.mono h p r⟩
  | .lst _, _, ⟨a, xs, e, q, l, r⟩ => ⟨a, xs, e, h _ _ q, l, RVs.mono h p r⟩
  | .dct _, _, ⟨a, o, ks, e, q, l, r⟩ => ⟨a, o, ks, e, h _ _ q, l, RVd.mono h p r⟩
  | .ins _ _, _, ⟨a, dx, gs, e, q, r⟩ => ⟨a, dx, gs, e, h _ _ q, RVf.mono h p r⟩
  | .obj _, _, ⟨a, e, q⟩ => ⟨a, e, p _ _ q⟩
  | .cls _, _, r => r
  | .scr _, _, ⟨a, e, q, l⟩ => ⟨a, e, h.sqL q, l⟩
  | .rep _, _, r => r
  | .exn _ _, _, ⟨a, d, gs, e, q, r, t⟩ => ⟨a, d, gs, e, h _ _ q, RVf.mono h p r, t.imp id fun ⟨dx, e1, e2⟩ => ⟨dx, e1, h _ _ e2⟩⟩
theorem RVs.mono (h : Sub F G) (p : Pre ι ι') : ∀ {x : List PV} {v : List V}, RVs K F ι x v → RVs K G ι' x v
  | [], _, r => r
  | _ :: _, _, ⟨v, r, e, q, t⟩ => ⟨v, r, e, RV.mono h p q, RVs.mono h p t⟩
theorem RVd.mono (h : Sub F G) (p : Pre ι ι') : ∀ {x : List (PV × PV)} {v : List (Key × V)}, RVd K F ι x v → RVd K G ι' x v
  | [], _, r => r
  | (_, _) :: _, _, ⟨k, v, r, e, z, q, t⟩ => ⟨k, v, r, e, z, RV.mono h p q, RVd.mono h p t⟩
theorem RVf.mono (h : Sub F G) (p : Pre ι ι') : ∀ {x : List (Nm × PV)} {v : List (Str × V)}, RVf K F ι x v → RVf K G ι' x v
  | [], _, r => r
  | (_, _) :: _, _, ⟨v, r, e, q, t⟩ => ⟨v, r, e, RV.mono h p q, RVf.mono h p t⟩
end
theorem RVs.length : ∀ {ps : List PV} {vs : List V}, RVs K F ι ps vs → ps.length = vs.length
  | [], _, r => by cases (show _ = [] from r); rfl
  | _ :: _, _, ⟨v, r, e, _, t⟩ => by rw [e, List.length_cons, List.length_cons, RVs.length t]
theorem RVs.get : ∀ {ps : List PV} {vs : List V} {i : Nat} {p : PV}, RVs K F ι ps vs → ps[i]? = some p → ∃ v, vs[i]? = some v ∧ RV K F ι p v
  | [], _, _, _, _, e => by simp at e
  | _ :: _, _, 0, _, ⟨v, r, e, q, _⟩, h => by subst e; simp at h; subst h; exact ⟨v, rfl, q⟩
  | _ :: _, _, i + 1, _, ⟨v, r, e, _, t⟩, h => by subst e; simp at h; obtain ⟨u, h1, h2⟩ := RVs.get t h; exact ⟨u, by simpa using h1, h2⟩
theorem RVs.append : ∀ {ps qs : List PV} {vs ws : List V}, RVs K F ι ps vs → RVs K F ι qs ws → RVs K F ι (ps ++ qs) (vs ++ ws)
  | [], _, _, _, r, q => by cases (show _ = [] from r); exact q
  | _ :: _, _, _, _, ⟨v, r, e, a, t⟩, q => by subst e; exact ⟨v, _, rfl, a, RVs.append t q⟩
theorem RVs.set : ∀ {ps : List PV} {vs : List V} {i : Nat} {p : PV} {v : V}, RVs K F ι ps vs → RV K F ι p v → RVs K F ι (ps.set i p) (vs.set i v)
  | [], _, _, _, _, r, _ => by cases (show _ = [] from r); exact rfl
  | _ :: _, _, 0, _, _, ⟨v, r, e, a, t⟩, q => by subst e; exact ⟨_, _, rfl, q, t⟩
  | _ :: _, _, i + 1, _, _, ⟨v, r, e, a, t⟩, q => by subst e; exact ⟨_, _, rfl, a, RVs.set t q⟩
theorem RVs.take : ∀ {ps : List PV} {vs : List V} (n : Nat), RVs K F ι ps vs → RVs K F ι (ps.take n) (vs.take n)
  | [], _, n, r => by cases (show _ = [] from r); rw [List.take_nil, List.take_nil]; exact rfl
  | _ :: _, _, 0, _ => rfl
  | _ :: _, _, n + 1, ⟨v, r, e, a, t⟩ => by subst e; exact ⟨_, _, rfl, a, RVs.take n t⟩
theorem RVs.drop : ∀ {ps : List PV} {vs : List V} (n : Nat), RVs K F ι ps vs → RVs K F ι (ps.drop n) (vs.drop n)
  | [], _, n, r => by cases (show _ = [] from r); rw [List.drop_nil, List.drop_nil]; exact rfl
  | _ :: _, _, 0, r => r
  | _ :: _, _, n + 1, ⟨v, r, e, a, t⟩ => by subst e; exact RVs.drop n t
theorem RVs.replicate {ps : List PV} {vs : List V} (r : RVs K F ι ps vs) : ∀ n, RVs K F ι (List.replicate n ps).flatten (List.replicate n vs).flatten
  | 0 => rfl
  | n + 1 => by rw [List.replicate_succ, List.replicate_succ, List.flatten_cons, List.flatten_cons]; exact r.append (RVs.replicate r n)
end
def IOR (F : Hp) (ι : List Addr) (H : Hp) (a : Addr) : IO → Prop
  | .lst ps => ∃ xs, H a = some (.lst xs) ∧ ps.length ≤ lim ∧ RVs K F ι ps xs
  | .dct kvs => ∃ ks, H a = some (.dK ks) ∧ kvs.length ≤ lim ∧ RVd K F ι kvs ks
  | .ins c fs => ∃ dx gs, H a = some (.ins (He.ga K (sN c)) dx gs) ∧ RVf K F ι fs gs
def TabsF (T : List (Addr × Str)) (F H : Hp) : Prop := LamX.Tabs T H ∧ ∀ p ∈ T, F p.1 = none
structure HR (F : Hp) (ι : List Addr) (H : Hp) (S : IS) : Prop where
  sub : Sub F H
  len : ι.length = S.length
  nd : ι.Nodup
  out : ∀ a ∈ ι, F a = none
  obj : ∀ (n : Nat) (a : Addr) (o : IO), ι[n]? = some a → S[n]? = some o → IOR K F ι H a o
  tabs : TabsF LT.T F H
structure Step (F : Hp) (ι : List Addr) (H F' : Hp) (ι' : List Addr) (H' : Hp) : Prop where
  sub : Sub F F'
  fresh : ∀ a, H a ≠ none → F a = none → F' a = none
  pre : Pre ι ι'
  new : ∀ a ∈ ι', a ∈ ι ∨ H a = none
  keep : ∀ a o, H a = some o → a ∉ ι → noT o → H' a = some o
  there : ∀ a, H a ≠ none → H' a ≠ none
section
variable {K : PySem.W.Frag} {F F1 F2 F' : Hp} {ι ι1 ι2 ι' : List Addr} {H H1 H2 H' : Hp} {S S' : IS} {a : Addr}
theorem IOR.mono {o : IO} (h : Sub F F') (p : Pre ι ι') (hk : ∀ u, H a = some u → noT u → H' a = some u) (r : IOR K F ι H a o) : IOR K F' ι' H' a o := by
  cases o with
  | lst ps => obtain ⟨xs, e, l, q⟩ := r; exact ⟨xs, hk _ e (fun ps z => by cases z), l, q.mono h p⟩
  | dct ps => obtain ⟨xs, e, l, q⟩ := r; exact ⟨xs, hk _ e (fun ps z => by cases z), l, q.mono h p⟩
  | ins c fs => obtain ⟨dx, gs, e, q⟩ := r; exact ⟨dx, gs, hk _ e (fun ps z => by cases z), q.mono h p⟩
theorem IOR.there {o : IO} (r : IOR K F ι H a o) : H a ≠ none := by
  cases o with
  | lst ps => obtain ⟨xs, e, _⟩ := r; rw [e]; simp
  | dct ps => obtain ⟨xs, e, _⟩ := r; rw [e]; simp
  | ins c fs => obtain ⟨dx, gs, e, _⟩ := r; rw [e]; simp
theorem Step.refl : Step F ι H F ι H := ⟨Sub.refl _, fun _ _ h => h, Pre.refl _, fun _ h => .inl h, fun _ _ h _ _ => h, fun _ h => h⟩
theorem Step.trans (a : Step F ι H F1 ι1 H1) (b : Step F1 ι1 H1 F2 ι2 H2) : Step F ι H F2 ι2 H2 where
  sub := a.sub.trans b.sub
  fresh := fun x h f => b.fresh x (a.there x h) (a.fresh x h f)
  pre := a.pre.trans b.pre
  new := fun x h => by
    rcases b.new x h with h | h
    · exact a.new x h
    · right
      cases e : H x with
      | none => rfl
      | some o => exact absurd h (a.there x (by rw [e]; simp))
  keep := fun x o h hn nt => b.keep x o (a.keep x o h hn nt) (fun hm => by
    rcases a.new x hm with h' | h'
    · exact hn h'
    · rw [h] at h'; cases h') nt
  there := fun x h => b.there x (a.there x h)
theorem Step.grow (sub : Sub F F') (fresh : ∀ a, H a ≠ none → F a = none → F' a = none) (keep : Sub H H') : Step F ι H F' ι H' :=
  ⟨sub, fresh, Pre.refl _, fun _ h => .inl h, fun x o h _ _ => keep x o h, fun x h => by
    cases e : H x with
    | none => exact absurd e h
    | some o => rw [keep x o e]; simp⟩
theorem HR.grow (h : HR K F ι H S) (sub : Sub F F') (fresh : ∀ a, H a ≠ none → F a = none → F' a = none) (keep : Sub H H') (fh : Sub F' H') : HR K F' ι H' S where
  sub := fh
  len := h.len
  nd := h.nd
  out := fun a m => by
    obtain ⟨n, e⟩ := List.mem_iff_getElem?.mp m
    have hn : n < S.length := by rw [← h.len]; exact (List.getElem?_eq_some_iff.mp e).1
    have o := h.obj n a S[n] e (by simp [hn])
    exact fresh a o.there (h.out a m)
  obj := fun n a o e q => (h.obj n a o e q).mono sub (Pre.refl _) fun u z _ => keep a u z
  tabs := ⟨h.tabs.1.ext keep, fun p hp => fresh p.1 (by obtain ⟨ps, e, _⟩ := h.tabs.1 p hp; rw [e]; simp) (h.tabs.2 p hp)⟩
theorem Sub.upd_new {o : HO} (h : H a = none) : Sub H (upd H a o) := fun b u e => by rw [upd_ne (ne_of_none e h)]; exact e
def plainO : HO → Prop
  | .tbl _ => False
  | .ext _ => False
  | _ => True
theorem tabs_upd {T : List (Addr × Str)} {D : Addr} {o : HO} (h : LamX.Tabs T H) (hp : ∀ u, H D = some u → plainO u) : LamX.Tabs T (upd H D o) := fun p hm => by
  obtain ⟨ps, e, t, q⟩ := h p hm
  refine ⟨ps, ?_, t, fun pos cv hc => ?_⟩
  · rw [upd_ne (fun z => by rw [z] at e; exact hp _ e)]; exact e
  · obtain ⟨c, e1, e2⟩ := q pos cv hc
    refine ⟨c, e1, ?_⟩
    rw [upd_ne (fun z => by rw [z] at e2; exact hp _ e2)]; exact e2
theorem TabsF.upd {T : List (Addr × Str)} {D : Addr} {o : HO} (h : TabsF T F H) (hp : ∀ u, H D = some u → plainO u) : TabsF T F (upd H D o) := ⟨tabs_upd h.1 hp, h.2⟩
theorem TabsF.fz {T : List (Addr × Str)} {D : Addr} {o : HO} (h : TabsF T F H) (hp : ∀ u, H D = some u → plainO u) : TabsF T (L2.upd F D o) H := ⟨h.1, fun p hm => by
  obtain ⟨ps, e, _⟩ := h.1 p hm
  rw [upd_ne (fun z => by rw [z] at e; exact hp _ e)]
  exact h.2 p hm⟩
theorem IOR.plain {o : IO} (r : IOR K F ι H a o) : ∀ u, H a = some u → plainO u := by
  intro u hu
  cases o with
  | lst ps => obtain ⟨xs, e, _⟩ := r; rw [e] at hu; cases hu; trivial
  | dct ps => obtain ⟨xs, e, _⟩ := r; rw [e] at hu; cases hu; trivial
  | ins c fs => obtain ⟨dx, gs, e, _⟩ := r; rw [e] at hu; cases hu; trivial
theorem Sub.upd_fz {o : HO} (h : Sub F H) : Sub (upd F a o) (upd H a o) := fun b u e => by
  by_cases hb : b = a
  · subst hb; rw [upd_same] at e ⊢; exact e
  · rw [upd_ne hb] at e ⊢; exact h b u e
theorem free_of {F H : Hp} (h : Sub F H) {a : Addr} (hn : H a = none) : F a = none := by
  cases e : F a with
  | none => rfl
  | some o => rw [h a o e] at hn; cases hn
theorem fresh_upd {o : HO} (hn : H a = none) : ∀ b, H b ≠ none → F b = none → upd F a o b = none := fun b hb hf => by
  have : b ≠ a := fun e => hb (by rw [e]; exact hn)
  rw [upd_ne this]; exact hf
theorem Step.fz {o : HO} (h : HR K F ι H S) (hn : H a = none) : Step F ι H (upd F a o) ι (upd H a o) :=
  Step.grow (Sub.upd_new (free_of h.sub hn)) (fresh_upd hn) (Sub.upd_new hn)
theorem HR.fz {o : HO} (h : HR K F ι H S) (hn : H a = none) : HR K (upd F a o) ι (upd H a o) S :=
  h.grow (Sub.upd_new (free_of h.sub hn)) (fresh_upd hn) (Sub.upd_new hn) h.sub.upd_fz
end
def RX (F : Hp) (ι : List Addr) (H : Hp) : PV → Value → Option Addr → Prop
  | .ins c fs, cls, d => cls = .ref (He.ga K (sN c)) ∧ ((d = none ∧ fs = []) ∨ ∃ dx gs, d = some dx ∧ H dx = some (.xd gs) ∧ F dx = none ∧ dx ∉ ι ∧ RVf K F ι fs gs)
  | _, _, _ => False
def SlotR (F : Hp) (ι : List Addr) (H : Hp) (x : Option V) : Slot → Prop
  | .no => True
  | .val p => ∃ v, x = some v ∧ RV K F ι p v
  | .own o => ∃ a, x = some (.ref a) ∧ F a = none ∧ a ∉ ι ∧ IOR K F ι H a o
  | .exc p => ∃ a cls d, LT.hot = some (a, cls, d) ∧ x = some (.ref a) ∧ RX K F ι H p cls d
  | .lam => ∃ f, LT.fn = some f ∧ x = some (.ref f)
structure SR (F : Hp) (ι : List Addr) (σ : L2.St) (ρ : Rho) (H : Hp) (S : IS) : Prop where
  hr : HR K F ι H S
  len : σ.length = ρ.length
  at_ : ∀ (i : Nat) (s : Slot), ρ[i]? = some s → ∃ x, σ[i]? = some x ∧ SlotR K F ι H x s
  ap : ∀ (i j : Nat) (o u : IO) (a : Addr), i ≠ j → ρ[i]? = some (.own o) → ρ[j]? = some (.own u) → σ[i]? = some (some (.ref a)) → σ[j]? ≠ some (some (.ref a))
section
variable {K : PySem.W.Frag} {F F' : Hp} {ι ι' : List Addr} {H H' : Hp} {S S' : IS} {σ : L2.St} {ρ : Rho}
theorem RX.step {p : PV} {cls : Value} {d : Option Addr} (st : Step F ι H F' ι' H') (r : RX K F ι H p cls d) : RX K F' ι' H' p cls d := by
  cases p <;> first | exact (show False from r).elim | skip
  obtain ⟨e, ⟨e1, e2⟩ | ⟨dx, gs, e2, h, f, n, q⟩⟩ := r
  · exact ⟨e, .inl ⟨e1, e2⟩⟩
  have hne : H dx ≠ none := by rw [h]; simp
  refine ⟨e, .inr ⟨dx, gs, e2, st.keep dx _ h n (fun ps z => by cases z), st.fresh dx hne f, fun m => ?_, q.mono st.sub st.pre⟩⟩
  rcases st.new dx m with z | z
  · exact n z
  · exact hne z
theorem RX.off {p : PV} {cls : Value} {d : Option Addr} {o : IO} {a : Addr} {u : HO} (r0 : IOR K F ι H a o) (sub : Sub F F') (f0 : ∀ b, b ≠ a → F b = none → F' b = none) (r : RX K F ι H p cls d) : RX K F' ι (upd H a u) p cls d := by
  cases p <;> first | exact (show False from r).elim | skip
  obtain ⟨e, ⟨e1, e2⟩ | ⟨dx, gs, e2, h, f, n, q⟩⟩ := r
  · exact ⟨e, .inl ⟨e1, e2⟩⟩
  have hne : dx ≠ a := fun z => by
    rw [z] at h
    cases o with
    | lst ps => obtain ⟨xs, e', _⟩ := r0; rw [h] at e'; cases e'
    | dct ps => obtain ⟨xs, e', _⟩ := r0; rw [h] at e'; cases e'
    | ins c fs => obtain ⟨dx', gs', e', _⟩ := r0; rw [h] at e'; cases e'
  exact ⟨e, .inr ⟨dx, gs, e2, by rw [upd_ne hne]; exact h, f0 dx hne f, n, q.mono sub (Pre.refl _)⟩⟩
theorem SlotR.step {x : Option V} {s : Slot} (st : Step F ι H F' ι' H') (r : SlotR K F ι H x s) : SlotR K F' ι' H' x s := by
  cases s with
  | no => trivial
  | val p => obtain ⟨v, e, q⟩ := r; exact ⟨v, e, q.mono st.sub st.pre⟩
  | own o =>
    obtain ⟨a, e, f, n, q⟩ := r
    refine ⟨a, e, st.fresh a q.there f, fun m => ?_, q.mono st.sub st.pre fun u z nt => st.keep a u z n nt⟩
    rcases st.new a m with h | h
    · exact n h
    · exact q.there h
  | exc p => obtain ⟨a, cls, d, h, e, q⟩ := r; exact ⟨a, cls, d, h, e, q.step st⟩
  | lam => exact r
theorem SR.step (r : SR K F ι σ ρ H S) (st : Step F ι H F' ι' H') (h : HR K F' ι' H' S') : SR K F' ι' σ ρ H' S' where
  hr := h
  len := r.len
  at_ := fun i s e => by
    obtain ⟨x, hx, q⟩ := r.at_ i s e
    exact ⟨x, hx, q.step st⟩
  ap := r.ap
end
abbrev RL := Hp → List Addr → Hp → PV → V → Prop
def rV : RL := fun F ι _ p v => RV K F ι p v
def rW : RL := fun F ι H p v => RV K F ι p v ∨ ∃ a o, v = .ref a ∧ ioOf p = some o ∧ F a = none ∧ a ∉ ι ∧ IOR K F ι H a o
def rN (H0 : Hp) : RL := fun F ι H p v => ∃ a o, v = .ref a ∧ ioOf p = some o ∧ H0 a = none ∧ F a = none ∧ a ∉ ι ∧ IOR K F ι H a o
def OutE (R : RL) (W : WX) (Q : VK) (F : Hp) (ι : List Addr) (σ : L2.St) (H : Hp) : Res PV → Prop
  | .ok v S' => ∀ F' ι' v' H', Step F ι H F' ι' H' → HR K F' ι' H' S' → R F' ι' H' v v' → Q v' H'
  | .ex x S' => ∀ F' ι' cls d H', Step F ι H F' ι' H' → HR K F' ι' H' S' → RX K F' ι' H' x cls d → W cls d σ H'
  | .no => False
def OutA (W : WX) (Q : List V → Hp → Prop) (F : Hp) (ι : List Addr) (σ : L2.St) (H : Hp) : Res (List PV) → Prop
  | .ok vs S' => ∀ F' ι' vs' H', Step F ι H F' ι' H' → HR K F' ι' H' S' → RVs K F' ι' vs vs' → Q vs' H'
  | .ex x S' => ∀ F' ι' cls d H', Step F ι H F' ι' H' → HR K F' ι' H' S' → RX K F' ι' H' x cls d → W cls d σ H'
  | .no => False
def tE (fe : FE) (W : WX) (d : DE) : TE := fun σ H Q => ∃ F ι S ρ, SR K F ι σ ρ H S ∧ OutE K (rV K) W Q F ι σ H (d fe ρ S)
def tO (fe : FE) (W : WX) (d : DE) : TE := fun σ H Q => ∃ F ι S ρ, SR K F ι σ ρ H S ∧ OutE K (rW K) W Q F ι σ H (d fe ρ S)
section
variable {K : PySem.W.Frag} {F F1 F' : Hp} {ι ι1 ι' : List Addr} {H H1 H' : Hp} {S S1 S' : IS} {σ : L2.St} {ρ : Rho} {fe : FE} {W : WX} {Q : VK} {R : RL}
theorem OutE.step {r : Res PV} (st : Step F ι H F1 ι1 H1) (h : OutE K R W Q F ι σ H r) : OutE K R W Q F1 ι1 σ H1 r := by
  cases r with
  | ok v S' => exact fun F' ι' v' H' s1 => h F' ι' v' H' (st.trans s1)
  | ex x S' => exact fun F' ι' cls d H' s1 => h F' ι' cls d H' (st.trans s1)
  | no => exact h
theorem OutA.step {r : Res (List PV)} {Q : List V → Hp → Prop} (st : Step F ι H F1 ι1 H1) (h : OutA K W Q F ι σ H r) : OutA K W Q F1 ι1 σ H1 r := by
  cases r with
  | ok v S' => exact fun F' ι' v' H' s1 => h F' ι' v' H' (st.trans s1)
  | ex x S' => exact fun F' ι' cls d H' s1 => h F' ι' cls d H' (st.trans s1)
  | no => exact h
theorem rW.of {p : PV} {v : V} (h : RV K F ι p v) : rW K F ι H p v := .inl h
theorem rW.step {p : PV} {v : V} (st : Step F ι H F1 ι1 H1) (h : rW K F ι H p v) : rW K F1 ι1 H1 p v := by
  rcases h with h | ⟨a, o, e, i, f, n, r⟩
  · exact .inl (h.mono st.sub st.pre)
  · refine .inr ⟨a, o, e, i, st.fresh a r.there f, fun m => ?_, r.mono st.sub st.pre fun u z nt => st.keep a u z n nt⟩
    rcases st.new a m with h | h
    · exact n h
    · exact r.there h
theorem OutE.bind {r : Res PV} {k : PV → IS → Res PV} {R' : RL} (sr : SR K F ι σ ρ H S) (h : OutE K R W Q F ι σ H (r.bind k)) :
    OutE K R' W (fun v' H1 => ∃ F1 ι1 S1 v, Step F ι H F1 ι1 H1 ∧ SR K F1 ι1 σ ρ H1 S1 ∧ R' F1 ι1 H1 v v' ∧ r = .ok v S1 ∧ OutE K R W Q F1 ι1 σ H1 (k v S1)) F ι σ H r := by
  cases r with
  | ok v S1 => exact fun F' ι' v' H' st hr q => ⟨F', ι', S1, v, st, sr.step st hr, q, rfl, OutE.step st h⟩
  | ex x S1 => exact h
  | no => exact h
theorem OutA.bind {r : Res PV} {k : PV → IS → Res (List PV)} {R' : RL} {Q : List V → Hp → Prop} (sr : SR K F ι σ ρ H S) (h : OutA K W Q F ι σ H (r.bind k)) :
    OutE K R' W (fun v' H1 => ∃ F1 ι1 S1 v, Step F ι H F1 ι1 H1 ∧ SR K F1 ι1 σ ρ H1 S1 ∧ R' F1 ι1 H1 v v' ∧ r = .ok v S1 ∧ OutA K W Q F1 ι1 σ H1 (k v S1)) F ι σ H r := by
  cases r with
  | ok v S1 => exact fun F' ι' v' H' st hr q => ⟨F', ι', S1, v, st, sr.step st hr, q, rfl, OutA.step st h⟩
  | ex x S1 => exact h
  | no => exact h
theorem PE.imp {X : Cx} {e : Expr} {t t' : TE} (h : PE X e t) (i : ∀ σ H Q, t' σ H Q → t σ H Q) : PE X e t' := ⟨fun pins s σ H Q I q => h.run pins s σ H Q I (i σ H Q q)⟩
theorem PT.imp {X : Cx} {e : Expr} {t t' : TT} (h : PT X e t) (i : ∀ σ H Q, t' σ H Q → t σ H Q) : PT X e t' := ⟨fun pins s σ H Q I q => h.run pins s σ H Q I (i σ H Q q)⟩
theorem PA.imp {X : Cx} {e : List Expr} {t t' : TA} (h : PA X e t) (i : ∀ σ H Q, t' σ H Q → t σ H Q) : PA X e t' := ⟨fun pos pins s σ H Q I q => h.run pos pins s σ H Q I (i σ H Q q)⟩
theorem PS.imp {X : Cx} {e : Stmt} {t t' : TS} (h : PS X e t) (i : ∀ D σ H, t' D σ H → t D σ H) : PS X e t' := ⟨fun pins s σ H Q I q => h.run pins s σ H Q I (i Q σ H q)⟩
theorem PSs.imp {X : Cx} {e : List Stmt} {t t' : TS} (h : PSs X e t) (i : ∀ D σ H, t' D σ H → t D σ H) : PSs X e t' := ⟨fun pins s σ H Q I q => h.run pins s σ H Q I (i Q σ H q)⟩
theorem OutE.weakR {r : Res PV} {R R' : RL} (h : OutE K R' W Q F ι σ H r) (i : ∀ F ι H p v, R F ι H p v → R' F ι H p v) : OutE K R W Q F ι σ H r := by
  cases r with
  | ok v S' => exact fun F' ι' v' H' st hr q => h F' ι' v' H' st hr (i _ _ _ _ _ q)
  | ex x S' => exact h
  | no => exact h
theorem PE.o {X : Cx} {e : Expr} {d : DE} (h : PE X e (tE K fe W d)) : PE X e (tO K fe W d) := PE.imp h fun _ _ _ ⟨F, ι, S, ρ, sr, q⟩ => ⟨F, ι, S, ρ, sr, q.weakR fun _ _ _ _ _ z => .inl z⟩
end
end My
namespace My
open PySem PySem.Spec PyProof.Rows L2
variable [LT]
variable (K : PySem.W.Frag)
def Fin (Q : VK) (F : Hp) (ι : List Addr) (H : Hp) (S : IS) (v : PV) : Prop := ∀ F' v' H', Step F ι H F' ι H' → HR K F' ι H' S → RV K F' ι v v' → Q v' H'
section
variable {K : PySem.W.Frag} {F : Hp} {ι : List Addr} {H : Hp} {S : IS} {Q : VK} {v : V}
theorem Fin.fz {p : PV} {a : Addr} {o : HO} (f : Fin K Q F ι H S p) (h : HR K F ι H S) (hn : H a = none) (r : RV K (upd F a o) ι p (.ref a)) : Q (.ref a) (upd H a o) := f _ _ _ (Step.fz h hn) (h.fz hn) r
theorem RV_tup {ps : List PV} {xs : List V} {a : Addr} (q : SqT K F a xs) (l : ps.length ≤ lim) (r : RVs K F ι ps xs) : RV K F ι (.tup ps) (.ref a) := by unfold RV; exact ⟨a, xs, rfl, q, l, r⟩
theorem RV_lst {ps : List PV} {xs : List V} {a : Addr} (q : F a = some (.lst xs)) (l : ps.length ≤ lim) (r : RVs K F ι ps xs) : RV K F ι (.lst ps) (.ref a) := by unfold RV; exact ⟨a, xs, rfl, q, l, r⟩
theorem Fin.tup {ps : List PV} {xs : List V} {a : Addr} (f : Fin K Q F ι H S (.tup ps)) (h : HR K F ι H S) (hn : H a = none) (l : ps.length ≤ lim) (r : RVs K F ι ps xs) : Q (.ref a) (upd H a (.tup xs)) :=
  f.fz h hn (RV_tup (SqT.of upd_same) l (r.mono (Sub.upd_new (free_of h.sub hn)) (Pre.refl _)))
theorem Fin.lst {ps : List PV} {xs : List V} {a : Addr} (f : Fin K Q F ι H S (.lst ps)) (h : HR K F ι H S) (hn : H a = none) (l : ps.length ≤ lim) (r : RVs K F ι ps xs) : Q (.ref a) (upd H a (.lst xs)) :=
  f.fz h hn (RV_lst upd_same l (r.mono (Sub.upd_new (free_of h.sub hn)) (Pre.refl _)))
end
section
variable {X : Cx}
end
section
variable {K : PySem.W.Frag} {F : Hp} {ι : List Addr} {H : Hp}
end
section
variable {X : Cx}
end
end My
namespace My
open PySem PySem.Spec PyProof.Rows L2
variable [LT]
section
variable {K : PySem.W.Frag} {F : Hp} {ι : List Addr} {H : Hp}
theorem RVd.length : ∀ {kvs : List (PV × PV)} {ks : List (Key × V)}, RVd K F ι kvs ks → kvs.length = ks.length
  | [], ks, r => by unfold RVd at r; subst r; rfl
  | (_, _) :: kvs, ks, r => by
    unfold RVd at r
    obtain ⟨_, _, _, e, _, _, rt⟩ := r
    subst e
    rw [List.length_cons, List.length_cons, rt.length]
theorem RVs.atI {ps : List PV} {xs : List V} {i : Int} {p : PV} (r : RVs K F ι ps xs) (h : My.atI ps i = some p) : ∃ v, L2.atI xs i = some v ∧ RV K F ι p v := by
  unfold My.atI at h
  rw [Option.bind_eq_some_iff] at h
  obtain ⟨j, h1, h2⟩ := h
  obtain ⟨v, h3, h4⟩ := r.get h2
  refine ⟨v, ?_, h4⟩
  show (L2.ixN xs.length i).bind _ = _
  rw [← r.length]
  show (My.ixN ps.length i).bind _ = _
  rw [h1]
  exact h3
theorem RVs.cut {ps : List PV} {xs : List V} (r : RVs K F ι ps xs) (lo hi : Option Int) : RVs K F ι (My.cut ps lo hi) (cutV xs lo hi) := by
  show RVs K F ι ((ps.drop (HT.sIx ps.length 0 lo)).take (HT.sIx ps.length ps.length hi - HT.sIx ps.length 0 lo)) _
  unfold cutV
  rw [r.length]
  exact (r.drop _).take _
end
section
variable {X : Cx}
def notD (f : PV → PV → Option PV) : PV → PV → Option PV := fun x y => match y with
  | .dct _ => none
  | _ => f x y
end
end My
namespace My
open PySem PySem.Spec PyProof.Rows L2
variable [LT]
section
variable {X : Cx} {fe : FE} {W : WX} {a b c e : Expr} {da db dc d : DE} {pos : Pos}
theorem sim_var {i : Nat} {x : Str} (hN : X.N[i]? = some x) (hv : Vis X.env.scope x) (hd : (x == ("__debug__" : Str)) = false := by decide) (hcd : (x == ("__classdict__" : Str)) = false := by decide) : PE X (.Name x pos) (tE X.K fe W (varE i)) := by
  refine PE.imp (pe_var hN hv hd hcd) fun σ H Q h => ?_
  obtain ⟨F, ι, S, ρ, sr, o⟩ := h
  unfold varE at o
  split at o
  · rename_i v e
    obtain ⟨x, hx, v', e2, r⟩ := sr.at_ i _ e
    subst e2
    exact ⟨v', hx, o F ι v' H Step.refl sr.hr r⟩
  · exact o.elim
variable {rest : List Expr}
theorem PW.imp {X : Cx} {e : Expr} {t t' : TT} (h : PW X e t) (i : ∀ σ H Q, t' σ H Q → t σ H Q) : PW X e t' := ⟨fun wh pins s σ H Q I q => h.run wh pins s σ H Q I (i σ H Q q)⟩
section
variable {F : Hp} {ι : List Addr} {S : IS} {ρ : Rho} {σ : L2.St} {H : Hp} {Q : VK} {R : RL}
end
variable {es : List Expr} {ds : DEs}
end
end My
namespace My
open PySem PySem.Spec PyProof.Rows L2
variable [LT]
section
variable {X : Cx} {fe : FE} {W : WX} {a b c e : Expr} {da db dc d : DE} {pos : Pos}
section
variable {F : Hp} {ι : List Addr} {S : IS} {ρ : Rho} {σ : L2.St} {H : Hp} {Q : VK} {R : RL}
end
variable {p2 : Pos}
end
end My
namespace My
open PySem PySem.Spec PyProof.Rows L2
variable [LT]
def OutC (K : PySem.W.Frag) (Q : VK) (E : XK) (F : Hp) (ι : List Addr) (H : Hp) : Res PV → Prop
  | .ok v S' => ∀ F' ι' v' H', Step F ι H F' ι' H' → HR K F' ι' H' S' → RV K F' ι' v v' → Q v' H'
  | .ex x S' => ∀ F' ι' cls d H', Step F ι H F' ι' H' → HR K F' ι' H' S' → RX K F' ι' H' x cls d → E cls d H'
  | .no => False
structure RG (k : Nat) (A : Around) : Prop where
  room : Room k A
  gd : A.guards = some []
theorem RG.mono {j k : Nat} {A : Around} (r : RG k A) (h : j ≤ k) : RG j A := ⟨r.room.mono h, r.gd⟩
section
variable {X : Cx} {T : Tab} {D : Nat} {W : WX} {e o : Expr} {es : List Expr} {ds : DEs} {d : DE} {x m : Str} {p pos apos : Pos} {f c : Nm} {fa : Addr} {fd : FuncData} {ps : List Str}
theorem OutC.of {Q : VK} {F : Hp} {ι : List Addr} {σ : L2.St} {H : Hp} {r : Res PV} (o : OutE X.K (rV X.K) W Q F ι σ H r) : OutC X.K Q (WE W σ) F ι H r := by
  cases r <;> exact o
variable {kws : List Keyword} {ks : List Str} {q : List Nat}
theorem PK.imp {X : Cx} {kws : List Keyword} {t t' : TA} (h : PK X kws t) (i : ∀ σ H Q, t' σ H Q → t σ H Q) : PK X kws t' := ⟨fun pos pins s σ H Q I q => h.run pos pins s σ H Q I (i σ H Q q)⟩
theorem OutC.noEx {Q : VK} {E : XK} {F : Hp} {ι : List Addr} {σ : L2.St} {H : Hp} {r : Res PV} (o : OutE X.K (rV X.K) W Q F ι σ H (My.noEx r)) : OutC X.K Q E F ι H r := by
  cases r with
  | ok v S => exact o
  | ex x S => exact (show False from o).elim
  | no => exact o
end
end My
namespace My
open PySem PySem.Spec PyProof.Rows L2
variable [LT]
section
variable (K : PySem.W.Frag)
end
section
variable {K : PySem.W.Frag} {F : Hp} {ι : List Addr}
end
section
variable {X : Cx} {fe : FE} {W : WX} {a b iter tg : Expr} {da db : DE} {pos : Pos}
theorem PI.imp {X : Cx} {tg iter : Expr} {t t' : TI} (h : PI X tg iter t) (i : ∀ σ H Q, t' σ H Q → t σ H Q) : PI X tg iter t' := ⟨fun pins s σ H R I q => h.run pins s σ H R I (i σ H R q)⟩
end
section
variable {K : PySem.W.Frag} {F : Hp} {ι : List Addr} {H : Hp} {S : IS} {σ : L2.St} {ρ : Rho}
theorem SR.wipe (r : SR K F ι σ ρ H S) : ∀ vs : List Nat, SR K F ι (L2.wipe σ vs) (My.wipe ρ vs) H S
  | [] => r
  | v :: vs => by
    have ih := SR.wipe r vs
    refine ⟨r.hr, ?_, fun j s e => ?_, fun j k o u a hjk h1 h2 h3 => ?_⟩
    · show ((L2.wipe σ vs).set v none).length = ((My.wipe ρ vs).set v .no).length
      rw [List.length_set, List.length_set, ih.len]
    · have e : ((My.wipe ρ vs).set v .no)[j]? = some s := e
      show ∃ x, ((L2.wipe σ vs).set v none)[j]? = some x ∧ _
      by_cases h : v = j
      · subst h
        have hv : v < (My.wipe ρ vs).length := by
          have := (List.getElem?_eq_some_iff.mp e).1
          simpa using this
        rw [List.getElem?_set_self hv] at e
        cases e
        exact ⟨_, List.getElem?_set_self (by rw [ih.len]; exact hv), trivial⟩
      · rw [List.getElem?_set_ne h] at e ⊢
        exact ih.at_ j s e
    · have h1 : ((My.wipe ρ vs).set v .no)[j]? = some (.own o) := h1
      have h2 : ((My.wipe ρ vs).set v .no)[k]? = some (.own u) := h2
      have h3 : ((L2.wipe σ vs).set v none)[j]? = some (some (.ref a)) := h3
      show ((L2.wipe σ vs).set v none)[k]? ≠ _
      have n1 : v ≠ j := fun z => by
        subst z
        have hv : v < (My.wipe ρ vs).length := by simpa using (List.getElem?_eq_some_iff.mp h1).1
        rw [List.getElem?_set_self hv] at h1
        cases h1
      have n2 : v ≠ k := fun z => by
        subst z
        have hv : v < (My.wipe ρ vs).length := by simpa using (List.getElem?_eq_some_iff.mp h2).1
        rw [List.getElem?_set_self hv] at h2
        cases h2
      rw [List.getElem?_set_ne n1] at h1 h3
      rw [List.getElem?_set_ne n2] at h2 ⊢
      exact ih.ap j k o u a hjk h1 h2 h3
end
section
variable (K : PySem.W.Frag)
end
section
variable {X : Cx} {pos : Pos}
theorem PG.imp {X : Cx} {tg : Expr} {t t' : TG} (h : PG X tg t) (i : ∀ v σ H Q, t' v σ H Q → t v σ H Q) : PG X tg t' := ⟨fun pins s σ H v u Q I r q => h.run pins s σ H v u Q I r (i v σ H Q q)⟩
end
section
end
end My
namespace My
open PySem PySem.Spec PyProof.Rows L2
variable [LT]
section
variable {K : PySem.W.Frag} {F F' : Hp} {ι ι' : List Addr} {H H' : Hp} {S S' : IS} {D : Addr} {o : HO}
theorem IOR.upd_ne {a : Addr} {io : IO} (h : a ≠ D) (r : IOR K F ι H a io) : IOR K F ι (upd H D o) a io := r.mono (Sub.refl _) (Pre.refl _) fun u e _ => by rw [L2.upd_ne h]; exact e
theorem HR.updO (h : HR K F ι H S) (f : F D = none) (n : D ∉ ι) (hp : ∀ u, H D = some u → plainO u) : HR K F ι (upd H D o) S where
  sub := fun b u e => by rw [L2.upd_ne (fun z => by rw [z, f] at e; cases e)]; exact h.sub b u e
  len := h.len
  nd := h.nd
  out := h.out
  obj := fun m a io e1 e2 => (h.obj m a io e1 e2).upd_ne fun z => n (by rw [← z]; exact List.mem_of_getElem? e1)
  tabs := h.tabs.upd hp
theorem Step.updO (h : Step F ι H F' ι' H') (n : H D = none) : Step F ι H F' ι' (upd H' D o) where
  sub := h.sub
  fresh := h.fresh
  pre := h.pre
  new := h.new
  keep := fun a u e hn nt => by rw [L2.upd_ne (fun z => by rw [z, n] at e; cases e)]; exact h.keep a u e hn nt
  there := fun a e => by
    by_cases z : a = D
    · rw [z, upd_same]; simp
    · rw [L2.upd_ne z]; exact h.there a e
end
abbrev W0 : WX := fun _ _ _ _ => False
section
variable {X : Cx} {fe : FE} {W : WX} {elt tg iter : Expr} {ifs : List Expr} {scope : Scope} {own : List (Str × Nat)} {is : List Nat} {pos : Pos} {it : DI} {t : DT} {dc de : DE}
end
end My
namespace My
open PySem PySem.Spec PyProof.Rows L2
variable [LT]
section
variable {X : Cx} {T : Tab} {D : Nat} {W : WX} {e o : Expr} {es : List Expr} {ds : DEs} {d : DE} {x m : Str} {p pos apos : Pos} {f c : Nm} {fa : Addr} {fd : FuncData} {ps : List Str} {kws : List Keyword} {ks : List Str} {q : List Nat}
end
end My
namespace My
open PySem PySem.Spec PyProof.Rows L2
variable [LT]
structure EN where
  F : Hp
  ι : List Addr
  H : Hp
  /-- in an __init__: the instance, in the slot 0 -/
  self : Option Addr := none
section
variable (K : PySem.W.Frag) (N : EN)
structure SE (F : Hp) (ι : List Addr) (σ : L2.St) (ρ : Rho) (H : Hp) (S : IS) : Prop where
  sr : SR K F ι σ ρ H S
  st : Step N.F N.ι N.H F ι H
  ow : ∀ (i : Nat) (o : IO) (a : Addr), ρ[i]? = some (.own o) → σ[i]? = some (some (.ref a)) → N.H a = none
  slf : ∀ x, N.self = some x → σ[0]? = some (some (.ref x))
def OutS (W : WX) (D : Ends) (F : Hp) (ι : List Addr) : RS → Prop
  | .fl (.nx ρ') S' => ∀ F' ι' σ' H', Sub F F' → Pre ι ι' → SE K N F' ι' σ' ρ' H' S' → D.nx σ' H'
  | .fl (.rt v) S' => ∀ F' ι' v' H', Sub F F' → Pre ι ι' → Step N.F N.ι N.H F' ι' H' → HR K F' ι' H' S' → RV K F' ι' v v' → D.rt v' H'
  | .fl (.bk ρ') S' => ∀ F' ι' σ' H', Sub F F' → Pre ι ι' → SE K N F' ι' σ' ρ' H' S' → D.bk σ' H'
  | .fl (.ct ρ') S' => ∀ F' ι' σ' H', Sub F F' → Pre ι ι' → SE K N F' ι' σ' ρ' H' S' → D.ct σ' H'
  | .ex x ρ' S' => ∀ F' ι' σ' cls d H', Sub F F' → Pre ι ι' → SE K N F' ι' σ' ρ' H' S' → RX K F' ι' H' x cls d → W cls d σ' H'
  | .no => False
end
section
variable {K : PySem.W.Frag} {N : EN} {F F1 : Hp} {ι ι1 : List Addr} {σ : L2.St} {ρ : Rho} {H H1 : Hp} {S S1 : IS} {W : WX} {D : Ends}
theorem SE.step (h : SE K N F ι σ ρ H S) (st : Step F ι H F1 ι1 H1) (hr : HR K F1 ι1 H1 S1) : SE K N F1 ι1 σ ρ H1 S1 := ⟨h.sr.step st hr, h.st.trans st, h.ow, h.slf⟩
theorem OutS.step {r : RS} (s : Sub F F1) (p : Pre ι ι1) (h : OutS K N W D F ι r) : OutS K N W D F1 ι1 r := by
  cases r with
  | fl f S' =>
    cases f with
    | nx ρ' => exact fun F' ι' σ' H' s1 p1 => h F' ι' σ' H' (s.trans s1) (p.trans p1)
    | rt v => exact fun F' ι' v' H' s1 p1 => h F' ι' v' H' (s.trans s1) (p.trans p1)
    | bk ρ' => exact fun F' ι' σ' H' s1 p1 => h F' ι' σ' H' (s.trans s1) (p.trans p1)
    | ct ρ' => exact fun F' ι' σ' H' s1 p1 => h F' ι' σ' H' (s.trans s1) (p.trans p1)
  | ex x ρ' S' => exact fun F' ι' σ' cls d H' s1 p1 => h F' ι' σ' cls d H' (s.trans s1) (p.trans p1)
  | no => exact h
theorem SE.upd (h : SE K N F ι σ ρ H S) {i : Nat} {o o' : IO} {a : Addr} {u : HO} (hi : ρ[i]? = some (.own o)) (ha : σ[i]? = some (some (.ref a))) (r : IOR K F ι (L2.upd H a u) a o') : SE K N F ι σ (ρ.set i (.own o')) (L2.upd H a u) S := by
  obtain ⟨x, hx, b, e, f, n, r0⟩ := h.sr.at_ i _ hi
  rw [ha] at hx
  cases hx
  cases e
  have hl : i < ρ.length := (List.getElem?_eq_some_iff.mp hi).1
  have h0 := h.ow i o a hi ha
  have hr' : HR K F ι (L2.upd H a u) S := h.sr.hr.updO f n r0.plain
  refine ⟨⟨hr', by rw [List.length_set, h.sr.len], fun j s e => ?_, fun j k v w b hjk h1 h2 h3 => ?_⟩, h.st.updO h0, fun j v b h1 h2 => ?_, h.slf⟩
  · by_cases z : i = j
    · subst z
      rw [List.getElem?_set_self hl] at e
      cases e
      exact ⟨_, ha, a, rfl, f, n, r⟩
    · rw [List.getElem?_set_ne z] at e
      obtain ⟨x, hx, q⟩ := h.sr.at_ j s e
      refine ⟨x, hx, ?_⟩
      cases s with
      | no => trivial
      | val p => exact q
      | own v =>
        obtain ⟨b, e1, f1, n1, r1⟩ := q
        subst e1
        have hne : b ≠ a := fun e2 => h.sr.ap i j o v a z hi e ha (by rw [hx, e2])
        exact ⟨b, rfl, f1, n1, r1.upd_ne hne⟩
      | exc p => obtain ⟨b, cls, d, hh, e1, r1⟩ := q; exact ⟨b, cls, d, hh, e1, r1.off r0 (Sub.refl _) fun _ _ z => z⟩
      | lam => exact q
  · have conv : ∀ {j : Nat} {v : IO}, (ρ.set i (.own o'))[j]? = some (.own v) → ∃ v', ρ[j]? = some (.own v') := fun {j v} e => by
      by_cases z : i = j
      · subst z; exact ⟨o, hi⟩
      · rw [List.getElem?_set_ne z] at e; exact ⟨v, e⟩
    obtain ⟨v', h1'⟩ := conv h1
    obtain ⟨w', h2'⟩ := conv h2
    exact h.sr.ap j k v' w' b hjk h1' h2' h3
  · by_cases z : i = j
    · subst z
      rw [ha] at h2
      cases h2
      exact h0
    · rw [List.getElem?_set_ne z] at h1
      exact h.ow j v b h1 h2
end
section
variable {X : Cx} {N : EN} {fe : FE} {W : WX} {a b c e : Expr} {da db dc d : DE} {pos : Pos} {st : Stmt} {sts : List Stmt} {ds dt : DS}
section
variable {F : Hp} {ι : List Addr} {S : IS} {ρ : Rho} {σ : L2.St} {H : Hp} {D : Ends}
end
theorem OutS.seq {F : Hp} {ι : List Addr} {D : Ends} {r : RS} {k : Rho → IS → RS} {u : TS} (o : OutS X.K N W D F ι (match r with | .fl (.nx ρ1) S1 => k ρ1 S1 | r => r))
    (hk : ∀ F' ι' σ' ρ' H' S', Sub F F' → Pre ι ι' → SE X.K N F' ι' σ' ρ' H' S' → OutS X.K N W D F' ι' (k ρ' S') → u D σ' H') : OutS X.K N W { D with nx := u D } F ι r := by
  cases r with
  | fl f S1 =>
    cases f with
    | nx ρ1 => exact fun F' ι' σ' H' s p se => hk F' ι' σ' ρ1 H' S1 s p se (OutS.step s p o)
    | rt v => exact o
    | bk ρ1 => exact o
    | ct ρ1 => exact o
  | ex x ρ1 S1 => exact o
  | no => exact o
variable {i : Nat} {x : Str} {pos' : Pos}
variable {tg iter : Expr} {it : DI} {t : DT} {is : List Nat} {body : List Stmt}
end
end My
namespace My
open PySem PySem.Spec PyProof.Rows L2
variable [LT]
section
variable {X : Cx} {N : EN} {fe : FE} {W : WX} {a b c e : Expr} {da db dc d : DE} {pos : Pos} {st : Stmt} {sts : List Stmt} {ds dt : DS} {es : List Expr} {dA : DEs}
def RM (K : PySem.W.Frag) (H0 F : Hp) (ι : List Addr) (H : Hp) : List Bool → List PV → List V → Prop
  | [], [], vs => vs = []
  | b :: bs, p :: ps, vs => ∃ v r, vs = v :: r ∧ (if b = true then rN K H0 F ι H p v else RV K F ι p v) ∧ RM K H0 F ι H bs ps r ∧ (b = true → ∀ (i : Nat), bs[i]? = some true → r[i]? ≠ some v)
  | _, _, _ => False
theorem rN.step {K : PySem.W.Frag} {H0 H0' F ι H F1 ι1 H1} {p : PV} {v : V} (st : Step F ι H F1 ι1 H1) (h0 : ∀ a, H0' a ≠ none → H0 a ≠ none) (h : rN K H0 F ι H p v) : rN K H0' F1 ι1 H1 p v := by
  obtain ⟨a, o, e, i, z, f, n, r⟩ := h
  refine ⟨a, o, e, i, ?_, st.fresh a r.there f, fun m => ?_, r.mono st.sub st.pre fun u z nt => st.keep a u z n nt⟩
  · cases q : H0' a with
    | none => rfl
    | some u => exact absurd z (h0 a (by rw [q]; simp))
  · rcases st.new a m with h | h
    · exact n h
    · exact r.there h
theorem RM.new {K : PySem.W.Frag} {H0 F H : Hp} {ι : List Addr} : ∀ {bs : List Bool} {ps : List PV} {vs : List V}, RM K H0 F ι H bs ps vs → ∀ (i : Nat) (v : V), bs[i]? = some true → vs[i]? = some v → ∃ a, v = .ref a ∧ H0 a = none
  | [], _, _, _, i, v, h, _ => by simp at h
  | _ :: _, [], _, h, _, _, _, _ => h.elim
  | b :: bs, p :: ps, _, ⟨v, r, e, h1, h2, h3⟩, 0, u, hb, hv => by
    subst e
    simp at hb hv
    subst hb; subst hv
    simp only [if_true] at h1
    obtain ⟨a, _, e, _, z, _⟩ := h1
    exact ⟨a, e, z⟩
  | b :: bs, p :: ps, _, ⟨v, r, e, h1, h2, h3⟩, i + 1, u, hb, hv => by
    subst e
    exact RM.new h2 i u (by simpa using hb) (by simpa using hv)
variable {i : Nat} {x : Str} {xp apos : Pos}
theorem keyR_eqB {j k : PV} {jj kk : Key} (qj : keyR j jj) (q : keyR k kk) : eqB j k = decide (jj = kk) := by
  cases j <;> first | (exact (show False from qj).elim) | skip
  all_goals cases k <;> first | (exact (show False from q).elim) | skip
  · have e1 : jj = Sum.inl _ := qj
    have e2 : kk = Sum.inl _ := q
    subst e1; subst e2
    rw [Bool.eq_iff_iff]
    simp [eqB]
  · have e1 : jj = Sum.inl _ := qj
    have e2 : kk = Sum.inr _ := q.1
    subst e1; subst e2
    simp [eqB]
  · have e1 : jj = Sum.inr _ := qj.1
    have e2 : kk = Sum.inl _ := q
    subst e1; subst e2
    simp [eqB]
  · have e1 : jj = Sum.inr _ := qj.1
    have e2 : kk = Sum.inr _ := q.1
    subst e1; subst e2
    rw [Bool.eq_iff_iff]
    simp only [eqB, beq_iff_eq, decide_eq_true_eq, Sum.inr.injEq]
    exact ⟨fun h => by rw [h], sN_inj⟩
theorem RVd.any {K : PySem.W.Frag} {F : Hp} {ι : List Addr} {k : PV} {kk : Key} (hk : keyR k kk) : ∀ {kvs : List (PV × PV)} {ks : List (Key × V)}, RVd K F ι kvs ks → (kvs.any fun p => eqB p.1 k) = ks.any fun kv => decide (kv.1 = kk)
  | [], ks, r => by unfold RVd at r; subst r; rfl
  | (j, p) :: kvs, ks, r => by
    unfold RVd at r
    obtain ⟨jj, w, t, e, qj, rw', rt⟩ := r
    subst e
    rw [List.any_cons, List.any_cons, RVd.any hk rt, keyR_eqB qj hk]
end
end My
namespace My
open PySem PySem.Spec PyProof.Rows L2
variable [LT]
section
variable {K : PySem.W.Frag} {F : Hp} {ι : List Addr} {H : Hp} {S : IS} {a : Addr} {u : HO} {n : Nat} {o : IO}
theorem RVf.append : ∀ {fs : List (Nm × PV)} {gs : List (Str × V)} {f : Nm} {p : PV} {v : V}, RVf K F ι fs gs → RV K F ι p v → RVf K F ι (fs ++ [(f, p)]) (gs ++ [(sN f, v)])
  | [], gs, f, p, v, r, q => by unfold RVf at r; subst r; exact ⟨v, [], rfl, q, rfl⟩
  | (g, p0) :: fs, gs, f, p, v, r, q => by
    unfold RVf at r
    obtain ⟨w, t, e, rw', rt⟩ := r
    subst e
    exact ⟨w, _, rfl, rw', RVf.append rt q⟩
theorem RVf.length : ∀ {fs : List (Nm × PV)} {gs : List (Str × V)}, RVf K F ι fs gs → fs.length = gs.length
  | [], gs, r => by unfold RVf at r; subst r; rfl
  | (g, p0) :: fs, gs, r => by
    unfold RVf at r
    obtain ⟨w, t, e, rw', rt⟩ := r
    subst e
    rw [List.length_cons, List.length_cons, RVf.length rt]
end
section
variable {X : Cx} {N : EN} {fe : FE} {W : WX} {a b c e : Expr} {da db dc d dk d2 : DE} {pos : Pos} {st : Stmt} {sts : List Stmt} {ds dt : DS} {es : List Expr} {dA : DEs}
end
end My
namespace My
open PySem PySem.Spec PyProof.Rows L2
variable [LT]
section
variable {X : Cx} {fe : FE} {W : WX} {a b e : Expr} {da db d : DE} {pos : Pos}
end
end My
namespace My
open PySem PySem.Spec PyProof.Rows L2
variable [LT]
section
variable {P : Program} {w : World} {K : PySem.W.Frag} {mg : Str → Option Value} {base : Heap} {T : Tab} {D : Nat} {f c : Nm} {fa : Addr} {fd : FuncData} {x qual : Str} {params : Arguments} {body : List Stmt} {scope : Scope} {N ps : List Str} {ds : DS}
def codeV (K : PySem.W.Frag) (fa : Addr) : Option Value := match K.lookup fa with
  | some ⟨_, _, .func fd, _⟩ => some fd.code
  | _ => none
theorem RVs.at_ {F : Hp} {ι : List Addr} {ps : List PV} {vs : List V} (r : RVs K F ι ps vs) (m : Nat) : ∀ (i : Nat) (sl : Slot), (startR m ps)[i]? = some sl → (∃ p, sl = .val p ∧ ∃ v, vs[i]? = some v ∧ RV K F ι p v) ∨ sl = .no := by
  intro i sl h
  unfold startR at h
  by_cases hi : i < ps.length
  · rw [List.getElem?_append_left (by rw [List.length_map]; exact hi), List.getElem?_map] at h
    rw [List.getElem?_eq_getElem hi] at h
    cases h
    obtain ⟨v, h1, h2⟩ := r.get (List.getElem?_eq_getElem hi)
    exact .inl ⟨_, rfl, v, h1, h2⟩
  · rw [List.getElem?_append_right (by rw [List.length_map]; omega), List.getElem?_replicate] at h
    split at h
    · cases h; exact .inr rfl
    · cases h
end
end My
namespace My
open PySem PySem.Spec PyProof.Rows L2
variable [LT]
def pgA (K : PySem.W.Frag) (C : Addr) (f : Str) : Addr := match PySem.W.recIn K (He.ma K C f) "property" with
  | some (.ref g :: _) => g
  | _ => 0
def cmA (K : PySem.W.Frag) (C : Addr) (f : Str) : Addr := match PySem.W.recIn K (He.ma K C f) "classmethod" with
  | some (.ref g :: _) => g
  | _ => 0
inductive At where
  | glo (x : Str)
  | met (c m : Str)
  | pro (c m : Str)
  | cme (c m : Str)
def At.ad (K : PySem.W.Frag) : At → Addr
  | .glo x => He.ga K x
  | .met c m => He.ma K (He.ga K c) m
  | .pro c m => pgA K (He.ga K c) m
  | .cme c m => cmA K (He.ga K c) m
structure DefM where
  at_ : At
  name : Str
  qual : Str
  st : Stmt
def fnWA (K : PySem.W.Frag) (a : Addr) : He.FnW := match K.lookup a with
  | some ⟨_, _, .func fd, _⟩ => some (fd.name, fd.qualname, fd.params, fd.body, fd.scope, fd.globals, fd.closure, fd.builtins)
  | _ => none
def DefM.val (d : DefM) : He.FnW := some (d.name, d.qual, defArgs d.st, .stmts (defBody d.st), defScope d.st, mainGlobals, [], builtinsNs)
def DefM.ok (K : PySem.W.Frag) (d : DefM) : Bool := PySem.W.keepIn K (.ref (d.at_.ad K)) && (match K.lookup (d.at_.ad K) with
  | some ⟨_, _, .func fd, _⟩ => PySem.W.codeIn K fd.code d.qual && (He.dflB K fd.defaults [] && He.kwdB K fd.kwdefaults [])
  | _ => false)
inductive Fb where
  | a (f : He.Fa)
  | prop (x f : Str)
  | chk (b : PySem.W.Frag → Bool)
def propB (K : PySem.W.Frag) (C : Addr) (f : Str) : Bool := He.eqO (PySem.W.findIn K (.ref C) f) (some (some (.ref (He.ma K C f)))) &&
  (He.eqO (PySem.W.specialIn K (.ref (He.ma K C f)) "__get__") (some (some (.builtin "property.__get__"))) && (decide (PySem.W.takesIn K (.ref (He.ma K C f)) = some true) &&
  (match PySem.W.recIn K (He.ma K C f) "property" with
  | some (.ref _ :: _) => true
  | _ => false)))
def Fb.ok (K : PySem.W.Frag) : Fb → Bool
  | .a f => f.ok K
  | .prop x f => propB K (He.ga K x) f
  | .chk b => b K
def obsM (fb : List Fb) (fn : List DefM) (K : PySem.W.Frag) : He.AlD := ((fb.all fun f => f.ok K) && fn.all fun d => d.ok K, fn.map fun d => fnWA K (d.at_.ad K))
def valM (fn : List DefM) : He.AlD := (true, fn.map DefM.val)
def SaysM (fb : List Fb) (fn : List DefM) (K : PySem.W.Frag) : Prop := obsM fb fn K = valM fn
section
variable {fb : List Fb} {fn : List DefM} {K : PySem.W.Frag}
end
section
variable (P : Program) (w : World) (K : PySem.W.Frag) (mg : Str → Option Value) (base : Heap) (T : Tab) (D : Nat)
end
section
variable {X : Cx} {T : Tab} {D : Nat} {W : WX} {e o : Expr} {es : List Expr} {ds : DEs} {d : DE} {x : Str} {p pos apos : Pos} {f c : Nm} {ps : List Str} {kws : List Keyword} {ks : List Str} {q : List Nat} {y qual : Str} {st : Stmt}
end
section
variable {P : Program} {w : World} {K : PySem.W.Frag} {mg : Str → Option Value} {base : Heap} {T : Tab} {D : Nat} {d : DefM} {f c : Nm} {N ps : List Str} {n : Nat} {ds : DS} {fd : FuncData}
end
end My
namespace My
open PySem PySem.Spec PyProof.Rows L2
variable [LT]
def clsStmt (st : Stmt) (j : Nat) : Stmt := match st with
  | .ClassDef _ _ _ b _ _ _ _ _ _ _ => b.getD j (.Pass ⟨0, 0, 0, 0⟩)
  | _ => .Pass ⟨0, 0, 0, 0⟩
section
variable {X : Cx} {fe : FE} {W : WX} {a b c e : Expr} {da db dc d : DE} {pos p : Pos} {x : Str}
theorem kv (i : Nat) (hN : X.N[i]? = some x := by rfl) (hv : Vis X.env.scope x := by first | exact .inl rfl | exact .inr (.inl rfl) | exact .inr (.inr rfl)) (hd : (x == ("__debug__" : Str)) = false := by decide) (hcd : (x == ("__classdict__" : Str)) = false := by decide) : PE X (.Name x pos) (tE X.K fe W (varE i)) := sim_var hN hv hd hcd
end
end My
namespace My
section
variable {c : Nm} {d : DE} {a b ds : DS} {T : Tab} {n m : Nat}
end
end My
namespace My
open PySem PySem.Spec PyProof.Rows L2
variable [LT]
section
variable {P : Program} {w : World} {K : PySem.W.Frag} {mg : Str → Option Value} {base : Heap} {T : Tab} {D : Nat} {d : DefM} {f : Nm} {x : Str} {fd fd' : FuncData}
end
end My
namespace My
open PySem PySem.Spec PyProof.Rows L2
variable [LT]
def isSeq : PV → Bool
  | .lst _ => true
  | .tup _ => true
  | _ => false
def shw (x : PV) : Str := (toD x).shown
def isAt : PV → Bool
  | .non => true
  | .bl _ => true
  | .int _ => true
  | .str _ => true
  | _ => false
section
variable {X : Cx} {fe : FE} {W : WX} {a b : Expr} {da db : DE} {pos p : Pos}
def txtOf : PV → Option Str
  | .rep d => some (shw d)
  | .str s => some (sN s)
  | _ => none
def pyNeR (x y : PV) : Option PV := match txtOf x, txtOf y with
  | some s, some t => some (.bl (!decide (s = t)))
  | _, _ => none
end
end My
namespace My
open PySem PySem.Spec PyProof.Rows L2
variable [LT]
section
variable {X : Cx} {fe : FE} {W : WX} {a : Expr} {da : DE} {pos p q : Pos}
end
end My
namespace My
open PySem PySem.Spec PyProof.Rows L2
variable [LT]
section
variable {X : Cx} {N : EN} {fe : FE} {W : WX} {e : Expr} {d : DE} {pos : Pos} {i : Nat}
end
end My
namespace My
open PySem PySem.Spec PyProof.Rows L2
variable [LT]
section
variable {prog : Program} {w : World} {A : Around} {R : Result → Shared → Prop} {J : Addr} {fp wr : List Addr} {G : Array GenState → Array GenState → Prop} {n : Nat} {Pw : Nat → Value → Prop} {St : Nat → Shared → Prop}
end
section
variable {prog : Program} {w : World} {A : Around} {E : Value → Shared → Prop} {s : Shared}
end
section
variable {X : Cx} {fe : FE} {W : WX} {a : Expr} {da : DE} {pos p p2 q : Pos}
end
end My
namespace My
section
open PySem PySem.Spec PyProof.Rows L2
section
variable {t : Bool} {h h' : Heap} {a b l : Addr} {k : Nat} {xs : Array Value}
end
section
variable {E : Value → Shared → Prop} {s : Shared} {prog : Program} {w : World} {A : Around} {t u : Bool}
variable {z I O i j l m : Addr} {p q : Nat} {xs ys : Array Value} {x y a b : Value}
end
section
variable {E : Value → Shared → Prop} {s : Shared} {prog : Program} {w : World} {A : Around}
end
section
variable {E : Value → Shared → Prop} {s : Shared} {prog : Program} {w : World} {A : Around}
end
end
open PySem PySem.Spec PyProof.Rows L2
variable [LT]
section
variable {K : PySem.W.Frag} {F : Hp} {ι : List Addr}
end
section
variable {X : Cx} {fe : FE} {W : WX} {a b : Expr} {da db : DE} {pos p tpos : Pos} {elts : List Expr} {kk : Nat}
end
end My
namespace My
open PySem PySem.Spec PyProof.Rows L2
variable [LT]
section
variable {X : Cx}
end
section
variable {X : Cx} {N : EN} {fe : FE} {W : WX} {a b e : Expr} {da db d : DE} {pos p : Pos}
end
end My
namespace My
open PySem PySem.Spec PyProof.Rows L2
variable [LT]
section
variable {prog : Program} {w : World} {A : Around} {E : Value → Shared → Prop} {s : Shared} {K : PySem.W.Frag} {x y C f : Addr} {ox oy : Obj} {od od' : Option Obj}
end
section
variable {X : Cx} {T : Tab} {D : Nat} {W : WX} {a b : Expr} {da db : DE} {pos : Pos} {c : Nm} {fa : Addr} {fd : FuncData} {ps : List Str}
end
end My
namespace My
open PySem PySem.Spec PyProof.Rows L2
variable [LT]
section
variable {X : Cx} {fe : FE} {W : WX} {a b : Expr} {da db : DE} {pos : Pos}
end
end My
namespace My
open PySem PySem.Spec PyProof.Rows L2
variable [LT]
section
variable {K : PySem.W.Frag} {F : Hp} {ι : List Addr}
end
section
variable {X : Cx} {fe : FE} {W : WX} {a : Expr} {da : DE} {pos : Pos}
end
end My
namespace My
open PySem PySem.Spec PyProof.Rows L2
variable [LT]
section
variable {X : Cx} {N : EN} {fe : FE} {W : WX} {pos : Pos} {i : Nat}
end
section
variable {prog : Program} {w : World} {A : Around} {E : Value → Shared → Prop} {s : Shared}
end
section
variable {prog : Program} {w : World} {A : Around} {E : Value → Shared → Prop} {s : Shared}
end
section
variable {X : Cx} {fe : FE} {W : WX} {a b : Expr} {da db : DE} {pos p p2 q : Pos}
end
section
variable {prog : Program} {w : World} {A : Around} {E : Value → Shared → Prop} {s : Shared}
end
section
variable {X : Cx} {fe : FE} {W : WX} {a : Expr} {da : DE} {pos p p2 q : Pos}
end
end My
namespace My
open PySem PySem.Spec PyProof.Rows L2 PySem.W
variable [LT]
section
variable {prog : Program} {w : World} {A : Around} {E : Value → Shared → Prop} {s : Shared}
end
section
variable {X : Cx} {N : EN} {fe : FE} {W : WX} {pos p : Pos} {a : Expr} {da : DE}
end
end My
namespace My
open PySem PySem.Spec PyProof.Rows L2
variable [LT]
def refsM (o : Obj) : List Addr := match o.data with
  | .dict es _ => es.toList.flatMap fun e => He.refV e.val
  | .func fd => He.refV fd.code ++ (He.refV fd.defaults ++ He.refV fd.kwdefaults)
  | .cls cd => [cd.ns]
  | .fields vs => vs.toList.flatMap He.refV
  | .seq its _ => its.toList.flatMap He.refV
  | _ => []
def lvA (g : Addr → Option Obj) : Nat → List Addr → List Addr
  | 0, as => as
  | n + 1, as => as ++ lvA g n (as.flatMap fun a => match g a with
    | some o => refsM o
    | none => [])
def asM (g : Addr → Option Obj) (n : Nat) : List Addr := lvA g n [mainGlobals] ++ [cStatics]
end My
namespace My
open PySem PySem.Spec PyProof.Rows L2
variable [LT]
section
variable {X : Cx} {N : EN} {fe : FE} {W : WX} {pos : Pos} {dA : DEs}
theorem RM.step {K : PySem.W.Frag} {H0 F F1 H H1 : Hp} {ι ι1 : List Addr} (st : Step F ι H F1 ι1 H1) : ∀ {bs : List Bool} {ps : List PV} {vs : List V}, RM K H0 F ι H bs ps vs → RM K H0 F1 ι1 H1 bs ps vs
  | [], [], _, h => h
  | [], _ :: _, _, h => h.elim
  | _ :: _, [], _, h => h.elim
  | b :: bs, p :: ps, _, ⟨v, r, e, h1, h2, h3⟩ => ⟨v, r, e, (by
      cases b with
      | true => simp only [if_true] at h1 ⊢; exact rN.step st (fun _ h => h) h1
      | false => exact RV.mono st.sub st.pre h1), RM.step st h2, h3⟩
theorem RM.len {K : PySem.W.Frag} {H0 F H : Hp} {ι : List Addr} : ∀ {bs : List Bool} {ps : List PV} {vs : List V}, RM K H0 F ι H bs ps vs → vs.length = bs.length
  | [], [], _, h => by rw [show _ = [] from h]; rfl
  | [], _ :: _, _, h => h.elim
  | _ :: _, [], _, h => h.elim
  | b :: bs, p :: ps, _, ⟨v, r, e, _, h2, _⟩ => by subst e; rw [List.length_cons, List.length_cons, RM.len h2]
end
end My
namespace My
open PySem PySem.Spec PyProof.Rows L2
variable [LT]
section
variable {X : Cx} {pins : List (Addr × Obj)} {σ : L2.St} {H : Hp} {s : Shared} {a C : Addr} {f : Str} {y : V} {u : Value} {Q : Unit → Shared → Prop} {E : Value → Shared → Prop} {A : Around} {B newId initId : String} {bm : List Value}
end
section
variable {P : Program} {w : World} {K : PySem.W.Frag} {mg : Str → Option Value} {base : Heap} {fa C : Addr} {fd : FuncData} {x qual f g : Str} {params : Arguments} {scope : Scope} {p1 p2 p3 pos : Pos} {k : Nat} {B newId initId : String} {bm : List Value}
end
section
variable {X : Cx} {e : Expr} {ta : TA} {f x : Str} {p pos : Pos} {C fI : Addr} {k : Nat} {fd : FuncData} {ps : List Str} {B newId initId : String} {bm : List Value}
end
end My
namespace My
open PySem PySem.Spec PyProof.Rows L2
variable [LT]
section
variable {X : Cx} {N : EN} {fe : FE} {W : WX} {e : Expr} {d : DE} {x : Str} {p pos pos2 : Pos} {C fI : Addr} {fd : FuncData} {B newId initId : String} {bm : List Value} {c f : Nm} {g : Str}
end
structure HR1 where
  tb : Value → Option Bool
  nm : Option Nat
  ts : Addr → Value → Option Addr → TS
def Ends.un (i : Nat) (D : Ends) : Ends := { nx := fun σ H => D.nx (σ.set i none) H, rt := D.rt, bk := fun σ H => D.bk (σ.set i none) H, ct := fun σ H => D.ct (σ.set i none) H }
section
variable {X : Cx} {body : List Stmt} {h₀ : ExceptHandler} {hds : List ExceptHandler} {l : List HR1} {pos : Pos} {tb : WX → TS} {Wout : WX}
end
section
variable {X : Cx} {x x1 x2 x3 : Str} {c c1 c2 c3 : Value} {p p1 p2 p3 pos : Pos} {kk : Nat}
end
end My
namespace My
open PySem PySem.Spec PyProof.Rows L2
section
variable {K : PySem.W.Frag} {N : EN} {F : Hp} {ι : List Addr} {σ : L2.St} {ρ : Rho} {H : Hp} {S : IS} {W : WX} {D : Ends} {a : Addr} {cls : Value} {d : Option Addr}
theorem HR.conv {L M : LT} (e : L.T = M.T) (h : @HR L K F ι H S) : @HR M K F ι H S := by
  obtain ⟨h1, h2, h3, h4, h5, h6⟩ := h
  exact @HR.mk M K F ι H S h1 h2 h3 h4 h5 (e ▸ h6)
theorem noExcs_get {i : Nat} {s : Slot} (h : (noExcs ρ)[i]? = some s) : ∃ t, ρ[i]? = some t ∧ s = noExc t := by
  unfold noExcs at h
  rw [List.getElem?_map] at h
  cases e : ρ[i]? with
  | none => rw [e] at h; cases h
  | some t => rw [e] at h; exact ⟨t, rfl, (Option.some.inj h).symm⟩
theorem SlotR.hot {L M : LT} (ef : L.fn = M.fn) (h0 : L.hot = none) {x : Option V} {s : Slot} (h : @SlotR L K F ι H x s) : @SlotR M K F ι H x s := by
  cases s with
  | exc p => obtain ⟨_, _, _, z, _⟩ := h; rw [h0] at z; cases z
  | lam => obtain ⟨f, e1, e2⟩ := h; exact ⟨f, ef ▸ e1, e2⟩
  | _ => exact h
theorem SlotR.cool {L M : LT} (ef : L.fn = M.fn) {x : Option V} {s : Slot} (h : @SlotR L K F ι H x s) : @SlotR M K F ι H x (noExc s) := by
  cases s with
  | exc p => trivial
  | lam => obtain ⟨f, e1, e2⟩ := h; exact ⟨f, ef ▸ e1, e2⟩
  | _ => exact h
theorem SR.hot {L M : LT} (e : L.T = M.T) (ef : L.fn = M.fn) (h0 : L.hot = none) (h : @SR L K F ι σ ρ H S) : @SR M K F ι σ ρ H S := by
  obtain ⟨h1, h2, h3, h4⟩ := h
  exact @SR.mk M K F ι σ ρ H S (h1.conv e) h2 (fun i s e => by obtain ⟨x, hx, q⟩ := h3 i s e; exact ⟨x, hx, q.hot ef h0⟩) h4
theorem noExc_own {t : Slot} {o : IO} (h : Slot.own o = noExc t) : t = .own o := by
  cases t <;> cases h
  rfl
theorem SR.cool {L M : LT} (e : L.T = M.T) (ef : L.fn = M.fn) (h : @SR L K F ι σ ρ H S) : @SR M K F ι σ (noExcs ρ) H S := by
  obtain ⟨h1, h2, h3, h4⟩ := h
  refine @SR.mk M K F ι σ (noExcs ρ) H S (h1.conv e) (by rw [h2]; unfold noExcs; rw [List.length_map]) (fun i s e => ?_) (fun i j o u b hij h1 h2 h3 => ?_)
  · obtain ⟨t, e1, e2⟩ := noExcs_get e
    subst e2
    obtain ⟨x, hx, q⟩ := h3 i t e1
    exact ⟨x, hx, q.cool ef⟩
  · obtain ⟨t, e1, e2⟩ := noExcs_get h1
    obtain ⟨t', e1', e2'⟩ := noExcs_get h2
    rw [noExc_own e2] at e1
    rw [noExc_own e2'] at e1'
    exact h4 i j o u b hij e1 e1' h3
theorem SE.hot {L M : LT} (e : L.T = M.T) (ef : L.fn = M.fn) (h0 : L.hot = none) (h : @SE L K N F ι σ ρ H S) : @SE M K N F ι σ ρ H S := by
  obtain ⟨h1, h2, h3, h4⟩ := h
  exact @SE.mk M K N F ι σ ρ H S (h1.hot e ef h0) h2 h3 h4
theorem SE.cool {L M : LT} (e : L.T = M.T) (ef : L.fn = M.fn) (h : @SE L K N F ι σ ρ H S) : @SE M K N F ι σ (noExcs ρ) H S := by
  obtain ⟨h1, h2, h3, h4⟩ := h
  refine @SE.mk M K N F ι σ (noExcs ρ) H S (h1.cool e ef) h2 (fun i o b h1 h2 => ?_) h4
  obtain ⟨t, e1, e2⟩ := noExcs_get h1
  rw [noExc_own e2] at e1
  exact h3 i o b e1 h2
end
section
variable [LT] {K : PySem.W.Frag} {N : EN} {F : Hp} {ι : List Addr} {σ : L2.St} {ρ : Rho} {H : Hp} {S : IS}
theorem SR.off (h : SR K F ι σ ρ H S) (i : Nat) : SR K F ι (σ.set i none) (ρ.set i .no) H S where
  hr := h.hr
  len := by rw [List.length_set, List.length_set, h.len]
  at_ := fun j s e => by
    by_cases z : i = j
    · subst z
      have hi : i < ρ.length := by
        have := (List.getElem?_eq_some_iff.mp e).1
        rwa [List.length_set] at this
      rw [List.getElem?_set_self hi] at e
      cases e
      exact ⟨none, List.getElem?_set_self (by rw [h.len]; exact hi), trivial⟩
    · rw [List.getElem?_set_ne z] at e ⊢
      exact h.at_ j s e
  ap := fun j k o u b hjk h1 h2 h3 => by
    have cv : ∀ {j : Nat} {o : IO}, (ρ.set i .no)[j]? = some (.own o) → ρ[j]? = some (.own o) ∧ i ≠ j := fun {j o} e => by
      by_cases z : i = j
      · subst z
        by_cases hi : i < ρ.length
        · rw [List.getElem?_set_self hi] at e; cases e
        · rw [List.getElem?_eq_none (by rw [List.length_set]; omega)] at e; cases e
      · rw [List.getElem?_set_ne z] at e; exact ⟨e, z⟩
    obtain ⟨e1, n1⟩ := cv h1
    obtain ⟨e2, n2⟩ := cv h2
    rw [List.getElem?_set_ne n1] at h3
    rw [List.getElem?_set_ne n2]
    exact h.ap j k o u b hjk e1 e2 h3
theorem SE.off (hn : N.self = none) (h : SE K N F ι σ ρ H S) (i : Nat) : SE K N F ι (σ.set i none) (ρ.set i .no) H S := ⟨h.sr.off i, h.st, fun j o b h1 h2 => by
  by_cases z : i = j
  · subst z
    by_cases hi : i < ρ.length
    · rw [List.getElem?_set_self hi] at h1; cases h1
    · rw [List.getElem?_eq_none (by rw [List.length_set]; omega)] at h1; cases h1
  · rw [List.getElem?_set_ne z] at h1 h2
    exact h.ow j o b h1 h2, fun x e => by rw [hn] at e; cases e⟩
end
section
variable [L : LT] {K : PySem.W.Frag} {N : EN} {F : Hp} {ι : List Addr} {σ : L2.St} {ρ : Rho} {H : Hp} {S : IS}
theorem SE.exc {i : Nat} {x : PV} {a : Addr} {cls : Value} {d : Option Addr} (hh : LT.hot = some (a, cls, d)) (hn : N.self = none) (hi : i < ρ.length) (rx : RX K F ι H x cls d) (h : SE K N F ι σ ρ H S) : SE K N F ι (σ.set i (some (.ref a))) (ρ.set i (.exc x)) H S := by
  refine ⟨⟨h.sr.hr, by rw [List.length_set, List.length_set, h.sr.len], fun j s e => ?_, fun j k o u b hjk h1 h2 h3 => ?_⟩, h.st, fun j o b h1 h2 => ?_, fun y e => by rw [hn] at e; cases e⟩
  · by_cases z : i = j
    · subst z
      rw [List.getElem?_set_self hi] at e
      cases e
      exact ⟨_, List.getElem?_set_self (by rw [h.sr.len]; exact hi), a, cls, d, hh, rfl, rx⟩
    · rw [List.getElem?_set_ne z] at e ⊢
      exact h.sr.at_ j s e
  · have cv : ∀ {j : Nat} {o : IO}, (ρ.set i (.exc x))[j]? = some (.own o) → ρ[j]? = some (.own o) ∧ i ≠ j := fun {j o} e => by
      by_cases z : i = j
      · subst z; rw [List.getElem?_set_self hi] at e; cases e
      · rw [List.getElem?_set_ne z] at e; exact ⟨e, z⟩
    obtain ⟨e1, n1⟩ := cv h1
    obtain ⟨e2, n2⟩ := cv h2
    rw [List.getElem?_set_ne n1] at h3
    rw [List.getElem?_set_ne n2]
    exact h.sr.ap j k o u b hjk e1 e2 h3
  · by_cases z : i = j
    · subst z; rw [List.getElem?_set_self hi] at h1; cases h1
    · rw [List.getElem?_set_ne z] at h1 h2
      exact h.ow j o b h1 h2
end
section
variable [L0 : LT]
variable {X : Cx} {N : EN} {fe : FE} {W : WX} {body : List Stmt} {h₀ : ExceptHandler} {hds : List ExceptHandler} {l : List HR1} {pos : Pos} {ds : DS} {hs : List Hd}
def unσ : Option Nat → L2.St → L2.St
  | none, σ => σ
  | some i, σ => σ.set i none
def Ends.uno : Option Nat → Ends → Ends
  | none, D => D
  | some i, D => Ends.un i D
theorem cool_un {L M : LT} (e : L.T = M.T) (ef : L.fn = M.fn) {K : PySem.W.Frag} {i : Option Nat} (hn : N.self = none) {F' : Hp} {ι' : List Addr} {σ' : L2.St} {ρ' : Rho} {H' : Hp} {S' : IS} (se : @SE L K N F' ι' σ' ρ' H' S') : @SE M K N F' ι' (unσ i σ') (unE i ρ') H' S' := by
  cases i with
  | none => exact se.cool e ef
  | some i => exact @SE.off M K N F' ι' σ' (noExcs ρ') H' S' hn (se.cool e ef) i
theorem OutS.un {L M : LT} (e : M.T = L.T) (ef : M.fn = L.fn) {K : PySem.W.Frag} {F : Hp} {ι : List Addr} {D : Ends} {i : Option Nat} {r : RS} (hn : N.self = none) (o : @OutS L K N W D F ι (unS i r)) : @OutS M K N W0 (Ends.uno i D) F ι r := by
  cases r with
  | no => exact o
  | ex x ρ' S' => exact (show False from o).elim
  | fl f S' =>
    cases f with
    | nx ρ' =>
      intro F' ι' σ' H' s p se
      have := o F' ι' _ H' s p (cool_un e ef hn se)
      cases i <;> exact this
    | bk ρ' =>
      intro F' ι' σ' H' s p se
      have := o F' ι' _ H' s p (cool_un e ef hn se)
      cases i <;> exact this
    | ct ρ' =>
      intro F' ι' σ' H' s p se
      have := o F' ι' _ H' s p (cool_un e ef hn se)
      cases i <;> exact this
    | rt v =>
      intro F' ι' v' H' s p st hr rv
      have := o F' ι' v' H' s p st (hr.conv e) rv
      cases i <;> exact this
end
end My
namespace My
open PySem PySem.Spec PyProof.Rows L2
section
variable [LT]
end
section
variable [LT] {X : Cx} {fe : FE} {W : WX} {i : Nat} {e g : Str} {f : Nm} {cs : List Nm} {p q q2 pos : Pos}
section
variable (P : Program) (w : World) (K : PySem.W.Frag) (mg : Str → Option Value) (base : Heap)
structure RGH (k : Nat) (A : Around) : Prop where
  room : L2H.RoomH k A
  gd : A.guards = some []
end
end
end My
namespace My
open PySem PySem.Spec PyProof.Rows L2
theorem RGH.of {k : Nat} {A : Around} (r : RG k A) (h : Option Value) : RGH k (A.mark h) := ⟨⟨r.room.dp, r.room.un⟩, r.gd⟩
theorem RGH.mono {j k : Nat} {A : Around} (r : RGH k A) (h : j ≤ k) : RGH j A := ⟨r.room.mono h, r.gd⟩
section
variable {P : Program} {w : World} {K : PySem.W.Frag} {mg : Str → Option Value} {base : Heap} {k m n : Nat} {fa : Addr} {fd : FuncData} {x qual : Str} {params : Arguments} {body : List Stmt} {scope : Scope} {N ps : List Str} {ds : DS}
end
section
variable [L : LT] {X : Cx} {fe : FE} {W : WX} {i k m n : Nat} {e x : Str} {p q pos : Pos} {f : Addr} {fd : FuncData} {ps : List Str} {ds : DS} {es : List Expr} {dA : DEs}
end
end My
namespace My
open PySem PySem.Spec PyProof.Rows L2
section
variable {X : Cx} {pins : List (Addr × Obj)} {σ : L2.St} {H : Hp} {s : Shared}
end
section
variable [LT] {K : PySem.W.Frag} {F : Hp} {ι : List Addr} {H H1 : Hp} {S : IS} {P : Addr} {q : Str}
end
section
variable [LT] {X : Cx} {N : EN} {fe : FE} {W : WX} {r : IS → Res PV} {i j : Nat} {a y : Str} {p1 p2 pos pos' : Pos} {pn : List (Addr × Obj)} {xe : Value → Shared → Prop}
end
theorem OutE.conv {L M : LT} (e : L.T = M.T) {K : PySem.W.Frag} {W : WX} {Q : VK} {F : Hp} {ι : List Addr} {σ σ' : L2.St} {H : Hp} {r : Res PV} {W' : WX} (hW : ∀ cls d H', W' cls d σ H' → W cls d σ' H') (h : @OutE M K (rV K) W' Q F ι σ H r) : @OutE L K (rV K) W Q F ι σ' H r := by
  cases r with
  | no => exact h
  | ok v S' => exact fun F' ι' v' H' st hr q => h F' ι' v' H' st (hr.conv e) q
  | ex x S' => exact fun F' ι' cls d H' st hr rx => hW _ _ _ (h F' ι' cls d H' st (hr.conv e) rx)
end My
namespace My
open PySem PySem.Spec PyProof.Rows L2
section
variable [L0 : LT] {X : Cx} {pins : List (Addr × Obj)} {σ : L2.St} {H1 : Hp} {s' : Shared} {fe : FE} {db : DE} {F : Hp} {ι : List Addr} {S : IS} {ρ : Rho} {g f c' : Addr} {cdv pm ctv : Value} {params : Arguments} {body : Expr} {scope sg : Scope} {x : Str} {Ng : List Str} {E : XK} {k : Nat}
end
section
variable [L0 : LT] {X : Cx} {W : WX} {fe : FE} {db : DE} {x a : Str} {g c P : Addr} {k m : Nat} {fdg : FuncData} {pg : Arguments} {bg : List Stmt} {sg : Scope} {Ng : List Str} {bd : (IS → Res PV) → DS} {params : Arguments} {body : Expr} {scope : Scope} {p lpos pos : Pos}
end
end My
namespace My
open PySem PySem.Spec PyProof.Rows L2
section
variable [LT] {P : Program} {w : World} {K : PySem.W.Frag} {mg mb : Str → Option Value} {fa a : Addr} {cs : List (Addr × Addr)} {s : Shared} {vs : List Value} {ns : List Int}
abbrev tab0 : Obj := { cls := .none, data := .fields #[] }
end
def codeM (K : PySem.W.Frag) (d : DefM) : Addr := match codeV K (d.at_.ad K) with
  | some (.ref c) => c
  | _ => 0
def ctM (K : PySem.W.Frag) (d : DefM) : Addr × Addr := (codeM K d, He.tabOf K (codeM K d))
structure SaysT (fb : List Fb) (fn tf : List DefM) (h : Heap) (K : PySem.W.Frag) : Prop where
  m : SaysM fb fn K
  cd : ∀ d ∈ tf, codeV K (d.at_.ad K) = some (.ref (ctM K d).1)
  hd : ∀ d ∈ tf, PySem.W.codeHdIn K (ctM K d).1 (ctM K d).2 = true
  out : ∀ d ∈ tf, K.lookup (ctM K d).2 = none
  empty : ∀ d ∈ tf, h.get? (ctM K d).2 = some tab0
  nd : (tf.map fun d => (ctM K d).2).Nodup
def frL (g : Addr → Option Obj) (n : Nat) : PySem.W.Frag := (He.frG g (asM g n)).filter fun q => !He.emptyTab q.2
def nodupB : List Addr → Bool
  | [] => true
  | a :: r => !r.contains a && nodupB r
theorem nodupB_ok : ∀ {l : List Addr}, nodupB l = true → l.Nodup
  | [], _ => List.nodup_nil
  | a :: r, h => by
    obtain ⟨h1, h2⟩ := He.ba h
    exact List.nodup_cons.mpr ⟨by simpa using h1, nodupB_ok h2⟩
def tabsB (g : Addr → Option Obj) (tf : List DefM) (K : PySem.W.Frag) : Bool := nodupB (tf.map fun d => (ctM K d).2) && tf.all fun d => decide (codeV K (d.at_.ad K) = some (.ref (ctM K d).1)) && (PySem.W.codeHdIn K (ctM K d).1 (ctM K d).2 && (match g (ctM K d).2 with
  | some o => He.emptyTab o
  | none => false))
def obsT (n : Nat) (fb : List Fb) (fn tf : List DefM) (g : Addr → Option Obj) : He.AlD × Bool := (obsM fb fn (frL g n), tabsB g tf (frL g n))
theorem saysT_of {n : Nat} {fb : List Fb} {fn tf : List DefM} {h : Heap} (e : obsT n fb fn tf h.get? = (valM fn, true)) : SaysT fb fn tf h (frL h.get? n) := by
  obtain ⟨e1, e2⟩ := Prod.mk.inj e
  obtain ⟨d1, d2⟩ := He.ba e2
  have key : ∀ d ∈ tf, codeV (frL h.get? n) (d.at_.ad (frL h.get? n)) = some (.ref (ctM (frL h.get? n) d).1) ∧ PySem.W.codeHdIn (frL h.get? n) (ctM (frL h.get? n) d).1 (ctM (frL h.get? n) d).2 = true ∧ ∃ o, h.get? (ctM (frL h.get? n) d).2 = some o ∧ He.emptyTab o = true := fun d hd => by
    obtain ⟨h1, h2⟩ := He.ba (List.all_eq_true.mp d2 d hd)
    obtain ⟨h3, h4⟩ := He.ba h2
    refine ⟨of_decide_eq_true h1, h3, ?_⟩
    cases q : h.get? (ctM (frL h.get? n) d).2 with
    | none => rw [q] at h4; cases h4
    | some o => rw [q] at h4; exact ⟨o, rfl, h4⟩
  refine ⟨e1, fun d hd => (key d hd).1, fun d hd => (key d hd).2.1, fun d hd => ?_, fun d hd => ?_, nodupB_ok d1⟩
  · obtain ⟨_, _, o, q, z⟩ := key d hd
    exact He.frT_none q z
  · obtain ⟨_, _, o, q, z⟩ := key d hd
    rw [q, He.emptyTab_eq z]
def hookT (n : Nat) (fb : List Fb) (fn tf : List DefM) : PySem.W.Hook where
  α := He.AlD × Bool
  obs := fun s => obsT n fb fn tf s.heap.get?
  val := fun _ => (valM fn, true)
  says := fun _ h => ∃ K : PySem.W.Frag, K.In h ∧ SaysT fb fn tf h K
  of := fun _ _ e => ⟨_, He.frT_in, saysT_of e⟩
  keeps := fun _ _ _ ⟨K, hK, c⟩ k => ⟨K, PySem.W.Frag.In.keeps hK k, ⟨c.m, c.cd, c.hd, c.out, fun d hd => k _ _ (c.empty d hd), c.nd⟩⟩
end My
namespace My
open PySem PySem.Spec PyProof.Rows L2
abbrev veM : List Value := [.type "ValueError", .type "Exception", .type "BaseException", .type "object"]
abbrev leM : List Value := [.type "LookupError", .type "Exception", .type "BaseException", .type "object"]
abbrev aeM : List Value := [.type "ArithmeticError", .type "Exception", .type "BaseException", .type "object"]
def oxB (K : PySem.W.Frag) (x f : Str) (bm : List Value) (newId : String) : Bool :=
  PySem.W.excInitIn K (He.ga K x) bm newId && (PySem.W.excOver K (He.ga K x) bm && (He.eqO (PySem.W.findIn K (.ref (He.ga K x)) "__setattr__") (some (some (.builtin "object.__setattr__"))) && (He.eqO (PySem.W.findIn K (.ref (He.ga K x)) f) (some none) &&
  (PySem.W.hasDictIn K (He.ga K x) && (decide (PySem.W.subIn K (.ref (He.ga K x)) (.type "BaseException") = some true) && (decide (PySem.W.typeIn K (.ref (He.ga K x)) = some (.type "type")) && (PySem.W.keepIn K (.ref (He.ga K x)) &&
  (He.eqO (PySem.W.findIn K (.ref (He.ga K x)) "__init__") (some (some (.ref (He.ma K (He.ga K x) "__init__")))) && decide (PySem.W.typeIn K (.ref (He.ma K (He.ga K x) "__init__")) = some (.type "function"))))))))))
def xicB (K : PySem.W.Frag) (C : Addr) : Bool := (PySem.W.clsIn K C).isSome && (He.eqO (PySem.W.findIn K (.ref C) "__getattribute__") (some (some (.builtin "BaseException.__getattribute__"))) && (He.eqO (PySem.W.findIn K (.ref C) "__getattr__") (some none) && (decide (PySem.W.subIn K (.ref C) (.type "BaseException") = some true) &&
  (He.eqO (PySem.W.findIn K (.ref C) "__class__") (some (some (.builtin "object.__class__"))) && (He.eqO (PySem.W.specialIn K (.builtin "object.__class__") "__get__") (some (some (.builtin "getset_descriptor.__get__"))) && (decide (PySem.W.takesIn K (.builtin "object.__class__") = some true) && decide (PySem.W.mroIn K C (.type "object") = some true)))))))
def xiB (K : PySem.W.Frag) (cv : Value) (tb : List (Nm × Bool)) : Bool := tb.all fun p => xicB K (He.ga K (sN p.1)) && decide (PySem.W.kitOne K (.ref (He.ga K (sN p.1))) cv = some p.2)
def xfsB (K : PySem.W.Frag) (f : Str) (cs : List Nm) : Bool := cs.all fun c => L2.xfB K (He.ga K (sN c)) && He.eqO (PySem.W.findIn K (.ref (He.ga K (sN c))) f) (some none)
section
variable [LT] {X : Cx} {fe : FE} {W : WX} {e C : Str} {p q q2 pos : Pos} {tb : List (Nm × Bool)}
end
section
variable [LT] {X : Cx} {N : EN} {fe : FE} {W : WX} {e : Expr} {d : DE} {x : Str} {p pos pos2 : Pos} {c f : Nm} {D : Nat}
end
end My
namespace My
open PySem PySem.Spec PyProof.Rows L2
section
variable [LT] {X : Cx} {fe : FE} {W : WX} {k m n : Nat} {e x y qual : Str} {p q pos lpos : Pos} {ps : List Str} {ds : DS} {es : List Expr} {dA : DEs} {st : Stmt}
end
end My
namespace My
open PySem PySem.Spec PyProof.Rows L2
variable [LT]
section
variable {X : Cx} {fe : FE} {W : WX} {e a b : Expr} {d da db : DE} {pos : Pos}
section
variable {p apos cpos : Pos}
end
end
def isKy : PV → Bool
  | .int _ => true
  | .str _ => true
  | _ => false
def dctAt : PV → Bool
  | .dct kvs => kvs.all fun p => isKy p.1 && isAt p.2
  | _ => false
def toDx : PV → PyData
  | .dct kvs => .dict (kvs.map fun p => (toD p.1, toD p.2))
  | x => toD x
def shx (x : PV) : List Nat := (toDx x).shown.cps.toList
def reprOk (x : PV) : Bool := ((((isSeq x || isAt x) && shp 40 x) || dctAt x) && (toDx x).showable) && (decide ((shx x).length ≤ lim) && (shx x).all (· < 1114112))
def pyReprS (x : PV) : Option PV := if reprOk x = true then some (.str (shx x)) else none
section
variable {X : Cx} {fe : FE} {W : WX} {a b : Expr} {da db : DE} {pos p : Pos}
end
end My
namespace My
open PySem PySem.Spec PyProof.Rows L2
section
open PySem.SeqAt PySem.AutoSeq1 PySem.MeetsSeq
end
variable [LT]
section
variable {X : Cx}
end
end My
namespace My
open PySem PySem.Spec PyProof.Rows L2
section
variable {prog : Program} {w : World} {A : Around} {E : Value → Shared → Prop} {s : Shared}
end
variable [LT]
section
variable {X : Cx} {fe : FE} {W : WX} {e a : Expr} {d da : DE} {pos p : Pos}
end
end My
namespace My
open PySem PySem.Spec PyProof.Rows L2
variable [LT]
section
variable {X : Cx} {fe : FE} {W : WX} {e a : Expr} {d da : DE} {pos p : Pos}
end
section
variable {X : Cx} {T : Tab} {D : Nat} {W : WX} {a : Expr} {da : DE} {pos p : Pos} {c : Nm} {fd : FuncData} {ps : List Str}
end
end My
namespace My
open PySem PySem.Spec PyProof.Rows L2
section
end
section
variable {X : Cx}
end
variable [LT]
theorem RVs.rep {K : PySem.W.Frag} {F : Hp} {ι : List Addr} {ps : List PV} {vs : List V} (r : RVs K F ι ps vs) (n : Nat) : RVs K F ι (List.replicate n ps).flatten (List.replicate n vs).flatten := RVs.replicate r n
section
variable {X : Cx}
end
end My
namespace My
open PySem PySem.Spec PyProof.Rows L2
variable [LT]
section
variable {prog : Program} {w : World} {A : Around} {E : Value → Shared → Prop} {s : Shared} {K : PySem.W.Frag} {x y C f : Addr} {ox oy : Obj} {od od' : Option Obj}
end
section
variable {X : Cx} {T : Tab} {D : Nat} {W : WX} {a b : Expr} {da db : DE} {pos : Pos} {c : Nm} {fa : Addr} {fd : FuncData} {ps : List Str}
end
end My
namespace My
open PySem PySem.Spec PyProof.Rows L2
variable [LT]
section
variable {X : Cx} {fe : FE} {W : WX} {a : Expr} {da : DE} {pos p q : Pos} {x : Str}
end
end My
namespace My
open PySem PySem.Spec PyProof.Rows L2
variable [LT]
def keyTx (e : Int × Value) : Str := match e.2 with | .str k _ => k | _ => Str.empty
def GoodS (w : World) (e : Int × Value) : Prop := ∃ k tk, e.2 = Value.str k tk ∧ e.1 = hashStr w k
def SetS (w : World) (h : Heap) (a : Addr) (S : Str → Bool) : Prop :=
  ∃ o es ep t, h.get? a = some o ∧ o.ExactSet ∧ o.data = .set es ep t ∧ (∀ e ∈ es.toList, GoodS w e) ∧ (es.toList.map keyTx).Nodup ∧ (∀ k, S k = true ↔ k ∈ es.toList.map keyTx) ∧
    es.size < scanBound ∧ t.fits es.size = true ∧ Ris t.place.toList ∧ (w.params.followText "set-order" = true ∨ t.led = true)
section
variable {P : Program} {w : World} {h h' : Heap} {a : Addr} {S : Str → Bool} {n : Nat}
theorem SetS.at (R : SetS w h a S) (k : ∀ o, h.get? a = some o → h'.get? a = some o) : SetS w h' a S := by
  obtain ⟨o, es, ep, t, ho, r⟩ := R
  exact ⟨o, es, ep, t, k o ho, r⟩
end
section
variable {P : Program} {w : World} {A : Around} {E : Value → Shared → Prop} {s : Shared} {a : Addr} {S : Str → Bool} {n : Nat}
theorem SetS.size (R : SetS w s.heap a S) {L : List Str} (hL : ∀ k, S k = true → k ∈ L) : ∃ o es ep t, s.heap.get? a = some o ∧ o.data = .set es ep t ∧ es.size ≤ L.length := by
  obtain ⟨o, es, ep, t, ho, hex, hd, g, nd, hm, hb, hf, hr, hl⟩ := R
  refine ⟨o, es, ep, t, ho, hd, ?_⟩
  have := List.Nodup.length_le_of_subset nd (fun k hk => hL k ((hm k).2 hk))
  rw [List.length_map, Array.length_toList] at this
  exact this
end
end My
namespace My
open PySem PySem.Spec PyProof.Rows L2
variable [LT]
section
variable {prog : Program} {w : World} {A : Around} {R : Result → Shared → Prop} {J : Addr} {fp wr : List Addr} {G : Array GenState → Array GenState → Prop} {n : Nat} {Pw : Nat → Value → Prop} {St : Nat → Shared → Prop}
end
section
variable {prog : Program} {w : World} {A : Around} {E : Value → Shared → Prop} {s : Shared}
end
end My
namespace My
open PySem PySem.Spec PyProof.Rows L2
variable [LT]
section
variable {P : Program} {w : World} {A : Around} {E : Value → Shared → Prop} {s : Shared} {a : Addr}
end
section
variable {X : Cx} {fe : FE} {W : WX} {a : Expr} {da : DE} {pos p p2 q : Pos}
end
end My
namespace My
open PySem PySem.Spec PyProof.Rows L2
variable [LT]
section
variable {X : Cx} {T : Tab} {D : Nat} {W : WX} {e : Expr} {es : List Expr} {ds : DEs} {p pos apos : Pos} {f c : Nm} {ps : List Str} {y qual : Str} {st : Stmt}
end
end My
namespace My
open PySem PySem.Spec PyProof.Rows L2
variable [LT]
section
variable {X : Cx} {T : Tab} {D : Nat} {W : WX} {ds : DEs} {p pos apos : Pos} {f c : Nm} {ps : List Str} {y qual : Str} {st : Stmt} {kws : List Keyword} {ks : List Str} {q : List Nat}
end
section
variable {X : Cx} {fe : FE} {W : WX} {e : Expr} {d : DE} {pos : Pos}
end
end My
namespace My
open PySem PySem.Spec PyProof.Rows L2
variable [LT]
section
variable {X : Cx} {fe : FE} {W : WX} {e : Expr} {d : DE} {pos : Pos}
end
end My
namespace My
open PySem PySem.Spec PyProof.Rows L2
variable [LT]
section
variable {P : Program} {w : World} {A : Around} {E : Value → Shared → Prop} {s : Shared} {a : Addr}
end
section
variable {X : Cx} {fe : FE} {W : WX} {a : Expr} {da : DE} {pos p p2 q : Pos}
end
end My
namespace My
open PySem PySem.Spec PyProof.Rows L2
variable [LT]
section
variable {prog : Program} {w : World} {A : Around} {E : Value → Shared → Prop} {s : Shared}
end
section
variable {X : Cx} {fe : FE} {W : WX} {a : Expr} {da : DE} {pos p p2 q : Pos}
end
end My
namespace My
open PySem PySem.Spec PyProof.Rows L2
variable [LT]
section
variable {X : Cx} {fe : FE} {W : WX} {elt tg iter tg1 iter1 : Expr} {ifs ifs1 : List Expr} {scope : Scope} {own : List (Str × Nat)} {i0 : Nat} {vs1 : List Nat} {pos : Pos} {it it1 : DI} {t1 : DT} {dc dc1 de : DE}
end
end My
namespace My
open PySem PySem.Spec PyProof.Rows L2
variable [LT]
section
variable {X : Cx}
end
section
variable {prog : Program} {w : World} {A : Around} {E : Value → Shared → Prop} {s : Shared}
end
section
variable {X : Cx} {fe : FE} {W : WX} {a : Expr} {da : DE} {pos p p2 q : Pos}
end
end My
namespace My
open PySem PySem.Spec PyProof.Rows L2
section
open PySem.SeqAt PySem.AutoSeq1 PySem.MeetsSeq
end
section
variable {prog : Program} {w : World} {A : Around} {E : Value → Shared → Prop} {s : Shared} {x l : Addr} {Q : Option Value → Shared → Prop}
end
section
variable {prog : Program} {w : World} {A : Around} {E : Value → Shared → Prop} {s : Shared} {K : PySem.W.Frag} {x C f : Addr} {ox : Obj} {od : Option Obj} {v : Value} {T : String}
end
variable [LT]
section
variable {X : Cx} {pins : List (Addr × Obj)} {s : Shared} {σ : L2.St} {H : Hp} {y : V} {u : Value} {T : String}
end
section
variable {X : Cx} {T : Tab} {D : Nat} {W : WX} {a b : Expr} {da db : DE} {pos : Pos} {c : Nm} {fa : Addr} {fd : FuncData} {ps : List Str}
end
end My
namespace My
open PySem PySem.Spec PyProof.Rows L2
section
variable {prog : Program} {w : World} {A : Around} {E : Value → Shared → Prop} {s : Shared} {K : PySem.W.Frag} {x C f : Addr} {ox : Obj} {od : Option Obj}
end
variable [LT]
section
variable {X : Cx} {T : Tab} {D : Nat} {W : WX} {a : Expr} {da : DE} {pos p : Pos} {c : Nm} {fd : FuncData} {ps : List Str}
end
end My
namespace My
open PySem PySem.Spec PyProof.Rows L2
variable [LT]
section
variable {K : PySem.W.Frag} {F : Hp} {ι : List Addr}
end
section
variable {X : Cx} {N : EN} {T : Tab} {D : Nat} {fe : FE} {W : WX} {e o : Expr} {dO d : DE} {pos p : Pos} {c g : Nm} {es : List Expr} {ds : DEs} {fa : Addr} {fd : FuncData} {ps : List Str} {x : Str}
end
end My
namespace My
open PySem PySem.Spec PyProof.Rows L2
variable [LT]
section
variable {X : Cx} {N : EN} {T : Tab} {D : Nat} {fe : FE} {W : WX} {e o : Expr} {dO d : DE} {pos p : Pos} {c g : Nm} {x : Str}
end
end My
namespace My
open PySem PySem.Spec PyProof.Rows L2
variable [LT]
section
variable {X : Cx} {N : EN} {fe : FE} {W : WX} {e k : Expr} {dk d : DE} {pos : Pos} {i : Nat} {x : Str}
end
section
variable {X : Cx} {N : EN} {T : Tab} {D : Nat} {fe : FE} {W : WX} {e : Expr} {es : List Expr} {ds : DEs} {pos p : Pos} {c : Nm} {ps : List Str} {y qual : Str} {st : Stmt}
end
section
variable {X : Cx} {N : EN} {fe : FE} {W : WX} {e : Expr} {d : DE} {pos : Pos}
end
end My
namespace My
section
variable {c : Nm} {d o e : DE} {a b : DS} {i : Nat} {it : DI}
end
end My
namespace My
open PySem PySem.Spec PyProof.Rows L2
variable [LT]
section
variable {X : Cx} {fe : FE} {W : WX} {a b : Expr} {da db : DE} {apos cpos : Pos}
end
end My
namespace My
open PySem PySem.Spec PyProof.Rows L2
variable [LT]
section
variable {X : Cx} {fe : FE} {W : WX} {a : Expr} {da : DE} {pos : Pos}
end
end My
namespace My
open PySem PySem.Spec PyProof.Rows L2
variable [LT]
section
variable {X : Cx} {N : EN} {fe : FE} {W : WX} {C : Addr} {bmB : List Value} {B newId initId : String} {x : Str} {p pos pos2 : Pos} {c : Nm}
end
end My
namespace My
open PySem PySem.Spec PyProof.Rows L2
section
open Sem (wp)
variable {prog : Program} {w : World} {A : Around} {E : Value → Shared → Prop} {s : Shared}
end
variable [LT]
section
variable {K : PySem.W.Frag} {F : Hp} {ι : List Addr}
end
section
variable {X : Cx} {fe : FE} {W : WX} {a : Expr} {da : DE} {pos p tpos : Pos} {elts : List Expr} {kk : Nat}
end
section
variable {X : Cx} {T : Tab} {D : Nat} {W : WX} {o : Expr} {d : DE} {x m : Str} {pos apos : Pos} {f c : Nm} {fa : Addr} {fd : FuncData} {ps : List Str}
end
end My
namespace My
open PySem PySem.Spec PyProof.Rows L2
end My
namespace My
open PySem PySem.Spec PyProof.Rows L2
section
variable {prog : Program} {w : World} {A : Around} {E : Value → Shared → Prop} {s : Shared} {K : PySem.W.Frag} {x C : Addr} {ox : Obj} {od : Option Obj} {v t : Value}
end
end My
namespace My
open PySem PySem.Spec PyProof.Rows L2
section
open PySem.SeqAt PySem.AutoSeq1 PySem.MeetsSeq
end
section
variable {prog : Program} {w : World} {A : Around} {E : Value → Shared → Prop} {s : Shared} {K : PySem.W.Frag} {x C f : Addr} {ox : Obj} {od : Option Obj} {v : Value}
end
variable [LT]
section
variable {X : Cx} {T : Tab} {D : Nat} {fe : FE} {W : WX} {a b : Expr} {da db : DE} {pos p : Pos} {c cw : Nm} {fa : Addr} {fd : FuncData} {ps : List Str}
end
end My
namespace My
open PySem PySem.Spec PyProof.Rows L2
variable [LT]
section
variable {X : Cx} {T : Tab} {D : Nat} {fe : FE} {W : WX} {a b : Expr} {da db : DE} {pos p q : Pos} {c cw : Nm} {fa : Addr} {fd : FuncData} {ps : List Str}
end
section
variable {X : Cx} {T : Tab} {D : Nat} {W : WX} {kws : List Keyword} {ks : List Str} {q : List Nat} {ds : DEs} {pos p : Pos} {c : Nm} {x : Str} {fa : Addr} {fd : FuncData} {ps : List Str}
end
end My
namespace My
open PySem PySem.Spec PyProof.Rows L2
variable [LT]
section
variable {X : Cx} {fe : FE} {W : WX} {a : Expr} {da : DE} {pos p : Pos}
end
end My
namespace My
open PySem PySem.Spec PyProof.Rows L2
section
variable [LT]
end
section
variable [LT]
variable {X : Cx} {fe : FE} {W : WX} {a : Expr} {da : DE} {x : Str} {pos p : Pos} {tbl : List (List Nat × Int)}
end
def dicsU (ts : List He.Tab) (K : PySem.W.Frag) : List (Option (List (Option (Str × Int)))) := ts.map fun t => He.dicW K (t.1 K)
def valsU (ts : List He.Tab) (w : World) : List (Option (List (Option (Str × Int)))) := ts.map fun t => some (He.keysIn w.params t.2)
structure SaysU (fb : List Fb) (fn tf : List DefM) (ts : List He.Tab) (w : World) (h : Heap) (K : PySem.W.Frag) : Prop where
  t : SaysT fb fn tf h K
  d : dicsU ts K = valsU ts w
theorem SaysU.dict {fb : List Fb} {fn tf : List DefM} {ts : List He.Tab} {w : World} {h : Heap} {K : PySem.W.Frag} (c : SaysU fb fn tf ts w h K) (i : Nat) {t : He.Tab} (hi : ts[i]? = some t := by rfl) : ∃ es n, KDict K w (t.1 K) es n := by
  have e2 : (dicsU ts K)[i]? = (valsU ts w)[i]? := by rw [c.d]
  unfold dicsU valsU at e2
  rw [List.getElem?_map, List.getElem?_map, hi] at e2
  exact He.dicW_ok (Option.some.inj e2)
end My
namespace My
open PySem PySem.Spec PyProof.Rows L2
variable [LT]
section
variable {X : Cx} {fe : FE} {W : WX} {o : Expr} {da : DE} {pos apos : Pos}
end
end My
namespace My
open PySem PySem.Spec PyProof.Rows L2
variable [LT]
section
variable {X : Cx} {fe : FE} {W : WX} {a b : Expr} {da db : DE} {pos : Pos}
end
mutual
def nr (n : Nat) : PV → Bool
  | .obj m => decide (m ≠ n)
  | .tup xs => nrs n xs
  | .lst xs => nrs n xs
  | .dct kvs => nrd n kvs
  | .ins _ fs => nrf n fs
  | .exn _ fs => nrf n fs
  | _ => true
def nrs (n : Nat) : List PV → Bool
  | [] => true
  | x :: xs => nr n x && nrs n xs
def nrd (n : Nat) : List (PV × PV) → Bool
  | [] => true
  | (_, x) :: xs => nr n x && nrd n xs
def nrf (n : Nat) : List (Nm × PV) → Bool
  | [] => true
  | (_, x) :: xs => nr n x && nrf n xs
end
def nrI (n : Nat) : IO → Bool
  | .lst xs => nrs n xs
  | .dct kvs => nrd n kvs
  | .ins _ fs => nrf n fs
section
variable {K : PySem.W.Frag} {F : Hp} {ι : List Addr} {n : Nat}
theorem take_at {ι : List Addr} {n m : Nat} (h : m < n) : (ι.take n)[m]? = ι[m]? := List.getElem?_take_of_lt h
mutual
theorem RV.drop (hl : ι.length ≤ n + 1) : ∀ {x : PV} {v : V}, nr n x = true → RV K F ι x v → RV K F (ι.take n) x v
  | .non, _, _, r => r
  | .bl _, _, _, r => r
  | .int _, _, _, r => r
  | .str _, _, _, r => r
  | .ty _, _, _, r => r
  | .tup _, _, h, ⟨a, xs, e, q, l, r⟩ => ⟨a, xs, e, q, l, RVs.drop' hl (by simpa [nr] using h) r⟩
  | .lst _, _, h, ⟨a, xs, e, q, l, r⟩ => ⟨a, xs, e, q, l, RVs.drop' hl (by simpa [nr] using h) r⟩
  | .dct _, _, h, ⟨a, o, ks, e, q, l, r⟩ => ⟨a, o, ks, e, q, l, RVd.drop' hl (by simpa [nr] using h) r⟩
  | .ins _ _, _, h, ⟨a, dx, gs, e, q, r⟩ => ⟨a, dx, gs, e, q, RVf.drop' hl (by simpa [nr] using h) r⟩
  | .obj m, _, h, ⟨a, e, q⟩ => ⟨a, e, by
      have h1 : m ≠ n := by simpa [nr] using h
      have h2 : m < ι.length := (List.getElem?_eq_some_iff.mp q).1
      rw [take_at (by omega)]; exact q⟩
  | .cls _, _, _, r => r
  | .scr _, _, _, r => r
  | .rep _, _, _, r => r
  | .exn _ _, _, h, ⟨a, d, gs, e, q, r, t⟩ => ⟨a, d, gs, e, q, RVf.drop' hl (by simpa [nr] using h) r, t⟩
theorem RVs.drop' (hl : ι.length ≤ n + 1) : ∀ {x : List PV} {v : List V}, nrs n x = true → RVs K F ι x v → RVs K F (ι.take n) x v
  | [], _, _, r => r
  | x :: xs, _, h, ⟨v, r, e, q, t⟩ => by
    simp only [nrs, Bool.and_eq_true] at h
    exact ⟨v, r, e, RV.drop hl h.1 q, RVs.drop' hl h.2 t⟩
theorem RVd.drop' (hl : ι.length ≤ n + 1) : ∀ {x : List (PV × PV)} {v : List (Key × V)}, nrd n x = true → RVd K F ι x v → RVd K F (ι.take n) x v
  | [], _, _, r => r
  | (k, x) :: xs, _, h, ⟨kk, v, r, e, z, q, t⟩ => by
    simp only [nrd, Bool.and_eq_true] at h
    exact ⟨kk, v, r, e, z, RV.drop hl h.1 q, RVd.drop' hl h.2 t⟩
theorem RVf.drop' (hl : ι.length ≤ n + 1) : ∀ {x : List (Nm × PV)} {v : List (Str × V)}, nrf n x = true → RVf K F ι x v → RVf K F (ι.take n) x v
  | [], _, _, r => r
  | (k, x) :: xs, _, h, ⟨v, r, e, q, t⟩ => by
    simp only [nrf, Bool.and_eq_true] at h
    exact ⟨v, r, e, RV.drop hl h.1 q, RVf.drop' hl h.2 t⟩
end
mutual
theorem RV.nr (hl : ι.length ≤ n) : ∀ {x : PV} {v : V}, RV K F ι x v → nr n x = true
  | .non, _, r => rfl
  | .bl _, _, r => rfl
  | .int _, _, r => rfl
  | .str _, _, r => rfl
  | .ty _, _, r => rfl
  | .tup _, _, ⟨a, xs, e, q, l, r⟩ => by simpa [My.nr] using RVs.nr hl r
  | .lst _, _, ⟨a, xs, e, q, l, r⟩ => by simpa [My.nr] using RVs.nr hl r
  | .dct _, _, ⟨a, o, ks, e, q, l, r⟩ => by simpa [My.nr] using RVd.nr hl r
  | .ins _ _, _, ⟨a, dx, gs, e, q, r⟩ => by simpa [My.nr] using RVf.nr hl r
  | .obj m, _, ⟨a, e, q⟩ => by
      have h2 : m < ι.length := (List.getElem?_eq_some_iff.mp q).1
      simp only [My.nr, decide_eq_true_eq]
      omega
  | .cls _, _, r => rfl
  | .scr _, _, _ => rfl
  | .rep _, _, r => rfl
  | .exn _ _, _, ⟨a, d, gs, e, q, r, t⟩ => by simpa [My.nr] using RVf.nr hl r
theorem RVs.nr (hl : ι.length ≤ n) : ∀ {x : List PV} {v : List V}, RVs K F ι x v → nrs n x = true
  | [], _, r => rfl
  | _ :: _, _, ⟨v, r, e, q, t⟩ => by simp only [nrs, Bool.and_eq_true]; exact ⟨RV.nr hl q, RVs.nr hl t⟩
theorem RVd.nr (hl : ι.length ≤ n) : ∀ {x : List (PV × PV)} {v : List (Key × V)}, RVd K F ι x v → nrd n x = true
  | [], _, r => rfl
  | (_, _) :: _, _, ⟨kk, v, r, e, z, q, t⟩ => by simp only [nrd, Bool.and_eq_true]; exact ⟨RV.nr hl q, RVd.nr hl t⟩
theorem RVf.nr (hl : ι.length ≤ n) : ∀ {x : List (Nm × PV)} {v : List (Str × V)}, RVf K F ι x v → nrf n x = true
  | [], _, r => rfl
  | (_, _) :: _, _, ⟨v, r, e, q, t⟩ => by simp only [nrf, Bool.and_eq_true]; exact ⟨RV.nr hl q, RVf.nr hl t⟩
end
theorem IOR.drop {H : Hp} {a : Addr} {o : IO} (hl : ι.length ≤ n + 1) (h : nrI n o = true) (r : IOR K F ι H a o) : IOR K F (ι.take n) H a o := by
  cases o with
  | lst ps => obtain ⟨xs, e, l, q⟩ := r; exact ⟨xs, e, l, q.drop' hl h⟩
  | dct ps => obtain ⟨xs, e, l, q⟩ := r; exact ⟨xs, e, l, q.drop' hl h⟩
  | ins c fs => obtain ⟨dx, gs, e, q⟩ := r; exact ⟨dx, gs, e, q.drop' hl h⟩
theorem IOR.nr {H : Hp} {a : Addr} {o : IO} (hl : ι.length ≤ n) (r : IOR K F ι H a o) : nrI n o = true := by
  cases o with
  | lst ps => obtain ⟨xs, e, l, q⟩ := r; exact q.nr hl
  | dct ps => obtain ⟨xs, e, l, q⟩ := r; exact q.nr hl
  | ins c fs => obtain ⟨dx, gs, e, q⟩ := r; exact q.nr hl
theorem RX.drop {H : Hp} {p : PV} {cls : Value} {d : Option Addr} (hl : ι.length ≤ n + 1) (h : nr n p = true) (r : RX K F ι H p cls d) : RX K F (ι.take n) H p cls d := by
  cases p <;> first | exact (show False from r).elim | skip
  obtain ⟨e, ⟨e1, e2⟩ | ⟨dx, gs, e2, h1, f, m, q⟩⟩ := r
  · exact ⟨e, .inl ⟨e1, e2⟩⟩
  · exact ⟨e, .inr ⟨dx, gs, e2, h1, f, fun z => m (List.mem_of_mem_take z), q.drop' hl (by simpa [My.nr] using h)⟩⟩
theorem RX.nr {H : Hp} {p : PV} {cls : Value} {d : Option Addr} (hl : ι.length ≤ n) (r : RX K F ι H p cls d) : nr n p = true := by
  cases p <;> first | exact (show False from r).elim | skip
  obtain ⟨e, ⟨e1, e2⟩ | ⟨dx, gs, e2, h1, f, m, q⟩⟩ := r
  · rw [e2]; rfl
  · simpa [My.nr] using q.nr hl
def nrS (n : Nat) : Slot → Bool
  | .val p => nr n p
  | .own o => nrI n o
  | .exc p => nr n p
  | _ => true
theorem SlotR.nr {H : Hp} {x : Option V} {s : Slot} (hl : ι.length ≤ n) (r : SlotR K F ι H x s) : nrS n s = true := by
  cases s with
  | no => rfl
  | val p => obtain ⟨v, e, q⟩ := r; exact q.nr hl
  | own o => obtain ⟨a, e, f, m, q⟩ := r; exact q.nr hl
  | exc p => obtain ⟨a, cls, d, h, e, q⟩ := r; exact q.nr hl
  | lam => rfl
theorem SlotR.drop {H : Hp} {x : Option V} {s : Slot} (hl : ι.length ≤ n + 1) (h : nrS n s = true) (r : SlotR K F ι H x s) : SlotR K F (ι.take n) H x s := by
  cases s with
  | no => trivial
  | val p => obtain ⟨v, e, q⟩ := r; exact ⟨v, e, q.drop hl h⟩
  | own o => obtain ⟨a, e, f, m, q⟩ := r; exact ⟨a, e, f, fun z => m (List.mem_of_mem_take z), q.drop hl h⟩
  | exc p => obtain ⟨a, cls, d, hh, e, q⟩ := r; exact ⟨a, cls, d, hh, e, q.drop hl h⟩
  | lam => exact r
end
section
variable {X : Cx} {N : EN} {fe : FE} {W : WX} {sts : List Stmt} {ds : DS}
end
section
variable {X : Cx} {N : EN} {fe : FE} {W : WX} {e tg : Expr} {d : DE} {pos : Pos}
end
end My
namespace My
open PySem PySem.HandSPX PySem.W Calls
section
variable {M : Model} {A : Around} {E : Value → Shared → Prop} {hp : Heap} {gs : Array GenState} {dr : Drawn} {tk : Nat} {os : OsState}
variable {nm qn : Str} {C N : Addr} {bs bm bmB : List Value} {hdct : Bool} {sn : List Str} {sub : List Value} {ab : Bool} {col : Option Bool} {dd : Option Addr} {k0 k1 k2 k3 k5 : Option Value} {B newId initId : String}
end
section
variable {P : Program} {w : World} {A : Around} {E : Value → Shared → Prop} {R : Result → Shared → Prop} {hp : Heap} {gs : Array GenState} {dr : Drawn} {tk : Nat} {os : OsState}
variable {nm qn : Str} {C N : Addr} {bs bm bmB : List Value} {hdct : Bool} {sn : List Str} {sub : List Value} {ab : Bool} {col : Option Bool} {dd : Option Addr} {k0 k1 k2 k3 k5 : Option Value} {B newId initId : String}
end
end My
namespace My
open PySem PySem.Spec PyProof.Rows L2
section
variable [LT] {X : Cx} {pins : List (Addr × Obj)} {σ : L2.St} {H : Hp} {s : Shared} {C fI : Addr} {f : Str} {k : Nat} {fd : FuncData} {ps : List Str} {B newId initId : String} {bm : List Value} {us : List Value} {kw : List (Str × Value)} {u0 : Value} {y : V} {Q : VK}
end
variable [LT]
def makeXE (c f : Nm) (d : DE) : DE := fun fe ρ S => (d fe ρ S).bind fun x S1 => .ok (.exn c [(f, x)]) S1
def makeX0E (c : Nm) : DE := fun _ _ S => .ok (.exn c []) S
section
variable {X : Cx} {fe : FE} {W : WX} {e : Expr} {d : DE} {x g : Str} {p pos kp : Pos} {c f : Nm} {D : Nat}
end
def ixE (tb : List (Nm × Bool)) (d : DE) : DE := fun fe ρ S => (d fe ρ S).bind fun v S1 => match v with
  | .exn c _ => Res.of ((tb.lookup c).map .bl) S1
  | _ => .no
def xvE (f : Nm) (cs : List Nm) (d : DE) : DE := fun fe ρ S => (d fe ρ S).bind fun v S1 => match v with
  | .exn c fs => if c ∈ cs then Res.of (fLook f fs) S1 else .no
  | _ => .no
section
variable {X : Cx} {fe : FE} {W : WX} {e : Expr} {d : DE} {g C : Str} {f : Nm} {cs : List Nm} {tb : List (Nm × Bool)} {p q q2 pos : Pos}
end
end My
namespace My
open PySem PySem.Spec PyProof.Rows L2
end My
namespace My
open PySem PySem.Spec PyProof.Rows L2
def top (i : Nat) : Stmt := PySem.Challenge.pw_twobytwos_k01_limits_and_errors.main.body.getD i (.Pass ⟨0, 0, 0, 0⟩)
abbrev xt_ArithmeticError : List (Nm × Bool) := [([87, 114, 111, 110, 103, 86, 97, 108, 117, 101], false), ([73, 110, 118, 97, 108, 105, 100, 84, 101, 120, 116], false), ([73, 110, 118, 97, 108, 105, 100, 81, 117, 101, 115, 116, 105, 111, 110, 115], false), ([73, 110, 118, 97, 108, 105, 100, 80, 97, 105, 114], false), ([73, 110, 118, 97, 108, 105, 100, 83, 104, 97, 114, 101], false), ([73, 110, 118, 97, 108, 105, 100, 83, 112, 108, 105, 116], false), ([73, 110, 118, 97, 108, 105, 100, 82, 105, 110, 103], false), ([73, 110, 118, 97, 108, 105, 100, 76, 111, 116], false), ([73, 110, 118, 97, 108, 105, 100, 66, 101, 116], false), ([73, 110, 118, 97, 108, 105, 100, 78, 117, 109, 98, 101, 114], false), ([73, 110, 118, 97, 108, 105, 100, 87, 105, 115, 104], false), ([73, 110, 118, 97, 108, 105, 100, 67, 111, 109, 109, 97, 110, 100], false), ([78, 111, 116, 65, 87, 101, 98], false), ([73, 110, 118, 97, 108, 105, 100, 83, 104, 97, 114, 101, 115], false), ([73, 110, 118, 97, 108, 105, 100, 67, 114, 111, 119, 100], false), ([87, 114, 111, 110, 103, 78, 97, 109, 101], false), ([85, 110, 107, 110, 111, 119, 110, 81, 117, 101, 115, 116, 105, 111, 110], false), ([85, 110, 107, 110, 111, 119, 110, 84, 105, 101], false), ([78, 111, 116, 80, 111, 115, 115, 105, 98, 108, 101], true), ([78, 111, 116, 104, 105, 110, 103, 84, 111, 85, 110, 100, 111], true), ([84, 111, 111, 77, 97, 110, 121], true), ([78, 111, 67, 114, 111, 119, 100], true), ([66, 114, 111, 107, 101, 110], true)]
abbrev xt_Broken : List (Nm × Bool) := [([87, 114, 111, 110, 103, 86, 97, 108, 117, 101], false), ([73, 110, 118, 97, 108, 105, 100, 84, 101, 120, 116], false), ([73, 110, 118, 97, 108, 105, 100, 81, 117, 101, 115, 116, 105, 111, 110, 115], false), ([73, 110, 118, 97, 108, 105, 100, 80, 97, 105, 114], false), ([73, 110, 118, 97, 108, 105, 100, 83, 104, 97, 114, 101], false), ([73, 110, 118, 97, 108, 105, 100, 83, 112, 108, 105, 116], false), ([73, 110, 118, 97, 108, 105, 100, 82, 105, 110, 103], false), ([73, 110, 118, 97, 108, 105, 100, 76, 111, 116], false), ([73, 110, 118, 97, 108, 105, 100, 66, 101, 116], false), ([73, 110, 118, 97, 108, 105, 100, 78, 117, 109, 98, 101, 114], false), ([73, 110, 118, 97, 108, 105, 100, 87, 105, 115, 104], false), ([73, 110, 118, 97, 108, 105, 100, 67, 111, 109, 109, 97, 110, 100], false), ([78, 111, 116, 65, 87, 101, 98], false), ([73, 110, 118, 97, 108, 105, 100, 83, 104, 97, 114, 101, 115], false), ([73, 110, 118, 97, 108, 105, 100, 67, 114, 111, 119, 100], false), ([87, 114, 111, 110, 103, 78, 97, 109, 101], false), ([85, 110, 107, 110, 111, 119, 110, 81, 117, 101, 115, 116, 105, 111, 110], false), ([85, 110, 107, 110, 111, 119, 110, 84, 105, 101], false), ([78, 111, 116, 80, 111, 115, 115, 105, 98, 108, 101], false), ([78, 111, 116, 104, 105, 110, 103, 84, 111, 85, 110, 100, 111], false), ([84, 111, 111, 77, 97, 110, 121], false), ([78, 111, 67, 114, 111, 119, 100], false), ([66, 114, 111, 107, 101, 110], true)]
abbrev xt_InvalidBet : List (Nm × Bool) := [([87, 114, 111, 110, 103, 86, 97, 108, 117, 101], false), ([73, 110, 118, 97, 108, 105, 100, 84, 101, 120, 116], false), ([73, 110, 118, 97, 108, 105, 100, 81, 117, 101, 115, 116, 105, 111, 110, 115], false), ([73, 110, 118, 97, 108, 105, 100, 80, 97, 105, 114], false), ([73, 110, 118, 97, 108, 105, 100, 83, 104, 97, 114, 101], false), ([73, 110, 118, 97, 108, 105, 100, 83, 112, 108, 105, 116], false), ([73, 110, 118, 97, 108, 105, 100, 82, 105, 110, 103], false), ([73, 110, 118, 97, 108, 105, 100, 76, 111, 116], false), ([73, 110, 118, 97, 108, 105, 100, 66, 101, 116], true), ([73, 110, 118, 97, 108, 105, 100, 78, 117, 109, 98, 101, 114], false), ([73, 110, 118, 97, 108, 105, 100, 87, 105, 115, 104], false), ([73, 110, 118, 97, 108, 105, 100, 67, 111, 109, 109, 97, 110, 100], false), ([78, 111, 116, 65, 87, 101, 98], false), ([73, 110, 118, 97, 108, 105, 100, 83, 104, 97, 114, 101, 115], false), ([73, 110, 118, 97, 108, 105, 100, 67, 114, 111, 119, 100], false), ([87, 114, 111, 110, 103, 78, 97, 109, 101], false), ([85, 110, 107, 110, 111, 119, 110, 81, 117, 101, 115, 116, 105, 111, 110], false), ([85, 110, 107, 110, 111, 119, 110, 84, 105, 101], false), ([78, 111, 116, 80, 111, 115, 115, 105, 98, 108, 101], false), ([78, 111, 116, 104, 105, 110, 103, 84, 111, 85, 110, 100, 111], false), ([84, 111, 111, 77, 97, 110, 121], false), ([78, 111, 67, 114, 111, 119, 100], false), ([66, 114, 111, 107, 101, 110], false)]
abbrev xt_InvalidCommand : List (Nm × Bool) := [([87, 114, 111, 110, 103, 86, 97, 108, 117, 101], false), ([73, 110, 118, 97, 108, 105, 100, 84, 101, 120, 116], false), ([73, 110, 118, 97, 108, 105, 100, 81, 117, 101, 115, 116, 105, 111, 110, 115], false), ([73, 110, 118, 97, 108, 105, 100, 80, 97, 105, 114], false), ([73, 110, 118, 97, 108, 105, 100, 83, 104, 97, 114, 101], false), ([73, 110, 118, 97, 108, 105, 100, 83, 112, 108, 105, 116], false), ([73, 110, 118, 97, 108, 105, 100, 82, 105, 110, 103], false), ([73, 110, 118, 97, 108, 105, 100, 76, 111, 116], false), ([73, 110, 118, 97, 108, 105, 100, 66, 101, 116], false), ([73, 110, 118, 97, 108, 105, 100, 78, 117, 109, 98, 101, 114], false), ([73, 110, 118, 97, 108, 105, 100, 87, 105, 115, 104], false), ([73, 110, 118, 97, 108, 105, 100, 67, 111, 109, 109, 97, 110, 100], true), ([78, 111, 116, 65, 87, 101, 98], false), ([73, 110, 118, 97, 108, 105, 100, 83, 104, 97, 114, 101, 115], false), ([73, 110, 118, 97, 108, 105, 100, 67, 114, 111, 119, 100], false), ([87, 114, 111, 110, 103, 78, 97, 109, 101], false), ([85, 110, 107, 110, 111, 119, 110, 81, 117, 101, 115, 116, 105, 111, 110], false), ([85, 110, 107, 110, 111, 119, 110, 84, 105, 101], false), ([78, 111, 116, 80, 111, 115, 115, 105, 98, 108, 101], false), ([78, 111, 116, 104, 105, 110, 103, 84, 111, 85, 110, 100, 111], false), ([84, 111, 111, 77, 97, 110, 121], false), ([78, 111, 67, 114, 111, 119, 100], false), ([66, 114, 111, 107, 101, 110], false)]
abbrev xt_InvalidCrowd : List (Nm × Bool) := [([87, 114, 111, 110, 103, 86, 97, 108, 117, 101], false), ([73, 110, 118, 97, 108, 105, 100, 84, 101, 120, 116], false), ([73, 110, 118, 97, 108, 105, 100, 81, 117, 101, 115, 116, 105, 111, 110, 115], false), ([73, 110, 118, 97, 108, 105, 100, 80, 97, 105, 114], false), ([73, 110, 118, 97, 108, 105, 100, 83, 104, 97, 114, 101], false), ([73, 110, 118, 97, 108, 105, 100, 83, 112, 108, 105, 116], false), ([73, 110, 118, 97, 108, 105, 100, 82, 105, 110, 103], false), ([73, 110, 118, 97, 108, 105, 100, 76, 111, 116], false), ([73, 110, 118, 97, 108, 105, 100, 66, 101, 116], false), ([73, 110, 118, 97, 108, 105, 100, 78, 117, 109, 98, 101, 114], false), ([73, 110, 118, 97, 108, 105, 100, 87, 105, 115, 104], false), ([73, 110, 118, 97, 108, 105, 100, 67, 111, 109, 109, 97, 110, 100], false), ([78, 111, 116, 65, 87, 101, 98], false), ([73, 110, 118, 97, 108, 105, 100, 83, 104, 97, 114, 101, 115], false), ([73, 110, 118, 97, 108, 105, 100, 67, 114, 111, 119, 100], true), ([87, 114, 111, 110, 103, 78, 97, 109, 101], false), ([85, 110, 107, 110, 111, 119, 110, 81, 117, 101, 115, 116, 105, 111, 110], false), ([85, 110, 107, 110, 111, 119, 110, 84, 105, 101], false), ([78, 111, 116, 80, 111, 115, 115, 105, 98, 108, 101], false), ([78, 111, 116, 104, 105, 110, 103, 84, 111, 85, 110, 100, 111], false), ([84, 111, 111, 77, 97, 110, 121], false), ([78, 111, 67, 114, 111, 119, 100], false), ([66, 114, 111, 107, 101, 110], false)]
abbrev xt_InvalidLot : List (Nm × Bool) := [([87, 114, 111, 110, 103, 86, 97, 108, 117, 101], false), ([73, 110, 118, 97, 108, 105, 100, 84, 101, 120, 116], false), ([73, 110, 118, 97, 108, 105, 100, 81, 117, 101, 115, 116, 105, 111, 110, 115], false), ([73, 110, 118, 97, 108, 105, 100, 80, 97, 105, 114], false), ([73, 110, 118, 97, 108, 105, 100, 83, 104, 97, 114, 101], false), ([73, 110, 118, 97, 108, 105, 100, 83, 112, 108, 105, 116], false), ([73, 110, 118, 97, 108, 105, 100, 82, 105, 110, 103], false), ([73, 110, 118, 97, 108, 105, 100, 76, 111, 116], true), ([73, 110, 118, 97, 108, 105, 100, 66, 101, 116], false), ([73, 110, 118, 97, 108, 105, 100, 78, 117, 109, 98, 101, 114], false), ([73, 110, 118, 97, 108, 105, 100, 87, 105, 115, 104], false), ([73, 110, 118, 97, 108, 105, 100, 67, 111, 109, 109, 97, 110, 100], false), ([78, 111, 116, 65, 87, 101, 98], false), ([73, 110, 118, 97, 108, 105, 100, 83, 104, 97, 114, 101, 115], false), ([73, 110, 118, 97, 108, 105, 100, 67, 114, 111, 119, 100], false), ([87, 114, 111, 110, 103, 78, 97, 109, 101], false), ([85, 110, 107, 110, 111, 119, 110, 81, 117, 101, 115, 116, 105, 111, 110], false), ([85, 110, 107, 110, 111, 119, 110, 84, 105, 101], false), ([78, 111, 116, 80, 111, 115, 115, 105, 98, 108, 101], false), ([78, 111, 116, 104, 105, 110, 103, 84, 111, 85, 110, 100, 111], false), ([84, 111, 111, 77, 97, 110, 121], false), ([78, 111, 67, 114, 111, 119, 100], false), ([66, 114, 111, 107, 101, 110], false)]
abbrev xt_InvalidNumber : List (Nm × Bool) := [([87, 114, 111, 110, 103, 86, 97, 108, 117, 101], false), ([73, 110, 118, 97, 108, 105, 100, 84, 101, 120, 116], false), ([73, 110, 118, 97, 108, 105, 100, 81, 117, 101, 115, 116, 105, 111, 110, 115], false), ([73, 110, 118, 97, 108, 105, 100, 80, 97, 105, 114], false), ([73, 110, 118, 97, 108, 105, 100, 83, 104, 97, 114, 101], false), ([73, 110, 118, 97, 108, 105, 100, 83, 112, 108, 105, 116], false), ([73, 110, 118, 97, 108, 105, 100, 82, 105, 110, 103], false), ([73, 110, 118, 97, 108, 105, 100, 76, 111, 116], false), ([73, 110, 118, 97, 108, 105, 100, 66, 101, 116], false), ([73, 110, 118, 97, 108, 105, 100, 78, 117, 109, 98, 101, 114], true), ([73, 110, 118, 97, 108, 105, 100, 87, 105, 115, 104], false), ([73, 110, 118, 97, 108, 105, 100, 67, 111, 109, 109, 97, 110, 100], false), ([78, 111, 116, 65, 87, 101, 98], false), ([73, 110, 118, 97, 108, 105, 100, 83, 104, 97, 114, 101, 115], false), ([73, 110, 118, 97, 108, 105, 100, 67, 114, 111, 119, 100], false), ([87, 114, 111, 110, 103, 78, 97, 109, 101], false), ([85, 110, 107, 110, 111, 119, 110, 81, 117, 101, 115, 116, 105, 111, 110], false), ([85, 110, 107, 110, 111, 119, 110, 84, 105, 101], false), ([78, 111, 116, 80, 111, 115, 115, 105, 98, 108, 101], false), ([78, 111, 116, 104, 105, 110, 103, 84, 111, 85, 110, 100, 111], false), ([84, 111, 111, 77, 97, 110, 121], false), ([78, 111, 67, 114, 111, 119, 100], false), ([66, 114, 111, 107, 101, 110], false)]
abbrev xt_InvalidPair : List (Nm × Bool) := [([87, 114, 111, 110, 103, 86, 97, 108, 117, 101], false), ([73, 110, 118, 97, 108, 105, 100, 84, 101, 120, 116], false), ([73, 110, 118, 97, 108, 105, 100, 81, 117, 101, 115, 116, 105, 111, 110, 115], false), ([73, 110, 118, 97, 108, 105, 100, 80, 97, 105, 114], true), ([73, 110, 118, 97, 108, 105, 100, 83, 104, 97, 114, 101], false), ([73, 110, 118, 97, 108, 105, 100, 83, 112, 108, 105, 116], false), ([73, 110, 118, 97, 108, 105, 100, 82, 105, 110, 103], false), ([73, 110, 118, 97, 108, 105, 100, 76, 111, 116], false), ([73, 110, 118, 97, 108, 105, 100, 66, 101, 116], false), ([73, 110, 118, 97, 108, 105, 100, 78, 117, 109, 98, 101, 114], false), ([73, 110, 118, 97, 108, 105, 100, 87, 105, 115, 104], false), ([73, 110, 118, 97, 108, 105, 100, 67, 111, 109, 109, 97, 110, 100], false), ([78, 111, 116, 65, 87, 101, 98], false), ([73, 110, 118, 97, 108, 105, 100, 83, 104, 97, 114, 101, 115], false), ([73, 110, 118, 97, 108, 105, 100, 67, 114, 111, 119, 100], false), ([87, 114, 111, 110, 103, 78, 97, 109, 101], false), ([85, 110, 107, 110, 111, 119, 110, 81, 117, 101, 115, 116, 105, 111, 110], false), ([85, 110, 107, 110, 111, 119, 110, 84, 105, 101], false), ([78, 111, 116, 80, 111, 115, 115, 105, 98, 108, 101], false), ([78, 111, 116, 104, 105, 110, 103, 84, 111, 85, 110, 100, 111], false), ([84, 111, 111, 77, 97, 110, 121], false), ([78, 111, 67, 114, 111, 119, 100], false), ([66, 114, 111, 107, 101, 110], false)]
abbrev xt_InvalidQuestions : List (Nm × Bool) := [([87, 114, 111, 110, 103, 86, 97, 108, 117, 101], false), ([73, 110, 118, 97, 108, 105, 100, 84, 101, 120, 116], false), ([73, 110, 118, 97, 108, 105, 100, 81, 117, 101, 115, 116, 105, 111, 110, 115], true), ([73, 110, 118, 97, 108, 105, 100, 80, 97, 105, 114], false), ([73, 110, 118, 97, 108, 105, 100, 83, 104, 97, 114, 101], false), ([73, 110, 118, 97, 108, 105, 100, 83, 112, 108, 105, 116], false), ([73, 110, 118, 97, 108, 105, 100, 82, 105, 110, 103], false), ([73, 110, 118, 97, 108, 105, 100, 76, 111, 116], false), ([73, 110, 118, 97, 108, 105, 100, 66, 101, 116], false), ([73, 110, 118, 97, 108, 105, 100, 78, 117, 109, 98, 101, 114], false), ([73, 110, 118, 97, 108, 105, 100, 87, 105, 115, 104], false), ([73, 110, 118, 97, 108, 105, 100, 67, 111, 109, 109, 97, 110, 100], false), ([78, 111, 116, 65, 87, 101, 98], false), ([73, 110, 118, 97, 108, 105, 100, 83, 104, 97, 114, 101, 115], false), ([73, 110, 118, 97, 108, 105, 100, 67, 114, 111, 119, 100], false), ([87, 114, 111, 110, 103, 78, 97, 109, 101], false), ([85, 110, 107, 110, 111, 119, 110, 81, 117, 101, 115, 116, 105, 111, 110], false), ([85, 110, 107, 110, 111, 119, 110, 84, 105, 101], false), ([78, 111, 116, 80, 111, 115, 115, 105, 98, 108, 101], false), ([78, 111, 116, 104, 105, 110, 103, 84, 111, 85, 110, 100, 111], false), ([84, 111, 111, 77, 97, 110, 121], false), ([78, 111, 67, 114, 111, 119, 100], false), ([66, 114, 111, 107, 101, 110], false)]
abbrev xt_InvalidRing : List (Nm × Bool) := [([87, 114, 111, 110, 103, 86, 97, 108, 117, 101], false), ([73, 110, 118, 97, 108, 105, 100, 84, 101, 120, 116], false), ([73, 110, 118, 97, 108, 105, 100, 81, 117, 101, 115, 116, 105, 111, 110, 115], false), ([73, 110, 118, 97, 108, 105, 100, 80, 97, 105, 114], false), ([73, 110, 118, 97, 108, 105, 100, 83, 104, 97, 114, 101], false), ([73, 110, 118, 97, 108, 105, 100, 83, 112, 108, 105, 116], false), ([73, 110, 118, 97, 108, 105, 100, 82, 105, 110, 103], true), ([73, 110, 118, 97, 108, 105, 100, 76, 111, 116], false), ([73, 110, 118, 97, 108, 105, 100, 66, 101, 116], false), ([73, 110, 118, 97, 108, 105, 100, 78, 117, 109, 98, 101, 114], false), ([73, 110, 118, 97, 108, 105, 100, 87, 105, 115, 104], false), ([73, 110, 118, 97, 108, 105, 100, 67, 111, 109, 109, 97, 110, 100], false), ([78, 111, 116, 65, 87, 101, 98], false), ([73, 110, 118, 97, 108, 105, 100, 83, 104, 97, 114, 101, 115], false), ([73, 110, 118, 97, 108, 105, 100, 67, 114, 111, 119, 100], false), ([87, 114, 111, 110, 103, 78, 97, 109, 101], false), ([85, 110, 107, 110, 111, 119, 110, 81, 117, 101, 115, 116, 105, 111, 110], false), ([85, 110, 107, 110, 111, 119, 110, 84, 105, 101], false), ([78, 111, 116, 80, 111, 115, 115, 105, 98, 108, 101], false), ([78, 111, 116, 104, 105, 110, 103, 84, 111, 85, 110, 100, 111], false), ([84, 111, 111, 77, 97, 110, 121], false), ([78, 111, 67, 114, 111, 119, 100], false), ([66, 114, 111, 107, 101, 110], false)]
abbrev xt_InvalidShare : List (Nm × Bool) := [([87, 114, 111, 110, 103, 86, 97, 108, 117, 101], false), ([73, 110, 118, 97, 108, 105, 100, 84, 101, 120, 116], false), ([73, 110, 118, 97, 108, 105, 100, 81, 117, 101, 115, 116, 105, 111, 110, 115], false), ([73, 110, 118, 97, 108, 105, 100, 80, 97, 105, 114], false), ([73, 110, 118, 97, 108, 105, 100, 83, 104, 97, 114, 101], true), ([73, 110, 118, 97, 108, 105, 100, 83, 112, 108, 105, 116], false), ([73, 110, 118, 97, 108, 105, 100, 82, 105, 110, 103], false), ([73, 110, 118, 97, 108, 105, 100, 76, 111, 116], false), ([73, 110, 118, 97, 108, 105, 100, 66, 101, 116], false), ([73, 110, 118, 97, 108, 105, 100, 78, 117, 109, 98, 101, 114], false), ([73, 110, 118, 97, 108, 105, 100, 87, 105, 115, 104], false), ([73, 110, 118, 97, 108, 105, 100, 67, 111, 109, 109, 97, 110, 100], false), ([78, 111, 116, 65, 87, 101, 98], false), ([73, 110, 118, 97, 108, 105, 100, 83, 104, 97, 114, 101, 115], false), ([73, 110, 118, 97, 108, 105, 100, 67, 114, 111, 119, 100], false), ([87, 114, 111, 110, 103, 78, 97, 109, 101], false), ([85, 110, 107, 110, 111, 119, 110, 81, 117, 101, 115, 116, 105, 111, 110], false), ([85, 110, 107, 110, 111, 119, 110, 84, 105, 101], false), ([78, 111, 116, 80, 111, 115, 115, 105, 98, 108, 101], false), ([78, 111, 116, 104, 105, 110, 103, 84, 111, 85, 110, 100, 111], false), ([84, 111, 111, 77, 97, 110, 121], false), ([78, 111, 67, 114, 111, 119, 100], false), ([66, 114, 111, 107, 101, 110], false)]
abbrev xt_InvalidShares : List (Nm × Bool) := [([87, 114, 111, 110, 103, 86, 97, 108, 117, 101], false), ([73, 110, 118, 97, 108, 105, 100, 84, 101, 120, 116], false), ([73, 110, 118, 97, 108, 105, 100, 81, 117, 101, 115, 116, 105, 111, 110, 115], false), ([73, 110, 118, 97, 108, 105, 100, 80, 97, 105, 114], false), ([73, 110, 118, 97, 108, 105, 100, 83, 104, 97, 114, 101], false), ([73, 110, 118, 97, 108, 105, 100, 83, 112, 108, 105, 116], false), ([73, 110, 118, 97, 108, 105, 100, 82, 105, 110, 103], false), ([73, 110, 118, 97, 108, 105, 100, 76, 111, 116], false), ([73, 110, 118, 97, 108, 105, 100, 66, 101, 116], false), ([73, 110, 118, 97, 108, 105, 100, 78, 117, 109, 98, 101, 114], false), ([73, 110, 118, 97, 108, 105, 100, 87, 105, 115, 104], false), ([73, 110, 118, 97, 108, 105, 100, 67, 111, 109, 109, 97, 110, 100], false), ([78, 111, 116, 65, 87, 101, 98], false), ([73, 110, 118, 97, 108, 105, 100, 83, 104, 97, 114, 101, 115], true), ([73, 110, 118, 97, 108, 105, 100, 67, 114, 111, 119, 100], false), ([87, 114, 111, 110, 103, 78, 97, 109, 101], false), ([85, 110, 107, 110, 111, 119, 110, 81, 117, 101, 115, 116, 105, 111, 110], false), ([85, 110, 107, 110, 111, 119, 110, 84, 105, 101], false), ([78, 111, 116, 80, 111, 115, 115, 105, 98, 108, 101], false), ([78, 111, 116, 104, 105, 110, 103, 84, 111, 85, 110, 100, 111], false), ([84, 111, 111, 77, 97, 110, 121], false), ([78, 111, 67, 114, 111, 119, 100], false), ([66, 114, 111, 107, 101, 110], false)]
abbrev xt_InvalidSplit : List (Nm × Bool) := [([87, 114, 111, 110, 103, 86, 97, 108, 117, 101], false), ([73, 110, 118, 97, 108, 105, 100, 84, 101, 120, 116], false), ([73, 110, 118, 97, 108, 105, 100, 81, 117, 101, 115, 116, 105, 111, 110, 115], false), ([73, 110, 118, 97, 108, 105, 100, 80, 97, 105, 114], false), ([73, 110, 118, 97, 108, 105, 100, 83, 104, 97, 114, 101], false), ([73, 110, 118, 97, 108, 105, 100, 83, 112, 108, 105, 116], true), ([73, 110, 118, 97, 108, 105, 100, 82, 105, 110, 103], false), ([73, 110, 118, 97, 108, 105, 100, 76, 111, 116], false), ([73, 110, 118, 97, 108, 105, 100, 66, 101, 116], false), ([73, 110, 118, 97, 108, 105, 100, 78, 117, 109, 98, 101, 114], false), ([73, 110, 118, 97, 108, 105, 100, 87, 105, 115, 104], false), ([73, 110, 118, 97, 108, 105, 100, 67, 111, 109, 109, 97, 110, 100], false), ([78, 111, 116, 65, 87, 101, 98], false), ([73, 110, 118, 97, 108, 105, 100, 83, 104, 97, 114, 101, 115], false), ([73, 110, 118, 97, 108, 105, 100, 67, 114, 111, 119, 100], false), ([87, 114, 111, 110, 103, 78, 97, 109, 101], false), ([85, 110, 107, 110, 111, 119, 110, 81, 117, 101, 115, 116, 105, 111, 110], false), ([85, 110, 107, 110, 111, 119, 110, 84, 105, 101], false), ([78, 111, 116, 80, 111, 115, 115, 105, 98, 108, 101], false), ([78, 111, 116, 104, 105, 110, 103, 84, 111, 85, 110, 100, 111], false), ([84, 111, 111, 77, 97, 110, 121], false), ([78, 111, 67, 114, 111, 119, 100], false), ([66, 114, 111, 107, 101, 110], false)]
abbrev xt_InvalidText : List (Nm × Bool) := [([87, 114, 111, 110, 103, 86, 97, 108, 117, 101], false), ([73, 110, 118, 97, 108, 105, 100, 84, 101, 120, 116], true), ([73, 110, 118, 97, 108, 105, 100, 81, 117, 101, 115, 116, 105, 111, 110, 115], false), ([73, 110, 118, 97, 108, 105, 100, 80, 97, 105, 114], false), ([73, 110, 118, 97, 108, 105, 100, 83, 104, 97, 114, 101], false), ([73, 110, 118, 97, 108, 105, 100, 83, 112, 108, 105, 116], false), ([73, 110, 118, 97, 108, 105, 100, 82, 105, 110, 103], false), ([73, 110, 118, 97, 108, 105, 100, 76, 111, 116], false), ([73, 110, 118, 97, 108, 105, 100, 66, 101, 116], false), ([73, 110, 118, 97, 108, 105, 100, 78, 117, 109, 98, 101, 114], false), ([73, 110, 118, 97, 108, 105, 100, 87, 105, 115, 104], false), ([73, 110, 118, 97, 108, 105, 100, 67, 111, 109, 109, 97, 110, 100], false), ([78, 111, 116, 65, 87, 101, 98], false), ([73, 110, 118, 97, 108, 105, 100, 83, 104, 97, 114, 101, 115], false), ([73, 110, 118, 97, 108, 105, 100, 67, 114, 111, 119, 100], false), ([87, 114, 111, 110, 103, 78, 97, 109, 101], false), ([85, 110, 107, 110, 111, 119, 110, 81, 117, 101, 115, 116, 105, 111, 110], false), ([85, 110, 107, 110, 111, 119, 110, 84, 105, 101], false), ([78, 111, 116, 80, 111, 115, 115, 105, 98, 108, 101], false), ([78, 111, 116, 104, 105, 110, 103, 84, 111, 85, 110, 100, 111], false), ([84, 111, 111, 77, 97, 110, 121], false), ([78, 111, 67, 114, 111, 119, 100], false), ([66, 114, 111, 107, 101, 110], false)]
abbrev xt_InvalidWish : List (Nm × Bool) := [([87, 114, 111, 110, 103, 86, 97, 108, 117, 101], false), ([73, 110, 118, 97, 108, 105, 100, 84, 101, 120, 116], false), ([73, 110, 118, 97, 108, 105, 100, 81, 117, 101, 115, 116, 105, 111, 110, 115], false), ([73, 110, 118, 97, 108, 105, 100, 80, 97, 105, 114], false), ([73, 110, 118, 97, 108, 105, 100, 83, 104, 97, 114, 101], false), ([73, 110, 118, 97, 108, 105, 100, 83, 112, 108, 105, 116], false), ([73, 110, 118, 97, 108, 105, 100, 82, 105, 110, 103], false), ([73, 110, 118, 97, 108, 105, 100, 76, 111, 116], false), ([73, 110, 118, 97, 108, 105, 100, 66, 101, 116], false), ([73, 110, 118, 97, 108, 105, 100, 78, 117, 109, 98, 101, 114], false), ([73, 110, 118, 97, 108, 105, 100, 87, 105, 115, 104], true), ([73, 110, 118, 97, 108, 105, 100, 67, 111, 109, 109, 97, 110, 100], false), ([78, 111, 116, 65, 87, 101, 98], false), ([73, 110, 118, 97, 108, 105, 100, 83, 104, 97, 114, 101, 115], false), ([73, 110, 118, 97, 108, 105, 100, 67, 114, 111, 119, 100], false), ([87, 114, 111, 110, 103, 78, 97, 109, 101], false), ([85, 110, 107, 110, 111, 119, 110, 81, 117, 101, 115, 116, 105, 111, 110], false), ([85, 110, 107, 110, 111, 119, 110, 84, 105, 101], false), ([78, 111, 116, 80, 111, 115, 115, 105, 98, 108, 101], false), ([78, 111, 116, 104, 105, 110, 103, 84, 111, 85, 110, 100, 111], false), ([84, 111, 111, 77, 97, 110, 121], false), ([78, 111, 67, 114, 111, 119, 100], false), ([66, 114, 111, 107, 101, 110], false)]
abbrev xt_LookupError : List (Nm × Bool) := [([87, 114, 111, 110, 103, 86, 97, 108, 117, 101], false), ([73, 110, 118, 97, 108, 105, 100, 84, 101, 120, 116], false), ([73, 110, 118, 97, 108, 105, 100, 81, 117, 101, 115, 116, 105, 111, 110, 115], false), ([73, 110, 118, 97, 108, 105, 100, 80, 97, 105, 114], false), ([73, 110, 118, 97, 108, 105, 100, 83, 104, 97, 114, 101], false), ([73, 110, 118, 97, 108, 105, 100, 83, 112, 108, 105, 116], false), ([73, 110, 118, 97, 108, 105, 100, 82, 105, 110, 103], false), ([73, 110, 118, 97, 108, 105, 100, 76, 111, 116], false), ([73, 110, 118, 97, 108, 105, 100, 66, 101, 116], false), ([73, 110, 118, 97, 108, 105, 100, 78, 117, 109, 98, 101, 114], false), ([73, 110, 118, 97, 108, 105, 100, 87, 105, 115, 104], false), ([73, 110, 118, 97, 108, 105, 100, 67, 111, 109, 109, 97, 110, 100], false), ([78, 111, 116, 65, 87, 101, 98], false), ([73, 110, 118, 97, 108, 105, 100, 83, 104, 97, 114, 101, 115], false), ([73, 110, 118, 97, 108, 105, 100, 67, 114, 111, 119, 100], false), ([87, 114, 111, 110, 103, 78, 97, 109, 101], true), ([85, 110, 107, 110, 111, 119, 110, 81, 117, 101, 115, 116, 105, 111, 110], true), ([85, 110, 107, 110, 111, 119, 110, 84, 105, 101], true), ([78, 111, 116, 80, 111, 115, 115, 105, 98, 108, 101], false), ([78, 111, 116, 104, 105, 110, 103, 84, 111, 85, 110, 100, 111], false), ([84, 111, 111, 77, 97, 110, 121], false), ([78, 111, 67, 114, 111, 119, 100], false), ([66, 114, 111, 107, 101, 110], false)]
abbrev xt_NoCrowd : List (Nm × Bool) := [([87, 114, 111, 110, 103, 86, 97, 108, 117, 101], false), ([73, 110, 118, 97, 108, 105, 100, 84, 101, 120, 116], false), ([73, 110, 118, 97, 108, 105, 100, 81, 117, 101, 115, 116, 105, 111, 110, 115], false), ([73, 110, 118, 97, 108, 105, 100, 80, 97, 105, 114], false), ([73, 110, 118, 97, 108, 105, 100, 83, 104, 97, 114, 101], false), ([73, 110, 118, 97, 108, 105, 100, 83, 112, 108, 105, 116], false), ([73, 110, 118, 97, 108, 105, 100, 82, 105, 110, 103], false), ([73, 110, 118, 97, 108, 105, 100, 76, 111, 116], false), ([73, 110, 118, 97, 108, 105, 100, 66, 101, 116], false), ([73, 110, 118, 97, 108, 105, 100, 78, 117, 109, 98, 101, 114], false), ([73, 110, 118, 97, 108, 105, 100, 87, 105, 115, 104], false), ([73, 110, 118, 97, 108, 105, 100, 67, 111, 109, 109, 97, 110, 100], false), ([78, 111, 116, 65, 87, 101, 98], false), ([73, 110, 118, 97, 108, 105, 100, 83, 104, 97, 114, 101, 115], false), ([73, 110, 118, 97, 108, 105, 100, 67, 114, 111, 119, 100], false), ([87, 114, 111, 110, 103, 78, 97, 109, 101], false), ([85, 110, 107, 110, 111, 119, 110, 81, 117, 101, 115, 116, 105, 111, 110], false), ([85, 110, 107, 110, 111, 119, 110, 84, 105, 101], false), ([78, 111, 116, 80, 111, 115, 115, 105, 98, 108, 101], false), ([78, 111, 116, 104, 105, 110, 103, 84, 111, 85, 110, 100, 111], false), ([84, 111, 111, 77, 97, 110, 121], false), ([78, 111, 67, 114, 111, 119, 100], true), ([66, 114, 111, 107, 101, 110], false)]
abbrev xt_NotAWeb : List (Nm × Bool) := [([87, 114, 111, 110, 103, 86, 97, 108, 117, 101], false), ([73, 110, 118, 97, 108, 105, 100, 84, 101, 120, 116], false), ([73, 110, 118, 97, 108, 105, 100, 81, 117, 101, 115, 116, 105, 111, 110, 115], false), ([73, 110, 118, 97, 108, 105, 100, 80, 97, 105, 114], false), ([73, 110, 118, 97, 108, 105, 100, 83, 104, 97, 114, 101], false), ([73, 110, 118, 97, 108, 105, 100, 83, 112, 108, 105, 116], false), ([73, 110, 118, 97, 108, 105, 100, 82, 105, 110, 103], false), ([73, 110, 118, 97, 108, 105, 100, 76, 111, 116], false), ([73, 110, 118, 97, 108, 105, 100, 66, 101, 116], false), ([73, 110, 118, 97, 108, 105, 100, 78, 117, 109, 98, 101, 114], false), ([73, 110, 118, 97, 108, 105, 100, 87, 105, 115, 104], false), ([73, 110, 118, 97, 108, 105, 100, 67, 111, 109, 109, 97, 110, 100], false), ([78, 111, 116, 65, 87, 101, 98], true), ([73, 110, 118, 97, 108, 105, 100, 83, 104, 97, 114, 101, 115], false), ([73, 110, 118, 97, 108, 105, 100, 67, 114, 111, 119, 100], false), ([87, 114, 111, 110, 103, 78, 97, 109, 101], false), ([85, 110, 107, 110, 111, 119, 110, 81, 117, 101, 115, 116, 105, 111, 110], false), ([85, 110, 107, 110, 111, 119, 110, 84, 105, 101], false), ([78, 111, 116, 80, 111, 115, 115, 105, 98, 108, 101], false), ([78, 111, 116, 104, 105, 110, 103, 84, 111, 85, 110, 100, 111], false), ([84, 111, 111, 77, 97, 110, 121], false), ([78, 111, 67, 114, 111, 119, 100], false), ([66, 114, 111, 107, 101, 110], false)]
abbrev xt_NotPossible : List (Nm × Bool) := [([87, 114, 111, 110, 103, 86, 97, 108, 117, 101], false), ([73, 110, 118, 97, 108, 105, 100, 84, 101, 120, 116], false), ([73, 110, 118, 97, 108, 105, 100, 81, 117, 101, 115, 116, 105, 111, 110, 115], false), ([73, 110, 118, 97, 108, 105, 100, 80, 97, 105, 114], false), ([73, 110, 118, 97, 108, 105, 100, 83, 104, 97, 114, 101], false), ([73, 110, 118, 97, 108, 105, 100, 83, 112, 108, 105, 116], false), ([73, 110, 118, 97, 108, 105, 100, 82, 105, 110, 103], false), ([73, 110, 118, 97, 108, 105, 100, 76, 111, 116], false), ([73, 110, 118, 97, 108, 105, 100, 66, 101, 116], false), ([73, 110, 118, 97, 108, 105, 100, 78, 117, 109, 98, 101, 114], false), ([73, 110, 118, 97, 108, 105, 100, 87, 105, 115, 104], false), ([73, 110, 118, 97, 108, 105, 100, 67, 111, 109, 109, 97, 110, 100], false), ([78, 111, 116, 65, 87, 101, 98], false), ([73, 110, 118, 97, 108, 105, 100, 83, 104, 97, 114, 101, 115], false), ([73, 110, 118, 97, 108, 105, 100, 67, 114, 111, 119, 100], false), ([87, 114, 111, 110, 103, 78, 97, 109, 101], false), ([85, 110, 107, 110, 111, 119, 110, 81, 117, 101, 115, 116, 105, 111, 110], false), ([85, 110, 107, 110, 111, 119, 110, 84, 105, 101], false), ([78, 111, 116, 80, 111, 115, 115, 105, 98, 108, 101], true), ([78, 111, 116, 104, 105, 110, 103, 84, 111, 85, 110, 100, 111], true), ([84, 111, 111, 77, 97, 110, 121], true), ([78, 111, 67, 114, 111, 119, 100], true), ([66, 114, 111, 107, 101, 110], true)]
abbrev xt_NothingToUndo : List (Nm × Bool) := [([87, 114, 111, 110, 103, 86, 97, 108, 117, 101], false), ([73, 110, 118, 97, 108, 105, 100, 84, 101, 120, 116], false), ([73, 110, 118, 97, 108, 105, 100, 81, 117, 101, 115, 116, 105, 111, 110, 115], false), ([73, 110, 118, 97, 108, 105, 100, 80, 97, 105, 114], false), ([73, 110, 118, 97, 108, 105, 100, 83, 104, 97, 114, 101], false), ([73, 110, 118, 97, 108, 105, 100, 83, 112, 108, 105, 116], false), ([73, 110, 118, 97, 108, 105, 100, 82, 105, 110, 103], false), ([73, 110, 118, 97, 108, 105, 100, 76, 111, 116], false), ([73, 110, 118, 97, 108, 105, 100, 66, 101, 116], false), ([73, 110, 118, 97, 108, 105, 100, 78, 117, 109, 98, 101, 114], false), ([73, 110, 118, 97, 108, 105, 100, 87, 105, 115, 104], false), ([73, 110, 118, 97, 108, 105, 100, 67, 111, 109, 109, 97, 110, 100], false), ([78, 111, 116, 65, 87, 101, 98], false), ([73, 110, 118, 97, 108, 105, 100, 83, 104, 97, 114, 101, 115], false), ([73, 110, 118, 97, 108, 105, 100, 67, 114, 111, 119, 100], false), ([87, 114, 111, 110, 103, 78, 97, 109, 101], false), ([85, 110, 107, 110, 111, 119, 110, 81, 117, 101, 115, 116, 105, 111, 110], false), ([85, 110, 107, 110, 111, 119, 110, 84, 105, 101], false), ([78, 111, 116, 80, 111, 115, 115, 105, 98, 108, 101], false), ([78, 111, 116, 104, 105, 110, 103, 84, 111, 85, 110, 100, 111], true), ([84, 111, 111, 77, 97, 110, 121], false), ([78, 111, 67, 114, 111, 119, 100], false), ([66, 114, 111, 107, 101, 110], false)]
abbrev xt_TooMany : List (Nm × Bool) := [([87, 114, 111, 110, 103, 86, 97, 108, 117, 101], false), ([73, 110, 118, 97, 108, 105, 100, 84, 101, 120, 116], false), ([73, 110, 118, 97, 108, 105, 100, 81, 117, 101, 115, 116, 105, 111, 110, 115], false), ([73, 110, 118, 97, 108, 105, 100, 80, 97, 105, 114], false), ([73, 110, 118, 97, 108, 105, 100, 83, 104, 97, 114, 101], false), ([73, 110, 118, 97, 108, 105, 100, 83, 112, 108, 105, 116], false), ([73, 110, 118, 97, 108, 105, 100, 82, 105, 110, 103], false), ([73, 110, 118, 97, 108, 105, 100, 76, 111, 116], false), ([73, 110, 118, 97, 108, 105, 100, 66, 101, 116], false), ([73, 110, 118, 97, 108, 105, 100, 78, 117, 109, 98, 101, 114], false), ([73, 110, 118, 97, 108, 105, 100, 87, 105, 115, 104], false), ([73, 110, 118, 97, 108, 105, 100, 67, 111, 109, 109, 97, 110, 100], false), ([78, 111, 116, 65, 87, 101, 98], false), ([73, 110, 118, 97, 108, 105, 100, 83, 104, 97, 114, 101, 115], false), ([73, 110, 118, 97, 108, 105, 100, 67, 114, 111, 119, 100], false), ([87, 114, 111, 110, 103, 78, 97, 109, 101], false), ([85, 110, 107, 110, 111, 119, 110, 81, 117, 101, 115, 116, 105, 111, 110], false), ([85, 110, 107, 110, 111, 119, 110, 84, 105, 101], false), ([78, 111, 116, 80, 111, 115, 115, 105, 98, 108, 101], false), ([78, 111, 116, 104, 105, 110, 103, 84, 111, 85, 110, 100, 111], false), ([84, 111, 111, 77, 97, 110, 121], true), ([78, 111, 67, 114, 111, 119, 100], false), ([66, 114, 111, 107, 101, 110], false)]
abbrev xt_UnknownQuestion : List (Nm × Bool) := [([87, 114, 111, 110, 103, 86, 97, 108, 117, 101], false), ([73, 110, 118, 97, 108, 105, 100, 84, 101, 120, 116], false), ([73, 110, 118, 97, 108, 105, 100, 81, 117, 101, 115, 116, 105, 111, 110, 115], false), ([73, 110, 118, 97, 108, 105, 100, 80, 97, 105, 114], false), ([73, 110, 118, 97, 108, 105, 100, 83, 104, 97, 114, 101], false), ([73, 110, 118, 97, 108, 105, 100, 83, 112, 108, 105, 116], false), ([73, 110, 118, 97, 108, 105, 100, 82, 105, 110, 103], false), ([73, 110, 118, 97, 108, 105, 100, 76, 111, 116], false), ([73, 110, 118, 97, 108, 105, 100, 66, 101, 116], false), ([73, 110, 118, 97, 108, 105, 100, 78, 117, 109, 98, 101, 114], false), ([73, 110, 118, 97, 108, 105, 100, 87, 105, 115, 104], false), ([73, 110, 118, 97, 108, 105, 100, 67, 111, 109, 109, 97, 110, 100], false), ([78, 111, 116, 65, 87, 101, 98], false), ([73, 110, 118, 97, 108, 105, 100, 83, 104, 97, 114, 101, 115], false), ([73, 110, 118, 97, 108, 105, 100, 67, 114, 111, 119, 100], false), ([87, 114, 111, 110, 103, 78, 97, 109, 101], false), ([85, 110, 107, 110, 111, 119, 110, 81, 117, 101, 115, 116, 105, 111, 110], true), ([85, 110, 107, 110, 111, 119, 110, 84, 105, 101], false), ([78, 111, 116, 80, 111, 115, 115, 105, 98, 108, 101], false), ([78, 111, 116, 104, 105, 110, 103, 84, 111, 85, 110, 100, 111], false), ([84, 111, 111, 77, 97, 110, 121], false), ([78, 111, 67, 114, 111, 119, 100], false), ([66, 114, 111, 107, 101, 110], false)]
abbrev xt_UnknownTie : List (Nm × Bool) := [([87, 114, 111, 110, 103, 86, 97, 108, 117, 101], false), ([73, 110, 118, 97, 108, 105, 100, 84, 101, 120, 116], false), ([73, 110, 118, 97, 108, 105, 100, 81, 117, 101, 115, 116, 105, 111, 110, 115], false), ([73, 110, 118, 97, 108, 105, 100, 80, 97, 105, 114], false), ([73, 110, 118, 97, 108, 105, 100, 83, 104, 97, 114, 101], false), ([73, 110, 118, 97, 108, 105, 100, 83, 112, 108, 105, 116], false), ([73, 110, 118, 97, 108, 105, 100, 82, 105, 110, 103], false), ([73, 110, 118, 97, 108, 105, 100, 76, 111, 116], false), ([73, 110, 118, 97, 108, 105, 100, 66, 101, 116], false), ([73, 110, 118, 97, 108, 105, 100, 78, 117, 109, 98, 101, 114], false), ([73, 110, 118, 97, 108, 105, 100, 87, 105, 115, 104], false), ([73, 110, 118, 97, 108, 105, 100, 67, 111, 109, 109, 97, 110, 100], false), ([78, 111, 116, 65, 87, 101, 98], false), ([73, 110, 118, 97, 108, 105, 100, 83, 104, 97, 114, 101, 115], false), ([73, 110, 118, 97, 108, 105, 100, 67, 114, 111, 119, 100], false), ([87, 114, 111, 110, 103, 78, 97, 109, 101], false), ([85, 110, 107, 110, 111, 119, 110, 81, 117, 101, 115, 116, 105, 111, 110], false), ([85, 110, 107, 110, 111, 119, 110, 84, 105, 101], true), ([78, 111, 116, 80, 111, 115, 115, 105, 98, 108, 101], false), ([78, 111, 116, 104, 105, 110, 103, 84, 111, 85, 110, 100, 111], false), ([84, 111, 111, 77, 97, 110, 121], false), ([78, 111, 67, 114, 111, 119, 100], false), ([66, 114, 111, 107, 101, 110], false)]
abbrev xt_ValueError : List (Nm × Bool) := [([87, 114, 111, 110, 103, 86, 97, 108, 117, 101], true), ([73, 110, 118, 97, 108, 105, 100, 84, 101, 120, 116], true), ([73, 110, 118, 97, 108, 105, 100, 81, 117, 101, 115, 116, 105, 111, 110, 115], true), ([73, 110, 118, 97, 108, 105, 100, 80, 97, 105, 114], true), ([73, 110, 118, 97, 108, 105, 100, 83, 104, 97, 114, 101], true), ([73, 110, 118, 97, 108, 105, 100, 83, 112, 108, 105, 116], true), ([73, 110, 118, 97, 108, 105, 100, 82, 105, 110, 103], true), ([73, 110, 118, 97, 108, 105, 100, 76, 111, 116], true), ([73, 110, 118, 97, 108, 105, 100, 66, 101, 116], true), ([73, 110, 118, 97, 108, 105, 100, 78, 117, 109, 98, 101, 114], true), ([73, 110, 118, 97, 108, 105, 100, 87, 105, 115, 104], true), ([73, 110, 118, 97, 108, 105, 100, 67, 111, 109, 109, 97, 110, 100], true), ([78, 111, 116, 65, 87, 101, 98], true), ([73, 110, 118, 97, 108, 105, 100, 83, 104, 97, 114, 101, 115], true), ([73, 110, 118, 97, 108, 105, 100, 67, 114, 111, 119, 100], true), ([87, 114, 111, 110, 103, 78, 97, 109, 101], false), ([85, 110, 107, 110, 111, 119, 110, 81, 117, 101, 115, 116, 105, 111, 110], false), ([85, 110, 107, 110, 111, 119, 110, 84, 105, 101], false), ([78, 111, 116, 80, 111, 115, 115, 105, 98, 108, 101], false), ([78, 111, 116, 104, 105, 110, 103, 84, 111, 85, 110, 100, 111], false), ([84, 111, 111, 77, 97, 110, 121], false), ([78, 111, 67, 114, 111, 119, 100], false), ([66, 114, 111, 107, 101, 110], false)]
abbrev xt_WrongName : List (Nm × Bool) := [([87, 114, 111, 110, 103, 86, 97, 108, 117, 101], false), ([73, 110, 118, 97, 108, 105, 100, 84, 101, 120, 116], false), ([73, 110, 118, 97, 108, 105, 100, 81, 117, 101, 115, 116, 105, 111, 110, 115], false), ([73, 110, 118, 97, 108, 105, 100, 80, 97, 105, 114], false), ([73, 110, 118, 97, 108, 105, 100, 83, 104, 97, 114, 101], false), ([73, 110, 118, 97, 108, 105, 100, 83, 112, 108, 105, 116], false), ([73, 110, 118, 97, 108, 105, 100, 82, 105, 110, 103], false), ([73, 110, 118, 97, 108, 105, 100, 76, 111, 116], false), ([73, 110, 118, 97, 108, 105, 100, 66, 101, 116], false), ([73, 110, 118, 97, 108, 105, 100, 78, 117, 109, 98, 101, 114], false), ([73, 110, 118, 97, 108, 105, 100, 87, 105, 115, 104], false), ([73, 110, 118, 97, 108, 105, 100, 67, 111, 109, 109, 97, 110, 100], false), ([78, 111, 116, 65, 87, 101, 98], false), ([73, 110, 118, 97, 108, 105, 100, 83, 104, 97, 114, 101, 115], false), ([73, 110, 118, 97, 108, 105, 100, 67, 114, 111, 119, 100], false), ([87, 114, 111, 110, 103, 78, 97, 109, 101], true), ([85, 110, 107, 110, 111, 119, 110, 81, 117, 101, 115, 116, 105, 111, 110], true), ([85, 110, 107, 110, 111, 119, 110, 84, 105, 101], true), ([78, 111, 116, 80, 111, 115, 115, 105, 98, 108, 101], false), ([78, 111, 116, 104, 105, 110, 103, 84, 111, 85, 110, 100, 111], false), ([84, 111, 111, 77, 97, 110, 121], false), ([78, 111, 67, 114, 111, 119, 100], false), ([66, 114, 111, 107, 101, 110], false)]
abbrev xt_WrongValue : List (Nm × Bool) := [([87, 114, 111, 110, 103, 86, 97, 108, 117, 101], true), ([73, 110, 118, 97, 108, 105, 100, 84, 101, 120, 116], true), ([73, 110, 118, 97, 108, 105, 100, 81, 117, 101, 115, 116, 105, 111, 110, 115], true), ([73, 110, 118, 97, 108, 105, 100, 80, 97, 105, 114], true), ([73, 110, 118, 97, 108, 105, 100, 83, 104, 97, 114, 101], true), ([73, 110, 118, 97, 108, 105, 100, 83, 112, 108, 105, 116], true), ([73, 110, 118, 97, 108, 105, 100, 82, 105, 110, 103], true), ([73, 110, 118, 97, 108, 105, 100, 76, 111, 116], true), ([73, 110, 118, 97, 108, 105, 100, 66, 101, 116], true), ([73, 110, 118, 97, 108, 105, 100, 78, 117, 109, 98, 101, 114], true), ([73, 110, 118, 97, 108, 105, 100, 87, 105, 115, 104], true), ([73, 110, 118, 97, 108, 105, 100, 67, 111, 109, 109, 97, 110, 100], true), ([78, 111, 116, 65, 87, 101, 98], true), ([73, 110, 118, 97, 108, 105, 100, 83, 104, 97, 114, 101, 115], true), ([73, 110, 118, 97, 108, 105, 100, 67, 114, 111, 119, 100], true), ([87, 114, 111, 110, 103, 78, 97, 109, 101], false), ([85, 110, 107, 110, 111, 119, 110, 81, 117, 101, 115, 116, 105, 111, 110], false), ([85, 110, 107, 110, 111, 119, 110, 84, 105, 101], false), ([78, 111, 116, 80, 111, 115, 115, 105, 98, 108, 101], false), ([78, 111, 116, 104, 105, 110, 103, 84, 111, 85, 110, 100, 111], false), ([84, 111, 111, 77, 97, 110, 121], false), ([78, 111, 67, 114, 111, 119, 100], false), ([66, 114, 111, 107, 101, 110], false)]
abbrev n_f__law_bases : Nm := [2]
abbrev s_f__law_bases : Stmt := top 33
abbrev D_f__law_bases : DefM := ⟨.glo "_law_bases", "_law_bases", "_law_bases", s_f__law_bases⟩
noncomputable def d_f__law_bases : DS := (seqS (osetS 1 (lstE (consA (andE (ixE xt_WrongValue (varE 0)) (ixE xt_ValueError (varE 0))) nilA))) (seqS (appS 1 (andE (ixE xt_WrongName (varE 0)) (ixE xt_LookupError (varE 0)))) (retS (bin pyAdd (ovarE 1) (lstE (consA (andE (ixE xt_NotPossible (varE 0)) (ixE xt_ArithmeticError (varE 0))) nilA))))))
abbrev n_f__law_dip : Nm := [6]
abbrev s_f__law_dip : Stmt := top 31
abbrev D_f__law_dip : DefM := ⟨.glo "_law_dip", "_law_dip", "_law_dip", s_f__law_dip⟩
noncomputable def d_f__law_dip : DS := (seqS (isetS (varE 0) (cstE (.int 2)) (bin pyAdd (subE (varE 0) (cstE (.int 2))) (cstE (.int 1)))) (seqS (ifS (bin pyGt (subE (varE 0) (cstE (.int 0))) (cstE (.int 0))) (seqS (asgS (tgN 3) (bin pyMod (un pyInt (subE (varE 0) (cstE (.int 0)))) (varE 1))) (seqS (isetS (varE 0) (cstE (.int 0)) (bin pyDiv (un pyInt (subE (varE 0) (cstE (.int 0)))) (varE 1))) (retS (varE 3)))) nextS) (seqS (asgS (tgN 2) (un pyInt (subE (varE 0) (cstE (.int 1))))) (seqS (isetS (varE 0) (cstE (.int 1)) (bin pyMod (un pyInt (bin pyAdd (bin pyAdd (bin pyMul (varE 2) (cstE (.int 40692))) (bin pyMul (subE (varE 0) (cstE (.int 2))) (cstE (.int 52021)))) (cstE (.int 31)))) (cstE (.int 2147483399)))) (retS (bin pyMod (un pyInt (bin pyDiv (subE (varE 0) (cstE (.int 1))) (cstE (.int 2048)))) (varE 1)))))))
abbrev n_f__law_pick : Nm := [5]
abbrev s_f__law_pick : Stmt := top 32
abbrev D_f__law_pick : DefM := ⟨.glo "_law_pick", "_law_pick", "_law_pick", s_f__law_pick⟩
noncomputable def d_f__law_pick : DS := (seqS (asgS (tgN 2) (callE n_f__law_dip (consA (varE 0) (consA (un pyLen (varE 1)) nilA)))) (retS (subE (varE 1) (varE 2))))
abbrev n_f__law_odd : Nm := [4]
abbrev s_f__law_odd : Stmt := top 34
abbrev D_f__law_odd : DefM := ⟨.glo "_law_odd", "_law_odd", "_law_odd", s_f__law_odd⟩
noncomputable def d_f__law_odd : DS := (seqS (asgS (tgN 1) (lstE (consA (cstE .non) (consA (cstE (.bl true)) (consA (cstE (.bl false)) (consA (cstE (.int 0)) (consA (cstE (.int 1)) (consA (un pyNeg (cstE (.int 1))) (consA (cstE (.int 2)) (consA (bin pyPow (cstE (.int 10)) (cstE (.int 30))) (consA (cstE (.str [])) nilA))))))))))) (seqS (asgS (tgN 1) (bin pyAdd (varE 1) (lstE (consA (cstE (.str [97])) (consA (cstE (.str [97, 98])) (consA (cstE (.str [98, 97])) (consA (cstE (.str [97, 98, 99])) (consA (tupE nilA) (consA (tupE (consA (cstE (.str [97, 98])) nilA)) (consA (tupE (consA (cstE (.str [97, 98])) (consA (cstE (.int 1)) (consA (cstE (.int 2)) nilA)))) (consA (lstE (consA (cstE (.str [97, 98])) nilA)) (consA (lstE nilA) nilA)))))))))))) (retS (callE n_f__law_pick (consA (varE 0) (consA (bin pyAdd (varE 1) (lstE (consA (cstE (.dct [])) (consA (cstE (.dct [(.str [97, 98], .int 1)])) (consA (tupE (consA (cstE .non) (consA (cstE (.int 0)) nilA))) (consA (cstE (.str [97, 98, 10, 97, 98, 32, 49, 47, 50])) (consA (tupE (consA (tupE (consA (cstE (.str [97, 98])) (consA (cstE (.int 1)) (consA (cstE (.int 2)) nilA)))) nilA)) (consA (tupE (consA (cstE (.int 1)) (consA (cstE (.int 2)) nilA))) (consA (lstE (consA (lstE nilA) nilA)) (consA (tupE (consA (tupE nilA) nilA)) (consA (cstE (.str [65, 66])) nilA))))))))))) nilA))))))
abbrev n_f__law_by_place : Nm := [7]
abbrev s_f__law_by_place : Stmt := top 36
abbrev D_f__law_by_place : DefM := ⟨.glo "_law_by_place", "_law_by_place", "_law_by_place", s_f__law_by_place⟩
noncomputable def d_f__law_by_place : DS := (seqS (asgS (tgN 2) (lstE (consA (makeXE [73, 110, 118, 97, 108, 105, 100, 84, 101, 120, 116] [103, 105, 118, 101, 110] (varE 0)) (consA (makeXE [73, 110, 118, 97, 108, 105, 100, 81, 117, 101, 115, 116, 105, 111, 110, 115] [103, 105, 118, 101, 110] (varE 1)) (consA (makeXE [73, 110, 118, 97, 108, 105, 100, 80, 97, 105, 114] [103, 105, 118, 101, 110] (varE 0)) (consA (makeXE [73, 110, 118, 97, 108, 105, 100, 83, 104, 97, 114, 101] [103, 105, 118, 101, 110] (varE 1)) nilA)))))) (seqS (asgS (tgN 2) (bin pyAdd (varE 2) (lstE (consA (makeXE [73, 110, 118, 97, 108, 105, 100, 83, 112, 108, 105, 116] [103, 105, 118, 101, 110] (varE 0)) (consA (makeXE [73, 110, 118, 97, 108, 105, 100, 82, 105, 110, 103] [103, 105, 118, 101, 110] (varE 1)) (consA (makeXE [73, 110, 118, 97, 108, 105, 100, 76, 111, 116] [103, 105, 118, 101, 110] (varE 0)) (consA (makeXE [73, 110, 118, 97, 108, 105, 100, 66, 101, 116] [103, 105, 118, 101, 110] (varE 1)) nilA))))))) (seqS (asgS (tgN 2) (bin pyAdd (varE 2) (lstE (consA (makeXE [73, 110, 118, 97, 108, 105, 100, 78, 117, 109, 98, 101, 114] [103, 105, 118, 101, 110] (varE 0)) (consA (makeXE [73, 110, 118, 97, 108, 105, 100, 87, 105, 115, 104] [103, 105, 118, 101, 110] (varE 1)) (consA (makeXE [73, 110, 118, 97, 108, 105, 100, 67, 111, 109, 109, 97, 110, 100] [103, 105, 118, 101, 110] (varE 0)) (consA (makeXE [78, 111, 116, 65, 87, 101, 98] [103, 105, 118, 101, 110] (varE 1)) nilA))))))) (seqS (asgS (tgN 2) (bin pyAdd (varE 2) (lstE (consA (makeXE [73, 110, 118, 97, 108, 105, 100, 83, 104, 97, 114, 101, 115] [105, 110, 100, 101, 120] (varE 0)) (consA (makeXE [73, 110, 118, 97, 108, 105, 100, 67, 114, 111, 119, 100] [105, 110, 100, 101, 120] (varE 1)) (consA (makeXE [85, 110, 107, 110, 111, 119, 110, 81, 117, 101, 115, 116, 105, 111, 110] [103, 105, 118, 101, 110] (varE 0)) (consA (makeXE [85, 110, 107, 110, 111, 119, 110, 84, 105, 101] [103, 105, 118, 101, 110] (varE 1)) nilA))))))) (seqS (asgS (tgN 2) (bin pyAdd (varE 2) (lstE (consA (makeXE [84, 111, 111, 77, 97, 110, 121] [103, 105, 118, 101, 110] (varE 0)) (consA (makeXE [66, 114, 111, 107, 101, 110] [105, 110, 100, 101, 120] (varE 1)) nilA))))) (retS (varE 2)))))))
abbrev n_f__law_by_word : Nm := [8]
abbrev s_f__law_by_word : Stmt := top 37
abbrev D_f__law_by_word : DefM := ⟨.glo "_law_by_word", "_law_by_word", "_law_by_word", s_f__law_by_word⟩
noncomputable def d_f__law_by_word : DS := (seqS (asgS (tgN 2) (lstE (consA (makeXE [73, 110, 118, 97, 108, 105, 100, 84, 101, 120, 116] [103, 105, 118, 101, 110] (varE 0)) (consA (makeXE [73, 110, 118, 97, 108, 105, 100, 81, 117, 101, 115, 116, 105, 111, 110, 115] [103, 105, 118, 101, 110] (varE 1)) (consA (makeXE [73, 110, 118, 97, 108, 105, 100, 80, 97, 105, 114] [103, 105, 118, 101, 110] (varE 0)) nilA))))) (seqS (asgS (tgN 2) (bin pyAdd (varE 2) (lstE (consA (makeXE [73, 110, 118, 97, 108, 105, 100, 83, 104, 97, 114, 101] [103, 105, 118, 101, 110] (varE 1)) (consA (makeXE [73, 110, 118, 97, 108, 105, 100, 83, 112, 108, 105, 116] [103, 105, 118, 101, 110] (varE 0)) (consA (makeXE [73, 110, 118, 97, 108, 105, 100, 82, 105, 110, 103] [103, 105, 118, 101, 110] (varE 1)) nilA)))))) (seqS (asgS (tgN 2) (bin pyAdd (varE 2) (lstE (consA (makeXE [73, 110, 118, 97, 108, 105, 100, 76, 111, 116] [103, 105, 118, 101, 110] (varE 0)) (consA (makeXE [73, 110, 118, 97, 108, 105, 100, 66, 101, 116] [103, 105, 118, 101, 110] (varE 1)) (consA (makeXE [73, 110, 118, 97, 108, 105, 100, 78, 117, 109, 98, 101, 114] [103, 105, 118, 101, 110] (varE 0)) nilA)))))) (seqS (asgS (tgN 2) (bin pyAdd (varE 2) (lstE (consA (makeXE [73, 110, 118, 97, 108, 105, 100, 87, 105, 115, 104] [103, 105, 118, 101, 110] (varE 1)) (consA (makeXE [73, 110, 118, 97, 108, 105, 100, 67, 111, 109, 109, 97, 110, 100] [103, 105, 118, 101, 110] (varE 0)) (consA (makeXE [78, 111, 116, 65, 87, 101, 98] [103, 105, 118, 101, 110] (varE 1)) nilA)))))) (seqS (asgS (tgN 2) (bin pyAdd (varE 2) (lstE (consA (makeXE [73, 110, 118, 97, 108, 105, 100, 83, 104, 97, 114, 101, 115] [105, 110, 100, 101, 120] (varE 0)) (consA (makeXE [73, 110, 118, 97, 108, 105, 100, 67, 114, 111, 119, 100] [105, 110, 100, 101, 120] (varE 1)) (consA (makeXE [85, 110, 107, 110, 111, 119, 110, 81, 117, 101, 115, 116, 105, 111, 110] [103, 105, 118, 101, 110] (varE 0)) nilA)))))) (seqS (asgS (tgN 2) (bin pyAdd (varE 2) (lstE (consA (makeXE [85, 110, 107, 110, 111, 119, 110, 84, 105, 101] [103, 105, 118, 101, 110] (varE 1)) (consA (makeXE [84, 111, 111, 77, 97, 110, 121] [103, 105, 118, 101, 110] (varE 0)) (consA (makeXE [66, 114, 111, 107, 101, 110] [105, 110, 100, 101, 120] (varE 1)) nilA)))))) (retS (varE 2))))))))
abbrev n_f__law_sorts : Nm := [9]
abbrev s_f__law_sorts : Stmt := top 35
abbrev D_f__law_sorts : DefM := ⟨.glo "_law_sorts", "_law_sorts", "_law_sorts", s_f__law_sorts⟩
noncomputable def d_f__law_sorts : DS := (seqS (asgS (tgN 1) (lstE (consA (ixE xt_InvalidText (varE 0)) (consA (ixE xt_InvalidQuestions (varE 0)) (consA (ixE xt_InvalidPair (varE 0)) nilA))))) (seqS (asgS (tgN 1) (bin pyAdd (varE 1) (lstE (consA (ixE xt_InvalidShare (varE 0)) (consA (ixE xt_InvalidSplit (varE 0)) (consA (ixE xt_InvalidRing (varE 0)) nilA)))))) (seqS (asgS (tgN 1) (bin pyAdd (varE 1) (lstE (consA (ixE xt_InvalidLot (varE 0)) (consA (ixE xt_InvalidBet (varE 0)) (consA (ixE xt_InvalidNumber (varE 0)) nilA)))))) (seqS (asgS (tgN 1) (bin pyAdd (varE 1) (lstE (consA (ixE xt_InvalidWish (varE 0)) (consA (ixE xt_InvalidCommand (varE 0)) (consA (ixE xt_NotAWeb (varE 0)) nilA)))))) (seqS (asgS (tgN 1) (bin pyAdd (varE 1) (lstE (consA (ixE xt_InvalidShares (varE 0)) (consA (ixE xt_InvalidCrowd (varE 0)) nilA))))) (seqS (asgS (tgN 1) (bin pyAdd (varE 1) (lstE (consA (ixE xt_UnknownQuestion (varE 0)) nilA)))) (seqS (asgS (tgN 1) (bin pyAdd (varE 1) (lstE (consA (ixE xt_UnknownTie (varE 0)) (consA (ixE xt_TooMany (varE 0)) (consA (ixE xt_Broken (varE 0)) nilA)))))) (seqS (asgS (tgN 1) (bin pyAdd (varE 1) (lstE (consA (ixE xt_NoCrowd (varE 0)) (consA (ixE xt_NothingToUndo (varE 0)) nilA))))) (retS (varE 1))))))))))
abbrev n_f__law_kept : Nm := [10]
abbrev s_f__law_kept : Stmt := top 38
abbrev D_f__law_kept : DefM := ⟨.glo "_law_kept", "_law_kept", "_law_kept", s_f__law_kept⟩
noncomputable def d_f__law_kept : DS := (retS (iteE (bin (notD pyInB) (varE 1) (lstE (consA (cstE (.int 12)) (consA (cstE (.int 13)) (consA (cstE (.int 17)) nilA))))) (xvE [105, 110, 100, 101, 120] [[73, 110, 118, 97, 108, 105, 100, 83, 104, 97, 114, 101, 115], [73, 110, 118, 97, 108, 105, 100, 67, 114, 111, 119, 100], [66, 114, 111, 107, 101, 110]] (varE 0)) (xvE [103, 105, 118, 101, 110] [[73, 110, 118, 97, 108, 105, 100, 84, 101, 120, 116], [73, 110, 118, 97, 108, 105, 100, 81, 117, 101, 115, 116, 105, 111, 110, 115], [73, 110, 118, 97, 108, 105, 100, 80, 97, 105, 114], [73, 110, 118, 97, 108, 105, 100, 83, 104, 97, 114, 101], [73, 110, 118, 97, 108, 105, 100, 83, 112, 108, 105, 116], [73, 110, 118, 97, 108, 105, 100, 82, 105, 110, 103], [73, 110, 118, 97, 108, 105, 100, 76, 111, 116], [73, 110, 118, 97, 108, 105, 100, 66, 101, 116], [73, 110, 118, 97, 108, 105, 100, 78, 117, 109, 98, 101, 114], [73, 110, 118, 97, 108, 105, 100, 87, 105, 115, 104], [73, 110, 118, 97, 108, 105, 100, 67, 111, 109, 109, 97, 110, 100], [78, 111, 116, 65, 87, 101, 98], [85, 110, 107, 110, 111, 119, 110, 81, 117, 101, 115, 116, 105, 111, 110], [85, 110, 107, 110, 111, 119, 110, 84, 105, 101], [84, 111, 111, 77, 97, 110, 121]] (varE 0))))
abbrev n_f__law_right : Nm := [3]
abbrev s_f__law_right : Stmt := top 39
abbrev D_f__law_right : DefM := ⟨.glo "_law_right", "_law_right", "_law_right", s_f__law_right⟩
noncomputable def d_f__law_right : DS := (seqS (parS [(2, false), (3, false)] (consA (callE n_f__law_odd (consA (varE 0) nilA)) (consA (callE n_f__law_odd (consA (varE 0) nilA)) nilA))) (seqS (forS (itE (lstE (consA (callE n_f__law_by_place (consA (varE 2) (consA (varE 3) nilA))) (consA (callE n_f__law_by_word (consA (varE 2) (consA (varE 3) nilA))) nilA)))) (tgN 1) (seqS (asgS (tgN 1) (bin pyAdd (varE 1) (lstE (consA (makeX0E [78, 111, 67, 114, 111, 119, 100]) (consA (makeX0E [78, 111, 116, 104, 105, 110, 103, 84, 111, 85, 110, 100, 111]) nilA))))) (forS (rng1 (cstE (.int 20))) (tgN 4) (seqS (ifS (bin pyNe (callE n_f__law_sorts (consA (subE (varE 1) (varE 4)) nilA)) (lcE [7] (rng1 (cstE (.int 20))) (tgN 7) yesE (bin pyEq (varE 7) (varE 4)))) (retS (cstE (.bl false))) nextS) (seqS (asgS (tgN 5) (iteE (bin pyLt (varE 4) (cstE (.int 14))) (cstE (.int 0)) (iteE (bin pyLt (varE 4) (cstE (.int 16))) (cstE (.int 1)) (cstE (.int 2))))) (seqS (ifS (bin pyNe (callE n_f__law_bases (consA (subE (varE 1) (varE 4)) nilA)) (lcE [7] (rng1 (cstE (.int 3))) (tgN 7) yesE (bin pyEq (varE 7) (varE 5)))) (retS (cstE (.bl false))) nextS) (seqS (asgS (tgN 6) (iteE (bin pyEq (bin pyMod (un pyInt (varE 4)) (cstE (.int 2))) (cstE (.int 0))) (varE 2) (varE 3))) (ifS (andE (bin pyLt (varE 4) (cstE (.int 18))) (bin pyNeR (un pyReprS (callE n_f__law_kept (consA (subE (varE 1) (varE 4)) (consA (varE 4) nilA)))) (un pyReprS (varE 6)))) (retS (cstE (.bl false))) nextS)))))))) (retS (cstE (.bl true)))))
abbrev n_f__law_jar : Nm := [11]
abbrev s_f__law_jar : Stmt := top 30
abbrev D_f__law_jar : DefM := ⟨.glo "_law_jar", "_law_jar", "_law_jar", s_f__law_jar⟩
noncomputable def d_f__law_jar : DS := (seqS (asgS (tgN 2) (bin pyAdd (bin pyMul (bin pyMul (cstE (.int 7369)) (bin pyAdd (varE 1) (cstE (.int 5)))) (bin pyAdd (varE 1) (cstE (.int 2)))) (bin pyMul (cstE (.int 29)) (un pyLen (varE 0))))) (seqS (forS (itE (sliceE (varE 0) none (some (cstE (.int 4))))) (tgN 3) (asgS (tgN 2) (bin pyMod (un pyInt (bin pyAdd (bin pyMul (varE 2) (cstE (.int 733))) (varE 3))) (cstE (.int 1000000009))))) (seqS (asgS (tgN 4) (iteE (bin pyLt (varE 1) (un pyLen (varE 0))) (subE (varE 0) (varE 1)) (cstE (.int 0)))) (seqS (asgS (tgN 5) (iteE (orE (bin pyLt (varE 4) (cstE (.int 0))) (bin pyGe (varE 4) (bin pyPow (cstE (.int 10)) (cstE (.int 18))))) (un pyAbs (varE 4)) (cstE (.int 0)))) (retS (newE (consA (varE 5) (consA (bin pyMod (un pyInt (bin pyAdd (bin pyAdd (bin pyMul (varE 2) (cstE (.int 8117))) (bin pyMul (varE 4) (cstE (.int 64013)))) (bin pyMul (cstE (.int 105019)) (bin pyAdd (varE 1) (cstE (.int 1)))))) (cstE (.int 2147483563))) (consA (cstE (.int 0)) nilA)))))))))
abbrev n_f_law : Nm := [1]
abbrev s_f_law : Stmt := top 40
abbrev D_f_law : DefM := ⟨.glo "law", "law", "law", s_f_law⟩
noncomputable def d_f_law : DS := (seqS (ifS (bin pyNe (lstE (consA (cstE (.int 2)) (consA (cstE (.int 6)) (consA (cstE (.int 1000)) (consA (cstE (.int 5)) (consA (cstE (.int 10)) nilA)))))) (lstE (consA (cstE (.int 2)) (consA (cstE (.int 6)) (consA (cstE (.int 1000)) (consA (cstE (.int 5)) (consA (cstE (.int 10)) nilA))))))) (retS (cstE (.bl false))) nextS) (seqS (asgS (tgN 1) (lstE (consA (makeX0E [87, 114, 111, 110, 103, 86, 97, 108, 117, 101]) (consA (makeX0E [87, 114, 111, 110, 103, 78, 97, 109, 101]) (consA (makeX0E [78, 111, 116, 80, 111, 115, 115, 105, 98, 108, 101]) nilA))))) (seqS (ifS (bin pyNe (lcE [2] (itE (varE 1)) (tgN 2) yesE (callE n_f__law_bases (consA (varE 2) nilA))) (lstE (consA (lstE (consA (cstE (.bl true)) (consA (cstE (.bl false)) (consA (cstE (.bl false)) nilA)))) (consA (lstE (consA (cstE (.bl false)) (consA (cstE (.bl true)) (consA (cstE (.bl false)) nilA)))) (consA (lstE (consA (cstE (.bl false)) (consA (cstE (.bl false)) (consA (cstE (.bl true)) nilA)))) nilA))))) (retS (cstE (.bl false))) nextS) (retS (un pyAll (lcE [3] (rng1 (bin pyMax2 (cstE (.int 2)) (bin pyMin2 (un pyLen (varE 0)) (cstE (.int 4))))) (tgN 3) yesE (callE n_f__law_right (consA (callE n_f__law_jar (consA (varE 0) (consA (varE 3) nilA))) nilA))))))))
abbrev s_x_InvalidText : Stmt := clsStmt (top 2) 0
abbrev D_x_InvalidText : DefM := ⟨.met "InvalidText" "__init__", "__init__", "InvalidText.__init__", s_x_InvalidText⟩
abbrev s_x_InvalidQuestions : Stmt := clsStmt (top 3) 0
abbrev D_x_InvalidQuestions : DefM := ⟨.met "InvalidQuestions" "__init__", "__init__", "InvalidQuestions.__init__", s_x_InvalidQuestions⟩
abbrev s_x_InvalidPair : Stmt := clsStmt (top 4) 0
abbrev D_x_InvalidPair : DefM := ⟨.met "InvalidPair" "__init__", "__init__", "InvalidPair.__init__", s_x_InvalidPair⟩
abbrev s_x_InvalidShare : Stmt := clsStmt (top 5) 0
abbrev D_x_InvalidShare : DefM := ⟨.met "InvalidShare" "__init__", "__init__", "InvalidShare.__init__", s_x_InvalidShare⟩
abbrev s_x_InvalidSplit : Stmt := clsStmt (top 6) 0
abbrev D_x_InvalidSplit : DefM := ⟨.met "InvalidSplit" "__init__", "__init__", "InvalidSplit.__init__", s_x_InvalidSplit⟩
abbrev s_x_InvalidRing : Stmt := clsStmt (top 7) 0
abbrev D_x_InvalidRing : DefM := ⟨.met "InvalidRing" "__init__", "__init__", "InvalidRing.__init__", s_x_InvalidRing⟩
abbrev s_x_InvalidLot : Stmt := clsStmt (top 8) 0
abbrev D_x_InvalidLot : DefM := ⟨.met "InvalidLot" "__init__", "__init__", "InvalidLot.__init__", s_x_InvalidLot⟩
abbrev s_x_InvalidBet : Stmt := clsStmt (top 9) 0
abbrev D_x_InvalidBet : DefM := ⟨.met "InvalidBet" "__init__", "__init__", "InvalidBet.__init__", s_x_InvalidBet⟩
abbrev s_x_InvalidNumber : Stmt := clsStmt (top 10) 0
abbrev D_x_InvalidNumber : DefM := ⟨.met "InvalidNumber" "__init__", "__init__", "InvalidNumber.__init__", s_x_InvalidNumber⟩
abbrev s_x_InvalidWish : Stmt := clsStmt (top 11) 0
abbrev D_x_InvalidWish : DefM := ⟨.met "InvalidWish" "__init__", "__init__", "InvalidWish.__init__", s_x_InvalidWish⟩
abbrev s_x_InvalidCommand : Stmt := clsStmt (top 12) 0
abbrev D_x_InvalidCommand : DefM := ⟨.met "InvalidCommand" "__init__", "__init__", "InvalidCommand.__init__", s_x_InvalidCommand⟩
abbrev s_x_NotAWeb : Stmt := clsStmt (top 13) 0
abbrev D_x_NotAWeb : DefM := ⟨.met "NotAWeb" "__init__", "__init__", "NotAWeb.__init__", s_x_NotAWeb⟩
abbrev s_x_InvalidShares : Stmt := clsStmt (top 14) 0
abbrev D_x_InvalidShares : DefM := ⟨.met "InvalidShares" "__init__", "__init__", "InvalidShares.__init__", s_x_InvalidShares⟩
abbrev s_x_InvalidCrowd : Stmt := clsStmt (top 15) 0
abbrev D_x_InvalidCrowd : DefM := ⟨.met "InvalidCrowd" "__init__", "__init__", "InvalidCrowd.__init__", s_x_InvalidCrowd⟩
abbrev s_x_UnknownQuestion : Stmt := clsStmt (top 17) 0
abbrev D_x_UnknownQuestion : DefM := ⟨.met "UnknownQuestion" "__init__", "__init__", "UnknownQuestion.__init__", s_x_UnknownQuestion⟩
abbrev s_x_UnknownTie : Stmt := clsStmt (top 18) 0
abbrev D_x_UnknownTie : DefM := ⟨.met "UnknownTie" "__init__", "__init__", "UnknownTie.__init__", s_x_UnknownTie⟩
abbrev s_x_TooMany : Stmt := clsStmt (top 21) 0
abbrev D_x_TooMany : DefM := ⟨.met "TooMany" "__init__", "__init__", "TooMany.__init__", s_x_TooMany⟩
abbrev s_x_Broken : Stmt := clsStmt (top 23) 0
abbrev D_x_Broken : DefM := ⟨.met "Broken" "__init__", "__init__", "Broken.__init__", s_x_Broken⟩
noncomputable def T : Tab := fun f => ([
  (n_f__law_bases, ⟨1, 2, none, d_f__law_bases⟩),
  (n_f__law_dip, ⟨2, 4, none, d_f__law_dip⟩),
  (n_f__law_pick, ⟨2, 3, none, d_f__law_pick⟩),
  (n_f__law_odd, ⟨1, 2, none, d_f__law_odd⟩),
  (n_f__law_by_place, ⟨2, 3, none, d_f__law_by_place⟩),
  (n_f__law_by_word, ⟨2, 3, none, d_f__law_by_word⟩),
  (n_f__law_sorts, ⟨1, 2, none, d_f__law_sorts⟩),
  (n_f__law_kept, ⟨2, 2, none, d_f__law_kept⟩),
  (n_f__law_right, ⟨1, 8, none, d_f__law_right⟩),
  (n_f__law_jar, ⟨2, 6, none, d_f__law_jar⟩),
  (n_f_law, ⟨1, 4, none, d_f_law⟩)] : List (Nm × Fn)).lookup f
end My
namespace My
open PySem PySem.Spec PyProof.Rows L2
def fb : List Fb := [.a (.glo "_law_bases"), .a (.glo "_law_dip"), .a (.glo "_law_pick"), .a (.glo "_law_odd"), .a (.glo "_law_by_place"), .a (.glo "_law_by_word"), .a (.glo "_law_sorts"), .a (.glo "_law_kept"), .a (.glo "_law_right"), .a (.glo "_law_jar"), .a (.glo "law"), .a (.glo "Broken"), .a (.glo "InvalidBet"), .a (.glo "InvalidCommand"), .a (.glo "InvalidCrowd"), .a (.glo "InvalidLot"), .a (.glo "InvalidNumber"), .a (.glo "InvalidPair"), .a (.glo "InvalidQuestions"), .a (.glo "InvalidRing"), .a (.glo "InvalidShare"), .a (.glo "InvalidShares"), .a (.glo "InvalidSplit"), .a (.glo "InvalidText"), .a (.glo "InvalidWish"), .a (.glo "NoCrowd"), .a (.glo "NotAWeb"), .a (.glo "NotPossible"), .a (.glo "NothingToUndo"), .a (.glo "TooMany"), .a (.glo "UnknownQuestion"), .a (.glo "UnknownTie"), .a (.glo "WrongName"), .a (.glo "WrongValue"), .a (.free "ArithmeticError"), .a (.free "LookupError"), .a (.free "ValueError"), .a (.free "abs"), .a (.free "all"), .a (.free "int"), .a (.free "isinstance"), .a (.free "len"), .a (.free "max"), .a (.free "min"), .a (.free "range"), .a (.free "repr"), .a (.int "LEAST_QUESTIONS" 2), .a (.int "LOTS" 5), .a (.int "MOST_OF" 1000), .a (.int "MOST_QUESTIONS" 6), .a (.int "MOST_TIES" 10), .chk (fun K => oxB K "InvalidText" (sN [103, 105, 118, 101, 110]) veM "ValueError.__new__"), .chk (fun K => oxB K "InvalidQuestions" (sN [103, 105, 118, 101, 110]) veM "ValueError.__new__"), .chk (fun K => oxB K "InvalidPair" (sN [103, 105, 118, 101, 110]) veM "ValueError.__new__"), .chk (fun K => oxB K "InvalidShare" (sN [103, 105, 118, 101, 110]) veM "ValueError.__new__"), .chk (fun K => oxB K "InvalidSplit" (sN [103, 105, 118, 101, 110]) veM "ValueError.__new__"), .chk (fun K => oxB K "InvalidRing" (sN [103, 105, 118, 101, 110]) veM "ValueError.__new__"), .chk (fun K => oxB K "InvalidLot" (sN [103, 105, 118, 101, 110]) veM "ValueError.__new__"), .chk (fun K => oxB K "InvalidBet" (sN [103, 105, 118, 101, 110]) veM "ValueError.__new__"), .chk (fun K => oxB K "InvalidNumber" (sN [103, 105, 118, 101, 110]) veM "ValueError.__new__"), .chk (fun K => oxB K "InvalidWish" (sN [103, 105, 118, 101, 110]) veM "ValueError.__new__"), .chk (fun K => oxB K "InvalidCommand" (sN [103, 105, 118, 101, 110]) veM "ValueError.__new__"), .chk (fun K => oxB K "NotAWeb" (sN [103, 105, 118, 101, 110]) veM "ValueError.__new__"), .chk (fun K => oxB K "InvalidShares" (sN [105, 110, 100, 101, 120]) veM "ValueError.__new__"), .chk (fun K => oxB K "InvalidCrowd" (sN [105, 110, 100, 101, 120]) veM "ValueError.__new__"), .chk (fun K => oxB K "UnknownQuestion" (sN [103, 105, 118, 101, 110]) leM "LookupError.__new__"), .chk (fun K => oxB K "UnknownTie" (sN [103, 105, 118, 101, 110]) leM "LookupError.__new__"), .chk (fun K => oxB K "TooMany" (sN [103, 105, 118, 101, 110]) aeM "ArithmeticError.__new__"), .chk (fun K => oxB K "Broken" (sN [105, 110, 100, 101, 120]) aeM "ArithmeticError.__new__"), .chk (fun K => (PySem.W.excIn K (He.ga K (sN [78, 111, 67, 114, 111, 119, 100])) aeM "ArithmeticError.__new__" && (PySem.W.keepIn K (.ref (He.ga K (sN [78, 111, 67, 114, 111, 119, 100]))) && (decide (PySem.W.subIn K (.ref (He.ga K (sN [78, 111, 67, 114, 111, 119, 100]))) (.type "BaseException") = some true) && decide (PySem.W.typeIn K (.ref (He.ga K (sN [78, 111, 67, 114, 111, 119, 100]))) = some (.type "type")))))), .chk (fun K => (PySem.W.excIn K (He.ga K (sN [78, 111, 116, 80, 111, 115, 115, 105, 98, 108, 101])) aeM "ArithmeticError.__new__" && (PySem.W.keepIn K (.ref (He.ga K (sN [78, 111, 116, 80, 111, 115, 115, 105, 98, 108, 101]))) && (decide (PySem.W.subIn K (.ref (He.ga K (sN [78, 111, 116, 80, 111, 115, 115, 105, 98, 108, 101]))) (.type "BaseException") = some true) && decide (PySem.W.typeIn K (.ref (He.ga K (sN [78, 111, 116, 80, 111, 115, 115, 105, 98, 108, 101]))) = some (.type "type")))))), .chk (fun K => (PySem.W.excIn K (He.ga K (sN [78, 111, 116, 104, 105, 110, 103, 84, 111, 85, 110, 100, 111])) aeM "ArithmeticError.__new__" && (PySem.W.keepIn K (.ref (He.ga K (sN [78, 111, 116, 104, 105, 110, 103, 84, 111, 85, 110, 100, 111]))) && (decide (PySem.W.subIn K (.ref (He.ga K (sN [78, 111, 116, 104, 105, 110, 103, 84, 111, 85, 110, 100, 111]))) (.type "BaseException") = some true) && decide (PySem.W.typeIn K (.ref (He.ga K (sN [78, 111, 116, 104, 105, 110, 103, 84, 111, 85, 110, 100, 111]))) = some (.type "type")))))), .chk (fun K => (PySem.W.excIn K (He.ga K (sN [87, 114, 111, 110, 103, 78, 97, 109, 101])) leM "LookupError.__new__" && (PySem.W.keepIn K (.ref (He.ga K (sN [87, 114, 111, 110, 103, 78, 97, 109, 101]))) && (decide (PySem.W.subIn K (.ref (He.ga K (sN [87, 114, 111, 110, 103, 78, 97, 109, 101]))) (.type "BaseException") = some true) && decide (PySem.W.typeIn K (.ref (He.ga K (sN [87, 114, 111, 110, 103, 78, 97, 109, 101]))) = some (.type "type")))))), .chk (fun K => (PySem.W.excIn K (He.ga K (sN [87, 114, 111, 110, 103, 86, 97, 108, 117, 101])) veM "ValueError.__new__" && (PySem.W.keepIn K (.ref (He.ga K (sN [87, 114, 111, 110, 103, 86, 97, 108, 117, 101]))) && (decide (PySem.W.subIn K (.ref (He.ga K (sN [87, 114, 111, 110, 103, 86, 97, 108, 117, 101]))) (.type "BaseException") = some true) && decide (PySem.W.typeIn K (.ref (He.ga K (sN [87, 114, 111, 110, 103, 86, 97, 108, 117, 101]))) = some (.type "type")))))), .chk (fun K => xiB K (.type "ArithmeticError") [([87, 114, 111, 110, 103, 86, 97, 108, 117, 101], false), ([73, 110, 118, 97, 108, 105, 100, 84, 101, 120, 116], false), ([73, 110, 118, 97, 108, 105, 100, 81, 117, 101, 115, 116, 105, 111, 110, 115], false), ([73, 110, 118, 97, 108, 105, 100, 80, 97, 105, 114], false), ([73, 110, 118, 97, 108, 105, 100, 83, 104, 97, 114, 101], false), ([73, 110, 118, 97, 108, 105, 100, 83, 112, 108, 105, 116], false), ([73, 110, 118, 97, 108, 105, 100, 82, 105, 110, 103], false), ([73, 110, 118, 97, 108, 105, 100, 76, 111, 116], false), ([73, 110, 118, 97, 108, 105, 100, 66, 101, 116], false), ([73, 110, 118, 97, 108, 105, 100, 78, 117, 109, 98, 101, 114], false), ([73, 110, 118, 97, 108, 105, 100, 87, 105, 115, 104], false), ([73, 110, 118, 97, 108, 105, 100, 67, 111, 109, 109, 97, 110, 100], false), ([78, 111, 116, 65, 87, 101, 98], false), ([73, 110, 118, 97, 108, 105, 100, 83, 104, 97, 114, 101, 115], false), ([73, 110, 118, 97, 108, 105, 100, 67, 114, 111, 119, 100], false), ([87, 114, 111, 110, 103, 78, 97, 109, 101], false), ([85, 110, 107, 110, 111, 119, 110, 81, 117, 101, 115, 116, 105, 111, 110], false), ([85, 110, 107, 110, 111, 119, 110, 84, 105, 101], false), ([78, 111, 116, 80, 111, 115, 115, 105, 98, 108, 101], true), ([78, 111, 116, 104, 105, 110, 103, 84, 111, 85, 110, 100, 111], true), ([84, 111, 111, 77, 97, 110, 121], true), ([78, 111, 67, 114, 111, 119, 100], true), ([66, 114, 111, 107, 101, 110], true)]), .chk (fun K => xiB K (.ref (He.ga K "Broken")) [([87, 114, 111, 110, 103, 86, 97, 108, 117, 101], false), ([73, 110, 118, 97, 108, 105, 100, 84, 101, 120, 116], false), ([73, 110, 118, 97, 108, 105, 100, 81, 117, 101, 115, 116, 105, 111, 110, 115], false), ([73, 110, 118, 97, 108, 105, 100, 80, 97, 105, 114], false), ([73, 110, 118, 97, 108, 105, 100, 83, 104, 97, 114, 101], false), ([73, 110, 118, 97, 108, 105, 100, 83, 112, 108, 105, 116], false), ([73, 110, 118, 97, 108, 105, 100, 82, 105, 110, 103], false), ([73, 110, 118, 97, 108, 105, 100, 76, 111, 116], false), ([73, 110, 118, 97, 108, 105, 100, 66, 101, 116], false), ([73, 110, 118, 97, 108, 105, 100, 78, 117, 109, 98, 101, 114], false), ([73, 110, 118, 97, 108, 105, 100, 87, 105, 115, 104], false), ([73, 110, 118, 97, 108, 105, 100, 67, 111, 109, 109, 97, 110, 100], false), ([78, 111, 116, 65, 87, 101, 98], false), ([73, 110, 118, 97, 108, 105, 100, 83, 104, 97, 114, 101, 115], false), ([73, 110, 118, 97, 108, 105, 100, 67, 114, 111, 119, 100], false), ([87, 114, 111, 110, 103, 78, 97, 109, 101], false), ([85, 110, 107, 110, 111, 119, 110, 81, 117, 101, 115, 116, 105, 111, 110], false), ([85, 110, 107, 110, 111, 119, 110, 84, 105, 101], false), ([78, 111, 116, 80, 111, 115, 115, 105, 98, 108, 101], false), ([78, 111, 116, 104, 105, 110, 103, 84, 111, 85, 110, 100, 111], false), ([84, 111, 111, 77, 97, 110, 121], false), ([78, 111, 67, 114, 111, 119, 100], false), ([66, 114, 111, 107, 101, 110], true)]), .chk (fun K => xiB K (.ref (He.ga K "InvalidBet")) [([87, 114, 111, 110, 103, 86, 97, 108, 117, 101], false), ([73, 110, 118, 97, 108, 105, 100, 84, 101, 120, 116], false), ([73, 110, 118, 97, 108, 105, 100, 81, 117, 101, 115, 116, 105, 111, 110, 115], false), ([73, 110, 118, 97, 108, 105, 100, 80, 97, 105, 114], false), ([73, 110, 118, 97, 108, 105, 100, 83, 104, 97, 114, 101], false), ([73, 110, 118, 97, 108, 105, 100, 83, 112, 108, 105, 116], false), ([73, 110, 118, 97, 108, 105, 100, 82, 105, 110, 103], false), ([73, 110, 118, 97, 108, 105, 100, 76, 111, 116], false), ([73, 110, 118, 97, 108, 105, 100, 66, 101, 116], true), ([73, 110, 118, 97, 108, 105, 100, 78, 117, 109, 98, 101, 114], false), ([73, 110, 118, 97, 108, 105, 100, 87, 105, 115, 104], false), ([73, 110, 118, 97, 108, 105, 100, 67, 111, 109, 109, 97, 110, 100], false), ([78, 111, 116, 65, 87, 101, 98], false), ([73, 110, 118, 97, 108, 105, 100, 83, 104, 97, 114, 101, 115], false), ([73, 110, 118, 97, 108, 105, 100, 67, 114, 111, 119, 100], false), ([87, 114, 111, 110, 103, 78, 97, 109, 101], false), ([85, 110, 107, 110, 111, 119, 110, 81, 117, 101, 115, 116, 105, 111, 110], false), ([85, 110, 107, 110, 111, 119, 110, 84, 105, 101], false), ([78, 111, 116, 80, 111, 115, 115, 105, 98, 108, 101], false), ([78, 111, 116, 104, 105, 110, 103, 84, 111, 85, 110, 100, 111], false), ([84, 111, 111, 77, 97, 110, 121], false), ([78, 111, 67, 114, 111, 119, 100], false), ([66, 114, 111, 107, 101, 110], false)]), .chk (fun K => xiB K (.ref (He.ga K "InvalidCommand")) [([87, 114, 111, 110, 103, 86, 97, 108, 117, 101], false), ([73, 110, 118, 97, 108, 105, 100, 84, 101, 120, 116], false), ([73, 110, 118, 97, 108, 105, 100, 81, 117, 101, 115, 116, 105, 111, 110, 115], false), ([73, 110, 118, 97, 108, 105, 100, 80, 97, 105, 114], false), ([73, 110, 118, 97, 108, 105, 100, 83, 104, 97, 114, 101], false), ([73, 110, 118, 97, 108, 105, 100, 83, 112, 108, 105, 116], false), ([73, 110, 118, 97, 108, 105, 100, 82, 105, 110, 103], false), ([73, 110, 118, 97, 108, 105, 100, 76, 111, 116], false), ([73, 110, 118, 97, 108, 105, 100, 66, 101, 116], false), ([73, 110, 118, 97, 108, 105, 100, 78, 117, 109, 98, 101, 114], false), ([73, 110, 118, 97, 108, 105, 100, 87, 105, 115, 104], false), ([73, 110, 118, 97, 108, 105, 100, 67, 111, 109, 109, 97, 110, 100], true), ([78, 111, 116, 65, 87, 101, 98], false), ([73, 110, 118, 97, 108, 105, 100, 83, 104, 97, 114, 101, 115], false), ([73, 110, 118, 97, 108, 105, 100, 67, 114, 111, 119, 100], false), ([87, 114, 111, 110, 103, 78, 97, 109, 101], false), ([85, 110, 107, 110, 111, 119, 110, 81, 117, 101, 115, 116, 105, 111, 110], false), ([85, 110, 107, 110, 111, 119, 110, 84, 105, 101], false), ([78, 111, 116, 80, 111, 115, 115, 105, 98, 108, 101], false), ([78, 111, 116, 104, 105, 110, 103, 84, 111, 85, 110, 100, 111], false), ([84, 111, 111, 77, 97, 110, 121], false), ([78, 111, 67, 114, 111, 119, 100], false), ([66, 114, 111, 107, 101, 110], false)]), .chk (fun K => xiB K (.ref (He.ga K "InvalidCrowd")) [([87, 114, 111, 110, 103, 86, 97, 108, 117, 101], false), ([73, 110, 118, 97, 108, 105, 100, 84, 101, 120, 116], false), ([73, 110, 118, 97, 108, 105, 100, 81, 117, 101, 115, 116, 105, 111, 110, 115], false), ([73, 110, 118, 97, 108, 105, 100, 80, 97, 105, 114], false), ([73, 110, 118, 97, 108, 105, 100, 83, 104, 97, 114, 101], false), ([73, 110, 118, 97, 108, 105, 100, 83, 112, 108, 105, 116], false), ([73, 110, 118, 97, 108, 105, 100, 82, 105, 110, 103], false), ([73, 110, 118, 97, 108, 105, 100, 76, 111, 116], false), ([73, 110, 118, 97, 108, 105, 100, 66, 101, 116], false), ([73, 110, 118, 97, 108, 105, 100, 78, 117, 109, 98, 101, 114], false), ([73, 110, 118, 97, 108, 105, 100, 87, 105, 115, 104], false), ([73, 110, 118, 97, 108, 105, 100, 67, 111, 109, 109, 97, 110, 100], false), ([78, 111, 116, 65, 87, 101, 98], false), ([73, 110, 118, 97, 108, 105, 100, 83, 104, 97, 114, 101, 115], false), ([73, 110, 118, 97, 108, 105, 100, 67, 114, 111, 119, 100], true), ([87, 114, 111, 110, 103, 78, 97, 109, 101], false), ([85, 110, 107, 110, 111, 119, 110, 81, 117, 101, 115, 116, 105, 111, 110], false), ([85, 110, 107, 110, 111, 119, 110, 84, 105, 101], false), ([78, 111, 116, 80, 111, 115, 115, 105, 98, 108, 101], false), ([78, 111, 116, 104, 105, 110, 103, 84, 111, 85, 110, 100, 111], false), ([84, 111, 111, 77, 97, 110, 121], false), ([78, 111, 67, 114, 111, 119, 100], false), ([66, 114, 111, 107, 101, 110], false)]), .chk (fun K => xiB K (.ref (He.ga K "InvalidLot")) [([87, 114, 111, 110, 103, 86, 97, 108, 117, 101], false), ([73, 110, 118, 97, 108, 105, 100, 84, 101, 120, 116], false), ([73, 110, 118, 97, 108, 105, 100, 81, 117, 101, 115, 116, 105, 111, 110, 115], false), ([73, 110, 118, 97, 108, 105, 100, 80, 97, 105, 114], false), ([73, 110, 118, 97, 108, 105, 100, 83, 104, 97, 114, 101], false), ([73, 110, 118, 97, 108, 105, 100, 83, 112, 108, 105, 116], false), ([73, 110, 118, 97, 108, 105, 100, 82, 105, 110, 103], false), ([73, 110, 118, 97, 108, 105, 100, 76, 111, 116], true), ([73, 110, 118, 97, 108, 105, 100, 66, 101, 116], false), ([73, 110, 118, 97, 108, 105, 100, 78, 117, 109, 98, 101, 114], false), ([73, 110, 118, 97, 108, 105, 100, 87, 105, 115, 104], false), ([73, 110, 118, 97, 108, 105, 100, 67, 111, 109, 109, 97, 110, 100], false), ([78, 111, 116, 65, 87, 101, 98], false), ([73, 110, 118, 97, 108, 105, 100, 83, 104, 97, 114, 101, 115], false), ([73, 110, 118, 97, 108, 105, 100, 67, 114, 111, 119, 100], false), ([87, 114, 111, 110, 103, 78, 97, 109, 101], false), ([85, 110, 107, 110, 111, 119, 110, 81, 117, 101, 115, 116, 105, 111, 110], false), ([85, 110, 107, 110, 111, 119, 110, 84, 105, 101], false), ([78, 111, 116, 80, 111, 115, 115, 105, 98, 108, 101], false), ([78, 111, 116, 104, 105, 110, 103, 84, 111, 85, 110, 100, 111], false), ([84, 111, 111, 77, 97, 110, 121], false), ([78, 111, 67, 114, 111, 119, 100], false), ([66, 114, 111, 107, 101, 110], false)]), .chk (fun K => xiB K (.ref (He.ga K "InvalidNumber")) [([87, 114, 111, 110, 103, 86, 97, 108, 117, 101], false), ([73, 110, 118, 97, 108, 105, 100, 84, 101, 120, 116], false), ([73, 110, 118, 97, 108, 105, 100, 81, 117, 101, 115, 116, 105, 111, 110, 115], false), ([73, 110, 118, 97, 108, 105, 100, 80, 97, 105, 114], false), ([73, 110, 118, 97, 108, 105, 100, 83, 104, 97, 114, 101], false), ([73, 110, 118, 97, 108, 105, 100, 83, 112, 108, 105, 116], false), ([73, 110, 118, 97, 108, 105, 100, 82, 105, 110, 103], false), ([73, 110, 118, 97, 108, 105, 100, 76, 111, 116], false), ([73, 110, 118, 97, 108, 105, 100, 66, 101, 116], false), ([73, 110, 118, 97, 108, 105, 100, 78, 117, 109, 98, 101, 114], true), ([73, 110, 118, 97, 108, 105, 100, 87, 105, 115, 104], false), ([73, 110, 118, 97, 108, 105, 100, 67, 111, 109, 109, 97, 110, 100], false), ([78, 111, 116, 65, 87, 101, 98], false), ([73, 110, 118, 97, 108, 105, 100, 83, 104, 97, 114, 101, 115], false), ([73, 110, 118, 97, 108, 105, 100, 67, 114, 111, 119, 100], false), ([87, 114, 111, 110, 103, 78, 97, 109, 101], false), ([85, 110, 107, 110, 111, 119, 110, 81, 117, 101, 115, 116, 105, 111, 110], false), ([85, 110, 107, 110, 111, 119, 110, 84, 105, 101], false), ([78, 111, 116, 80, 111, 115, 115, 105, 98, 108, 101], false), ([78, 111, 116, 104, 105, 110, 103, 84, 111, 85, 110, 100, 111], false), ([84, 111, 111, 77, 97, 110, 121], false), ([78, 111, 67, 114, 111, 119, 100], false), ([66, 114, 111, 107, 101, 110], false)]), .chk (fun K => xiB K (.ref (He.ga K "InvalidPair")) [([87, 114, 111, 110, 103, 86, 97, 108, 117, 101], false), ([73, 110, 118, 97, 108, 105, 100, 84, 101, 120, 116], false), ([73, 110, 118, 97, 108, 105, 100, 81, 117, 101, 115, 116, 105, 111, 110, 115], false), ([73, 110, 118, 97, 108, 105, 100, 80, 97, 105, 114], true), ([73, 110, 118, 97, 108, 105, 100, 83, 104, 97, 114, 101], false), ([73, 110, 118, 97, 108, 105, 100, 83, 112, 108, 105, 116], false), ([73, 110, 118, 97, 108, 105, 100, 82, 105, 110, 103], false), ([73, 110, 118, 97, 108, 105, 100, 76, 111, 116], false), ([73, 110, 118, 97, 108, 105, 100, 66, 101, 116], false), ([73, 110, 118, 97, 108, 105, 100, 78, 117, 109, 98, 101, 114], false), ([73, 110, 118, 97, 108, 105, 100, 87, 105, 115, 104], false), ([73, 110, 118, 97, 108, 105, 100, 67, 111, 109, 109, 97, 110, 100], false), ([78, 111, 116, 65, 87, 101, 98], false), ([73, 110, 118, 97, 108, 105, 100, 83, 104, 97, 114, 101, 115], false), ([73, 110, 118, 97, 108, 105, 100, 67, 114, 111, 119, 100], false), ([87, 114, 111, 110, 103, 78, 97, 109, 101], false), ([85, 110, 107, 110, 111, 119, 110, 81, 117, 101, 115, 116, 105, 111, 110], false), ([85, 110, 107, 110, 111, 119, 110, 84, 105, 101], false), ([78, 111, 116, 80, 111, 115, 115, 105, 98, 108, 101], false), ([78, 111, 116, 104, 105, 110, 103, 84, 111, 85, 110, 100, 111], false), ([84, 111, 111, 77, 97, 110, 121], false), ([78, 111, 67, 114, 111, 119, 100], false), ([66, 114, 111, 107, 101, 110], false)]), .chk (fun K => xiB K (.ref (He.ga K "InvalidQuestions")) [([87, 114, 111, 110, 103, 86, 97, 108, 117, 101], false), ([73, 110, 118, 97, 108, 105, 100, 84, 101, 120, 116], false), ([73, 110, 118, 97, 108, 105, 100, 81, 117, 101, 115, 116, 105, 111, 110, 115], true), ([73, 110, 118, 97, 108, 105, 100, 80, 97, 105, 114], false), ([73, 110, 118, 97, 108, 105, 100, 83, 104, 97, 114, 101], false), ([73, 110, 118, 97, 108, 105, 100, 83, 112, 108, 105, 116], false), ([73, 110, 118, 97, 108, 105, 100, 82, 105, 110, 103], false), ([73, 110, 118, 97, 108, 105, 100, 76, 111, 116], false), ([73, 110, 118, 97, 108, 105, 100, 66, 101, 116], false), ([73, 110, 118, 97, 108, 105, 100, 78, 117, 109, 98, 101, 114], false), ([73, 110, 118, 97, 108, 105, 100, 87, 105, 115, 104], false), ([73, 110, 118, 97, 108, 105, 100, 67, 111, 109, 109, 97, 110, 100], false), ([78, 111, 116, 65, 87, 101, 98], false), ([73, 110, 118, 97, 108, 105, 100, 83, 104, 97, 114, 101, 115], false), ([73, 110, 118, 97, 108, 105, 100, 67, 114, 111, 119, 100], false), ([87, 114, 111, 110, 103, 78, 97, 109, 101], false), ([85, 110, 107, 110, 111, 119, 110, 81, 117, 101, 115, 116, 105, 111, 110], false), ([85, 110, 107, 110, 111, 119, 110, 84, 105, 101], false), ([78, 111, 116, 80, 111, 115, 115, 105, 98, 108, 101], false), ([78, 111, 116, 104, 105, 110, 103, 84, 111, 85, 110, 100, 111], false), ([84, 111, 111, 77, 97, 110, 121], false), ([78, 111, 67, 114, 111, 119, 100], false), ([66, 114, 111, 107, 101, 110], false)]), .chk (fun K => xiB K (.ref (He.ga K "InvalidRing")) [([87, 114, 111, 110, 103, 86, 97, 108, 117, 101], false), ([73, 110, 118, 97, 108, 105, 100, 84, 101, 120, 116], false), ([73, 110, 118, 97, 108, 105, 100, 81, 117, 101, 115, 116, 105, 111, 110, 115], false), ([73, 110, 118, 97, 108, 105, 100, 80, 97, 105, 114], false), ([73, 110, 118, 97, 108, 105, 100, 83, 104, 97, 114, 101], false), ([73, 110, 118, 97, 108, 105, 100, 83, 112, 108, 105, 116], false), ([73, 110, 118, 97, 108, 105, 100, 82, 105, 110, 103], true), ([73, 110, 118, 97, 108, 105, 100, 76, 111, 116], false), ([73, 110, 118, 97, 108, 105, 100, 66, 101, 116], false), ([73, 110, 118, 97, 108, 105, 100, 78, 117, 109, 98, 101, 114], false), ([73, 110, 118, 97, 108, 105, 100, 87, 105, 115, 104], false), ([73, 110, 118, 97, 108, 105, 100, 67, 111, 109, 109, 97, 110, 100], false), ([78, 111, 116, 65, 87, 101, 98], false), ([73, 110, 118, 97, 108, 105, 100, 83, 104, 97, 114, 101, 115], false), ([73, 110, 118, 97, 108, 105, 100, 67, 114, 111, 119, 100], false), ([87, 114, 111, 110, 103, 78, 97, 109, 101], false), ([85, 110, 107, 110, 111, 119, 110, 81, 117, 101, 115, 116, 105, 111, 110], false), ([85, 110, 107, 110, 111, 119, 110, 84, 105, 101], false), ([78, 111, 116, 80, 111, 115, 115, 105, 98, 108, 101], false), ([78, 111, 116, 104, 105, 110, 103, 84, 111, 85, 110, 100, 111], false), ([84, 111, 111, 77, 97, 110, 121], false), ([78, 111, 67, 114, 111, 119, 100], false), ([66, 114, 111, 107, 101, 110], false)]), .chk (fun K => xiB K (.ref (He.ga K "InvalidShare")) [([87, 114, 111, 110, 103, 86, 97, 108, 117, 101], false), ([73, 110, 118, 97, 108, 105, 100, 84, 101, 120, 116], false), ([73, 110, 118, 97, 108, 105, 100, 81, 117, 101, 115, 116, 105, 111, 110, 115], false), ([73, 110, 118, 97, 108, 105, 100, 80, 97, 105, 114], false), ([73, 110, 118, 97, 108, 105, 100, 83, 104, 97, 114, 101], true), ([73, 110, 118, 97, 108, 105, 100, 83, 112, 108, 105, 116], false), ([73, 110, 118, 97, 108, 105, 100, 82, 105, 110, 103], false), ([73, 110, 118, 97, 108, 105, 100, 76, 111, 116], false), ([73, 110, 118, 97, 108, 105, 100, 66, 101, 116], false), ([73, 110, 118, 97, 108, 105, 100, 78, 117, 109, 98, 101, 114], false), ([73, 110, 118, 97, 108, 105, 100, 87, 105, 115, 104], false), ([73, 110, 118, 97, 108, 105, 100, 67, 111, 109, 109, 97, 110, 100], false), ([78, 111, 116, 65, 87, 101, 98], false), ([73, 110, 118, 97, 108, 105, 100, 83, 104, 97, 114, 101, 115], false), ([73, 110, 118, 97, 108, 105, 100, 67, 114, 111, 119, 100], false), ([87, 114, 111, 110, 103, 78, 97, 109, 101], false), ([85, 110, 107, 110, 111, 119, 110, 81, 117, 101, 115, 116, 105, 111, 110], false), ([85, 110, 107, 110, 111, 119, 110, 84, 105, 101], false), ([78, 111, 116, 80, 111, 115, 115, 105, 98, 108, 101], false), ([78, 111, 116, 104, 105, 110, 103, 84, 111, 85, 110, 100, 111], false), ([84, 111, 111, 77, 97, 110, 121], false), ([78, 111, 67, 114, 111, 119, 100], false), ([66, 114, 111, 107, 101, 110], false)]), .chk (fun K => xiB K (.ref (He.ga K "InvalidShares")) [([87, 114, 111, 110, 103, 86, 97, 108, 117, 101], false), ([73, 110, 118, 97, 108, 105, 100, 84, 101, 120, 116], false), ([73, 110, 118, 97, 108, 105, 100, 81, 117, 101, 115, 116, 105, 111, 110, 115], false), ([73, 110, 118, 97, 108, 105, 100, 80, 97, 105, 114], false), ([73, 110, 118, 97, 108, 105, 100, 83, 104, 97, 114, 101], false), ([73, 110, 118, 97, 108, 105, 100, 83, 112, 108, 105, 116], false), ([73, 110, 118, 97, 108, 105, 100, 82, 105, 110, 103], false), ([73, 110, 118, 97, 108, 105, 100, 76, 111, 116], false), ([73, 110, 118, 97, 108, 105, 100, 66, 101, 116], false), ([73, 110, 118, 97, 108, 105, 100, 78, 117, 109, 98, 101, 114], false), ([73, 110, 118, 97, 108, 105, 100, 87, 105, 115, 104], false), ([73, 110, 118, 97, 108, 105, 100, 67, 111, 109, 109, 97, 110, 100], false), ([78, 111, 116, 65, 87, 101, 98], false), ([73, 110, 118, 97, 108, 105, 100, 83, 104, 97, 114, 101, 115], true), ([73, 110, 118, 97, 108, 105, 100, 67, 114, 111, 119, 100], false), ([87, 114, 111, 110, 103, 78, 97, 109, 101], false), ([85, 110, 107, 110, 111, 119, 110, 81, 117, 101, 115, 116, 105, 111, 110], false), ([85, 110, 107, 110, 111, 119, 110, 84, 105, 101], false), ([78, 111, 116, 80, 111, 115, 115, 105, 98, 108, 101], false), ([78, 111, 116, 104, 105, 110, 103, 84, 111, 85, 110, 100, 111], false), ([84, 111, 111, 77, 97, 110, 121], false), ([78, 111, 67, 114, 111, 119, 100], false), ([66, 114, 111, 107, 101, 110], false)]), .chk (fun K => xiB K (.ref (He.ga K "InvalidSplit")) [([87, 114, 111, 110, 103, 86, 97, 108, 117, 101], false), ([73, 110, 118, 97, 108, 105, 100, 84, 101, 120, 116], false), ([73, 110, 118, 97, 108, 105, 100, 81, 117, 101, 115, 116, 105, 111, 110, 115], false), ([73, 110, 118, 97, 108, 105, 100, 80, 97, 105, 114], false), ([73, 110, 118, 97, 108, 105, 100, 83, 104, 97, 114, 101], false), ([73, 110, 118, 97, 108, 105, 100, 83, 112, 108, 105, 116], true), ([73, 110, 118, 97, 108, 105, 100, 82, 105, 110, 103], false), ([73, 110, 118, 97, 108, 105, 100, 76, 111, 116], false), ([73, 110, 118, 97, 108, 105, 100, 66, 101, 116], false), ([73, 110, 118, 97, 108, 105, 100, 78, 117, 109, 98, 101, 114], false), ([73, 110, 118, 97, 108, 105, 100, 87, 105, 115, 104], false), ([73, 110, 118, 97, 108, 105, 100, 67, 111, 109, 109, 97, 110, 100], false), ([78, 111, 116, 65, 87, 101, 98], false), ([73, 110, 118, 97, 108, 105, 100, 83, 104, 97, 114, 101, 115], false), ([73, 110, 118, 97, 108, 105, 100, 67, 114, 111, 119, 100], false), ([87, 114, 111, 110, 103, 78, 97, 109, 101], false), ([85, 110, 107, 110, 111, 119, 110, 81, 117, 101, 115, 116, 105, 111, 110], false), ([85, 110, 107, 110, 111, 119, 110, 84, 105, 101], false), ([78, 111, 116, 80, 111, 115, 115, 105, 98, 108, 101], false), ([78, 111, 116, 104, 105, 110, 103, 84, 111, 85, 110, 100, 111], false), ([84, 111, 111, 77, 97, 110, 121], false), ([78, 111, 67, 114, 111, 119, 100], false), ([66, 114, 111, 107, 101, 110], false)]), .chk (fun K => xiB K (.ref (He.ga K "InvalidText")) [([87, 114, 111, 110, 103, 86, 97, 108, 117, 101], false), ([73, 110, 118, 97, 108, 105, 100, 84, 101, 120, 116], true), ([73, 110, 118, 97, 108, 105, 100, 81, 117, 101, 115, 116, 105, 111, 110, 115], false), ([73, 110, 118, 97, 108, 105, 100, 80, 97, 105, 114], false), ([73, 110, 118, 97, 108, 105, 100, 83, 104, 97, 114, 101], false), ([73, 110, 118, 97, 108, 105, 100, 83, 112, 108, 105, 116], false), ([73, 110, 118, 97, 108, 105, 100, 82, 105, 110, 103], false), ([73, 110, 118, 97, 108, 105, 100, 76, 111, 116], false), ([73, 110, 118, 97, 108, 105, 100, 66, 101, 116], false), ([73, 110, 118, 97, 108, 105, 100, 78, 117, 109, 98, 101, 114], false), ([73, 110, 118, 97, 108, 105, 100, 87, 105, 115, 104], false), ([73, 110, 118, 97, 108, 105, 100, 67, 111, 109, 109, 97, 110, 100], false), ([78, 111, 116, 65, 87, 101, 98], false), ([73, 110, 118, 97, 108, 105, 100, 83, 104, 97, 114, 101, 115], false), ([73, 110, 118, 97, 108, 105, 100, 67, 114, 111, 119, 100], false), ([87, 114, 111, 110, 103, 78, 97, 109, 101], false), ([85, 110, 107, 110, 111, 119, 110, 81, 117, 101, 115, 116, 105, 111, 110], false), ([85, 110, 107, 110, 111, 119, 110, 84, 105, 101], false), ([78, 111, 116, 80, 111, 115, 115, 105, 98, 108, 101], false), ([78, 111, 116, 104, 105, 110, 103, 84, 111, 85, 110, 100, 111], false), ([84, 111, 111, 77, 97, 110, 121], false), ([78, 111, 67, 114, 111, 119, 100], false), ([66, 114, 111, 107, 101, 110], false)]), .chk (fun K => xiB K (.ref (He.ga K "InvalidWish")) [([87, 114, 111, 110, 103, 86, 97, 108, 117, 101], false), ([73, 110, 118, 97, 108, 105, 100, 84, 101, 120, 116], false), ([73, 110, 118, 97, 108, 105, 100, 81, 117, 101, 115, 116, 105, 111, 110, 115], false), ([73, 110, 118, 97, 108, 105, 100, 80, 97, 105, 114], false), ([73, 110, 118, 97, 108, 105, 100, 83, 104, 97, 114, 101], false), ([73, 110, 118, 97, 108, 105, 100, 83, 112, 108, 105, 116], false), ([73, 110, 118, 97, 108, 105, 100, 82, 105, 110, 103], false), ([73, 110, 118, 97, 108, 105, 100, 76, 111, 116], false), ([73, 110, 118, 97, 108, 105, 100, 66, 101, 116], false), ([73, 110, 118, 97, 108, 105, 100, 78, 117, 109, 98, 101, 114], false), ([73, 110, 118, 97, 108, 105, 100, 87, 105, 115, 104], true), ([73, 110, 118, 97, 108, 105, 100, 67, 111, 109, 109, 97, 110, 100], false), ([78, 111, 116, 65, 87, 101, 98], false), ([73, 110, 118, 97, 108, 105, 100, 83, 104, 97, 114, 101, 115], false), ([73, 110, 118, 97, 108, 105, 100, 67, 114, 111, 119, 100], false), ([87, 114, 111, 110, 103, 78, 97, 109, 101], false), ([85, 110, 107, 110, 111, 119, 110, 81, 117, 101, 115, 116, 105, 111, 110], false), ([85, 110, 107, 110, 111, 119, 110, 84, 105, 101], false), ([78, 111, 116, 80, 111, 115, 115, 105, 98, 108, 101], false), ([78, 111, 116, 104, 105, 110, 103, 84, 111, 85, 110, 100, 111], false), ([84, 111, 111, 77, 97, 110, 121], false), ([78, 111, 67, 114, 111, 119, 100], false), ([66, 114, 111, 107, 101, 110], false)]), .chk (fun K => xiB K (.type "LookupError") [([87, 114, 111, 110, 103, 86, 97, 108, 117, 101], false), ([73, 110, 118, 97, 108, 105, 100, 84, 101, 120, 116], false), ([73, 110, 118, 97, 108, 105, 100, 81, 117, 101, 115, 116, 105, 111, 110, 115], false), ([73, 110, 118, 97, 108, 105, 100, 80, 97, 105, 114], false), ([73, 110, 118, 97, 108, 105, 100, 83, 104, 97, 114, 101], false), ([73, 110, 118, 97, 108, 105, 100, 83, 112, 108, 105, 116], false), ([73, 110, 118, 97, 108, 105, 100, 82, 105, 110, 103], false), ([73, 110, 118, 97, 108, 105, 100, 76, 111, 116], false), ([73, 110, 118, 97, 108, 105, 100, 66, 101, 116], false), ([73, 110, 118, 97, 108, 105, 100, 78, 117, 109, 98, 101, 114], false), ([73, 110, 118, 97, 108, 105, 100, 87, 105, 115, 104], false), ([73, 110, 118, 97, 108, 105, 100, 67, 111, 109, 109, 97, 110, 100], false), ([78, 111, 116, 65, 87, 101, 98], false), ([73, 110, 118, 97, 108, 105, 100, 83, 104, 97, 114, 101, 115], false), ([73, 110, 118, 97, 108, 105, 100, 67, 114, 111, 119, 100], false), ([87, 114, 111, 110, 103, 78, 97, 109, 101], true), ([85, 110, 107, 110, 111, 119, 110, 81, 117, 101, 115, 116, 105, 111, 110], true), ([85, 110, 107, 110, 111, 119, 110, 84, 105, 101], true), ([78, 111, 116, 80, 111, 115, 115, 105, 98, 108, 101], false), ([78, 111, 116, 104, 105, 110, 103, 84, 111, 85, 110, 100, 111], false), ([84, 111, 111, 77, 97, 110, 121], false), ([78, 111, 67, 114, 111, 119, 100], false), ([66, 114, 111, 107, 101, 110], false)]), .chk (fun K => xiB K (.ref (He.ga K "NoCrowd")) [([87, 114, 111, 110, 103, 86, 97, 108, 117, 101], false), ([73, 110, 118, 97, 108, 105, 100, 84, 101, 120, 116], false), ([73, 110, 118, 97, 108, 105, 100, 81, 117, 101, 115, 116, 105, 111, 110, 115], false), ([73, 110, 118, 97, 108, 105, 100, 80, 97, 105, 114], false), ([73, 110, 118, 97, 108, 105, 100, 83, 104, 97, 114, 101], false), ([73, 110, 118, 97, 108, 105, 100, 83, 112, 108, 105, 116], false), ([73, 110, 118, 97, 108, 105, 100, 82, 105, 110, 103], false), ([73, 110, 118, 97, 108, 105, 100, 76, 111, 116], false), ([73, 110, 118, 97, 108, 105, 100, 66, 101, 116], false), ([73, 110, 118, 97, 108, 105, 100, 78, 117, 109, 98, 101, 114], false), ([73, 110, 118, 97, 108, 105, 100, 87, 105, 115, 104], false), ([73, 110, 118, 97, 108, 105, 100, 67, 111, 109, 109, 97, 110, 100], false), ([78, 111, 116, 65, 87, 101, 98], false), ([73, 110, 118, 97, 108, 105, 100, 83, 104, 97, 114, 101, 115], false), ([73, 110, 118, 97, 108, 105, 100, 67, 114, 111, 119, 100], false), ([87, 114, 111, 110, 103, 78, 97, 109, 101], false), ([85, 110, 107, 110, 111, 119, 110, 81, 117, 101, 115, 116, 105, 111, 110], false), ([85, 110, 107, 110, 111, 119, 110, 84, 105, 101], false), ([78, 111, 116, 80, 111, 115, 115, 105, 98, 108, 101], false), ([78, 111, 116, 104, 105, 110, 103, 84, 111, 85, 110, 100, 111], false), ([84, 111, 111, 77, 97, 110, 121], false), ([78, 111, 67, 114, 111, 119, 100], true), ([66, 114, 111, 107, 101, 110], false)]), .chk (fun K => xiB K (.ref (He.ga K "NotAWeb")) [([87, 114, 111, 110, 103, 86, 97, 108, 117, 101], false), ([73, 110, 118, 97, 108, 105, 100, 84, 101, 120, 116], false), ([73, 110, 118, 97, 108, 105, 100, 81, 117, 101, 115, 116, 105, 111, 110, 115], false), ([73, 110, 118, 97, 108, 105, 100, 80, 97, 105, 114], false), ([73, 110, 118, 97, 108, 105, 100, 83, 104, 97, 114, 101], false), ([73, 110, 118, 97, 108, 105, 100, 83, 112, 108, 105, 116], false), ([73, 110, 118, 97, 108, 105, 100, 82, 105, 110, 103], false), ([73, 110, 118, 97, 108, 105, 100, 76, 111, 116], false), ([73, 110, 118, 97, 108, 105, 100, 66, 101, 116], false), ([73, 110, 118, 97, 108, 105, 100, 78, 117, 109, 98, 101, 114], false), ([73, 110, 118, 97, 108, 105, 100, 87, 105, 115, 104], false), ([73, 110, 118, 97, 108, 105, 100, 67, 111, 109, 109, 97, 110, 100], false), ([78, 111, 116, 65, 87, 101, 98], true), ([73, 110, 118, 97, 108, 105, 100, 83, 104, 97, 114, 101, 115], false), ([73, 110, 118, 97, 108, 105, 100, 67, 114, 111, 119, 100], false), ([87, 114, 111, 110, 103, 78, 97, 109, 101], false), ([85, 110, 107, 110, 111, 119, 110, 81, 117, 101, 115, 116, 105, 111, 110], false), ([85, 110, 107, 110, 111, 119, 110, 84, 105, 101], false), ([78, 111, 116, 80, 111, 115, 115, 105, 98, 108, 101], false), ([78, 111, 116, 104, 105, 110, 103, 84, 111, 85, 110, 100, 111], false), ([84, 111, 111, 77, 97, 110, 121], false), ([78, 111, 67, 114, 111, 119, 100], false), ([66, 114, 111, 107, 101, 110], false)]), .chk (fun K => xiB K (.ref (He.ga K "NotPossible")) [([87, 114, 111, 110, 103, 86, 97, 108, 117, 101], false), ([73, 110, 118, 97, 108, 105, 100, 84, 101, 120, 116], false), ([73, 110, 118, 97, 108, 105, 100, 81, 117, 101, 115, 116, 105, 111, 110, 115], false), ([73, 110, 118, 97, 108, 105, 100, 80, 97, 105, 114], false), ([73, 110, 118, 97, 108, 105, 100, 83, 104, 97, 114, 101], false), ([73, 110, 118, 97, 108, 105, 100, 83, 112, 108, 105, 116], false), ([73, 110, 118, 97, 108, 105, 100, 82, 105, 110, 103], false), ([73, 110, 118, 97, 108, 105, 100, 76, 111, 116], false), ([73, 110, 118, 97, 108, 105, 100, 66, 101, 116], false), ([73, 110, 118, 97, 108, 105, 100, 78, 117, 109, 98, 101, 114], false), ([73, 110, 118, 97, 108, 105, 100, 87, 105, 115, 104], false), ([73, 110, 118, 97, 108, 105, 100, 67, 111, 109, 109, 97, 110, 100], false), ([78, 111, 116, 65, 87, 101, 98], false), ([73, 110, 118, 97, 108, 105, 100, 83, 104, 97, 114, 101, 115], false), ([73, 110, 118, 97, 108, 105, 100, 67, 114, 111, 119, 100], false), ([87, 114, 111, 110, 103, 78, 97, 109, 101], false), ([85, 110, 107, 110, 111, 119, 110, 81, 117, 101, 115, 116, 105, 111, 110], false), ([85, 110, 107, 110, 111, 119, 110, 84, 105, 101], false), ([78, 111, 116, 80, 111, 115, 115, 105, 98, 108, 101], true), ([78, 111, 116, 104, 105, 110, 103, 84, 111, 85, 110, 100, 111], true), ([84, 111, 111, 77, 97, 110, 121], true), ([78, 111, 67, 114, 111, 119, 100], true), ([66, 114, 111, 107, 101, 110], true)]), .chk (fun K => xiB K (.ref (He.ga K "NothingToUndo")) [([87, 114, 111, 110, 103, 86, 97, 108, 117, 101], false), ([73, 110, 118, 97, 108, 105, 100, 84, 101, 120, 116], false), ([73, 110, 118, 97, 108, 105, 100, 81, 117, 101, 115, 116, 105, 111, 110, 115], false), ([73, 110, 118, 97, 108, 105, 100, 80, 97, 105, 114], false), ([73, 110, 118, 97, 108, 105, 100, 83, 104, 97, 114, 101], false), ([73, 110, 118, 97, 108, 105, 100, 83, 112, 108, 105, 116], false), ([73, 110, 118, 97, 108, 105, 100, 82, 105, 110, 103], false), ([73, 110, 118, 97, 108, 105, 100, 76, 111, 116], false), ([73, 110, 118, 97, 108, 105, 100, 66, 101, 116], false), ([73, 110, 118, 97, 108, 105, 100, 78, 117, 109, 98, 101, 114], false), ([73, 110, 118, 97, 108, 105, 100, 87, 105, 115, 104], false), ([73, 110, 118, 97, 108, 105, 100, 67, 111, 109, 109, 97, 110, 100], false), ([78, 111, 116, 65, 87, 101, 98], false), ([73, 110, 118, 97, 108, 105, 100, 83, 104, 97, 114, 101, 115], false), ([73, 110, 118, 97, 108, 105, 100, 67, 114, 111, 119, 100], false), ([87, 114, 111, 110, 103, 78, 97, 109, 101], false), ([85, 110, 107, 110, 111, 119, 110, 81, 117, 101, 115, 116, 105, 111, 110], false), ([85, 110, 107, 110, 111, 119, 110, 84, 105, 101], false), ([78, 111, 116, 80, 111, 115, 115, 105, 98, 108, 101], false), ([78, 111, 116, 104, 105, 110, 103, 84, 111, 85, 110, 100, 111], true), ([84, 111, 111, 77, 97, 110, 121], false), ([78, 111, 67, 114, 111, 119, 100], false), ([66, 114, 111, 107, 101, 110], false)]), .chk (fun K => xiB K (.ref (He.ga K "TooMany")) [([87, 114, 111, 110, 103, 86, 97, 108, 117, 101], false), ([73, 110, 118, 97, 108, 105, 100, 84, 101, 120, 116], false), ([73, 110, 118, 97, 108, 105, 100, 81, 117, 101, 115, 116, 105, 111, 110, 115], false), ([73, 110, 118, 97, 108, 105, 100, 80, 97, 105, 114], false), ([73, 110, 118, 97, 108, 105, 100, 83, 104, 97, 114, 101], false), ([73, 110, 118, 97, 108, 105, 100, 83, 112, 108, 105, 116], false), ([73, 110, 118, 97, 108, 105, 100, 82, 105, 110, 103], false), ([73, 110, 118, 97, 108, 105, 100, 76, 111, 116], false), ([73, 110, 118, 97, 108, 105, 100, 66, 101, 116], false), ([73, 110, 118, 97, 108, 105, 100, 78, 117, 109, 98, 101, 114], false), ([73, 110, 118, 97, 108, 105, 100, 87, 105, 115, 104], false), ([73, 110, 118, 97, 108, 105, 100, 67, 111, 109, 109, 97, 110, 100], false), ([78, 111, 116, 65, 87, 101, 98], false), ([73, 110, 118, 97, 108, 105, 100, 83, 104, 97, 114, 101, 115], false), ([73, 110, 118, 97, 108, 105, 100, 67, 114, 111, 119, 100], false), ([87, 114, 111, 110, 103, 78, 97, 109, 101], false), ([85, 110, 107, 110, 111, 119, 110, 81, 117, 101, 115, 116, 105, 111, 110], false), ([85, 110, 107, 110, 111, 119, 110, 84, 105, 101], false), ([78, 111, 116, 80, 111, 115, 115, 105, 98, 108, 101], false), ([78, 111, 116, 104, 105, 110, 103, 84, 111, 85, 110, 100, 111], false), ([84, 111, 111, 77, 97, 110, 121], true), ([78, 111, 67, 114, 111, 119, 100], false), ([66, 114, 111, 107, 101, 110], false)]), .chk (fun K => xiB K (.ref (He.ga K "UnknownQuestion")) [([87, 114, 111, 110, 103, 86, 97, 108, 117, 101], false), ([73, 110, 118, 97, 108, 105, 100, 84, 101, 120, 116], false), ([73, 110, 118, 97, 108, 105, 100, 81, 117, 101, 115, 116, 105, 111, 110, 115], false), ([73, 110, 118, 97, 108, 105, 100, 80, 97, 105, 114], false), ([73, 110, 118, 97, 108, 105, 100, 83, 104, 97, 114, 101], false), ([73, 110, 118, 97, 108, 105, 100, 83, 112, 108, 105, 116], false), ([73, 110, 118, 97, 108, 105, 100, 82, 105, 110, 103], false), ([73, 110, 118, 97, 108, 105, 100, 76, 111, 116], false), ([73, 110, 118, 97, 108, 105, 100, 66, 101, 116], false), ([73, 110, 118, 97, 108, 105, 100, 78, 117, 109, 98, 101, 114], false), ([73, 110, 118, 97, 108, 105, 100, 87, 105, 115, 104], false), ([73, 110, 118, 97, 108, 105, 100, 67, 111, 109, 109, 97, 110, 100], false), ([78, 111, 116, 65, 87, 101, 98], false), ([73, 110, 118, 97, 108, 105, 100, 83, 104, 97, 114, 101, 115], false), ([73, 110, 118, 97, 108, 105, 100, 67, 114, 111, 119, 100], false), ([87, 114, 111, 110, 103, 78, 97, 109, 101], false), ([85, 110, 107, 110, 111, 119, 110, 81, 117, 101, 115, 116, 105, 111, 110], true), ([85, 110, 107, 110, 111, 119, 110, 84, 105, 101], false), ([78, 111, 116, 80, 111, 115, 115, 105, 98, 108, 101], false), ([78, 111, 116, 104, 105, 110, 103, 84, 111, 85, 110, 100, 111], false), ([84, 111, 111, 77, 97, 110, 121], false), ([78, 111, 67, 114, 111, 119, 100], false), ([66, 114, 111, 107, 101, 110], false)]), .chk (fun K => xiB K (.ref (He.ga K "UnknownTie")) [([87, 114, 111, 110, 103, 86, 97, 108, 117, 101], false), ([73, 110, 118, 97, 108, 105, 100, 84, 101, 120, 116], false), ([73, 110, 118, 97, 108, 105, 100, 81, 117, 101, 115, 116, 105, 111, 110, 115], false), ([73, 110, 118, 97, 108, 105, 100, 80, 97, 105, 114], false), ([73, 110, 118, 97, 108, 105, 100, 83, 104, 97, 114, 101], false), ([73, 110, 118, 97, 108, 105, 100, 83, 112, 108, 105, 116], false), ([73, 110, 118, 97, 108, 105, 100, 82, 105, 110, 103], false), ([73, 110, 118, 97, 108, 105, 100, 76, 111, 116], false), ([73, 110, 118, 97, 108, 105, 100, 66, 101, 116], false), ([73, 110, 118, 97, 108, 105, 100, 78, 117, 109, 98, 101, 114], false), ([73, 110, 118, 97, 108, 105, 100, 87, 105, 115, 104], false), ([73, 110, 118, 97, 108, 105, 100, 67, 111, 109, 109, 97, 110, 100], false), ([78, 111, 116, 65, 87, 101, 98], false), ([73, 110, 118, 97, 108, 105, 100, 83, 104, 97, 114, 101, 115], false), ([73, 110, 118, 97, 108, 105, 100, 67, 114, 111, 119, 100], false), ([87, 114, 111, 110, 103, 78, 97, 109, 101], false), ([85, 110, 107, 110, 111, 119, 110, 81, 117, 101, 115, 116, 105, 111, 110], false), ([85, 110, 107, 110, 111, 119, 110, 84, 105, 101], true), ([78, 111, 116, 80, 111, 115, 115, 105, 98, 108, 101], false), ([78, 111, 116, 104, 105, 110, 103, 84, 111, 85, 110, 100, 111], false), ([84, 111, 111, 77, 97, 110, 121], false), ([78, 111, 67, 114, 111, 119, 100], false), ([66, 114, 111, 107, 101, 110], false)]), .chk (fun K => xiB K (.type "ValueError") [([87, 114, 111, 110, 103, 86, 97, 108, 117, 101], true), ([73, 110, 118, 97, 108, 105, 100, 84, 101, 120, 116], true), ([73, 110, 118, 97, 108, 105, 100, 81, 117, 101, 115, 116, 105, 111, 110, 115], true), ([73, 110, 118, 97, 108, 105, 100, 80, 97, 105, 114], true), ([73, 110, 118, 97, 108, 105, 100, 83, 104, 97, 114, 101], true), ([73, 110, 118, 97, 108, 105, 100, 83, 112, 108, 105, 116], true), ([73, 110, 118, 97, 108, 105, 100, 82, 105, 110, 103], true), ([73, 110, 118, 97, 108, 105, 100, 76, 111, 116], true), ([73, 110, 118, 97, 108, 105, 100, 66, 101, 116], true), ([73, 110, 118, 97, 108, 105, 100, 78, 117, 109, 98, 101, 114], true), ([73, 110, 118, 97, 108, 105, 100, 87, 105, 115, 104], true), ([73, 110, 118, 97, 108, 105, 100, 67, 111, 109, 109, 97, 110, 100], true), ([78, 111, 116, 65, 87, 101, 98], true), ([73, 110, 118, 97, 108, 105, 100, 83, 104, 97, 114, 101, 115], true), ([73, 110, 118, 97, 108, 105, 100, 67, 114, 111, 119, 100], true), ([87, 114, 111, 110, 103, 78, 97, 109, 101], false), ([85, 110, 107, 110, 111, 119, 110, 81, 117, 101, 115, 116, 105, 111, 110], false), ([85, 110, 107, 110, 111, 119, 110, 84, 105, 101], false), ([78, 111, 116, 80, 111, 115, 115, 105, 98, 108, 101], false), ([78, 111, 116, 104, 105, 110, 103, 84, 111, 85, 110, 100, 111], false), ([84, 111, 111, 77, 97, 110, 121], false), ([78, 111, 67, 114, 111, 119, 100], false), ([66, 114, 111, 107, 101, 110], false)]), .chk (fun K => xiB K (.ref (He.ga K "WrongName")) [([87, 114, 111, 110, 103, 86, 97, 108, 117, 101], false), ([73, 110, 118, 97, 108, 105, 100, 84, 101, 120, 116], false), ([73, 110, 118, 97, 108, 105, 100, 81, 117, 101, 115, 116, 105, 111, 110, 115], false), ([73, 110, 118, 97, 108, 105, 100, 80, 97, 105, 114], false), ([73, 110, 118, 97, 108, 105, 100, 83, 104, 97, 114, 101], false), ([73, 110, 118, 97, 108, 105, 100, 83, 112, 108, 105, 116], false), ([73, 110, 118, 97, 108, 105, 100, 82, 105, 110, 103], false), ([73, 110, 118, 97, 108, 105, 100, 76, 111, 116], false), ([73, 110, 118, 97, 108, 105, 100, 66, 101, 116], false), ([73, 110, 118, 97, 108, 105, 100, 78, 117, 109, 98, 101, 114], false), ([73, 110, 118, 97, 108, 105, 100, 87, 105, 115, 104], false), ([73, 110, 118, 97, 108, 105, 100, 67, 111, 109, 109, 97, 110, 100], false), ([78, 111, 116, 65, 87, 101, 98], false), ([73, 110, 118, 97, 108, 105, 100, 83, 104, 97, 114, 101, 115], false), ([73, 110, 118, 97, 108, 105, 100, 67, 114, 111, 119, 100], false), ([87, 114, 111, 110, 103, 78, 97, 109, 101], true), ([85, 110, 107, 110, 111, 119, 110, 81, 117, 101, 115, 116, 105, 111, 110], true), ([85, 110, 107, 110, 111, 119, 110, 84, 105, 101], true), ([78, 111, 116, 80, 111, 115, 115, 105, 98, 108, 101], false), ([78, 111, 116, 104, 105, 110, 103, 84, 111, 85, 110, 100, 111], false), ([84, 111, 111, 77, 97, 110, 121], false), ([78, 111, 67, 114, 111, 119, 100], false), ([66, 114, 111, 107, 101, 110], false)]), .chk (fun K => xiB K (.ref (He.ga K "WrongValue")) [([87, 114, 111, 110, 103, 86, 97, 108, 117, 101], true), ([73, 110, 118, 97, 108, 105, 100, 84, 101, 120, 116], true), ([73, 110, 118, 97, 108, 105, 100, 81, 117, 101, 115, 116, 105, 111, 110, 115], true), ([73, 110, 118, 97, 108, 105, 100, 80, 97, 105, 114], true), ([73, 110, 118, 97, 108, 105, 100, 83, 104, 97, 114, 101], true), ([73, 110, 118, 97, 108, 105, 100, 83, 112, 108, 105, 116], true), ([73, 110, 118, 97, 108, 105, 100, 82, 105, 110, 103], true), ([73, 110, 118, 97, 108, 105, 100, 76, 111, 116], true), ([73, 110, 118, 97, 108, 105, 100, 66, 101, 116], true), ([73, 110, 118, 97, 108, 105, 100, 78, 117, 109, 98, 101, 114], true), ([73, 110, 118, 97, 108, 105, 100, 87, 105, 115, 104], true), ([73, 110, 118, 97, 108, 105, 100, 67, 111, 109, 109, 97, 110, 100], true), ([78, 111, 116, 65, 87, 101, 98], true), ([73, 110, 118, 97, 108, 105, 100, 83, 104, 97, 114, 101, 115], true), ([73, 110, 118, 97, 108, 105, 100, 67, 114, 111, 119, 100], true), ([87, 114, 111, 110, 103, 78, 97, 109, 101], false), ([85, 110, 107, 110, 111, 119, 110, 81, 117, 101, 115, 116, 105, 111, 110], false), ([85, 110, 107, 110, 111, 119, 110, 84, 105, 101], false), ([78, 111, 116, 80, 111, 115, 115, 105, 98, 108, 101], false), ([78, 111, 116, 104, 105, 110, 103, 84, 111, 85, 110, 100, 111], false), ([84, 111, 111, 77, 97, 110, 121], false), ([78, 111, 67, 114, 111, 119, 100], false), ([66, 114, 111, 107, 101, 110], false)]), .chk (fun K => xfsB K (sN [103, 105, 118, 101, 110]) [[73, 110, 118, 97, 108, 105, 100, 84, 101, 120, 116], [73, 110, 118, 97, 108, 105, 100, 81, 117, 101, 115, 116, 105, 111, 110, 115], [73, 110, 118, 97, 108, 105, 100, 80, 97, 105, 114], [73, 110, 118, 97, 108, 105, 100, 83, 104, 97, 114, 101], [73, 110, 118, 97, 108, 105, 100, 83, 112, 108, 105, 116], [73, 110, 118, 97, 108, 105, 100, 82, 105, 110, 103], [73, 110, 118, 97, 108, 105, 100, 76, 111, 116], [73, 110, 118, 97, 108, 105, 100, 66, 101, 116], [73, 110, 118, 97, 108, 105, 100, 78, 117, 109, 98, 101, 114], [73, 110, 118, 97, 108, 105, 100, 87, 105, 115, 104], [73, 110, 118, 97, 108, 105, 100, 67, 111, 109, 109, 97, 110, 100], [78, 111, 116, 65, 87, 101, 98], [85, 110, 107, 110, 111, 119, 110, 81, 117, 101, 115, 116, 105, 111, 110], [85, 110, 107, 110, 111, 119, 110, 84, 105, 101], [84, 111, 111, 77, 97, 110, 121]]), .chk (fun K => xfsB K (sN [105, 110, 100, 101, 120]) [[73, 110, 118, 97, 108, 105, 100, 83, 104, 97, 114, 101, 115], [73, 110, 118, 97, 108, 105, 100, 67, 114, 111, 119, 100], [66, 114, 111, 107, 101, 110]])]
def fn : List DefM := [D_f__law_bases, D_f__law_dip, D_f__law_pick, D_f__law_odd, D_f__law_by_place, D_f__law_by_word, D_f__law_sorts, D_f__law_kept, D_f__law_right, D_f__law_jar, D_f_law, D_x_InvalidText, D_x_InvalidQuestions, D_x_InvalidPair, D_x_InvalidShare, D_x_InvalidSplit, D_x_InvalidRing, D_x_InvalidLot, D_x_InvalidBet, D_x_InvalidNumber, D_x_InvalidWish, D_x_InvalidCommand, D_x_NotAWeb, D_x_InvalidShares, D_x_InvalidCrowd, D_x_UnknownQuestion, D_x_UnknownTie, D_x_TooMany, D_x_Broken]
def tf : List (DefM × Str) := []
def ns0 : List Str := ["WrongValue", "InvalidText", "InvalidQuestions", "InvalidPair", "InvalidShare", "InvalidSplit", "InvalidRing", "InvalidLot", "InvalidBet", "InvalidNumber", "InvalidWish", "InvalidCommand", "NotAWeb", "InvalidShares", "InvalidCrowd", "WrongName", "UnknownQuestion", "UnknownTie", "NotPossible", "NothingToUndo", "TooMany", "NoCrowd", "Broken", "LEAST_QUESTIONS", "MOST_QUESTIONS", "MOST_OF", "LOTS", "MOST_TIES", "_law_jar", "_law_dip"]
def ns1 : List Str := ["_law_pick", "_law_bases", "_law_odd", "_law_sorts", "_law_by_place", "_law_by_word", "_law_kept", "_law_right"]
def names : List Str := ns0 ++ ns1
abbrev R : PySem.W.OpenRow := PySem.W.OpenLaw.row PySem.Challenge.rw_twobytwos_k01_limits_and_errors
abbrev hk : PySem.W.Hook := hookT 6 fb fn (tf.map (·.1))
def ob (s : PySem.W.SharedT) : He.AlD × Bool := obsT 6 fb fn (tf.map (·.1)) (HandSHeadRun.getT s)
theorem run (w : World) : HandSHeadRun.RunEq R (PySem.W.view R.prog [40]) hk ob 12000 names w := by
  intro os
  kernel_rfl
end My
set_option Elab.async false
set_option linter.all false
set_option maxRecDepth 100000
set_option maxHeartbeats 0
set_option autoImplicit false
namespace My
namespace Res
@[simp] theorem bind_ok {α β : Type} (a : α) (S : IS) (f : α → IS → Res β) : (Res.ok a S).bind f = f a S := rfl
@[simp] theorem bind_ex {α β : Type} (x : PV) (S : IS) (f : α → IS → Res β) : (Res.ex x S : Res α).bind f = .ex x S := rfl
@[simp] theorem bind_no {α β : Type} (f : α → IS → Res β) : (Res.no : Res α).bind f = .no := rfl
theorem bind_eq_ok {α β : Type} {r : Res α} {f : α → IS → Res β} {b : β} {S' : IS} (h : r.bind f = .ok b S') : ∃ a S, r = .ok a S ∧ f a S = .ok b S' := by
  cases r with
  | ok a S => exact ⟨a, S, rfl, h⟩
  | ex x S => cases h
  | no => cases h
theorem bind_bind {α β γ : Type} (r : Res α) (f : α → IS → Res β) (g : β → IS → Res γ) : (r.bind f).bind g = r.bind fun a S => (f a S).bind g := by
  cases r <;> rfl
@[simp] theorem of_some {α : Type} (a : α) (S : IS) : Res.of (some a) S = .ok a S := rfl
@[simp] theorem of_none {α : Type} (S : IS) : Res.of (none : Option α) S = .no := rfl
end Res
mutual
def ltA : PV → PV → Bool
  | .int i, .int j => decide (i < j)
  | .str x, .str y => ltL x y
  | .tup xs, .tup ys => ltAs xs ys
  | _, _ => false
def ltAs : List PV → List PV → Bool
  | [], [] => false
  | [], _ :: _ => true
  | _ :: _, [] => false
  | x :: xs, y :: ys => if eqB x y = true then ltAs xs ys else ltA x y
end
mutual
def alk : PV → PV → Bool
  | .int _, .int _ => true
  | .str _, .str _ => true
  | .tup xs, .tup ys => alks xs ys
  | _, _ => false
def alks : List PV → List PV → Bool
  | x :: xs, y :: ys => alk x y && alks xs ys
  | [], _ => true
  | _ :: _, [] => true
end
def isPl : PV → Bool
  | .non => true
  | .bl _ => true
  | .int _ => true
  | .str _ => true
  | .tup _ => true
  | .lst _ => true
  | .dct _ => true
  | _ => false
@[simp] theorem RS.ofE_ok (ρ : Rho) (v : PV) (S : IS) (f : PV → IS → RS) : RS.ofE ρ (.ok v S) f = f v S := rfl
@[simp] theorem RS.ofE_ex (ρ : Rho) (v : PV) (S : IS) (f : PV → IS → RS) : RS.ofE ρ (.ex v S) f = .ex v ρ S := rfl
@[simp] theorem RS.ofE_no (ρ : Rho) (f : PV → IS → RS) : RS.ofE ρ .no f = .no := rfl
def pvOf : IO → PV
  | .lst xs => .lst xs
  | .dct kvs => .dct kvs
  | .ins c fs => .ins c fs
def runF (fe : FE) (f : Fn) (args : List PV) (S : IS) : Res PV :=
  if args.length = f.ps then
    (match f.init with
    | none => (match f.body fe (startR f.slots args) S with
      | .fl (.rt v) S1 => .ok v S1
      | .fl (.nx _) S1 => .ok .non S1
      | .ex x _ S1 => .ex x S1
      | _ => .no)
    | some c => (match f.body fe (.own (.ins c []) :: startR (f.slots - 1) args) S with
      | .fl (.nx ρ) S1 => (match (ρ[0]? : Option Slot) with
        | some (.own o) => .ok (pvOf o) S1
        | _ => .no)
      | .ex x _ S1 => .ex x S1
      | _ => .no))
  else .no
def fenv (T : Tab) : Nat → FE
  | 0, _, _, _ => .no
  | d + 1, f, args, S => match T f with
    | some fn => runF (fenv T d) fn args S
    | none => .no
end My
namespace My
end My
namespace My
open PySem PySem.Spec PyProof.Rows L2
variable [LT]
theorem sN_len (s : List Nat) : (sN s).length = s.length := by simp [sN, Str.length]
theorem lim_eq : sizeLine = lim := sizeLine_eq
variable (K : PySem.W.Frag)
section
variable {K : PySem.W.Frag} {F G : Hp} {ι ι' : List Addr}
theorem RVs.one {p : PV} {v : V} (r : RV K F ι p v) : RVs K F ι [p] [v] := ⟨v, [], rfl, r, rfl⟩
theorem RVs.nil_iff {ps : List PV} {vs : List V} (r : RVs K F ι ps vs) : ps = [] ↔ vs = [] := by
  have := r.length
  constructor <;> intro h <;> subst h
  · exact List.length_eq_zero_iff.mp this.symm
  · exact List.length_eq_zero_iff.mp this
end
section
variable {K : PySem.W.Frag} {F F1 F2 F' : Hp} {ι ι1 ι2 ι' : List Addr} {H H1 H2 H' : Hp} {S S' : IS} {a : Addr}
theorem Step.nw {o : HO} (h : HR K F ι H S) (hn : H a = none) : Step F ι H F ι (upd H a o) :=
  Step.grow (Sub.refl _) (fun _ _ h => h) (Sub.upd_new hn)
theorem HR.nw {o : HO} (h : HR K F ι H S) (hn : H a = none) : HR K F ι (upd H a o) S :=
  h.grow (Sub.refl _) (fun _ _ h => h) (Sub.upd_new hn) (h.sub.trans (Sub.upd_new hn))
end
section
variable {K : PySem.W.Frag} {F F' : Hp} {ι ι' : List Addr} {H H' : Hp} {S S' : IS} {σ : L2.St} {ρ : Rho}
end
def tN (fe : FE) (W : WX) (d : DE) : TE := fun σ H Q => ∃ F ι S ρ, SR K F ι σ ρ H S ∧ OutE K (rN K H) W Q F ι σ H (d fe ρ S)
def tA (fe : FE) (W : WX) (d : DEs) : TA := fun σ H Q => ∃ F ι S ρ, SR K F ι σ ρ H S ∧ OutA K W Q F ι σ H (d fe ρ S)
def tB (fe : FE) (W : WX) (d : DE) : TT := fun σ H Q => tE K fe W d σ H fun v H1 => ∃ b, v = .bl b ∧ Q b H1
section
variable {K : PySem.W.Frag} {F F1 F' : Hp} {ι ι1 ι' : List Addr} {H H1 H' : Hp} {S S1 S' : IS} {σ : L2.St} {ρ : Rho} {fe : FE} {W : WX} {Q : VK} {R : RL}
theorem OutE.bindA {r : Res (List PV)} {k : List PV → IS → Res PV} (sr : SR K F ι σ ρ H S) (h : OutE K R W Q F ι σ H (r.bind k)) :
    OutA K W (fun v' H1 => ∃ F1 ι1 S1 v, Step F ι H F1 ι1 H1 ∧ SR K F1 ι1 σ ρ H1 S1 ∧ RVs K F1 ι1 v v' ∧ r = .ok v S1 ∧ OutE K R W Q F1 ι1 σ H1 (k v S1)) F ι σ H r := by
  cases r with
  | ok v S1 => exact fun F' ι' v' H' st hr q => ⟨F', ι', S1, v, st, sr.step st hr, q, rfl, OutE.step st h⟩
  | ex x S1 => exact h
  | no => exact h
theorem OutA.bindA {r : Res (List PV)} {k : List PV → IS → Res (List PV)} {Q : List V → Hp → Prop} (sr : SR K F ι σ ρ H S) (h : OutA K W Q F ι σ H (r.bind k)) :
    OutA K W (fun v' H1 => ∃ F1 ι1 S1 v, Step F ι H F1 ι1 H1 ∧ SR K F1 ι1 σ ρ H1 S1 ∧ RVs K F1 ι1 v v' ∧ r = .ok v S1 ∧ OutA K W Q F1 ι1 σ H1 (k v S1)) F ι σ H r := by
  cases r with
  | ok v S1 => exact fun F' ι' v' H' st hr q => ⟨F', ι', S1, v, st, sr.step st hr, q, rfl, OutA.step st h⟩
  | ex x S1 => exact h
  | no => exact h
end
end My
namespace My
open PySem PySem.Spec PyProof.Rows L2
variable [LT]
variable (K : PySem.W.Frag)
def rP (f : PV → PV → Option PV) : R2 := fun x' y' H Q => ∃ F ι S x y v, HR K F ι H S ∧ rW K F ι H x x' ∧ rW K F ι H y y' ∧ f x y = some v ∧ Fin K Q F ι H S v
def rU1 (f : PV → Option PV) : V → Hp → VK → Prop := fun x' H Q => ∃ F ι S x v, HR K F ι H S ∧ rW K F ι H x x' ∧ f x = some v ∧ Fin K Q F ι H S v
def rC1 (f : PV → Option PV) : List V → Hp → VK → Prop := fun xs H Q => ∃ x', xs = [x'] ∧ rU1 K f x' H Q
def rC2 (f : PV → PV → Option PV) : List V → Hp → VK → Prop := fun xs H Q => ∃ x' y', xs = [x', y'] ∧ rP K f x' y' H Q
section
variable {K : PySem.W.Frag} {F : Hp} {ι : List Addr} {H : Hp} {S : IS} {Q : VK} {v : V}
theorem Fin.same {p : PV} (f : Fin K Q F ι H S p) (h : HR K F ι H S) (r : RV K F ι p v) : Q v H := f F v H Step.refl h r
theorem rW_non (r : rW K F ι H .non v) : v = .non := by
  rcases r with r | ⟨a, o, _, i, _⟩
  · exact r
  · cases i
theorem rW_bl {b : Bool} (r : rW K F ι H (.bl b) v) : v = .bl b := by
  rcases r with r | ⟨a, o, _, i, _⟩
  · exact r
  · cases i
theorem rW_int {b : Int} (r : rW K F ι H (.int b) v) : v = .int b := by
  rcases r with r | ⟨a, o, _, i, _⟩
  · exact r
  · cases i
theorem rW_str {b : List Nat} (r : rW K F ι H (.str b) v) : v = .str (sN b) ∧ sOk b := by
  rcases r with r | ⟨a, o, _, i, _⟩
  · exact r
  · cases i
theorem rW_tup {ps : List PV} (h : Sub F H) (r : rW K F ι H (.tup ps) v) : ∃ a xs, v = .ref a ∧ SqT K H a xs ∧ SqT K F a xs ∧ ps.length ≤ lim ∧ RVs K F ι ps xs := by
  rcases r with ⟨a, xs, e, q, l, r⟩ | ⟨a, o, _, i, _⟩
  · exact ⟨a, xs, e, h.sqT q, q, l, r⟩
  · cases i
theorem rW_lst {ps : List PV} (h : Sub F H) (r : rW K F ι H (.lst ps) v) : ∃ a xs, v = .ref a ∧ H a = some (.lst xs) ∧ ps.length ≤ lim ∧ RVs K F ι ps xs := by
  rcases r with ⟨a, xs, e, q, l, r⟩ | ⟨a, o, e, i, _, _, r⟩
  · exact ⟨a, xs, e, h _ _ q, l, r⟩
  · cases i
    obtain ⟨xs, q, l, r⟩ := r
    exact ⟨a, xs, e, q, l, r⟩
theorem rW_dct {ps : List (PV × PV)} (h : Sub F H) (r : rW K F ι H (.dct ps) v) : ∃ a ks, v = .ref a ∧ Rd H a (.dK ks) ∧ ps.length ≤ lim ∧ RVd K F ι ps ks := by
  rcases r with ⟨a, ob, xs, e, q, l, r⟩ | ⟨a, o, e, i, _, _, r⟩
  · exact ⟨a, xs, e, .inr ⟨ob, h _ _ q⟩, l, r⟩
  · cases i
    obtain ⟨xs, q, l, r⟩ := r
    exact ⟨a, xs, e, .inl q, l, r⟩
theorem RV_int (i : Int) : RV K F ι (.int i) (.int i) := by simp [RV]
theorem RV_bl (i : Bool) : RV K F ι (.bl i) (.bl i) := by simp [RV]
theorem RV_non : RV K F ι .non .non := by simp [RV]
theorem RV_str {s : List Nat} (h : sOk s) : RV K F ι (.str s) (.str (sN s)) := by unfold RV; exact ⟨rfl, h⟩
theorem sOk_app {s t : List Nat} (a : sOk s) (b : sOk t) (h : s.length + t.length ≤ lim) : sOk (s ++ t) := ⟨by rw [List.length_append]; exact h, by rw [List.all_append, a.2, b.2]; rfl⟩
theorem sN_app (s t : List Nat) : sN s ++ sN t = sN (s ++ t) := by
  show Str.append (sN s) (sN t) = sN (s ++ t)
  unfold sN Str.append
  simp
end
section
variable {X : Cx}
theorem mulOk_ok {i j : Int} (h : mulOk i j = true) : IntMulOk i j := by
  unfold mulOk at h
  simp only [Bool.or_eq_true, decide_eq_true_eq] at h
  rcases h with (h | h) | h
  · exact CMul.ok (.inl ⟨by omega, by omega⟩)
  · exact CMul.ok (.inr ⟨by omega, by omega⟩)
  · exact CMulW.ok h
theorem op_mulA : OpR X (binaryOp .Mult) (rI (fun i j => mulOk i j = true) fun i j => .int (i * j)) := opI fun _ _ _ _ _ _ _ hc q => mul_int q (mulOk_ok hc)
theorem op_divA : OpR X (binaryOp .FloorDiv) (rI (fun _ j => divOk j = true) fun i j => .int (i.fdiv j)) := opI fun i j _ _ _ _ _ hc q => by
  unfold divOk at hc
  simp only [Bool.or_eq_true, Bool.and_eq_true, decide_eq_true_eq] at hc
  rcases hc with ⟨h1, h2⟩ | ⟨h1, h2⟩
  · exact floordiv_int (by omega) q (.inl (PyProof.noPylong_of_log2 h2))
  · exact floordiv_int h1 q (.inl (PyProof.noPylong_small h2))
theorem s_add : OpR X (binaryOp .Add) (rP X.K pyAdd) := by
  intro pins s σ H x y v u Q I rx ry h
  obtain ⟨F, ι, S, px, py, pv, hr, qx, qy, e, f⟩ := h
  unfold pyAdd at e
  split at e
  · cases e
    cases rW_int qx; cases rW_int qy
    exact op_add pins s σ H _ _ v u Q I rx ry ⟨_, _, rfl, rfl, f.same hr (RV_int _)⟩
  · split at e
    · cases e
      rename_i hl
      obtain ⟨e1, k1⟩ := rW_str qx
      obtain ⟨e2, k2⟩ := rW_str qy
      cases e1; cases e2
      refine op_add_str pins s σ H _ _ v u Q I rx ry ⟨_, _, rfl, rfl, by rw [sN_len, sN_len, lim_eq]; exact hl, ?_⟩
      rw [sN_app]
      exact f.same hr (RV_str (sOk_app k1 k2 hl))
    · cases e
  · split at e
    · cases e
      rename_i hl
      obtain ⟨a, xs, e1, s1, l1, r1⟩ := rW_lst hr.sub qx
      obtain ⟨b, ys, e2, s2, l2, r2⟩ := rW_lst hr.sub qy
      cases e1; cases e2
      exact op_cat pins s σ H _ _ v u Q I rx ry ⟨a, b, xs, ys, rfl, rfl, s1, s2, by rw [← r1.length, ← r2.length, lim_eq]; exact hl, fun p hp => f.lst hr hp (by rw [List.length_append]; exact hl) (r1.append r2)⟩
    · cases e
  · split at e
    · cases e
      rename_i hl
      obtain ⟨a, xs, e1, s1, t1, l1, r1⟩ := rW_tup hr.sub qx
      obtain ⟨b, ys, e2, s2, t2, l2, r2⟩ := rW_tup hr.sub qy
      cases e1; cases e2
      refine op_catA pins s σ H _ _ v u Q I rx ry ⟨a, b, xs, ys, rfl, rfl, s1, s2, by rw [← r1.length, ← r2.length, lim_eq]; exact hl, fun z => ?_, fun z z2 => ?_, fun z z2 p hp => ?_⟩
      · have e := r1.nil_iff.mpr z
        subst e
        exact f.same hr (by rw [List.nil_append]; exact RV_tup t2 l2 r2)
      · have e := r2.nil_iff.mpr z2
        subst e
        exact f.same hr (by rw [List.append_nil]; exact RV_tup t1 l1 r1)
      · exact f.tup hr hp (by rw [List.length_append]; exact hl) (r1.append r2)
    · cases e
  · cases e
theorem s_mul : OpR X (binaryOp .Mult) (rP X.K pyMul) := by
  intro pins s σ H x y v u Q I rx ry h
  obtain ⟨F, ι, S, px, py, pv, hr, qx, qy, e, f⟩ := h
  unfold pyMul at e
  split at e
  · split at e
    · cases e
      rename_i hm
      cases rW_int qx; cases rW_int qy
      exact op_mulA pins s σ H _ _ v u Q I rx ry ⟨_, _, rfl, rfl, hm, f.same hr (RV_int _)⟩
    · cases e
  · split at e
    · cases e
      rename_i hm
      obtain ⟨a, xs, e1, s1, l1, r1⟩ := rW_lst hr.sub qx
      cases e1; cases rW_int qy
      have hl := r1.length
      refine op_rep pins s σ H _ _ v u Q I rx ry ⟨a, _, xs, rfl, rfl, s1, by omega, by omega, by rw [← r1.length, lim_eq]; exact hm.2.2, fun p hp => f.lst hr hp ?_ (r1.replicate _)⟩
      rw [(r1.replicate _).length]
      simp only [List.length_flatten, List.map_replicate, List.sum_replicate_nat]
      rw [← r1.length, Nat.mul_comm]
      exact hm.2.2
    · cases e
  · cases e
theorem s_div : OpR X (binaryOp .FloorDiv) (rP X.K pyDiv) := by
  intro pins s σ H x y v u Q I rx ry h
  obtain ⟨F, ι, S, px, py, pv, hr, qx, qy, e, f⟩ := h
  unfold pyDiv at e
  split at e
  · split at e
    · cases e
      rename_i hm
      cases rW_int qx; cases rW_int qy
      exact op_divA pins s σ H _ _ v u Q I rx ry ⟨_, _, rfl, rfl, hm, f.same hr (RV_int _)⟩
    · cases e
  · cases e
theorem s_mod : OpR X (binaryOp .Mod) (rP X.K pyMod) := by
  intro pins s σ H x y v u Q I rx ry h
  obtain ⟨F, ι, S, px, py, pv, hr, qx, qy, e, f⟩ := h
  unfold pyMod at e
  split at e
  · split at e
    · cases e
      rename_i hm
      cases rW_int qx; cases rW_int qy
      exact op_modN pins s σ H _ _ v u Q I rx ry ⟨_, _, rfl, rfl, hm, f.same hr (RV_int _)⟩
    · cases e
  · cases e
theorem s_pow : OpR X (binaryOp .Pow) (rP X.K pyPow) := by
  intro pins s σ H x y v u Q I rx ry h
  obtain ⟨F, ι, S, px, py, pv, hr, qx, qy, e, f⟩ := h
  unfold pyPow at e
  split at e
  · split at e
    · cases e
      rename_i hm
      cases rW_int qx; cases rW_int qy
      exact op_pow pins s σ H _ _ v u Q I rx ry ⟨_, _, rfl, rfl, ⟨hm.1, by omega, hm.2.2⟩, f.same hr (RV_int _)⟩
    · cases e
  · cases e
theorem s_neg : UnR X (unaryOp .USub) (rU1 X.K pyNeg) := by
  intro pins s σ H x v Q I rx h
  obtain ⟨F, ι, S, px, pv, hr, qx, e, f⟩ := h
  unfold pyNeg at e
  split at e
  · cases e
    cases rW_int qx
    exact un_neg pins s σ H _ v Q I rx ⟨_, rfl, f.same hr (RV_int _)⟩
  · cases e
theorem ltL_eq : ∀ a b : List Nat, ltL a b = decide (a < b)
  | [], [] => by simp [ltL]
  | [], _ :: _ => by simp [ltL]
  | _ :: _, [] => by simp [ltL]
  | x :: xs, y :: ys => by
    unfold ltL
    rw [ltL_eq xs ys, Bool.eq_iff_iff]
    by_cases h : x = y
    · subst h; simp [List.cons_lt_cons_iff]
    · simp [h, List.cons_lt_cons_iff]
theorem s_lt : OpR X (compareOp .Lt) (rP X.K pyLt) := by
  intro pins s σ H x y v u Q I rx ry h
  obtain ⟨F, ι, S, px, py, pv, hr, qx, qy, e, f⟩ := h
  unfold pyLt at e
  split at e
  · cases e
    cases rW_int qx; cases rW_int qy
    exact op_lt pins s σ H _ _ v u Q I rx ry ⟨_, _, rfl, rfl, f.same hr (RV_bl _)⟩
  · cases e
    obtain ⟨e1, k1⟩ := rW_str qx
    obtain ⟨e2, k2⟩ := rW_str qy
    cases e1; cases e2
    exact op_lt_str pins s σ H _ _ v u Q I rx ry ⟨_, _, rfl, rfl, f.same hr (by rw [ltL_eq]; exact RV_bl _)⟩
  · cases e
theorem s_gt : OpR X (compareOp .Gt) (rP X.K pyGt) := by
  intro pins s σ H x y v u Q I rx ry h
  obtain ⟨F, ι, S, px, py, pv, hr, qx, qy, e, f⟩ := h
  unfold pyGt at e
  split at e
  · cases e
    cases rW_int qx; cases rW_int qy
    exact op_gt pins s σ H _ _ v u Q I rx ry ⟨_, _, rfl, rfl, f.same hr (RV_bl _)⟩
  · cases e
    obtain ⟨e1, k1⟩ := rW_str qx
    obtain ⟨e2, k2⟩ := rW_str qy
    cases e1; cases e2
    exact op_gt_str pins s σ H _ _ v u Q I rx ry ⟨_, _, rfl, rfl, f.same hr (by rw [ltL_eq]; exact RV_bl _)⟩
  · cases e
theorem s_ge : OpR X (compareOp .GtE) (rP X.K pyGe) := by
  intro pins s σ H x y v u Q I rx ry h
  obtain ⟨F, ι, S, px, py, pv, hr, qx, qy, e, f⟩ := h
  unfold pyGe at e
  split at e
  · cases e
    cases rW_int qx; cases rW_int qy
    exact op_ge pins s σ H _ _ v u Q I rx ry ⟨_, _, rfl, rfl, f.same hr (RV_bl _)⟩
  · cases e
    obtain ⟨e1, k1⟩ := rW_str qx
    obtain ⟨e2, k2⟩ := rW_str qy
    cases e1; cases e2
    exact op_ge_str pins s σ H _ _ v u Q I rx ry ⟨_, _, rfl, rfl, f.same hr (by rw [ltL_eq]; exact RV_bl _)⟩
  · cases e
end
section
variable {K : PySem.W.Frag} {F : Hp} {ι : List Addr} {H : Hp}
mutual
theorem eqv_eqB : ∀ {n m : Nat} {x y : PV}, shp n x = true → shp m y = true → PyData.eqv (toD x) (toD y) = eqB x y
  | n, m, x, y, hx, hy => by
    match x, y with
    | .non, .non => rfl
    | .non, .bl _ => rfl
    | .non, .int _ => rfl
    | .non, .str _ => rfl
    | .non, .lst _ => rfl
    | .non, .tup _ => rfl
    | .bl _, .non => rfl
    | .bl _, .bl _ => rfl
    | .bl _, .int _ => rfl
    | .bl _, .str _ => rfl
    | .bl _, .lst _ => rfl
    | .bl _, .tup _ => rfl
    | .int _, .non => rfl
    | .int _, .bl _ => rfl
    | .int _, .int _ => rfl
    | .int _, .str _ => rfl
    | .int _, .lst _ => rfl
    | .int _, .tup _ => rfl
    | .str _, .non => rfl
    | .str _, .bl _ => rfl
    | .str _, .int _ => rfl
    | .str a, .str b =>
      simp only [toD, PyData.eqv, eqB]
      rw [Bool.eq_iff_iff, beq_iff_eq, beq_iff_eq]
      exact ⟨sN_inj, fun h => by rw [h]⟩
    | .str _, .lst _ => rfl
    | .str _, .tup _ => rfl
    | .lst _, .non => rfl
    | .lst _, .bl _ => rfl
    | .lst _, .int _ => rfl
    | .lst _, .str _ => rfl
    | .lst xs, .lst ys =>
      simp only [toD, PyData.eqv, eqB]
      cases n with
      | zero => simp [shp] at hx
      | succ n =>
        cases m with
        | zero => simp [shp] at hy
        | succ m => exact eqvs_eqB (by simpa [shp] using hx) (by simpa [shp] using hy)
    | .lst _, .tup _ => rfl
    | .tup _, .non => rfl
    | .tup _, .bl _ => rfl
    | .tup _, .int _ => rfl
    | .tup _, .str _ => rfl
    | .tup _, .lst _ => rfl
    | .tup xs, .tup ys =>
      simp only [toD, PyData.eqv, eqB]
      cases n with
      | zero => simp [shp] at hx
      | succ n =>
        cases m with
        | zero => simp [shp] at hy
        | succ m => exact eqvs_eqB (by simpa [shp] using hx) (by simpa [shp] using hy)
    | .ty _, _ => cases n <;> simp [shp] at hx
    | .dct _, _ => cases n <;> simp [shp] at hx
    | .ins _ _, _ => cases n <;> simp [shp] at hx
    | .obj _, _ => cases n <;> simp [shp] at hx
    | .cls _, _ => cases n <;> simp [shp] at hx
    | .scr _, _ => cases n <;> simp [shp] at hx
    | _, .ty _ => cases m <;> simp [shp] at hy
    | _, .dct _ => cases m <;> simp [shp] at hy
    | _, .ins _ _ => cases m <;> simp [shp] at hy
    | _, .obj _ => cases m <;> simp [shp] at hy
    | _, .cls _ => cases m <;> simp [shp] at hy
    | _, .scr _ => cases m <;> simp [shp] at hy
theorem eqvs_eqB : ∀ {n m : Nat} {x y : List PV}, shps n x = true → shps m y = true → PyData.eqvAll (toDs x) (toDs y) = eqBs x y
  | n, m, x, y, hx, hy => by
    match x, y with
    | [], [] => rfl
    | [], _ :: _ => rfl
    | _ :: _, [] => rfl
    | a :: xs, b :: ys =>
      simp only [shps, Bool.and_eq_true] at hx hy
      simp only [toDs, PyData.eqvAll, eqBs]
      rw [eqv_eqB hx.1 hy.1, eqvs_eqB hx.2 hy.2]
end
mutual
theorem dp_of (h : Sub F H) : ∀ {n : Nat} {x : PV} {v : V}, shp n x = true → RV K F ι x v → Dp K H v (toD x)
  | n, x, v, hx, r => by
    match x with
    | .non => cases (show v = .non by simpa [RV] using r); exact .non
    | .bl b => cases (show v = .bl b by simpa [RV] using r); exact .bl b
    | .int b => cases (show v = .int b by simpa [RV] using r); exact .int b
    | .str b => obtain ⟨e, _⟩ := (show v = .str (sN b) ∧ sOk b by simpa [RV] using r); cases e; exact .str _
    | .lst xs =>
      unfold RV at r
      obtain ⟨a, ys, e, q, l, r⟩ := r
      cases e
      cases n with
      | zero => simp [shp] at hx
      | succ n => exact .lst (SqL.of (h _ _ q)) (dps_of h (by simpa [shp] using hx) r)
    | .tup xs =>
      unfold RV at r
      obtain ⟨a, ys, e, q, l, r⟩ := r
      cases e
      cases n with
      | zero => simp [shp] at hx
      | succ n => exact .tup (h.sqT q) (dps_of h (by simpa [shp] using hx) r)
    | .ty _ => cases n <;> simp [shp] at hx
    | .dct _ => cases n <;> simp [shp] at hx
    | .ins _ _ => cases n <;> simp [shp] at hx
    | .obj _ => cases n <;> simp [shp] at hx
    | .cls _ => cases n <;> simp [shp] at hx
    | .scr _ => cases n <;> simp [shp] at hx
theorem dps_of (h : Sub F H) : ∀ {n : Nat} {x : List PV} {v : List V}, shps n x = true → RVs K F ι x v → DpAll K H v (toDs x)
  | n, [], v, _, r => by unfold RVs at r; subst r; exact .nil
  | n, a :: xs, v, hx, r => by
    unfold RVs at r
    obtain ⟨u, t, e, r1, r2⟩ := r
    subst e
    simp only [shps, Bool.and_eq_true] at hx
    exact .cons (dp_of h hx.1 r1) (dps_of h hx.2 r2)
end
mutual
theorem lay_of : ∀ {n : Nat} {x : PV} {v : V}, shp n x = true → RV K F ι x v → (toD x).canLay0 = true ∧ (toD x).depth ≤ n
  | n, x, v, hx, r => by
    match x with
    | .non => exact ⟨rfl, Nat.zero_le _⟩
    | .bl b => exact ⟨rfl, Nat.zero_le _⟩
    | .int b => exact ⟨rfl, Nat.zero_le _⟩
    | .str b =>
      obtain ⟨e, _, k⟩ := (show v = .str (sN b) ∧ sOk b by simpa [RV] using r)
      refine ⟨?_, Nat.zero_le _⟩
      show PySem.PyData.strOk (sN b) = true
      unfold PySem.PyData.strOk sN
      simpa using k
    | .lst xs =>
      unfold RV at r
      obtain ⟨a, ys, e, q, l, r⟩ := r
      cases n with
      | zero => simp [shp] at hx
      | succ n =>
        obtain ⟨h1, h2⟩ := lays_of (n := n) (by simpa [shp] using hx) r
        exact ⟨h1, Nat.succ_le_succ h2⟩
    | .tup xs =>
      unfold RV at r
      obtain ⟨a, ys, e, q, l, r⟩ := r
      cases n with
      | zero => simp [shp] at hx
      | succ n =>
        obtain ⟨h1, h2⟩ := lays_of (n := n) (by simpa [shp] using hx) r
        exact ⟨h1, Nat.succ_le_succ h2⟩
    | .ty _ => cases n <;> simp [shp] at hx
    | .dct _ => cases n <;> simp [shp] at hx
    | .ins _ _ => cases n <;> simp [shp] at hx
    | .obj _ => cases n <;> simp [shp] at hx
    | .cls _ => cases n <;> simp [shp] at hx
    | .scr _ => cases n <;> simp [shp] at hx
theorem lays_of : ∀ {n : Nat} {x : List PV} {v : List V}, shps n x = true → RVs K F ι x v → PyData.canLayAll0 (toDs x) = true ∧ PyData.depthAll (toDs x) ≤ n
  | n, [], v, _, r => ⟨rfl, Nat.zero_le _⟩
  | n, a :: xs, v, hx, r => by
    unfold RVs at r
    obtain ⟨u, t, e, r1, r2⟩ := r
    subst e
    simp only [shps, Bool.and_eq_true] at hx
    obtain ⟨h1, h2⟩ := lay_of hx.1 r1
    obtain ⟨h3, h4⟩ := lays_of hx.2 r2
    exact ⟨by simp only [toDs, PyData.canLayAll0, h1, h3]; rfl, Nat.max_le.mpr ⟨h2, h4⟩⟩
end
theorem shaped_of {n : Nat} {x : PV} {v : V} (hr : Sub F H) (hx : shp n x = true) (hn : n ≤ 64) (r : rW K F ι H x v) : Dp K H v (toD x) ∧ SeqAt.shaped (toD x) = true := by
  have fin : ∀ {d : PyData}, d.canLay0 = true → d.depth ≤ n → SeqAt.shaped d = true := fun h1 h2 => by
    unfold SeqAt.shaped
    rw [h1, decide_eq_true (Nat.le_trans h2 hn)]
    rfl
  rcases r with r | ⟨a, o, e, i, _, _, r⟩
  · obtain ⟨h1, h2⟩ := lay_of hx r
    exact ⟨dp_of hr hx r, fin h1 h2⟩
  · cases x with
    | lst xs =>
      cases i
      obtain ⟨ys, q, l, r⟩ := r
      cases e
      cases n with
      | zero => simp [shp] at hx
      | succ n =>
        have hs : shps n xs = true := by simpa [shp] using hx
        obtain ⟨h1, h2⟩ := lays_of hs r
        exact ⟨.lst (SqL.of q) (dps_of hr hs r), fin h1 (Nat.succ_le_succ h2)⟩
    | dct _ => cases n <;> simp [shp] at hx
    | _ => cases i
end
section
variable {X : Cx}
theorem s_eq (hu : X.A.units + 64 < cLine) : OpR X (compareOp .Eq) (rP X.K pyEq) := by
  intro pins s σ H x y v u Q I rx ry h
  obtain ⟨F, ι, S, px, py, pv, hr, qx, qy, e, f⟩ := h
  unfold pyEq eqPV at e
  split at e
  · rename_i c
    cases e
    rw [Bool.and_eq_true] at c
    obtain ⟨d1, h1⟩ := shaped_of hr.sub c.1 (by decide) qx
    obtain ⟨d2, h2⟩ := shaped_of hr.sub c.2 (by decide) qy
    exact op_eqD hu pins s σ H x y v u Q I rx ry ⟨_, _, d1, d2, h1, h2, f.same hr (by rw [eqv_eqB c.1 c.2]; exact RV_bl _)⟩
  · cases e
theorem s_ne (hu : X.A.units + 64 < cLine) : OpR X (compareOp .NotEq) (rP X.K pyNe) := by
  intro pins s σ H x y v u Q I rx ry h
  obtain ⟨F, ι, S, px, py, pv, hr, qx, qy, e, f⟩ := h
  unfold pyNe eqPV at e
  split at e
  · rename_i c
    cases e
    rw [Bool.and_eq_true] at c
    obtain ⟨d1, h1⟩ := shaped_of hr.sub c.1 (by decide) qx
    obtain ⟨d2, h2⟩ := shaped_of hr.sub c.2 (by decide) qy
    exact op_neD hu pins s σ H x y v u Q I rx ry ⟨_, _, d1, d2, h1, h2, f.same hr (by rw [eqv_eqB c.1 c.2]; exact RV_bl _)⟩
  · cases e
end
end My
namespace My
open PySem PySem.Spec PyProof.Rows L2
variable [LT]
section
variable {K : PySem.W.Frag} {F : Hp} {ι : List Addr} {H : Hp}
theorem eqvs_any : ∀ {n : Nat} {x : PV} {ys : List PV}, shp n x = true → shps n ys = true → ((toDs ys).any fun z => PyData.eqv z (toD x)) = ys.any fun z => eqB z x
  | n, x, [], _, _ => rfl
  | n, x, y :: ys, hx, hy => by
    simp only [shps, Bool.and_eq_true] at hy
    simp only [toDs, List.any_cons]
    rw [eqv_eqB hy.1 hx, eqvs_any hx hy.2]
theorem keyR_val : ∀ {kvs : List (PV × PV)} {ks : List (Key × V)} {k : PV} {kk : Key}, keyOk k = true → keyR k kk → RVd K F ι kvs ks →
    (∀ v, dLook k kvs = some v → ∃ u, valV ks kk = some u ∧ RV K F ι v u) ∧ (dLook k kvs = none → valV ks kk = none)
  | [], ks, k, kk, _, _, r => by
    unfold RVd at r
    subst r
    exact ⟨fun v h => by simp [dLook] at h, fun _ => rfl⟩
  | (j, p) :: kvs, ks, k, kk, hk, q, r => by
    unfold RVd at r
    obtain ⟨jj, v, t, e, qj, rv, rt⟩ := r
    subst e
    have ih := keyR_val hk q rt
    have key : eqB j k = decide (jj = kk) := by
      cases j <;> first | (exact (show False from qj).elim) | skip
      all_goals cases k <;> first | (exact (show False from q).elim) | skip
      · have e1 : jj = Sum.inl _ := qj
        have e2 : kk = Sum.inl _ := q
        subst e1; subst e2
        rw [Bool.eq_iff_iff]
        simp [eqB]
      · have e1 : jj = Sum.inl _ := qj
        have e2 : kk = Sum.inr _ := q.1
        subst e1; subst e2
        simp [eqB]
      · have e1 : jj = Sum.inr _ := qj.1
        have e2 : kk = Sum.inl _ := q
        subst e1; subst e2
        simp [eqB]
      · have e1 : jj = Sum.inr _ := qj.1
        have e2 : kk = Sum.inr _ := q.1
        subst e1; subst e2
        rw [Bool.eq_iff_iff]
        simp only [eqB, beq_iff_eq, decide_eq_true_eq, Sum.inr.injEq]
        exact ⟨fun h => by rw [h], sN_inj⟩
    unfold valV at ih ⊢
    unfold dLook
    rw [List.find?_cons, key]
    cases e : decide (jj = kk) with
    | true =>
      simp only [if_true]
      exact ⟨fun w h => by cases h; exact ⟨v, rfl, rv⟩, fun h => by cases h⟩
    | false =>
      simp only [Bool.false_eq_true, if_false]
      exact ih
theorem keyR_of {k : PV} {v : V} (hk : keyOk k = true) (r : RV K F ι k v) : ∃ kk, keyR k kk ∧ v = kV kk := by
  cases k <;> first | (simp [keyOk] at hk; done) | skip
  · unfold RV at r
    subst r
    exact ⟨Sum.inl _, rfl, rfl⟩
  · unfold RV at r
    obtain ⟨r, h⟩ := r
    subst r
    exact ⟨Sum.inr _, ⟨rfl, h⟩, rfl⟩
theorem cut_len {α : Type} (xs : List α) (lo hi : Option Int) : (My.cut xs lo hi).length ≤ xs.length := by
  unfold My.cut
  rw [List.length_take, List.length_drop]
  omega
theorem cut_sub {α : Type} (xs : List α) (lo hi : Option Int) : ∀ x ∈ My.cut xs lo hi, x ∈ xs := fun x h => List.mem_of_mem_drop (List.mem_of_mem_take h)
theorem sOk_sub {s t : List Nat} (h : sOk s) (l : t.length ≤ s.length) (m : ∀ c ∈ t, c ∈ s) : sOk t := ⟨Nat.le_trans l h.1, by
  have := h.2
  rw [List.all_eq_true] at this ⊢
  exact fun c hc => this c (m c hc)⟩
theorem cutS_sN (s : List Nat) (lo hi : Option Int) : cutS (sN s) lo hi = sN (My.cut s lo hi) := by
  unfold cutS
  rw [sN_len]
  rfl
theorem RVs.bls : ∀ {ps : List PV} {xs : List V} {ns : List Bool}, allM blOf ps = some ns → RVs K F ι ps xs → xs = ns.map V.bl
  | [], xs, ns, h, r => by unfold RVs at r; subst r; cases h; rfl
  | p :: ps, xs, ns, h, r => by
    unfold RVs at r
    obtain ⟨v, t, e, r1, r2⟩ := r
    subst e
    unfold allM at h
    split at h
    · rename_i a b h1 h2
      cases h
      cases p <;> first | (cases h1; done) | skip
      cases h1
      unfold RV at r1
      subst r1
      rw [RVs.bls h2 r2]
      rfl
    · cases h
end
section
variable {X : Cx}
theorem s_in (hu : X.A.units + 65 < cLine) : OpR X (compareOp .In) (rP X.K (notD pyInB)) := by
  intro pins s σ H x y v u Q I rx ry h
  obtain ⟨F, ι, S, px, py, pv, hr, qx, qy, e, f⟩ := h
  unfold notD pyInB pyIn at e
  cases py <;> first | (cases e; done) | skip
  · -- a text
    simp only at e
    split at e
    · cases e
      obtain ⟨e1, k1⟩ := rW_str qx
      obtain ⟨e2, k2⟩ := rW_str qy
      cases e1; cases e2
      exact op_in_sign pins s σ H _ _ v u Q I rx ry ⟨_, _, rfl, rfl, f.same hr (RV_bl _)⟩
    · cases e
  · simp only at e
    split at e
    · rename_i c
      cases e
      rw [Bool.and_eq_true] at c
      obtain ⟨d1, h1⟩ := shaped_of hr.sub c.1 (by decide) qx
      obtain ⟨d2, h2⟩ := shaped_of (n := 51) hr.sub (show shp 51 (.tup _) = true by simpa [shp] using c.2) (by decide) qy
      obtain ⟨as, r1⟩ := Dp.reads I _ _ v d1 rx
      obtain ⟨bs, r2⟩ := Dp.reads I _ _ u d2 ry
      exact SeqAt.in_tuple_reads r2 r1 (SeqAt.canLay_of_shaped h2) (SeqAt.canLay_of_shaped h1) (room_in_shaped h1 hu) ⟨.bl _, H, I, rfl, f.same hr (by rw [eqvs_any c.1 c.2]; exact RV_bl _)⟩
    · cases e
  · simp only at e
    split at e
    · rename_i c
      cases e
      rw [Bool.and_eq_true] at c
      obtain ⟨d1, h1⟩ := shaped_of hr.sub c.1 (by decide) qx
      obtain ⟨d2, h2⟩ := shaped_of (n := 51) hr.sub (show shp 51 (.lst _) = true by simpa [shp] using c.2) (by decide) qy
      exact op_inD hu pins s σ H _ _ v u Q I rx ry ⟨_, _, d1, d2, h1, h2, f.same hr (by rw [eqvs_any c.1 c.2]; exact RV_bl _)⟩
    · cases e
theorem c_len : CallR X (.builtin "len") (rC1 X.K pyLen) := by
  intro pins s σ H xs us Q I r h
  obtain ⟨x', rfl, F, ι, S, px, pv, hr, qx, e, f⟩ := h
  unfold pyLen at e
  cases px <;> first | (cases e; done) | skip
  · cases e
    obtain ⟨e1, k1⟩ := rW_str qx
    cases e1
    exact call_len_str pins s σ H _ us Q I r ⟨_, rfl, by rw [sN_len, lim_eq]; exact k1.1, f.same hr (by rw [sN_len]; exact RV_int _)⟩
  · cases e
    obtain ⟨a, xs, e1, s1, _, _, r1⟩ := rW_tup hr.sub qx
    cases e1
    exact call_len_seq pins s σ H _ us Q I r ⟨a, xs, rfl, .inr s1, f.same hr (by rw [r1.length]; exact RV_int _)⟩
  · cases e
    obtain ⟨a, xs, e1, s1, _, r1⟩ := rW_lst hr.sub qx
    cases e1
    exact call_len_seq pins s σ H _ us Q I r ⟨a, xs, rfl, .inl (SqL.of s1), f.same hr (by rw [r1.length]; exact RV_int _)⟩
  · cases e
    rcases qx with ⟨a, e1, q, l⟩ | ⟨_, _, _, i, _⟩
    · cases e1
      exact call_len_seq pins s σ H _ us Q I r ⟨a, _, rfl, .inl (hr.sub.sqL q), f.same hr (by rw [List.length_map]; exact RV_int _)⟩
    · cases i
theorem c_int : CallR X (.type "int") (rC1 X.K pyInt) := by
  intro pins s σ H xs us Q I r h
  obtain ⟨x', rfl, F, ι, S, px, pv, hr, qx, e, f⟩ := h
  unfold pyInt at e
  cases px <;> first | (cases e; done) | skip
  · cases e
    cases rW_bl qx
    exact call_int1 pins s σ H _ us Q I r (.inr ⟨_, rfl, f.same hr (RV_int _)⟩)
  · cases e
    cases rW_int qx
    exact call_int1 pins s σ H _ us Q I r (.inl ⟨_, rfl, f.same hr (RV_int _)⟩)
theorem c_abs : CallR X (.builtin "abs") (rC1 X.K pyAbs) := by
  intro pins s σ H xs us Q I r h
  obtain ⟨x', rfl, F, ι, S, px, pv, hr, qx, e, f⟩ := h
  unfold pyAbs at e
  cases px <;> first | (cases e; done) | skip
  cases e
  cases rW_int qx
  exact call_abs pins s σ H _ us Q I r ⟨_, rfl, f.same hr (RV_int _)⟩
theorem c_max2 (hc : X.calm = true) : CallR X (.builtin "max") (rC2 X.K pyMax2) := by
  intro pins s σ H xs us Q I r h
  obtain ⟨x', y', rfl, F, ι, S, px, py, pv, hr, qx, qy, e, f⟩ := h
  unfold pyMax2 at e
  split at e
  · cases e
    cases rW_int qx; cases rW_int qy
    exact call_max2 hc pins s σ H _ us Q I r ⟨_, _, rfl, f.same hr (RV_int _)⟩
  · cases e
theorem c_min2 (hc : X.calm = true) : CallR X (.builtin "min") (rC2 X.K pyMin2) := by
  intro pins s σ H xs us Q I r h
  obtain ⟨x', y', rfl, F, ι, S, px, py, pv, hr, qx, qy, e, f⟩ := h
  unfold pyMin2 at e
  split at e
  · cases e
    cases rW_int qx; cases rW_int qy
    exact call_min2 hc pins s σ H _ us Q I r ⟨_, _, rfl, f.same hr (RV_int _)⟩
  · cases e
theorem c_all (hc : X.calm = true) : CallR X (.builtin "all") (rC1 X.K pyAll) := by
  intro pins s σ H xs us Q I r h
  obtain ⟨x', rfl, F, ι, S, px, pv, hr, qx, e, f⟩ := h
  unfold pyAll at e
  cases px <;> first | (cases e; done) | skip
  simp only [Option.map_eq_some_iff] at e
  obtain ⟨ns, e, e2⟩ := e
  cases e2
  obtain ⟨a, xs, e1, s1, _, r1⟩ := rW_lst hr.sub qx
  cases e1
  have := r1.bls e
  subst this
  exact cr_all hc pins s σ H _ us Q I r ⟨a, ns, rfl, SqL.of s1, f.same hr (RV_bl _)⟩
end
end My
namespace My
open PySem PySem.Spec PyProof.Rows L2
variable [LT]
section
variable {X : Cx} {fe : FE} {W : WX} {a b c e : Expr} {da db dc d : DE} {pos : Pos}
theorem sim_ovar {i : Nat} {x : Str} (hN : X.N[i]? = some x) (hv : Vis X.env.scope x) (hd : (x == ("__debug__" : Str)) = false := by decide) (hcd : (x == ("__classdict__" : Str)) = false := by decide) : PE X (.Name x pos) (tO X.K fe W (ovarE i)) := by
  refine PE.imp (pe_var hN hv hd hcd) fun σ H Q h => ?_
  obtain ⟨F, ι, S, ρ, sr, o⟩ := h
  unfold ovarE at o
  split at o
  · rename_i v e
    obtain ⟨x, hx, a, e2, f, n, r⟩ := sr.at_ i _ e
    subst e2
    exact ⟨_, hx, o F ι _ H Step.refl sr.hr (.inr ⟨a, _, rfl, rfl, f, n, r⟩)⟩
  · rename_i v e
    obtain ⟨x, hx, a, e2, f, n, r⟩ := sr.at_ i _ e
    subst e2
    exact ⟨_, hx, o F ι _ H Step.refl sr.hr (.inr ⟨a, _, rfl, rfl, f, n, r⟩)⟩
  · exact o.elim
theorem sim_c {v : PV} {v' : V} (h : PE X e (tC v')) (r : ∀ F ι, RV X.K F ι v v') : PE X e (tE X.K fe W (cstE v)) := by
  refine PE.imp h fun σ H Q h => ?_
  obtain ⟨F, ι, S, ρ, sr, o⟩ := h
  exact o F ι v' H Step.refl sr.hr (r F ι)
theorem sim_int {i : Int} {j : Nat} : PE X (.Constant (.int i) j pos) (tE X.K fe W (cstE (.int i))) := sim_c pe_int fun _ _ => RV_int i
theorem sim_bl {i : Bool} {j : Nat} : PE X (.Constant (.bool i) j pos) (tE X.K fe W (cstE (.bl i))) := sim_c pe_bl fun _ _ => RV_bl i
theorem sim_non {j : Nat} : PE X (.Constant .none j pos) (tE X.K fe W (cstE .non)) := sim_c pe_non fun _ _ => RV_non
theorem sim_str {x : Str} {s : List Nat} {j : Nat} (hx : x = sN s := by decide +kernel) (hs : (decide (s.length ≤ lim) && s.all (· < 1114112)) = true := by decide +kernel) : PE X (.Constant (.str x) j pos) (tE X.K fe W (cstE (.str s))) := by
  subst hx
  rw [Bool.and_eq_true] at hs
  exact sim_c pe_str fun _ _ => RV_str ⟨of_decide_eq_true hs.1, hs.2⟩
theorem sim_glob {x : Str} {v : PV} {v' : V} {u : Value} (hg : Gl X x) (hm : X.mg x = some u) (r : RelV v' u) (r2 : ∀ F ι, RV X.K F ι v v') (hd : (x == ("__debug__" : Str)) = false := by decide) : PE X (.Name x pos) (tE X.K fe W (cstE v)) := sim_c (pe_glob hg hm r hd) r2
theorem bin_of {f : PV → PV → Option PV} {r : R2} (hr : ∀ x y H Q, rP X.K f x y H Q → r x y H Q) {σ : L2.St} {H : Hp} {Q : VK} (h : tE X.K fe W (bin f da db) σ H Q) : tOp r (tO X.K fe W da) (tO X.K fe W db) σ H Q := by
  obtain ⟨F, ι, S, ρ, sr, o⟩ := h
  refine ⟨F, ι, S, ρ, sr, ?_⟩
  have o1 := OutE.bind (R' := rW X.K) sr o
  revert o1
  generalize da fe ρ S = ra
  intro o1
  cases ra with
  | no => exact o1
  | ex x S1 => exact o1
  | ok v S1 =>
    intro F1 ι1 v1 H1 st1 hr1 q1
    obtain ⟨F', ι', S', v', st, sr1, q, e, o2⟩ := o1 F1 ι1 v1 H1 st1 hr1 q1
    cases e
    refine ⟨F', ι', S1, ρ, sr1, ?_⟩
    have o3 := OutE.bind (R' := rW X.K) sr1 o2
    revert o3
    generalize db fe ρ S1 = rb
    intro o3
    cases rb with
    | no => exact o3
    | ex x S2 => exact o3
    | ok w S2 =>
      intro F2 ι2 w2 H2 st2 hr2 q2
      obtain ⟨F3, ι3, S3, w3, st3, sr3, q3, e, o4⟩ := o3 F2 ι2 w2 H2 st2 hr2 q2
      cases e
      cases ef : f v w with
      | none => rw [ef] at o4; exact o4.elim
      | some z =>
        rw [ef] at o4
        exact hr _ _ _ _ ⟨F3, ι3, S2, v, w, z, sr3.hr, q.step st3, q3, ef, fun F4 v4 H4 st4 hr4 r4 => o4 F4 ι3 v4 H4 st4 hr4 r4⟩
theorem sim_bin {op : Operator} {f : PV → PV → Option PV} (ho : OpR X (binaryOp op) (rP X.K f)) (ha : PE X a (tO X.K fe W da)) (hb : PE X b (tO X.K fe W db)) : PE X (.BinOp a op b pos) (tE X.K fe W (bin f da db)) :=
  PE.imp (pe_op ho ha hb) fun _ _ _ h => bin_of (fun _ _ _ _ z => z) h
theorem sim_cmp {op : CmpOp} {f : PV → PV → Option PV} (ho : OpR X (compareOp op) (rP X.K f)) (ha : PE X a (tO X.K fe W da)) (hb : PE X b (tO X.K fe W db)) (hm : behindInMarks op b = false := by with_unfolding_all rfl) : PE X (.Compare a [op] [b] pos) (tE X.K fe W (bin f da db)) :=
  PE.imp (pe_cmpR ho ha hb hm) fun _ _ _ h => bin_of (fun _ _ _ _ z => z) h
theorem un_of {f : PV → Option PV} {r : V → Hp → VK → Prop} (hr : ∀ x H Q, rU1 X.K f x H Q → r x H Q) {σ : L2.St} {H : Hp} {Q : VK} (h : tE X.K fe W (un f da) σ H Q) : tUn r (tO X.K fe W da) σ H Q := by
  obtain ⟨F, ι, S, ρ, sr, o⟩ := h
  refine ⟨F, ι, S, ρ, sr, ?_⟩
  have o1 := OutE.bind (R' := rW X.K) sr o
  revert o1
  generalize da fe ρ S = ra
  intro o1
  cases ra with
  | no => exact o1
  | ex x S1 => exact o1
  | ok v S1 =>
    intro F1 ι1 v1 H1 st1 hr1 q1
    obtain ⟨F', ι', S', v', st, sr1, q, e, o2⟩ := o1 F1 ι1 v1 H1 st1 hr1 q1
    cases e
    cases ef : f v with
    | none => rw [ef] at o2; exact o2.elim
    | some z =>
      rw [ef] at o2
      exact hr _ _ _ ⟨F', ι', S1, v, z, sr1.hr, q, ef, fun F4 v4 H4 st4 hr4 r4 => o2 F4 ι' v4 H4 st4 hr4 r4⟩
theorem sim_un {op : UnaryOp} {f : PV → Option PV} (ho : UnR X (unaryOp op) (rU1 X.K f)) (ha : PE X a (tO X.K fe W da)) : PE X (.UnaryOp op a pos) (tE X.K fe W (un f da)) :=
  PE.imp (pe_un ho ha) fun _ _ _ h => un_of (fun _ _ _ z => z) h
theorem c1_of {f : PV → Option PV} {σ : L2.St} {H : Hp} {Q : VK} (h : tE X.K fe W (un f da) σ H Q) : tCB (rC1 X.K f) (tCons (tO X.K fe W da) tNil) σ H Q := by
  have := un_of (r := fun x H Q => rC1 X.K f [x] H Q) (fun x H Q z => ⟨x, rfl, z⟩) h
  exact this
theorem c2_of {f : PV → PV → Option PV} {σ : L2.St} {H : Hp} {Q : VK} (h : tE X.K fe W (bin f da db) σ H Q) : tCB (rC2 X.K f) (tCons (tO X.K fe W da) (tCons (tO X.K fe W db) tNil)) σ H Q := by
  have := bin_of (r := fun x y H Q => rC2 X.K f [x, y] H Q) (fun x y H Q z => ⟨x, y, rfl, z⟩) h
  exact this
def isSt : Expr → Bool
  | .Starred _ _ => true
  | _ => false
theorem noStar {e : Expr} {es : List Expr} {env : Env} (h : isSt e = false) : starEach (e :: es) env = (false, eval e env) :: starEach es env := by
  cases e <;> first | (cases h; done) | rfl
theorem sim_b1 {x : Str} {id : String} {f : PV → Option PV} {p : Pos} (hc : CallR X (.builtin id) (rC1 X.K f)) (hg : Gl X x) (hm : X.mg x = none) (hv : bootBuiltins x = some (.builtin id)) (ha : PE X a (tO X.K fe W da))
    (hs : isSt a = false := by rfl) (hn : x ≠ "__name__" := by decide) (hdb : (x == ("__debug__" : Str)) = false := by decide) : PE X (.Call (.Name x p) [a] [] pos) (tE X.K fe W (un f da)) :=
  PE.imp (pe_callB hc hg hm hv (pa_cons ha pa_nil (noStar hs)) hn hdb (noStar hs)) fun _ _ _ h => c1_of h
theorem sim_t1 {x : Str} {T : String} {f : PV → Option PV} {p : Pos} (hc : CallR X (.type T) (rC1 X.K f)) (hg : Gl X x) (hm : X.mg x = none) (hv : bootBuiltins x = some (.type T)) (ha : PE X a (tO X.K fe W da))
    (hs : isSt a = false := by rfl) (hn : x ≠ "__name__" := by decide) (hdb : (x == ("__debug__" : Str)) = false := by decide) : PE X (.Call (.Name x p) [a] [] pos) (tE X.K fe W (un f da)) :=
  PE.imp (pe_callTy hc hg hm hv (pa_cons ha pa_nil (noStar hs)) hn hdb (noStar hs)) fun _ _ _ h => c1_of h
theorem sim_b2 {x : Str} {id : String} {f : PV → PV → Option PV} {p : Pos} (hc : CallR X (.builtin id) (rC2 X.K f)) (hg : Gl X x) (hm : X.mg x = none) (hv : bootBuiltins x = some (.builtin id)) (ha : PE X a (tO X.K fe W da)) (hb : PE X b (tO X.K fe W db))
    (hs : isSt a = false := by rfl) (hs2 : isSt b = false := by rfl) (hn : x ≠ "__name__" := by decide) (hdb : (x == ("__debug__" : Str)) = false := by decide) :
    PE X (.Call (.Name x p) [a, b] [] pos) (tE X.K fe W (bin f da db)) :=
  PE.imp (pe_callB hc hg hm hv (pa_cons ha (pa_cons hb pa_nil (noStar hs2)) (noStar hs)) hn hdb (noStar hs) (by rw [noStar hs2]; rfl)) fun _ _ _ h => c2_of h
theorem tB_bind {k : Rho → PV → IS → Res PV} {σ : L2.St} {H : Hp} {Q : VK} (h : tE X.K fe W (fun fe ρ S => (da fe ρ S).bind (k ρ)) σ H Q)
    {Q2 : Bool → Hp → Prop} (hk : ∀ F ι S ρ v H, SR X.K F ι σ ρ H S → OutE X.K (rV X.K) W Q F ι σ H (k ρ v S) → ∃ b, v = .bl b ∧ Q2 b H) : tB X.K fe W da σ H Q2 := by
  obtain ⟨F, ι, S, ρ, sr, o⟩ := h
  refine ⟨F, ι, S, ρ, sr, ?_⟩
  have o1 := OutE.bind (R' := rV X.K) sr o
  revert o1
  generalize da fe ρ S = ra
  intro o1
  cases ra with
  | no => exact o1
  | ex x S1 => exact o1
  | ok v S1 =>
    intro F1 ι1 v1 H1 st1 hr1 q1
    obtain ⟨F', ι', S', v', st, sr1, q, e, o2⟩ := o1 F1 ι1 v1 H1 st1 hr1 q1
    cases e
    obtain ⟨b, e, q2⟩ := hk F' ι' S1 ρ v H1 sr1 o2
    subst e
    exact ⟨b, (show v1 = .bl b by simpa [rV, RV] using q), q2⟩
theorem bin_ofB {f : PV → PV → Option PV} {r : R2} (hr : ∀ x y H Q, rP X.K f x y H Q → r x y H Q) {σ : L2.St} {H : Hp} {Q : Bool → Hp → Prop} (h : My.tB X.K fe W (bin f da db) σ H Q) : tTest (tOp r (tO X.K fe W da) (tO X.K fe W db)) σ H Q := bin_of hr h
theorem t_cmp {op : CmpOp} {f : PV → PV → Option PV} (ho : OpR X (compareOp op) (rP X.K f)) (ha : PE X a (tO X.K fe W da)) (hb : PE X b (tO X.K fe W db)) (hm : behindInMarks op b = false := by with_unfolding_all rfl) : PT X (.Compare a [op] [b] pos) (My.tB X.K fe W (bin f da db)) :=
  PT.imp (pt_cmpR ho ha hb hm) fun _ _ _ h => bin_ofB (fun _ _ _ _ z => z) h
variable {rest : List Expr}
theorem w_and1 (ha : PT X a (My.tB X.K fe W da)) : PW X (.BoolOp .And [a] pos) (My.tB X.K fe W da) := pw_and1 ha
theorem w_or1 (ha : PT X a (My.tB X.K fe W da)) : PW X (.BoolOp .Or [a] pos) (My.tB X.K fe W da) := pw_or1 ha
theorem w_and (ha : PT X a (My.tB X.K fe W da)) (hb : PW X (.BoolOp .And (b :: rest) pos) (My.tB X.K fe W db)) : PW X (.BoolOp .And (a :: b :: rest) pos) (My.tB X.K fe W (andE da db)) := by
  refine PW.imp (pw_and ha hb) fun σ H Q h => ?_
  refine tB_bind (k := fun ρ x S1 => match x with | .bl true => db fe ρ S1 | .bl false => .ok (.bl false) S1 | _ => .no) h fun F ι S ρ v H sr o => ?_
  cases v <;> first | (exact o.elim) | skip
  rename_i b
  refine ⟨b, rfl, ?_⟩
  cases b with
  | true => exact ⟨F, ι, S, ρ, sr, o⟩
  | false =>
    obtain ⟨b', e, q⟩ := o F ι _ H Step.refl sr.hr (RV_bl _)
    cases e
    exact q
theorem w_or (ha : PT X a (My.tB X.K fe W da)) (hb : PW X (.BoolOp .Or (b :: rest) pos) (My.tB X.K fe W db)) : PW X (.BoolOp .Or (a :: b :: rest) pos) (My.tB X.K fe W (orE da db)) := by
  refine PW.imp (pw_or ha hb) fun σ H Q h => ?_
  refine tB_bind (k := fun ρ x S1 => match x with | .bl true => .ok (.bl true) S1 | .bl false => db fe ρ S1 | _ => .no) h fun F ι S ρ v H sr o => ?_
  cases v <;> first | (exact o.elim) | skip
  rename_i b
  refine ⟨b, rfl, ?_⟩
  cases b with
  | false => exact ⟨F, ι, S, ρ, sr, o⟩
  | true =>
    obtain ⟨b', e, q⟩ := o F ι _ H Step.refl sr.hr (RV_bl _)
    cases e
    exact q
theorem t_w (h : PW X a (My.tB X.K fe W da)) : PT X a (My.tB X.K fe W da) := h.pt
theorem e_bind {k : Rho → PV → IS → Res PV} {σ : L2.St} {H : Hp} {Q : VK} (h : tE X.K fe W (fun fe ρ S => (da fe ρ S).bind (k ρ)) σ H Q)
    {Q2 : VK} (hk : ∀ F ι S ρ v v' H, SR X.K F ι σ ρ H S → RV X.K F ι v v' → OutE X.K (rV X.K) W Q F ι σ H (k ρ v S) → Q2 v' H) : tE X.K fe W da σ H Q2 := by
  obtain ⟨F, ι, S, ρ, sr, o⟩ := h
  refine ⟨F, ι, S, ρ, sr, ?_⟩
  have o1 := OutE.bind (R' := rV X.K) sr o
  revert o1
  generalize da fe ρ S = ra
  intro o1
  cases ra with
  | no => exact o1
  | ex x S1 => exact o1
  | ok v S1 =>
    intro F1 ι1 v1 H1 st1 hr1 q1
    obtain ⟨F', ι', S', v', st, sr1, q, e, o2⟩ := o1 F1 ι1 v1 H1 st1 hr1 q1
    cases e
    exact hk F' ι' S1 ρ v v1 H1 sr1 q o2
theorem sim_one {op : BoolOp} (ha : PE X a (tE X.K fe W da)) : PE X (.BoolOp op [a] pos) (tE X.K fe W da) := pe_one ha
theorem sim_and (ha : PE X a (tE X.K fe W da)) (hb : PE X (.BoolOp .And (b :: rest) pos) (tE X.K fe W db)) : PE X (.BoolOp .And (a :: b :: rest) pos) (tE X.K fe W (andE da db)) := by
  refine PE.imp (pe_and ha hb) fun σ H Q h => ?_
  refine e_bind (k := fun ρ x S1 => match x with | .bl true => db fe ρ S1 | .bl false => .ok (.bl false) S1 | _ => .no) h fun F ι S ρ v v' H sr r o => ?_
  cases v <;> first | (exact o.elim) | skip
  rename_i b
  refine ⟨b, (show v' = .bl b by simpa [RV] using r), ?_⟩
  cases b with
  | true => exact ⟨F, ι, S, ρ, sr, o⟩
  | false => exact o F ι _ H Step.refl sr.hr (RV_bl _)
theorem sim_ite (hc : PT X c (My.tB X.K fe W dc)) (ha : PE X a (tE X.K fe W da)) (hb : PE X b (tE X.K fe W db)) : PE X (.IfExp c a b pos) (tE X.K fe W (iteE dc da db)) := by
  refine PE.imp (pe_ifExp hc ha hb) fun σ H Q h => ?_
  refine tB_bind (k := fun ρ x S1 => match x with | .bl true => da fe ρ S1 | .bl false => db fe ρ S1 | _ => .no) h fun F ι S ρ v H sr o => ?_
  cases v <;> first | (exact o.elim) | skip
  rename_i b
  refine ⟨b, rfl, ?_⟩
  cases b with
  | true => exact ⟨F, ι, S, ρ, sr, o⟩
  | false => exact ⟨F, ι, S, ρ, sr, o⟩
section
variable {F : Hp} {ι : List Addr} {S : IS} {ρ : Rho} {σ : L2.St} {H : Hp} {Q : VK} {R : RL}
theorem e_b {k : PV → IS → Res PV} (sr : SR X.K F ι σ ρ H S) (o : OutE X.K R W Q F ι σ H ((da fe ρ S).bind k)) {Q2 : VK}
    (hk : ∀ F1 ι1 S1 v v' H1, Step F ι H F1 ι1 H1 → SR X.K F1 ι1 σ ρ H1 S1 → RV X.K F1 ι1 v v' → OutE X.K R W Q F1 ι1 σ H1 (k v S1) → Q2 v' H1) : tE X.K fe W da σ H Q2 := by
  refine ⟨F, ι, S, ρ, sr, ?_⟩
  have o1 := OutE.bind (R' := rV X.K) sr o
  revert o1
  generalize da fe ρ S = ra
  intro o1
  cases ra with
  | no => exact o1
  | ex x S1 => exact o1
  | ok v S1 =>
    intro F1 ι1 v1 H1 st1 hr1 q1
    obtain ⟨F', ι', S', v', st, sr1, q, e, o2⟩ := o1 F1 ι1 v1 H1 st1 hr1 q1
    cases e
    exact hk F' ι' S1 v v1 H1 st sr1 q o2
theorem o_b {k : PV → IS → Res PV} (sr : SR X.K F ι σ ρ H S) (o : OutE X.K R W Q F ι σ H ((da fe ρ S).bind k)) {Q2 : VK}
    (hk : ∀ F1 ι1 S1 v v' H1, Step F ι H F1 ι1 H1 → SR X.K F1 ι1 σ ρ H1 S1 → rW X.K F1 ι1 H1 v v' → OutE X.K R W Q F1 ι1 σ H1 (k v S1) → Q2 v' H1) : tO X.K fe W da σ H Q2 := by
  refine ⟨F, ι, S, ρ, sr, ?_⟩
  have o1 := OutE.bind (R' := rW X.K) sr o
  revert o1
  generalize da fe ρ S = ra
  intro o1
  cases ra with
  | no => exact o1
  | ex x S1 => exact o1
  | ok v S1 =>
    intro F1 ι1 v1 H1 st1 hr1 q1
    obtain ⟨F', ι', S', v', st, sr1, q, e, o2⟩ := o1 F1 ι1 v1 H1 st1 hr1 q1
    cases e
    exact hk F' ι' S1 v v1 H1 st sr1 q o2
theorem a_b {es : DEs} {k : List PV → IS → Res PV} (sr : SR X.K F ι σ ρ H S) (o : OutE X.K R W Q F ι σ H ((es fe ρ S).bind k)) {Q2 : List V → Hp → Prop}
    (hk : ∀ F1 ι1 S1 v v' H1, Step F ι H F1 ι1 H1 → SR X.K F1 ι1 σ ρ H1 S1 → RVs X.K F1 ι1 v v' → OutE X.K R W Q F1 ι1 σ H1 (k v S1) → Q2 v' H1) : tA X.K fe W es σ H Q2 := by
  refine ⟨F, ι, S, ρ, sr, ?_⟩
  have o1 := OutE.bindA sr o
  revert o1
  generalize es fe ρ S = ra
  intro o1
  cases ra with
  | no => exact o1
  | ex x S1 => exact o1
  | ok v S1 =>
    intro F1 ι1 v1 H1 st1 hr1 q1
    obtain ⟨F', ι', S', v', st, sr1, q, e, o2⟩ := o1 F1 ι1 v1 H1 st1 hr1 q1
    cases e
    exact hk F' ι' S1 v v1 H1 st sr1 q o2
theorem e_bA {k : PV → IS → Res (List PV)} {Q : List V → Hp → Prop} (sr : SR X.K F ι σ ρ H S) (o : OutA X.K W Q F ι σ H ((da fe ρ S).bind k)) {Q2 : VK}
    (hk : ∀ F1 ι1 S1 v v' H1, Step F ι H F1 ι1 H1 → SR X.K F1 ι1 σ ρ H1 S1 → RV X.K F1 ι1 v v' → OutA X.K W Q F1 ι1 σ H1 (k v S1) → Q2 v' H1) : tE X.K fe W da σ H Q2 := by
  refine ⟨F, ι, S, ρ, sr, ?_⟩
  have o1 := OutA.bind (R' := rV X.K) sr o
  revert o1
  generalize da fe ρ S = ra
  intro o1
  cases ra with
  | no => exact o1
  | ex x S1 => exact o1
  | ok v S1 =>
    intro F1 ι1 v1 H1 st1 hr1 q1
    obtain ⟨F', ι', S', v', st, sr1, q, e, o2⟩ := o1 F1 ι1 v1 H1 st1 hr1 q1
    cases e
    exact hk F' ι' S1 v v1 H1 st sr1 q o2
theorem a_bA {es : DEs} {k : List PV → IS → Res (List PV)} {Q : List V → Hp → Prop} (sr : SR X.K F ι σ ρ H S) (o : OutA X.K W Q F ι σ H ((es fe ρ S).bind k)) {Q2 : List V → Hp → Prop}
    (hk : ∀ F1 ι1 S1 v v' H1, Step F ι H F1 ι1 H1 → SR X.K F1 ι1 σ ρ H1 S1 → RVs X.K F1 ι1 v v' → OutA X.K W Q F1 ι1 σ H1 (k v S1) → Q2 v' H1) : tA X.K fe W es σ H Q2 := by
  refine ⟨F, ι, S, ρ, sr, ?_⟩
  have o1 := OutA.bindA sr o
  revert o1
  generalize es fe ρ S = ra
  intro o1
  cases ra with
  | no => exact o1
  | ex x S1 => exact o1
  | ok v S1 =>
    intro F1 ι1 v1 H1 st1 hr1 q1
    obtain ⟨F', ι', S', v', st, sr1, q, e, o2⟩ := o1 F1 ι1 v1 H1 st1 hr1 q1
    cases e
    exact hk F' ι' S1 v v1 H1 st sr1 q o2
end
variable {es : List Expr} {ds : DEs}
theorem sim_nil : PA X [] (tA X.K fe W nilA) := PA.imp pa_nil fun σ H Q ⟨F, ι, S, ρ, sr, o⟩ => o F ι [] H Step.refl sr.hr rfl
theorem sim_cons (ha : PE X a (tE X.K fe W da)) (hr : PA X es (tA X.K fe W ds)) (hs : isSt a = false := by rfl) : PA X (a :: es) (tA X.K fe W (consA da ds)) := by
  refine PA.imp (pa_cons ha hr (noStar hs)) fun σ H Q h => ?_
  obtain ⟨F, ι, S, ρ, sr, o⟩ := h
  refine e_bA sr o fun F1 ι1 S1 v v' H1 st1 sr1 r1 o1 => ?_
  refine a_bA sr1 o1 fun F2 ι2 S2 w w' H2 st2 sr2 r2 o2 => ?_
  exact o2 F2 ι2 _ H2 Step.refl sr2.hr ⟨v', w', rfl, r1.mono st2.sub st2.pre, r2⟩
theorem sim_tup {k : Nat} (h : PA X es (tA X.K fe W ds)) : PE X (.Tuple es k pos) (tE X.K fe W (tupE ds)) := by
  refine PE.imp (pe_tup h) fun σ H Q h => ?_
  obtain ⟨F, ι, S, ρ, sr, o⟩ := h
  refine a_b sr o fun F1 ι1 S1 v v' H1 st1 sr1 r1 o1 => ?_
  split at o1
  · rename_i hl
    exact ⟨by rw [← r1.length, lim_eq]; exact hl, fun p hp => o1 _ _ _ _ (Step.fz sr1.hr hp) (sr1.hr.fz hp) (RV_tup (SqT.of upd_same) hl (r1.mono (Sub.upd_new (free_of sr1.hr.sub hp)) (Pre.refl _)))⟩
  · exact o1.elim
theorem new_of {F : Hp} {ι : List Addr} {H H0 : Hp} {S : IS} {ps : List PV} {xs : List V} {p : Addr} {Q : VK} {σ : L2.St} (hr : HR X.K F ι H S) (h0 : ∀ a, H0 a ≠ none → H a ≠ none) (hp : H p = none) (l : ps.length ≤ lim) (r : RVs X.K F ι ps xs)
    (o : OutE X.K (rN X.K H0) W Q F ι σ H (.ok (.lst ps) S)) : Q (.ref p) (upd H p (.lst xs)) := by
  refine o F ι _ _ (Step.nw hr hp) (hr.nw hp) ⟨p, .lst ps, rfl, rfl, ?_, free_of hr.sub hp, fun m => ?_, xs, upd_same, l, r⟩
  · cases e : H0 p with
    | none => rfl
    | some u => exact absurd hp (h0 p (by rw [e]; simp))
  · obtain ⟨n, e⟩ := List.mem_iff_getElem?.mp m
    have hn : n < S.length := by rw [← hr.len]; exact (List.getElem?_eq_some_iff.mp e).1
    exact (hr.obj n p S[n] e (by simp [hn])).there hp
theorem sim_lstN (h : PA X es (tA X.K fe W ds)) : PE X (.List es pos) (tN X.K fe W (lstE ds)) := by
  refine PE.imp (pe_lst h) fun σ H Q h => ?_
  obtain ⟨F, ι, S, ρ, sr, o⟩ := h
  refine a_b sr o fun F1 ι1 S1 v v' H1 st1 sr1 r1 o1 => ?_
  split at o1
  · rename_i hl
    exact ⟨by rw [← r1.length, lim_eq]; exact hl, fun p hp => new_of sr1.hr (fun a h => st1.there a h) hp hl r1 o1⟩
  · exact o1.elim
theorem tE_tN (hl : ∀ fe ρ S v S', d fe ρ S = .ok v S' → ∃ ps, v = .lst ps) {σ : L2.St} {H : Hp} {Q : VK} (h : tE X.K fe W d σ H Q) : tN X.K fe W d σ H Q := by
  obtain ⟨F, ι, S, ρ, sr, o⟩ := h
  refine ⟨F, ι, S, ρ, sr, ?_⟩
  have hl := hl fe ρ S
  revert o hl
  generalize d fe ρ S = r
  intro o hl
  cases r with
  | no => exact o
  | ex x S' => exact o
  | ok v S' =>
    obtain ⟨ps, e⟩ := hl v S' rfl
    subst e
    intro F' ι' v' H' st hr q
    obtain ⟨a, oo, e, i, h0, f, n, q⟩ := q
    · subst e
      cases i
      obtain ⟨xs, ha, l, r⟩ := q
      have sub : Sub F' (upd F' a (.lst xs)) := Sub.upd_new f
      have hs : Sub (upd F' a (.lst xs)) H' := fun b u z => by
        by_cases hb : b = a
        · subst hb; rw [upd_same] at z; cases z; exact ha
        · rw [upd_ne hb] at z; exact hr.sub b u z
      refine o (upd F' a (.lst xs)) ι' _ H' ⟨st.sub.trans sub, fun b hb fb => ?_, st.pre, st.new, st.keep, st.there⟩ ⟨hs, hr.len, hr.nd, fun b hb => ?_, fun m b u e1 e2 => ?_, hr.tabs.fz (fun u z => by rw [ha] at z; cases z; trivial)⟩ (RV_lst upd_same l (r.mono sub (Pre.refl _)))
      · have : b ≠ a := fun e => hb (by rw [e]; exact h0)
        rw [upd_ne this]
        exact st.fresh b hb fb
      · have : b ≠ a := fun e => n (by rw [← e]; exact hb)
        rw [upd_ne this]
        exact hr.out b hb
      · exact (hr.obj m b u e1 e2).mono sub (Pre.refl _) fun _ z _ => z
theorem N_E (h : PE X e (tN X.K fe W d)) (hl : ∀ fe ρ S v S', d fe ρ S = .ok v S' → ∃ ps, v = .lst ps) : PE X e (tE X.K fe W d) := PE.imp h fun _ _ _ h => tE_tN hl h
theorem lstE_lst {ds : DEs} : ∀ fe ρ S v S', lstE ds fe ρ S = .ok v S' → ∃ ps, v = .lst ps := by
  intro fe ρ S v S' h
  obtain ⟨xs, S1, _, h2⟩ := Res.bind_eq_ok h
  split at h2
  · cases h2; exact ⟨_, rfl⟩
  · cases h2
theorem sim_lst (h : PA X es (tA X.K fe W ds)) : PE X (.List es pos) (tE X.K fe W (lstE ds)) := N_E (sim_lstN h) lstE_lst
end
end My
namespace My
open PySem PySem.Spec PyProof.Rows L2
variable [LT]
section
variable {X : Cx} {fe : FE} {W : WX} {a b c e : Expr} {da db dc d : DE} {pos : Pos}
section
variable {F : Hp} {ι : List Addr} {S : IS} {ρ : Rho} {σ : L2.St} {H : Hp} {Q : VK} {R : RL}
theorem o_be {k : PV → IS → Res PV} (sr : SR X.K F ι σ ρ H S) (o : OutE X.K R W Q F ι σ H ((da fe ρ S).bind k)) {Q2 : VK}
    (hk : ∀ F1 ι1 S1 v v' H1, da fe ρ S = .ok v S1 → Step F ι H F1 ι1 H1 → SR X.K F1 ι1 σ ρ H1 S1 → rW X.K F1 ι1 H1 v v' → OutE X.K R W Q F1 ι1 σ H1 (k v S1) → Q2 v' H1) : tO X.K fe W da σ H Q2 := by
  refine ⟨F, ι, S, ρ, sr, ?_⟩
  have o1 := OutE.bind (R' := rW X.K) sr o
  revert o1 hk
  generalize da fe ρ S = ra
  intro hk o1
  cases ra with
  | no => exact o1
  | ex x S1 => exact o1
  | ok v S1 =>
    intro F1 ι1 v1 H1 st1 hr1 q1
    obtain ⟨F', ι', S', v', st, sr1, q, e, o2⟩ := o1 F1 ι1 v1 H1 st1 hr1 q1
    cases e
    exact hk F' ι' S1 v v1 H1 rfl st sr1 q o2
end
theorem sim_sub (hu : X.A.units + 1 < cLine) (ha : PE X a (tO X.K fe W da)) (hb : PE X b (tE X.K fe W db)) (hs : PlainIx b := by intro _ _; rfl) : PE X (.Subscript a b pos) (tE X.K fe W (subE da db)) := by
  refine ⟨fun pins s σ H Q I h => ?_⟩
  obtain ⟨F, ι, S, ρ, sr, o⟩ := h
  by_cases hd : ∃ kvs S1, da fe ρ S = .ok (.dct kvs) S1
  · obtain ⟨kvs, S1, e⟩ := hd
    refine (pe_dget hu ha hb hs).run pins s σ H Q I ?_
    refine o_be sr o fun F1 ι1 S1' v v' H1 ev st1 sr1 r1 o1 => ?_
    rw [e] at ev
    cases ev
    refine e_b sr1 o1 fun F2 ι2 S2 w w' H2 st2 sr2 r2 o2 => ?_
    obtain ⟨p, ks, e1, s1, _, rd⟩ := rW_dct sr2.hr.sub (r1.step st2)
    simp only [pyAt] at o2
    split at o2
    · rename_i hk
      cases el : dLook w kvs with
      | none => rw [el] at o2; exact o2.elim
      | some z =>
        rw [el] at o2
        obtain ⟨kk, hkk, e2⟩ := keyR_of hk r2
        obtain ⟨u, h1, h2⟩ := (keyR_val hk hkk rd).1 z el
        exact ⟨p, u, e1, .inl ⟨ks, kk, s1, e2, h1.symm⟩, o2 F2 ι2 u H2 Step.refl sr2.hr h2⟩
    · exact o2.elim
  · refine (pe_ix ix_seq ha hb hs).run pins s σ H Q I ?_
    refine o_be sr o fun F1 ι1 S1' v v' H1 ev st1 sr1 r1 o1 => ?_
    refine e_b sr1 o1 fun F2 ι2 S2 w w' H2 st2 sr2 r2 o2 => ?_
    replace r1 := r1.step st2
    cases v with
    | str t =>
      obtain ⟨e1, k1⟩ := rW_str r1
      cases w <;> first | (exact o2.elim) | skip
      rename_i i
      cases el : My.atI t i with
      | none => simp only [pyAt, el] at o2; exact o2.elim
      | some z =>
        simp only [pyAt, el] at o2
        subst e1
        refine .inr (.inr ⟨sN t, i, z, rfl, (show w' = .int i by simpa [RV] using r2), by rw [sN_len, lim_eq]; exact k1.1, el, ?_⟩)
        refine o2 F2 ι2 _ H2 Step.refl sr2.hr (RV_str (s := [z]) (sOk_sub k1 ?_ fun c hc => ?_))
        · have : t ≠ [] := by
            intro e
            subst e
            simp [My.atI, My.ixN] at el
          exact List.length_pos_iff.mpr this
        · rw [List.mem_singleton.mp hc]
          unfold My.atI at el
          rw [Option.bind_eq_some_iff] at el
          obtain ⟨j, _, h⟩ := el
          exact List.mem_of_getElem? h
    | tup ps =>
      obtain ⟨p, xs, e1, s1, _, _, r⟩ := rW_tup sr2.hr.sub r1
      cases w <;> first | (exact o2.elim) | skip
      rename_i i
      cases el : My.atI ps i with
      | none => simp only [pyAt, el] at o2; exact o2.elim
      | some z =>
        simp only [pyAt, el] at o2
        obtain ⟨u, h1, h2⟩ := r.atI el
        exact .inr (.inl ⟨p, xs, i, u, e1, (show w' = .int i by simpa [RV] using r2), s1, h1, o2 F2 ι2 u H2 Step.refl sr2.hr h2⟩)
    | lst ps =>
      obtain ⟨p, xs, e1, s1, _, r⟩ := rW_lst sr2.hr.sub r1
      cases w <;> first | (exact o2.elim) | skip
      rename_i i
      cases el : My.atI ps i with
      | none => simp only [pyAt, el] at o2; exact o2.elim
      | some z =>
        simp only [pyAt, el] at o2
        obtain ⟨u, h1, h2⟩ := r.atI el
        exact .inl ⟨p, xs, i, u, e1, (show w' = .int i by simpa [RV] using r2), SqL.of s1, h1, o2 F2 ι2 u H2 Step.refl sr2.hr h2⟩
    | dct kvs => exact absurd ⟨_, _, ev⟩ hd
    | rep dd => cases w <;> exact o2.elim
    | exn _ _ => cases w <;> exact o2.elim
    | obj n =>
      rcases r1 with ⟨p, e1, hn⟩ | ⟨_, _, _, i, _⟩
      · simp only at o2
        split at o2
        · rename_i xs i hS
          cases el : My.atI xs i with
          | none => rw [el] at o2; exact o2.elim
          | some z =>
            rw [el] at o2
            obtain ⟨ys, h1, _, h3⟩ := sr2.hr.obj n p _ hn hS
            obtain ⟨u, h4, h5⟩ := h3.atI el
            exact .inl ⟨p, ys, i, u, e1, (show w' = .int i by simpa [RV] using r2), SqL.of h1, h4, o2 F2 ι2 u H2 Step.refl sr2.hr h5⟩
        · exact o2.elim
      · cases i
    | scr ns =>
      rcases r1 with ⟨p, e1, hn, hl⟩ | ⟨_, _, _, i, _⟩
      · cases w <;> first | (exact o2.elim) | skip
        rename_i i
        cases el : My.atI ns i with
        | none => simp only [pyAt, el] at o2; exact o2.elim
        | some z =>
          simp only [pyAt, el] at o2
          refine .inl ⟨p, _, i, .int z, e1, (show w' = .int i by simpa [RV] using r2), sr2.hr.sub.sqL hn, ?_, o2 F2 ι2 _ H2 Step.refl sr2.hr (RV_int _)⟩
          unfold My.atI at el
          rw [Option.bind_eq_some_iff] at el
          obtain ⟨j, h1, h2⟩ := el
          show (L2.ixN (ns.map V.int).length i).bind _ = _
          rw [List.length_map]
          show (My.ixN ns.length i).bind _ = _
          rw [h1]
          show (ns.map V.int)[j]? = _
          rw [List.getElem?_map, h2]
          rfl
      · cases i
    | non => exact o2.elim
    | bl _ => exact o2.elim
    | int _ => exact o2.elim
    | ty _ => exact o2.elim
    | ins _ _ => exact o2.elim
    | cls _ => exact o2.elim
def slP : V → Option Int → Option Int → Hp → VK → Prop := fun x lo hi H Q => ∃ F ι S p v, HR X.K F ι H S ∧ rW X.K F ι H p x ∧ pyCut p lo hi = some v ∧ Fin X.K Q F ι H S v
theorem s_slice : SlR X (slP (X := X)) := by
  intro pins s σ H x v vl vu lo hi sl Q I rx hs pl pu h
  obtain ⟨F, ι, S, p, pv, hr, q, e, f⟩ := h
  unfold pyCut at e
  cases p with
  | str t =>
    cases e
    obtain ⟨e1, k1⟩ := rW_str q
    subst e1
    exact sl_str pins s σ H _ v vl vu lo hi sl Q I rx hs pl pu ⟨_, rfl, by rw [sN_len, lim_eq]; exact k1.1, by rw [cutS_sN]; exact f.same hr (RV_str (sOk_sub k1 (cut_len _ _ _) (cut_sub _ _ _)))⟩
  | tup ps =>
    cases e
    obtain ⟨a, xs, e1, s1, t1, l1, r1⟩ := rW_tup hr.sub q
    subst e1
    refine sl_tupA pins s σ H _ v vl vu lo hi sl Q I rx hs pl pu ⟨a, xs, rfl, s1, fun ⟨h1, h2⟩ => ?_, fun _ p hp => f.tup hr hp (Nat.le_trans (cut_len _ _ _) l1) (r1.cut lo hi)⟩
    refine f.same hr (RV_tup t1 (Nat.le_trans (cut_len _ _ _) l1) ?_)
    have h := r1.cut lo hi
    unfold cutV at h
    rw [h1, h2, List.drop_zero, Nat.sub_zero, List.take_length] at h
    exact h
  | lst ps =>
    cases e
    obtain ⟨a, xs, e1, s1, l1, r1⟩ := rW_lst hr.sub q
    subst e1
    exact sl_list pins s σ H _ v vl vu lo hi sl Q I rx hs pl pu ⟨a, xs, rfl, SqL.of s1, fun p hp => f.lst hr hp (Nat.le_trans (cut_len _ _ _) l1) (r1.cut lo hi)⟩
  | scr ns =>
    cases e
    rcases q with ⟨a, e1, hn, hl⟩ | ⟨_, _, _, i, _⟩
    · subst e1
      refine sl_list pins s σ H _ v vl vu lo hi sl Q I rx hs pl pu ⟨a, _, rfl, hr.sub.sqL hn, fun p hp => f.lst hr hp (by rw [List.length_map]; exact Nat.le_trans (cut_len _ _ _) hl) ?_⟩
      have key : ∀ l : List Int, RVs X.K F ι (l.map .int) (l.map V.int) := by
        intro l
        induction l with
        | nil => exact rfl
        | cons n l ih => exact ⟨_, _, rfl, RV_int n, ih⟩
      have : cutV (ns.map V.int) lo hi = (My.cut ns lo hi).map V.int := by
        unfold cutV My.cut
        rw [List.length_map, List.map_take, List.map_drop]
        rfl
      rw [this]
      exact key _
    · cases i
  | _ => cases e
theorem part_some {F : Hp} {ι : List Addr} {S : IS} {ρ : Rho} {σ : L2.St} {H : Hp} {Q : VK} {k : Option Int → IS → Res PV} (sr : SR X.K F ι σ ρ H S)
    (o : OutE X.K (rV X.K) W Q F ι σ H (((da fe ρ S).bind fun v S2 => Res.of ((intOf v).map some) S2 : Res (Option Int)).bind k)) {Q2 : Option Int → Hp → Prop}
    (hk : ∀ F1 ι1 S1 i H1, Step F ι H F1 ι1 H1 → SR X.K F1 ι1 σ ρ H1 S1 → OutE X.K (rV X.K) W Q F1 ι1 σ H1 (k (some i) S1) → Q2 (some i) H1) : tPart (tE X.K fe W da) σ H Q2 := by
  rw [Res.bind_bind] at o
  refine e_b sr o fun F1 ι1 S1 v v' H1 st1 sr1 r1 o1 => ?_
  cases v <;> first | (exact o1.elim) | skip
  rename_i i
  exact ⟨i, (show v' = .int i by simpa [RV] using r1), hk F1 ι1 S1 i H1 st1 sr1 o1⟩
theorem sl_fin {F : Hp} {ι : List Addr} {S : IS} {ρ : Rho} {σ : L2.St} {H : Hp} {Q : VK} {p : PV} {v' : V} {lo hi : Option Int} (sr : SR X.K F ι σ ρ H S) (r : rW X.K F ι H p v') (o : OutE X.K (rV X.K) W Q F ι σ H (Res.of (pyCut p lo hi) S)) : slP (X := X) v' lo hi H Q := by
  cases e : pyCut p lo hi with
  | none => rw [e] at o; exact o.elim
  | some z =>
    rw [e] at o
    exact ⟨F, ι, S, p, z, sr.hr, r, e, fun F5 v5 H5 st5 hr5 r5 => o F5 ι v5 H5 st5 hr5 r5⟩
variable {p2 : Pos}
theorem sim_sl01 (ha : PE X a (tO X.K fe W da)) (hb : PE X b (tE X.K fe W db)) : PE X (.Subscript a (.Slice none (some b) none p2) pos) (tE X.K fe W (sliceE da none (some db))) := by
  refine PE.imp (pe_slice s_slice ha po_none (po_some hb)) fun σ H Q h => ?_
  obtain ⟨F, ι, S, ρ, sr, o⟩ := h
  refine o_b sr o fun F1 ι1 S1 v v' H1 st1 sr1 r1 o1 => ?_
  show tPart (tE X.K fe W db) σ H1 fun u H3 => slP (X := X) v' none u H3 Q
  exact part_some sr1 o1 fun F2 ι2 S2 i H2 st2 sr2 o2 => sl_fin sr2 (r1.step st2) o2
end
end My
namespace My
open PySem PySem.Spec PyProof.Rows L2
variable [LT]
def lev (D : Nat) : Nat := 4 * D + 4
def spI (K : PySem.W.Frag) (T : Tab) (D : Nat) (f : Nm) (n : Nat) : Sp := fun vs H Q E => vs.length = n ∧ ∃ F ι S args, HR K F ι H S ∧ RVs K F ι args vs ∧ OutC K Q E F ι H (fenv T D f args S)
def mask (x : Addr) (H : Hp) : Hp := fun b => if b = x then none else H b
theorem mask_self {x : Addr} {H : Hp} : mask x H x = none := by unfold mask; rw [if_pos rfl]
theorem mask_ne {x b : Addr} {H : Hp} (h : b ≠ x) : mask x H b = H b := by unfold mask; rw [if_neg h]
def spM (K : PySem.W.Frag) (T : Tab) (D : Nat) (c : Nm) (n : Nat) : Sp := fun vs H Q E => vs.length = n + 1 ∧ ∃ F ι S args x dx us, vs = .ref x :: us ∧ H x = some (.ins (He.ga K (sN c)) dx []) ∧ F x = none ∧ x ∉ ι ∧ HR K F ι H S ∧ RVs K F ι args us ∧
  (match fenv T D (c ++ [40, 41]) args S with
  | .ok v S' => ∀ F' ι' H' o, v = pvOf o → Step F ι (mask x H) F' ι' H' → HR K F' ι' H' S' → F' x = none → x ∉ ι' → IOR K F' ι' H' x o → Q .non H'
  | .ex y S' => ∀ F' ι' cls d H', Step F ι (mask x H) F' ι' H' → HR K F' ι' H' S' → RX K F' ι' H' y cls d → E cls d H'
  | .no => False)
theorem RG.deeper {k : Nat} {A : Around} (r : RG (k + 1) A) (env : Env) : RG k (A.deeper env) := ⟨r.room.deeper env, r.gd⟩
theorem RG.in1 {k : Nat} {A : Around} (r : RG (k + 1) A) : RG k A.in1 := ⟨r.room.in1, r.gd⟩
theorem RG.make {k : Nat} {A : Around} (r : RG (k + 1) A) (C : Addr) (us : List Value) (kw : List (Str × Value)) : RG k (A.under (.builtin "type.__call__" ⟨.ref C :: us, kw⟩)) := ⟨r.room.make C us kw, by
  have h : (Code.builtin "type.__call__" ⟨.ref C :: us, kw⟩).guards = [] := by
    unfold Code.guards
    rw [if_neg]
    intro z
    have e : (Code.builtin "type.__call__" ⟨.ref C :: us, kw⟩).isGuard = false := by rfl
    rw [e] at z
    cases z
  show pushGuards (Code.builtin "type.__call__" ⟨.ref C :: us, kw⟩).guards A.guards = _
  rw [h, r.gd]
  rfl⟩
theorem RG.units {k : Nat} {A : Around} (r : RG k A) : A.units + 64 < cLine := r.room.units
structure FnG (P : Program) (w : World) (K : PySem.W.Frag) (mg : Str → Option Value) (base : Heap) (k : Nat) (f : Addr) (fd : FuncData) (ps : List Str) (sp : Sp) : Prop where
  len : ∀ vs H Q E, sp vs H Q E → vs.length = ps.length
  run : ∀ (A : Around) (outer : List Env) (s : Shared) (H : Hp) (args : Args) (us : List Value) (vs : List V) (Q : VK) (E : XK), RG k A → Env0 P w K mg base A outer s H → BindsTo s fd args (ps.zip us) → Vals vs us → sp vs H Q E → codeAny (model P w) A (.call (.ref f) args) (CR (L2.CX P w) outer P w H s Q E) s
section
variable {X : Cx} {T : Tab} {D : Nat} {W : WX} {e o : Expr} {es : List Expr} {ds : DEs} {d : DE} {x m : Str} {p pos apos : Pos} {f c : Nm} {fa : Addr} {fd : FuncData} {ps : List Str}
theorem run_at {pins : List (Addr × Obj)} {σ : L2.St} {H : Hp} {s : Shared} {Q : VK} {args : Args} {us : List Value} {vs : List V} {sp : Sp} {k : Nat} (C : FnG X.prog X.w X.K X.mg X.base k fa fd ps sp) (hr : RG k X.A) (hb : BindsTo s fd args (ps.zip us)) (tk : Takes X W)
    (I : Inv X pins σ H s) (r : Vals vs us) (h : sp vs H Q (WE W σ)) : codeAny (model X.prog X.w) X.A (.call (.ref fa) args) (fun r s' => match r with | .ok (.ret u) => EP X pins σ Q u s' | .ok _ => False | .error e => X.xe e s') s := by
  refine codeAny_mono (C.run X.A X.stack s H args us vs Q (WE W σ) hr I.env0 hb r h) fun r s' hq => ?_
  cases r with
  | error e => exact passAt tk σ pins H s e s' I hq
  | ok fl =>
    cases fl with
    | ret u => exact I.after hq
    | next => exact False.elim hq
    | brk => exact False.elim hq
    | cont => exact False.elim hq
theorem call_of {M : Model} {A : Around} {E : Value → Shared → Prop} {f : Value} {us : List Value} {kw : List (Str × Value)} {Q : Value → Shared → Prop} {s : Shared} (h : codeAny M A (.call f ⟨us, kw⟩) (fun r s' => match r with | .ok (.ret u) => Q u s' | .ok _ => False | .error e => E e s') s) :
    wpAny M A (call f us kw) Q E s := wpAny_call (codeAny_mono h fun r s' hq => by
  cases r with
  | error e => exact hq
  | ok fl =>
    cases fl with
    | ret u => exact hq
    | next => exact hq.elim
    | brk => exact hq.elim
    | cont => exact hq.elim)
abbrev FnD (X : Cx) (T : Tab) (D : Nat) (f : Nm) (fa : Addr) (fd : FuncData) (ps : List Str) : Prop := FnG X.prog X.w X.K X.mg X.base (lev D) fa fd ps (spI X.K T D f ps.length)
theorem sim_call (C : FnD X T D f fa fd ps) (hr : RG (lev D) X.A) (hg : Gl X x) (hm : X.mg x = some (.ref fa)) (hk : PySem.W.keepIn X.K (.ref fa) = true) (hb : Binds X.K fd ps []) (tk : Takes X W) (ha : PA X (e :: es) (tA X.K (fenv T D) W ds)) (hn : (e :: es).length = ps.length := by rfl)
    (hln : ∀ fe ρ S vs S', ds fe ρ S = .ok vs S' → vs.length = (e :: es).length)
    (hdb : (x == ("__debug__" : Str)) = false := by decide) (he : isSt e = false := by rfl) (hpl : (backTo pos (starEach es X.env)).any (·.1) = false := by rfl) :
    PE X (.Call (.Name x p) (e :: es) [] pos) (tE X.K (fenv T D) W (callE f ds)) := by
  refine ⟨fun pins s σ H Q I h => ?_⟩
  obtain ⟨F, ι, S, ρ, sr, o⟩ := h
  have hln' := hln (fenv T D) ρ S
  have rd : tA X.K (fenv T D) W ds σ H fun vs H1 => spI X.K T D f ps.length vs H1 Q (WE W σ) := by
    refine ⟨F, ι, S, ρ, sr, ?_⟩
    have o1 := OutE.bindA sr o
    revert o1 hln'
    generalize ds (fenv T D) ρ S = ra
    intro hln' o1
    cases ra with
    | no => exact o1
    | ex x S1 => exact o1
    | ok v S1 =>
      intro F1 ι1 v1 H1 st1 hr1 q1
      obtain ⟨F', ι', S', v', st, sr1, q, e', o2⟩ := o1 F1 ι1 v1 H1 st1 hr1 q1
      cases e'
      exact ⟨by rw [← q.length, hln' v S1 rfl, hn], F', ι', S1, v, sr1.hr, q, OutC.of o2⟩
  refine wpAny_Call_Name_kw (ld_glob I hg hm ?_ hdb)
  refine PySem.W.callWith_K (h₀ := X.base) I.ok.mod.kin hk (thn (ha.run pos pins s σ H _ I rd) fun us s2 ⟨vs, H2, I2, r, q2⟩ => ⟨I2.kIn, ?_⟩) (noStar he) hpl
  refine call_of (run_at C hr ?_ tk I2 r q2)
  have := hb s2 us I2.kIn (by rw [List.append_nil, ← r.length]; exact q2.1)
  rw [List.append_nil] at this
  exact this
theorem ln_nil : ∀ fe ρ S vs S', nilA fe ρ S = .ok vs S' → vs.length = 0 := by
  intro fe ρ S vs S' h
  cases h
  rfl
theorem ln_cons {da : DE} {n : Nat} (h : ∀ fe ρ S vs S', ds fe ρ S = .ok vs S' → vs.length = n) : ∀ fe ρ S vs S', consA da ds fe ρ S = .ok vs S' → vs.length = n + 1 := by
  intro fe ρ S vs S' q
  obtain ⟨a, S1, _, h2⟩ := Res.bind_eq_ok q
  obtain ⟨b, S2, h3, h4⟩ := Res.bind_eq_ok h2
  cases h4
  rw [List.length_cons, h fe ρ S1 b S' h3]
def permU {α : Type} (q : List Nat) (ws : List α) (z : α) : List α := q.map fun i => ws.getD i z
def KwB (K : PySem.W.Frag) (fd : FuncData) (ps ks : List Str) (q : List Nat) (n0 : Nat) : Prop := ∀ (s : Shared) (first ws : List Value), K.In s.heap → first.length = n0 → ws.length = ks.length → BindsTo s fd ⟨first, ks.zip ws⟩ (ps.zip (first ++ permU q ws .none))
variable {kws : List Keyword} {ks : List Str} {q : List Nat}
theorem fLook_lookup {K : PySem.W.Frag} {F : Hp} {ι : List Addr} : ∀ {fs : List (Nm × PV)} {gs : List (Str × V)} (f : Nm), RVf K F ι fs gs →
    (∀ v, fLook f fs = some v → ∃ u, gs.lookup (sN f) = some u ∧ RV K F ι v u) ∧ (fLook f fs = none → gs.lookup (sN f) = none)
  | [], gs, f, r => by
    unfold RVf at r
    subst r
    exact ⟨(fun v h => by cases h), fun _ => rfl⟩
  | (g, p) :: fs, gs, f, r => by
    unfold RVf at r
    obtain ⟨v, t, e, rv, rt⟩ := r
    subst e
    have ih := fLook_lookup f rt
    unfold fLook
    rw [List.lookup_cons]
    by_cases h : g = f
    · subst h
      simp only [if_true, beq_self_eq_true]
      exact ⟨(fun w h => by cases h; exact ⟨v, rfl, rv⟩), (fun h => by cases h)⟩
    · have hb : (sN f == sN g) = false := beq_eq_false_iff_ne.mpr fun e => h (sN_inj e).symm
      simp only [if_neg h, hb]
      exact ih
end
end My
namespace My
open PySem PySem.Spec PyProof.Rows L2
variable [LT]
section
variable (K : PySem.W.Frag)
structure Walks (J : It) (F : Hp) (ι : List Addr) (xs : List PV) : Prop where
  go : ∀ F' ι' H', Sub F F' → Pre ι ι' → Sub F' H' → ∀ (i : Nat) (p : PV), xs[i]? = some p → J.go i H' ∧ ∀ x' H'', J.yld i H' x' H'' →
    ∃ F'', Sub F' F'' ∧ (∀ a, H' a ≠ none → F' a = none → F'' a = none) ∧ Sub H' H'' ∧ Sub F'' H'' ∧ RV K F'' ι' p x'
  stop : ∀ F' H', Sub F F' → Sub F' H' → J.stop xs.length H'
  len : xs.length ≤ lim
def tI (fe : FE) (W : WX) (d : DI) : TI := fun σ H R => ∃ F ι S ρ, SR K F ι σ ρ H S ∧ (match d fe ρ S with
  | .ok xs S' => ∀ F' ι' J H', Step F ι H F' ι' H' → HR K F' ι' H' S' → Walks K J F' ι' xs → R J H'
  | .ex x S' => ∀ F' ι' cls dx H', Step F ι H F' ι' H' → HR K F' ι' H' S' → RX K F' ι' H' x cls dx → W cls dx σ H'
  | .no => False)
end
section
variable {K : PySem.W.Frag} {F : Hp} {ι : List Addr}
theorem walks_list {a : Addr} {ps : List PV} {xs : List V} (h : F a = some (.lst xs)) (l : ps.length ≤ lim) (r : RVs K F ι ps xs) : Walks K (Itl K a) F ι ps where
  go := fun F' ι' H' s p hs i q e => by
    obtain ⟨v, hv, rv⟩ := r.get e
    refine ⟨⟨xs, v, SqL.of (hs _ _ (s _ _ h)), hv⟩, fun x' H'' y => ?_⟩
    obtain ⟨e1, y⟩ := y
    subst e1
    have := y xs (SqL.of (hs _ _ (s _ _ h)))
    rw [hv] at this
    cases this
    exact ⟨F', Sub.refl _, fun _ _ z => z, Sub.refl _, hs, rv.mono s p⟩
  stop := fun F' H' s hs => ⟨xs, SqL.of (hs _ _ (s _ _ h)), by rw [r.length]; exact Nat.le_refl _⟩
  len := l
theorem walks_tup {a : Addr} {ps : List PV} {xs : List V} (h : SqT K F a xs) (l : ps.length ≤ lim) (r : RVs K F ι ps xs) : Walks K (Itt K a) F ι ps where
  go := fun F' ι' H' s p hs i q e => by
    obtain ⟨v, hv, rv⟩ := r.get e
    refine ⟨⟨xs, v, hs.sqT (s.sqT h), hv⟩, fun x' H'' y => ?_⟩
    obtain ⟨e1, y⟩ := y
    subst e1
    have := y xs (hs.sqT (s.sqT h))
    rw [hv] at this
    cases this
    exact ⟨F', Sub.refl _, fun _ _ z => z, Sub.refl _, hs, rv.mono s p⟩
  stop := fun F' H' s hs => ⟨xs, hs.sqT (s.sqT h), by rw [r.length]; exact Nat.le_refl _⟩
  len := l
theorem walks_str {t : List Nat} (h : sOk t) : Walks K (Its (sN t)) F ι (t.map fun c => .str [c]) where
  go := fun F' ι' H' s p hs i q e => by
    rw [List.getElem?_map, Option.map_eq_some_iff] at e
    obtain ⟨c, e, e2⟩ := e
    subst e2
    have hi : i < t.length := (List.getElem?_eq_some_iff.mp e).1
    refine ⟨(by show i < t.toArray.size; simpa using hi), fun x' H'' y => ?_⟩
    obtain ⟨e1, c', hc, ex⟩ := y
    subst e1
    have : t.toArray[i]? = some c' := hc
    rw [List.getElem?_toArray, e] at this
    cases this
    refine ⟨F', Sub.refl _, fun _ _ z => z, Sub.refl _, hs, ?_⟩
    subst ex
    exact RV_str (s := [c]) ⟨by show 1 ≤ lim; decide, by
      have := h.2
      rw [List.all_eq_true] at this
      simpa using this c (List.mem_of_getElem? e)⟩
  stop := fun F' H' s hs => by
    show t.toArray.size ≤ _
    simp
  len := by rw [List.length_map]; exact h.1
theorem walks_range {lo : Int} {n : Nat} (l : n ≤ lim) : Walks K (Itr lo n) F ι (rangeL lo n) where
  go := fun F' ι' H' s p hs i q e => by
    unfold rangeL at e
    rw [List.getElem?_map, Option.map_eq_some_iff] at e
    obtain ⟨c, e, e2⟩ := e
    subst e2
    have hi : i < n := by simpa using (List.getElem?_eq_some_iff.mp e).1
    rw [List.getElem?_range hi] at e
    cases e
    refine ⟨hi, fun x' H'' y => ?_⟩
    obtain ⟨e1, ex⟩ := y
    subst e1
    exact ⟨F', Sub.refl _, fun _ _ z => z, Sub.refl _, hs, by rw [ex]; exact RV_int _⟩
  stop := fun F' H' s hs => by
    show n ≤ _
    simp [rangeL]
  len := by simpa [rangeL] using l
theorem walks_keys {a : Addr} {o : Obj} {kvs : List (PV × PV)} {ks : List (Key × V)} (h : F a = some (.frz o (.dK ks))) (l : kvs.length ≤ lim) (r : RVd K F ι kvs ks) : Walks K (Itk a o ks) F ι (kvs.map (·.1)) where
  go := fun F' ι' H' s p hs i q e => by
    rw [List.getElem?_map, Option.map_eq_some_iff] at e
    obtain ⟨kv, e, e2⟩ := e
    subst e2
    have hi : i < kvs.length := (List.getElem?_eq_some_iff.mp e).1
    refine ⟨⟨hs _ _ (s _ _ h), by rw [← r.length]; exact hi⟩, fun x' H'' y => ?_⟩
    obtain ⟨e1, k, v, hk, ex⟩ := y
    subst e1
    refine ⟨F', Sub.refl _, fun _ _ z => z, Sub.refl _, hs, ?_⟩
    subst ex
    have key : ∀ {kvs : List (PV × PV)} {ks : List (Key × V)} {i : Nat} {kv : PV × PV} {k : Key} {v : V}, RVd K F ι kvs ks → kvs[i]? = some kv → ks[i]? = some (k, v) → keyR kv.1 k := by
      intro kvs
      induction kvs with
      | nil => intro ks i kv k v _ e _; simp at e
      | cons x kvs ih =>
        intro ks i kv k v r e1 e2
        obtain ⟨j, q⟩ := x
        unfold RVd at r
        obtain ⟨jj, u, t, e, hq, _, rt⟩ := r
        subst e
        cases i with
        | zero => simp at e1 e2; obtain ⟨e2, _⟩ := e2; subst e1; subst e2; exact hq
        | succ i => exact ih rt (by simpa using e1) (by simpa using e2)
    have kr := key r e hk
    obtain ⟨j, q⟩ := kv
    cases j <;> first | (exact (show False from kr).elim) | skip
    · cases (show k = Sum.inl _ from kr)
      exact RV_int _
    · obtain ⟨e1, h1⟩ := (show k = Sum.inr _ ∧ sOk _ from kr)
      subst e1
      exact RV_str h1
  stop := fun F' H' s hs => ⟨hs _ _ (s _ _ h), by rw [List.length_map, r.length]; exact Nat.le_refl _⟩
  len := by rw [List.length_map]; exact l
end
section
variable {X : Cx} {fe : FE} {W : WX} {a b iter tg : Expr} {da db : DE} {pos : Pos}
theorem sim_it (ha : PE X a (tE X.K fe W da)) : PI X tg a (tI X.K fe W (itE da)) := by
  refine ⟨fun pins s σ H R I h => ?_⟩
  obtain ⟨F, ι, S, ρ, sr, o⟩ := h
  have key : ∀ {Q2 : VK}, (∀ F1 ι1 S1 v v' H1, da fe ρ S = .ok v S1 → Step F ι H F1 ι1 H1 → HR X.K F1 ι1 H1 S1 → RV X.K F1 ι1 v v' → (∀ xs J, itemsOf v = some xs → Walks X.K J F1 ι1 xs → R J H1) → Q2 v' H1) → tE X.K fe W da σ H Q2 := by
    intro Q2 hk
    refine ⟨F, ι, S, ρ, sr, ?_⟩
    unfold itE at o
    revert o hk
    generalize da fe ρ S = ra
    intro o hk
    cases ra with
    | no => exact o
    | ex x S1 => exact o
    | ok v S1 =>
      intro F1 ι1 v1 H1 st1 hr1 q1
      refine hk F1 ι1 S1 v v1 H1 rfl st1 hr1 q1 fun xs J hi w => ?_
      simp only [Res.bind_ok, hi, Res.of_some] at o
      exact o F1 ι1 J H1 st1 hr1 w
  cases e : da fe ρ S with
  | no => unfold itE at o; rw [e] at o; exact o.elim
  | ex x S1 =>
    refine (pi_list ha).run pins s σ H R I ?_
    exact key fun F1 ι1 S1' v v' H1 ev => by rw [e] at ev; cases ev
  | ok v S1 =>
    cases v with
    | lst ps =>
      refine (pi_list ha).run pins s σ H R I ?_
      refine key fun F1 ι1 S1' v v' H1 ev st1 hr1 r1 hw => ?_
      rw [e] at ev
      cases ev
      unfold RV at r1
      obtain ⟨p, xs, e1, q, l, r⟩ := r1
      exact ⟨p, e1, ⟨xs, SqL.of (hr1.sub _ _ q)⟩, hw _ _ rfl (walks_list q l r)⟩
    | tup ps =>
      refine (pi_tup ha).run pins s σ H R I ?_
      refine key fun F1 ι1 S1' v v' H1 ev st1 hr1 r1 hw => ?_
      rw [e] at ev
      cases ev
      unfold RV at r1
      obtain ⟨p, xs, e1, q, l, r⟩ := r1
      exact ⟨p, e1, ⟨xs, hr1.sub.sqT q⟩, hw _ _ rfl (walks_tup q l r)⟩
    | str t =>
      refine (pi_str ha).run pins s σ H R I ?_
      refine key fun F1 ι1 S1' v v' H1 ev st1 hr1 r1 hw => ?_
      rw [e] at ev
      cases ev
      unfold RV at r1
      exact ⟨sN t, r1.1, hw _ _ rfl (walks_str r1.2)⟩
    | dct kvs =>
      refine (pi_keys ha).run pins s σ H R I ?_
      refine key fun F1 ι1 S1' v v' H1 ev st1 hr1 r1 hw => ?_
      rw [e] at ev
      cases ev
      unfold RV at r1
      obtain ⟨p, ob, xs, e1, q, l, r⟩ := r1
      exact ⟨p, ob, e1, .inl ⟨xs, hr1.sub _ _ q, hw _ _ rfl (walks_keys q l r)⟩⟩
    | _ => unfold itE at o; rw [e] at o; exact (show False from o).elim
theorem sim_rng1 {p : Pos} (hg : Gl X "range") (hm : X.mg "range" = none) (ha : PE X a (tE X.K fe W da)) (hs : isSt a = false := by rfl) : PI X tg (.Call (.Name "range" p) [a] [] pos) (tI X.K fe W (rng1 da)) := by
  refine PI.imp (pi_range1 hg hm (pa_cons ha pa_nil (noStar hs)) (noStar hs)) fun σ H R h => ?_
  obtain ⟨F, ι, S, ρ, sr, o⟩ := h
  refine ⟨F, ι, S, ρ, sr, ?_⟩
  unfold rng1 at o
  revert o
  generalize da fe ρ S = ra
  intro o
  cases ra with
  | no => exact o
  | ex x S1 => exact o
  | ok v S1 =>
    intro F1 ι1 v1 H1 st1 hr1 q1
    cases v <;> first | (exact (show False from o).elim) | skip
    rename_i n
    simp only [Res.bind_ok] at o
    by_cases hn : -16777216 ≤ n ∧ n ≤ 16777216
    · rw [if_pos hn] at o
      have : v1 = .int n := by simpa [rV, RV] using q1
      subst this
      exact ⟨n, rfl, by omega, by omega, o F1 ι1 _ H1 st1 hr1 (walks_range (by show n.toNat ≤ 16777216; omega))⟩
    · rw [if_neg hn] at o
      exact o.elim
end
section
variable {K : PySem.W.Frag} {F : Hp} {ι : List Addr} {H : Hp} {S : IS} {σ : L2.St} {ρ : Rho}
theorem SR.setv (r : SR K F ι σ ρ H S) {i : Nat} {p : PV} {v : V} (hi : i < ρ.length) (q : RV K F ι p v) : SR K F ι (σ.set i (some v)) (ρ.set i (.val p)) H S where
  hr := r.hr
  len := by rw [List.length_set, List.length_set, r.len]
  at_ := fun j s e => by
    by_cases h : i = j
    · subst h
      rw [List.getElem?_set_self hi] at e
      cases e
      exact ⟨_, List.getElem?_set_self (by rw [r.len]; exact hi), v, rfl, q⟩
    · rw [List.getElem?_set_ne h] at e ⊢
      exact r.at_ j s e
  ap := fun j k o u a hjk h1 h2 h3 => by
    by_cases e1 : i = j
    · subst e1; rw [List.getElem?_set_self hi] at h1; cases h1
    · by_cases e2 : i = k
      · subst e2; rw [List.getElem?_set_self hi] at h2; cases h2
      · rw [List.getElem?_set_ne e1] at h1 h3
        rw [List.getElem?_set_ne e2] at h2 ⊢
        exact r.ap j k o u a hjk h1 h2 h3
end
section
variable (K : PySem.W.Frag)
def gT (is : List Nat) (t : DT) : TG := fun v' σ H Q => ∃ F ι S ρ v ρ', SR K F ι σ ρ H S ∧ RV K F ι v v' ∧ t v ρ = some ρ' ∧ ∀ σ', SR K F ι σ' ρ' H S → σ'.length = σ.length → (∀ j, j ∉ is → σ'[j]? = σ[j]?) → (∀ (j : Nat) (o : IO), ρ'[j]? = some (.own o) → ρ[j]? = some (.own o) ∧ σ'[j]? = σ[j]?) → Q σ' H
end
section
variable {X : Cx} {pos : Pos}
theorem keepSet {σ : L2.St} {ρ : Rho} {i : Nat} {p : PV} {v : V} (hl : i < ρ.length) : ∀ (j : Nat) (o : IO), (ρ.set i (.val p))[j]? = some (.own o) → ρ[j]? = some (.own o) ∧ (σ.set i (some v))[j]? = σ[j]? := fun j o e => by
  by_cases z : i = j
  · subst z; rw [List.getElem?_set_self hl] at e; cases e
  · rw [List.getElem?_set_ne z] at e ⊢
    exact ⟨e, rfl⟩
theorem g_name {i : Nat} {x : Str} (hN : X.N.Nodup) (hi : X.N[i]? = some x) (hx : Loc X.env.scope x) (hf : X.fn x = true ∨ X.env.scope.names.lookup x = some .local := by first | exact .inl rfl | exact .inr rfl | assumption) : PG X (.Name x pos) (gT X.K [i] (tgN i)) := by
  refine PG.imp (pg_name hN hi hx hf) fun v' σ H Q h => ?_
  obtain ⟨F, ι, S, ρ, v, ρ', sr, r, e, k⟩ := h
  unfold tgN at e
  split at e
  · rename_i hl
    cases e
    exact k _ (sr.setv hl r) (List.length_set ..) (fun j hj => List.getElem?_set_ne fun z => hj (by rw [z]; simp)) (keepSet hl)
  · cases e
end
section
theorem wipe_congr : ∀ (vs : List Nat) {σ σ' : L2.St}, σ.length = σ'.length → (∀ j, j ∉ vs → σ[j]? = σ'[j]?) → L2.wipe σ vs = L2.wipe σ' vs := by
  intro vs σ σ' hl h
  refine List.ext_getElem? fun j => ?_
  by_cases hj : j ∈ vs
  · have key : ∀ (vs : List Nat) (σ : L2.St), j ∈ vs → (L2.wipe σ vs)[j]? = if j < σ.length then some none else none := by
      intro vs
      induction vs with
      | nil => intro σ h; cases h
      | cons v vs ih =>
        intro σ h
        show ((L2.wipe σ vs).set v none)[j]? = _
        by_cases e : v = j
        · subst e
          by_cases hv : v < σ.length
          · rw [if_pos hv, List.getElem?_set_self (by rw [wipe_length]; exact hv)]
          · rw [if_neg hv]
            exact List.getElem?_eq_none (by rw [List.length_set, wipe_length]; omega)
        · rw [List.getElem?_set_ne e]
          exact ih σ ((List.mem_cons.mp h).resolve_left fun z => e z.symm)
    rw [key vs σ hj, key vs σ' hj, hl]
  · rw [wipe_out hj, wipe_out hj]
    exact h j hj
end
end My
namespace My
open PySem PySem.Spec PyProof.Rows L2
variable [LT]
section
variable {K : PySem.W.Frag} {F F' : Hp} {ι ι' : List Addr} {H H' : Hp} {S S' : IS} {D : Addr} {o : HO}
theorem HR.notIn (h : HR K F ι H S) {a : Addr} (hn : H a = none) : a ∉ ι := fun m => by
  obtain ⟨n, e⟩ := List.mem_iff_getElem?.mp m
  have hl : n < S.length := by rw [← h.len]; exact (List.getElem?_eq_some_iff.mp e).1
  exact (h.obj n a S[n] e (by simp [hl])).there hn
theorem Step.notIn (h : Step F ι H F' ι' H') {a : Addr} {u : HO} (e : H a = some u) (n : a ∉ ι) : a ∉ ι' := fun m => by
  rcases h.new a m with z | z
  · exact n z
  · rw [e] at z; cases z
end
section
variable {X : Cx} {fe : FE} {W : WX} {elt tg iter : Expr} {ifs : List Expr} {scope : Scope} {own : List (Str × Nat)} {is : List Nat} {pos : Pos} {it : DI} {t : DT} {dc de : DE}
theorem lc_of (hsub : ∀ i ∈ is, i ∈ own.map (·.2)) {σ : L2.St} {H : Hp} {Q : VK} (h : tN X.K fe W (lcE (own.map (·.2)) it t dc de) σ H Q) :
    tLc (tI X.K fe W it) (gT X.K is t) (My.tB X.K fe W0 dc) (tE X.K fe W0 de) (own.map (·.2)) σ H Q := by
  obtain ⟨F, ι, S, ρ, sr, o⟩ := h
  refine ⟨F, ι, S, ρ, sr, ?_⟩
  unfold lcE at o
  revert o
  generalize it fe ρ S = ra
  intro o
  cases ra with
  | no => exact o
  | ex x S1 => exact o
  | ok xs S1 =>
    intro F1 ι1 J H1 st1 hr1 wk D hD
    have hxl := wk.len
    simp only [Res.bind_ok] at o
    have sr1 := (sr.step st1 hr1).wipe (own.map (·.2))
    cases el : lcLoop fe t dc de (My.wipe ρ (own.map (·.2))) xs [] S1 with
    | no => rw [el] at o; exact (show False from o).elim
    | ex x S2 => rw [el] at o; exact (show False from o).elim
    | ok vs S2 =>
      rw [el] at o
      have o : OutE X.K (rN X.K H) W Q F ι σ H (.ok (.lst vs) S2) := o
      refine ⟨fun i m Hc => m = xs.length - i ∧ i ≤ xs.length ∧ ∃ F' ι' S' acc ys, Step F1 ι1 H1 F' ι' Hc ∧ HR X.K F' ι' Hc S' ∧ F' D = none ∧ D ∉ ι' ∧ Hc D = some (.lst ys) ∧ RVs X.K F' ι' acc ys ∧ acc.length ≤ i ∧ lcLoop fe t dc de (My.wipe ρ (own.map (·.2))) (xs.drop i) acc S' = .ok vs S2,
        ⟨xs.length, by simp, Nat.zero_le _, F1, ι1, S1, [], [], Step.nw hr1 hD, hr1.nw hD, free_of hr1.sub hD, hr1.notIn hD, upd_same, rfl, Nat.le_refl _, el⟩, ?_⟩
      rintro i m Hc ⟨rfl, hi, F', ι', S', acc, ys, st, hr, fD, nD, hDc, ra, hacc, hl⟩
      by_cases hlt : i < xs.length
      · have hx : xs[i]? = some xs[i] := by simp [hlt]
        obtain ⟨g1, g2⟩ := wk.go F' ι' Hc st.sub st.pre hr.sub i xs[i] hx
        refine .inr ⟨g1, fun Hn => (i + 1 ≤ xs.length ∧ ∃ F' ι' S' acc ys, Step F1 ι1 H1 F' ι' Hn ∧ HR X.K F' ι' Hn S' ∧ F' D = none ∧ D ∉ ι' ∧ Hn D = some (.lst ys) ∧ RVs X.K F' ι' acc ys ∧ acc.length ≤ i + 1 ∧ lcLoop fe t dc de (My.wipe ρ (own.map (·.2))) (xs.drop (i + 1)) acc S' = .ok vs S2),
          fun Hn hn => ⟨xs.length - (i + 1), by omega, rfl, hn.1, hn.2⟩, fun x' Hy y => ?_⟩
        obtain ⟨Fy, sFy, frFy, sHy, sFH, ry⟩ := g2 x' Hy y
        have stY : Step F' ι' Hc Fy ι' Hy := Step.grow sFy frFy sHy
        have hrY : HR X.K Fy ι' Hy S' := hr.grow sFy frFy sHy sFH
        have srY := (sr1.step st hr).step stY hrY
        rw [List.drop_eq_getElem_cons hlt] at hl
        unfold lcLoop at hl
        split at hl
        · cases hl
        · rename_i ρ1 et
          refine ⟨Fy, ι', S', My.wipe ρ (own.map (·.2)), xs[i], ρ1, srY, ry, et, fun σ2 sr2 hσl hσ _ => ⟨?_, ?_⟩⟩
          · have hw := wipe_congr (own.map (·.2)) (σ := σ2) (σ' := L2.wipe σ (own.map (·.2))) hσl (fun j hj => hσ j fun z => hj (hsub j z))
            rw [hw]
            refine wipe_congr _ (wipe_length _ _) fun j hj => ?_
            exact wipe_out hj
          · have hDy : Hy D = some (.lst ys) := sHy _ _ hDc
            have fDy : Fy D = none := frFy D (by rw [hDc]; simp) fD
            have ray := ra.mono sFy (Pre.refl _)
            refine ⟨Fy, ι', S', ρ1, sr2, ?_⟩
            cases ec : dc fe ρ1 S' with
            | no => rw [ec] at hl; cases hl
            | ex x S3 => rw [ec] at hl; cases hl
            | ok b S3 =>
              rw [ec] at hl
              simp only [Res.bind_ok] at hl
              intro F3 ι3 b' H3 st3 hr3 q3
              have sr3 := sr2.step st3 hr3
              have nD3 := st3.notIn hDy nD
              have hD3 : H3 D = some (.lst ys) := st3.keep D _ hDy nD (fun ps z => by cases z)
              have fD3 : F3 D = none := st3.fresh D (by rw [hDy]; simp) fDy
              cases b <;> first | (cases hl; done) | skip
              rename_i bb
              refine ⟨bb, (show b' = .bl bb by simpa [rV, RV] using q3), ?_⟩
              cases bb with
              | false =>
                simp only [Bool.false_eq_true, if_false]
                exact ⟨by omega, F3, ι3, S3, acc, ys, (st.trans stY).trans st3, hr3, fD3, nD3, hD3, ray.mono st3.sub st3.pre, by omega, hl⟩
              | true =>
                simp only [if_true]
                refine ⟨F3, ι3, S3, ρ1, sr3, ?_⟩
                simp only at hl
                cases ee : de fe ρ1 S3 with
                | no => rw [ee] at hl; cases hl
                | ex x S4 => rw [ee] at hl; cases hl
                | ok v S4 =>
                  rw [ee] at hl
                  simp only [Res.bind_ok] at hl
                  intro F4 ι4 v' H4 st4 hr4 q4
                  have hD4 : H4 D = some (.lst ys) := st4.keep D _ hD3 nD3 (fun ps z => by cases z)
                  have fD4 : F4 D = none := st4.fresh D (by rw [hD3]; simp) fD3
                  have nD4 := st4.notIn hD3 nD3
                  have rr := (ray.mono st3.sub st3.pre).mono st4.sub st4.pre
                  refine ⟨ys, hD4, by rw [← ra.length, lim_eq]; omega, by omega, F4, ι4, S4, acc ++ [v], ys ++ [v'], Step.updO (((st.trans stY).trans st3).trans st4) hD, (hr4.updO fD4 nD4 fun u hu => by rw [hD4] at hu; cases hu; trivial), fD4, nD4, upd_same, rr.append (RVs.one q4), by rw [List.length_append]; simp only [List.length_cons, List.length_nil]; omega, hl⟩
      · have : i = xs.length := by omega
        subst this
        rw [List.drop_length] at hl
        cases hl
        refine .inl ⟨wk.stop F' Hc st.sub hr.sub, ?_⟩
        refine o F' ι' _ Hc (st1.trans st) hr ⟨D, .lst vs, rfl, rfl, ?_, fD, nD, ys, hDc, by omega, ra⟩
        cases e : H D with
        | none => rfl
        | some u => exact absurd hD (st1.there D (by rw [e]; simp))
theorem lcE_lst {own : List Nat} {it : DI} {t : DT} {dc de : DE} : ∀ fe ρ S v S', lcE own it t dc de fe ρ S = .ok v S' → ∃ ps, v = .lst ps := by
  intro fe ρ S v S' h
  obtain ⟨xs, S1, _, h2⟩ := Res.bind_eq_ok h
  obtain ⟨vs, S2, _, h3⟩ := Res.bind_eq_ok h2
  cases h3
  exact ⟨_, rfl⟩
theorem sim_lcN (hc : X.calm = true) (hN : X.N.Nodup) (hi : PI X tg iter (tI X.K fe W it)) (ok : BlkOk X.N X.env.scope scope own) (hsub : ∀ i ∈ is, i ∈ own.map (·.2))
    (hg : ∀ (s : Shared) (H : Hp) (C : Addr) (cl : List (Str × Addr)) (fp : List Addr), PG (X.blk s H scope (compEnvC scope cl C X.env) fp) tg (gT X.K is t)) (ht : ∀ (s : Shared) (H : Hp) (C : Addr) (cl : List (Str × Addr)) (fp : List Addr), PTs (X.blk s H scope (compEnvC scope cl C X.env) fp) ifs (My.tB X.K fe W0 dc))
    (he : ∀ (s : Shared) (H : Hp) (C : Addr) (cl : List (Str × Addr)) (fp : List Addr), PE (X.blk s H scope (compEnvC scope cl C X.env) fp) elt (tE X.K fe W0 de)) (hs : ∀ x, foldedSetIterable iter X.env x = pure x := by intro _; rfl) :
    PE X (.ListComp elt [⟨tg, iter, ifs, 0⟩] scope pos) (tN X.K fe W (lcE (own.map (·.2)) it t dc de)) :=
  PE.imp (pe_lc hc hN hi ok hg ht he hs) fun _ _ _ h => lc_of hsub h
theorem sim_lc (hc : X.calm = true) (hN : X.N.Nodup) (hi : PI X tg iter (tI X.K fe W it)) (ok : BlkOk X.N X.env.scope scope own) (hsub : ∀ i ∈ is, i ∈ own.map (·.2))
    (hg : ∀ (s : Shared) (H : Hp) (C : Addr) (cl : List (Str × Addr)) (fp : List Addr), PG (X.blk s H scope (compEnvC scope cl C X.env) fp) tg (gT X.K is t)) (ht : ∀ (s : Shared) (H : Hp) (C : Addr) (cl : List (Str × Addr)) (fp : List Addr), PTs (X.blk s H scope (compEnvC scope cl C X.env) fp) ifs (My.tB X.K fe W0 dc))
    (he : ∀ (s : Shared) (H : Hp) (C : Addr) (cl : List (Str × Addr)) (fp : List Addr), PE (X.blk s H scope (compEnvC scope cl C X.env) fp) elt (tE X.K fe W0 de)) (hs : ∀ x, foldedSetIterable iter X.env x = pure x := by intro _; rfl) :
    PE X (.ListComp elt [⟨tg, iter, ifs, 0⟩] scope pos) (tE X.K fe W (lcE (own.map (·.2)) it t dc de)) := N_E (sim_lcN hc hN hi ok hsub hg ht he hs) lcE_lst
theorem ts_nil : PTs X [] (My.tB X.K fe W yesE) := ⟨fun pins s σ H Q I h => pts_nil.run pins s σ H Q I (by
  obtain ⟨F, ι, S, ρ, sr, o⟩ := h
  obtain ⟨b, e, q⟩ := o F ι _ H Step.refl sr.hr (RV_bl true)
  cases e
  exact q)⟩
end
end My
namespace My
open PySem PySem.Spec PyProof.Rows L2
variable [LT]
section
variable {X : Cx} {T : Tab} {D : Nat} {W : WX} {e o : Expr} {es : List Expr} {ds : DEs} {d : DE} {x m : Str} {p pos apos : Pos} {f c : Nm} {fa : Addr} {fd : FuncData} {ps : List Str} {kws : List Keyword} {ks : List Str} {q : List Nat}
end
end My
namespace My
open PySem PySem.Spec PyProof.Rows L2
variable [LT]
section
variable (K : PySem.W.Frag) (N : EN)
def tS (fe : FE) (W : WX) (d : DS) : TS := fun D σ H => ∃ F ι S ρ, SE K N F ι σ ρ H S ∧ OutS K N W D F ι (d fe ρ S)
end
section
variable {K : PySem.W.Frag} {N : EN} {F F1 : Hp} {ι ι1 : List Addr} {σ : L2.St} {ρ : Rho} {H H1 : Hp} {S S1 : IS} {W : WX} {D : Ends}
theorem slf_set {σ : L2.St} {i : Nat} {v : Option V} (hn : N.self = none ∨ i ≠ 0) (h : ∀ x, N.self = some x → σ[0]? = some (some (.ref x))) : ∀ x, N.self = some x → (σ.set i v)[0]? = some (some (.ref x)) := fun x e => by
  rcases hn with z | z
  · rw [z] at e; cases e
  · rw [List.getElem?_set_ne z]; exact h x e
theorem SE.setv (h : SE K N F ι σ ρ H S) {i : Nat} {p : PV} {v : V} (hn : N.self = none ∨ i ≠ 0) (hi : i < ρ.length) (q : RV K F ι p v) : SE K N F ι (σ.set i (some v)) (ρ.set i (.val p)) H S := ⟨h.sr.setv hi q, h.st, fun j o a h1 h2 => by
  by_cases e : i = j
  · subst e; rw [List.getElem?_set_self hi] at h1; cases h1
  · rw [List.getElem?_set_ne e] at h1 h2
    exact h.ow j o a h1 h2, slf_set hn h.slf⟩
theorem SE.seto (h : SE K N F ι σ ρ H S) {i : Nat} {o : IO} {a : Addr} (hn : N.self = none ∨ i ≠ 0) (hi : i < ρ.length) (f : F a = none) (n : a ∉ ι) (r : IOR K F ι H a o) (h0 : N.H a = none) (ap : ∀ j u, j ≠ i → ρ[j]? = some (.own u) → σ[j]? ≠ some (some (.ref a))) :
    SE K N F ι (σ.set i (some (.ref a))) (ρ.set i (.own o)) H S where
  sr := {
    hr := h.sr.hr
    len := by rw [List.length_set, List.length_set, h.sr.len]
    at_ := fun j s e => by
      by_cases z : i = j
      · subst z
        rw [List.getElem?_set_self hi] at e
        cases e
        exact ⟨_, List.getElem?_set_self (by rw [h.sr.len]; exact hi), a, rfl, f, n, r⟩
      · rw [List.getElem?_set_ne z] at e ⊢
        exact h.sr.at_ j s e
    ap := fun j k o' u b hjk h1 h2 h3 => by
      by_cases e1 : i = j
      · subst e1
        have hk : k ≠ i := fun z => hjk z.symm
        rw [List.getElem?_set_ne (Ne.symm hk)] at h2 ⊢
        rw [List.getElem?_set_self (by rw [h.sr.len]; exact hi)] at h3
        cases h3
        exact ap k u hk h2
      · by_cases e2 : i = k
        · subst e2
          rw [List.getElem?_set_ne e1] at h1 h3
          rw [List.getElem?_set_self (by rw [h.sr.len]; exact hi)]
          intro z
          cases z
          exact ap j o' (fun z => e1 z.symm) h1 h3
        · rw [List.getElem?_set_ne e1] at h1 h3
          rw [List.getElem?_set_ne e2] at h2 ⊢
          exact h.sr.ap j k o' u b hjk h1 h2 h3 }
  st := h.st
  ow := fun j o' b h1 h2 => by
    by_cases e : i = j
    · subst e
      rw [List.getElem?_set_self (by rw [h.sr.len]; exact hi)] at h2
      cases h2
      exact h0
    · rw [List.getElem?_set_ne e] at h1 h2
      exact h.ow j o' b h1 h2
  slf := slf_set hn h.slf
end
section
variable {X : Cx} {N : EN} {fe : FE} {W : WX} {a b c e : Expr} {da db dc d : DE} {pos : Pos} {st : Stmt} {sts : List Stmt} {ds dt : DS}
section
variable {F : Hp} {ι : List Addr} {S : IS} {ρ : Rho} {σ : L2.St} {H : Hp} {D : Ends}
theorem exE {r : Res PV} {k : PV → IS → RS} {R : RL} {Q : VK} (se : SE X.K N F ι σ ρ H S) (o : OutS X.K N W D F ι (RS.ofE ρ r k)) (hok : ∀ v S1, r = .ok v S1 → OutE X.K R W Q F ι σ H r) : OutE X.K R W Q F ι σ H r := by
  cases r with
  | no => exact o
  | ex x S1 => exact fun F' ι' cls d H' st hr rx => o F' ι' σ cls d H' st.sub st.pre (se.step st hr) rx
  | ok v S1 => exact hok v S1 rfl
theorem s_b {k : PV → IS → RS} (se : SE X.K N F ι σ ρ H S) (o : OutS X.K N W D F ι (RS.ofE ρ (da fe ρ S) k)) {Q2 : VK}
    (hk : ∀ F1 ι1 S1 v v' H1, Step F ι H F1 ι1 H1 → SE X.K N F1 ι1 σ ρ H1 S1 → RV X.K F1 ι1 v v' → OutS X.K N W D F1 ι1 (k v S1) → Q2 v' H1) : tE X.K fe W da σ H Q2 := by
  refine ⟨F, ι, S, ρ, se.sr, exE se o fun v S1 e => ?_⟩
  rw [e] at o ⊢
  exact fun F1 ι1 v1 H1 st hr q => hk F1 ι1 S1 v v1 H1 st (se.step st hr) q (OutS.step st.sub st.pre o)
theorem s_bN {k : PV → IS → RS} (se : SE X.K N F ι σ ρ H S) (o : OutS X.K N W D F ι (RS.ofE ρ (da fe ρ S) k)) {Q2 : VK}
    (hk : ∀ F1 ι1 S1 v v' H1, Step F ι H F1 ι1 H1 → SE X.K N F1 ι1 σ ρ H1 S1 → rN X.K H F1 ι1 H1 v v' → OutS X.K N W D F1 ι1 (k v S1) → Q2 v' H1) : tN X.K fe W da σ H Q2 := by
  refine ⟨F, ι, S, ρ, se.sr, exE se o fun v S1 e => ?_⟩
  rw [e] at o ⊢
  exact fun F1 ι1 v1 H1 st hr q => hk F1 ι1 S1 v v1 H1 st (se.step st hr) q (OutS.step st.sub st.pre o)
end
theorem b_nil : PSs X [] (tS X.K N fe W nextS) := PSs.imp pss_nil fun D σ H ⟨F, ι, S, ρ, se, o⟩ => o F ι σ H (Sub.refl _) (Pre.refl _) se
theorem b_cons (h1 : PS X st (tS X.K N fe W ds)) (h2 : PSs X sts (tS X.K N fe W dt)) : PSs X (st :: sts) (tS X.K N fe W (seqS ds dt)) := by
  refine PSs.imp (pss_cons h1 h2) fun D σ H h => ?_
  obtain ⟨F, ι, S, ρ, se, o⟩ := h
  exact ⟨F, ι, S, ρ, se, OutS.seq (k := fun ρ S => dt fe ρ S) o fun F' ι' σ' ρ' H' S' s p se' o' => ⟨F', ι', S', ρ', se', o'⟩⟩
theorem b_one (h1 : PS X st (tS X.K N fe W ds)) : PSs X [st] (tS X.K N fe W ds) := pss_one h1
theorem st_ret (he : PE X e (tE X.K fe W d)) : PS X (.Return (some e) pos) (tS X.K N fe W (retS d)) := by
  refine PS.imp (ps_ret he) fun D σ H h => ?_
  obtain ⟨F, ι, S, ρ, se, o⟩ := h
  exact s_b se o fun F1 ι1 S1 v v' H1 st1 se1 r1 o1 => o1 F1 ι1 v' H1 (Sub.refl _) (Pre.refl _) se1.st se1.sr.hr r1
variable {i : Nat} {x : Str} {pos' : Pos}
theorem set_of (hn : N.self = none ∨ i ≠ 0) {F : Hp} {ι : List Addr} {S : IS} {ρ : Rho} {σ : L2.St} {H : Hp} {D : Ends} {v : PV} {v' : V} (se : SE X.K N F ι σ ρ H S) (r : RV X.K F ι v v')
    (o : OutS X.K N W D F ι (match tgN i v ρ with | some ρ1 => .fl (.nx ρ1) S | none => .no)) : D.nx (σ.set i (some v')) H := by
  unfold tgN at o
  by_cases hl : i < ρ.length
  · rw [if_pos hl] at o
    exact o F ι _ H (Sub.refl _) (Pre.refl _) (se.setv hn hl r)
  · rw [if_neg hl] at o
    exact o.elim
theorem st_set (hn : N.self = none ∨ i ≠ 0) (hN : X.N.Nodup) (hi : X.N[i]? = some x) (hx : Loc X.env.scope x) (he : PE X e (tE X.K fe W d)) (hs : swapsWith e (some (.Name x pos')) pos.line X.env = pure false := by rfl) (hf : X.fn x = true ∨ X.env.scope.names.lookup x = some .local := by first | exact .inl rfl | exact .inr rfl | assumption) :
    PS X (.Assign [.Name x pos'] e pos) (tS X.K N fe W (asgS (tgN i) d)) := by
  refine PS.imp (ps_set hN hi hx he hs hf) fun D σ H h => ?_
  obtain ⟨F, ι, S, ρ, se, o⟩ := h
  exact s_b se o fun F1 ι1 S1 v v' H1 st1 se1 r1 o1 => set_of hn se1 r1 o1
theorem oset_of (hn : N.self = none ∨ i ≠ 0) {F : Hp} {ι : List Addr} {S : IS} {ρ : Rho} {σ : L2.St} {H H0 : Hp} {D : Ends} {v : PV} {v' : V} (se : SE X.K N F ι σ ρ H S) (r : rN X.K H0 F ι H v v') (h0 : ∀ a, N.H a ≠ none → H0 a ≠ none) (hσ : ∀ (j : Nat) (u : IO) (a : Addr), ρ[j]? = some (.own u) → σ[j]? = some (some (.ref a)) → H0 a ≠ none)
    (o : OutS X.K N W D F ι (match ioOf v with | some o => if i < ρ.length then .fl (.nx (ρ.set i (.own o))) S else .no | none => .no)) : D.nx (σ.set i (some v')) H := by
  obtain ⟨a, io, e, hi, ha, f, n, r⟩ := r
  subst e
  rw [hi] at o
  simp only at o
  by_cases hl : i < ρ.length
  · rw [if_pos hl] at o
    refine o F ι _ H (Sub.refl _) (Pre.refl _) (se.seto hn hl f n r ?_ fun j u hj h1 h2 => hσ j u a h1 h2 ha)
    cases e : N.H a with
    | none => rfl
    | some u => exact absurd ha (h0 a (by rw [e]; simp))
  · rw [if_neg hl] at o
    exact o.elim
theorem SE.there0 {K : PySem.W.Frag} {F : Hp} {ι : List Addr} {S : IS} {ρ : Rho} {σ : L2.St} {H : Hp} (se : SE K N F ι σ ρ H S) : ∀ (j : Nat) (u : IO) (a : Addr), ρ[j]? = some (.own u) → σ[j]? = some (some (.ref a)) → H a ≠ none := fun j u a h1 h2 => by
  obtain ⟨x, hx, b, e, _, _, r⟩ := se.sr.at_ j _ h1
  rw [h2] at hx
  cases hx
  cases e
  exact r.there
theorem st_oset (hn : N.self = none ∨ i ≠ 0) (hN : X.N.Nodup) (hi : X.N[i]? = some x) (hx : Loc X.env.scope x) (he : PE X e (tN X.K fe W d)) (hs : swapsWith e (some (.Name x pos')) pos.line X.env = pure false := by rfl) (hf : X.fn x = true ∨ X.env.scope.names.lookup x = some .local := by first | exact .inl rfl | exact .inr rfl | assumption) :
    PS X (.Assign [.Name x pos'] e pos) (tS X.K N fe W (osetS i d)) := by
  refine PS.imp (ps_set hN hi hx he hs hf) fun D σ H h => ?_
  obtain ⟨F, ι, S, ρ, se, o⟩ := h
  exact s_bN se o fun F1 ι1 S1 v v' H1 st1 se1 r1 o1 => oset_of hn se1 r1 (fun a h => se.st.there a h) se.there0 o1
theorem st_if {p q : List Stmt} (hc : PT X c (My.tB X.K fe W dc)) (ha : PSs X p (tS X.K N fe W ds)) (hb : PSs X q (tS X.K N fe W dt)) : PS X (.If c p q pos) (tS X.K N fe W (ifS dc ds dt)) := by
  refine PS.imp (ps_if hc ha hb) fun D σ H h => ?_
  obtain ⟨F, ι, S, ρ, se, o⟩ := h
  refine s_b se o fun F1 ι1 S1 v v' H1 st1 se1 r1 o1 => ?_
  cases v <;> first | (exact o1.elim) | skip
  rename_i bb
  refine ⟨bb, (show v' = .bl bb by simpa [RV] using r1), ?_⟩
  cases bb with
  | true => exact ⟨F1, ι1, S1, ρ, se1, o1⟩
  | false => exact ⟨F1, ι1, S1, ρ, se1, o1⟩
variable {tg iter : Expr} {it : DI} {t : DT} {is : List Nat} {body : List Stmt}
theorem g_se (hn : N.self = none ∨ 0 ∉ is) {F : Hp} {ι : List Addr} {S : IS} {ρ ρ' : Rho} {σ : L2.St} {H : Hp} {v : PV} {v' : V} {Q : L2.St → Hp → Prop} (se : SE X.K N F ι σ ρ H S) (r : RV X.K F ι v v') (et : t v ρ = some ρ') (k : ∀ σ', SE X.K N F ι σ' ρ' H S → Q σ' H) : gT X.K is t v' σ H Q :=
  ⟨F, ι, S, ρ, v, ρ', se.sr, r, et, fun σ' sr' _ hj hk => k σ' ⟨sr', se.st, fun j o a h1 h2 => by
    obtain ⟨h3, h4⟩ := hk j o h1
    exact se.ow j o a h3 (h4 ▸ h2), fun x e => by
    rcases hn with z | z
    · rw [z] at e; cases e
    · rw [hj 0 z]; exact se.slf x e⟩⟩
theorem for_of (hn : N.self = none ∨ 0 ∉ is) {σ : L2.St} {H : Hp} {D : Ends} (h : tS X.K N fe W (forS it t ds) D σ H) : tFor (tI X.K fe W it) (gT X.K is t) (tS X.K N fe W ds) D σ H := by
  obtain ⟨F, ι, S, ρ, se, o⟩ := h
  refine ⟨F, ι, S, ρ, se.sr, ?_⟩
  unfold forS at o
  revert o
  generalize it fe ρ S = ra
  intro o
  cases ra with
  | no => exact o
  | ex x S1 => exact fun F' ι' cls d H' st hr rx => o F' ι' σ cls d H' st.sub st.pre (se.step st hr) rx
  | ok xs S1 =>
    intro F1 ι1 J H1 st1 hr1 wk
    have o : OutS X.K N W D F ι (forLoop fe t ds xs ρ S1) := o
    refine ⟨fun i m σc Hc => m = xs.length - i ∧ i ≤ xs.length ∧ ∃ F' ι' S' ρ', Sub F1 F' ∧ Pre ι1 ι' ∧ SE X.K N F' ι' σc ρ' Hc S' ∧ OutS X.K N W D F' ι' (forLoop fe t ds (xs.drop i) ρ' S'),
      ⟨xs.length, by simp, Nat.zero_le _, F1, ι1, S1, ρ, Sub.refl _, Pre.refl _, se.step st1 hr1, OutS.step st1.sub st1.pre o⟩, ?_⟩
    rintro i m σc Hc ⟨rfl, hi, F', ι', S', ρ', sF, pι, se', o'⟩
    by_cases hlt : i < xs.length
    · obtain ⟨g1, g2⟩ := wk.go F' ι' Hc sF pι se'.sr.hr.sub i xs[i] (by simp [hlt])
      rw [List.drop_eq_getElem_cons hlt] at o'
      refine .inr ⟨g1, fun σn Hn => (i + 1 ≤ xs.length ∧ ∃ F' ι' S' ρ', Sub F1 F' ∧ Pre ι1 ι' ∧ SE X.K N F' ι' σn ρ' Hn S' ∧ OutS X.K N W D F' ι' (forLoop fe t ds (xs.drop (i + 1)) ρ' S')),
        fun σn Hn hn => ⟨xs.length - (i + 1), by omega, rfl, hn.1, hn.2⟩, fun x' Hy y => ?_⟩
      obtain ⟨Fy, sFy, frFy, sHy, sFH, ry⟩ := g2 x' Hy y
      have stY : Step F' ι' Hc Fy ι' Hy := Step.grow sFy frFy sHy
      have seY := se'.step stY (se'.sr.hr.grow sFy frFy sHy sFH)
      have oY := OutS.step sFy (Pre.refl _) o'
      unfold forLoop at oY
      cases et : t xs[i] ρ' with
      | none => rw [et] at oY; exact oY.elim
      | some ρ1 =>
        rw [et] at oY
        simp only at oY
        refine g_se hn seY ry et fun σ2 se2 => ⟨Fy, ι', S', ρ1, se2, ?_⟩
        revert oY
        generalize ds fe ρ1 S' = rb
        intro oY
        cases rb with
        | fl f S2 =>
          cases f with
          | nx ρ2 => exact fun F3 ι3 σ3 H3 s3 p3 se3 => ⟨by omega, F3, ι3, S2, ρ2, (sF.trans sFy).trans s3, pι.trans p3, se3, OutS.step s3 p3 oY⟩
          | ct ρ2 => exact fun F3 ι3 σ3 H3 s3 p3 se3 => ⟨by omega, F3, ι3, S2, ρ2, (sF.trans sFy).trans s3, pι.trans p3, se3, OutS.step s3 p3 oY⟩
          | bk ρ2 => exact oY
          | rt v => exact oY
        | ex x ρ2 S2 => exact oY
        | no => exact oY
    · have : i = xs.length := by omega
      subst this
      rw [List.drop_length] at o'
      exact .inl ⟨wk.stop F' Hc sF se'.sr.hr.sub, o' F' ι' σc Hc (Sub.refl _) (Pre.refl _) se'⟩
theorem st_for (hn : N.self = none ∨ 0 ∉ is) (hp : PassesOwn (model X.prog X.w) X.A X.env X.xe) (hc : X.calm = true) (hi : PI X tg iter (tI X.K fe W it)) (hg : PG X tg (gT X.K is t)) (hb : PSs X body (tS X.K N fe W ds)) (hs : ∀ x, foldedSetIterable iter X.env x = pure x := by intro _; rfl) :
    PS X (.For tg iter body [] pos) (tS X.K N fe W (forS it t ds)) := PS.imp (ps_for hp hc hi hg hb hs) fun _ _ _ h => for_of hn h
end
end My
namespace My
open PySem PySem.Spec PyProof.Rows L2
variable [LT]
section
variable {X : Cx} {N : EN} {fe : FE} {W : WX} {a b c e : Expr} {da db dc d : DE} {pos : Pos} {st : Stmt} {sts : List Stmt} {ds dt : DS} {es : List Expr} {dA : DEs}
def OutM (K : PySem.W.Frag) (bs : List Bool) (W : WX) (Q : List V → Hp → Prop) (F : Hp) (ι : List Addr) (σ : L2.St) (H : Hp) : Res (List PV) → Prop
  | .ok vs S' => ∀ F' ι' vs' H', Step F ι H F' ι' H' → HR K F' ι' H' S' → RM K H F' ι' H' bs vs vs' → Q vs' H'
  | .ex x S' => ∀ F' ι' cls d H', Step F ι H F' ι' H' → HR K F' ι' H' S' → RX K F' ι' H' x cls d → W cls d σ H'
  | .no => False
def tM (K : PySem.W.Frag) (fe : FE) (W : WX) (bs : List Bool) (d : DEs) : TA := fun σ H Q => ∃ F ι S ρ, SR K F ι σ ρ H S ∧ OutM K bs W Q F ι σ H (d fe ρ S)
theorem RM.weak {K : PySem.W.Frag} {H0 H0' F H : Hp} {ι : List Addr} (h0 : ∀ a, H0' a ≠ none → H0 a ≠ none) : ∀ {bs : List Bool} {ps : List PV} {vs : List V}, RM K H0 F ι H bs ps vs → RM K H0' F ι H bs ps vs
  | [], [], _, h => h
  | [], _ :: _, _, h => h.elim
  | _ :: _, [], _, h => h.elim
  | b :: bs, p :: ps, _, ⟨v, r, e, h1, h2, h3⟩ => ⟨v, r, e, (by
      cases b with
      | true => simp only [if_true] at h1 ⊢; exact rN.step Step.refl h0 h1
      | false => exact h1), RM.weak h0 h2, h3⟩
theorem OutM.ofA {bs : List Bool} {F : Hp} {ι : List Addr} {σ : L2.St} {H : Hp} {S : IS} {ρ : Rho} {r : Res PV} {k : PV → IS → Res (List PV)} {R' : RL} {Q : List V → Hp → Prop} (sr : SR X.K F ι σ ρ H S) (h : OutM X.K bs W Q F ι σ H (r.bind k)) {Q2 : VK}
    (hk : ∀ F1 ι1 S1 v v' H1, Step F ι H F1 ι1 H1 → SR X.K F1 ι1 σ ρ H1 S1 → R' F1 ι1 H1 v v' → r = .ok v S1 → OutM X.K bs W Q F ι σ H (k v S1) → Q2 v' H1) : OutE X.K R' W Q2 F ι σ H r := by
  cases r with
  | ok v S1 => exact fun F' ι' v' H' st hr q => hk F' ι' S1 v v' H' st (sr.step st hr) q rfl h
  | ex x S1 => exact h
  | no => exact h
theorem m_nil : PA X [] (tM X.K fe W [] nilA) := PA.imp pa_nil fun σ H Q ⟨F, ι, S, ρ, sr, o⟩ => o F ι [] H Step.refl sr.hr rfl
theorem m_of {bs : List Bool} {bb : Bool} {F : Hp} {ι : List Addr} {σ : L2.St} {H : Hp} {S : IS} {ρ : Rho} {Q : List V → Hp → Prop} {F1 ι1 S1} {v : PV} {v' : V} {H1 : Hp} (st1 : Step F ι H F1 ι1 H1) (sr1 : SR X.K F1 ι1 σ ρ H1 S1) (q : if bb = true then rN X.K H F1 ι1 H1 v v' else RV X.K F1 ι1 v v')
    (o : OutM X.K (bb :: bs) W Q F ι σ H ((dA fe ρ S1).bind fun xs S2 => .ok (v :: xs) S2)) : tM X.K fe W bs dA σ H1 fun vs H2 => Q (v' :: vs) H2 := by
  refine ⟨F1, ι1, S1, ρ, sr1, ?_⟩
  revert o
  generalize dA fe ρ S1 = ra
  intro o
  cases ra with
  | no => exact o
  | ex x S2 => exact fun F' ι' cls d H' st => o F' ι' cls d H' (st1.trans st)
  | ok vs S2 =>
    intro F2 ι2 vs' H2 st2 hr2 r2
    refine o F2 ι2 _ H2 (st1.trans st2) hr2 ⟨v', vs', rfl, ?_, r2.weak (fun a h => st1.there a h), fun hb i hi hv => ?_⟩
    · cases bb with
      | true => simp only [if_true] at q ⊢; exact rN.step st2 (fun _ h => h) q
      | false => exact RV.mono st2.sub st2.pre q
    · subst hb
      simp only [if_true] at q
      obtain ⟨x, e1, z⟩ := r2.new i v' hi hv
      obtain ⟨y, _, e2, _, _, _, _, r⟩ := q
      rw [e1] at e2
      cases e2
      exact r.there z
theorem m_val {bs : List Bool} (ha : PE X a (tE X.K fe W da)) (hr : PA X es (tM X.K fe W bs dA)) (hs : isSt a = false := by rfl) : PA X (a :: es) (tM X.K fe W (false :: bs) (consA da dA)) := by
  refine PA.imp (pa_cons ha hr (noStar hs)) fun σ H Q h => ?_
  obtain ⟨F, ι, S, ρ, sr, o⟩ := h
  exact ⟨F, ι, S, ρ, sr, OutM.ofA sr o fun F1 ι1 S1 v v' H1 st1 sr1 q _ o1 => m_of (S := S) (bb := false) st1 sr1 q o1⟩
def setAll : L2.St → List Nat → List V → L2.St
  | σ, i :: is, v :: vs => setAll (σ.set i (some v)) is vs
  | σ, _, _ => σ
theorem par_of {K : PySem.W.Frag} {H0 F : Hp} {ι : List Addr} {H : Hp} {S : IS} (h0 : ∀ a, N.H a ≠ none → H0 a ≠ none) : ∀ {ts : List (Nat × Bool)} {vs : List PV} {vs' : List V} {σ : L2.St} {ρ ρ' : Rho}, (N.self = none ∨ 0 ∉ ts.map (·.1)) → SE K N F ι σ ρ H S → RM K H0 F ι H (ts.map (·.2)) vs vs' →
    (∀ (j : Nat) (u : IO) (x : Addr), ρ[j]? = some (.own u) → σ[j]? = some (some (.ref x)) → ∀ k : Nat, (ts.map (·.2))[k]? = some true → vs'[k]? ≠ some (.ref x)) → parT ts vs ρ = some ρ' → SE K N F ι (setAll σ (ts.map (·.1)) vs') ρ' H S
  | [], [], vs', σ, ρ, ρ', _, se, r, _, e => by
    cases e
    exact se
  | [], _ :: _, _, _, _, _, _, _, r, _, _ => r.elim
  | _ :: _, [], _, _, _, _, _, _, r, _, _ => r.elim
  | (i, b) :: ts, p :: ps, vs', σ, ρ, ρ', hn, se, r, hσ, e => by
    have hn1 : N.self = none ∨ i ≠ 0 := hn.imp id fun z e => z (by rw [← e]; simp)
    have hn2 : N.self = none ∨ 0 ∉ ts.map (·.1) := hn.imp id fun z e => z (by rw [List.map_cons]; exact List.mem_cons_of_mem _ e)
    obtain ⟨v, vr, e1, h1, h2, h3⟩ := r
    subst e1
    cases b with
    | false =>
      unfold parT at e
      split at e
      · rename_i hl
        show SE K N F ι (setAll (σ.set i (some v)) (ts.map (·.1)) vr) ρ' H S
        refine par_of h0 hn2 (se.setv hn1 hl h1) h2 (fun j u x hj hx k hk => ?_) e
        by_cases z : i = j
        · subst z; rw [List.getElem?_set_self hl] at hj; cases hj
        · rw [List.getElem?_set_ne z] at hj hx
          exact hσ j u x hj hx (k + 1) (by simpa using hk)
      · cases e
    | true =>
      unfold parT at e
      simp only [if_true] at h1
      obtain ⟨x, io, e1, hi, ha, f, n, r⟩ := h1
      subst e1
      rw [hi] at e
      simp only at e
      split at e
      · rename_i hl
        have hna : N.H x = none := by
          cases q : N.H x with
          | none => rfl
          | some u => exact absurd ha (h0 x (by rw [q]; simp))
        show SE K N F ι (setAll (σ.set i (some (.ref x))) (ts.map (·.1)) vr) ρ' H S
        refine par_of h0 hn2 (se.seto hn1 hl f n r hna fun j u hj q1 q2 => hσ j u x q1 q2 0 rfl rfl) h2 (fun j u y hj hx k hk => ?_) e
        by_cases z : i = j
        · subst z
          rw [List.getElem?_set_self (by rw [se.sr.len]; exact hl)] at hx
          cases hx
          exact h3 rfl k hk
        · rw [List.getElem?_set_ne z] at hj hx
          exact hσ j u y hj hx (k + 1) (by simpa using hk)
      · cases e
theorem par_rd {ts : List (Nat × Bool)} (hn : N.self = none ∨ 0 ∉ ts.map (·.1)) {σ : L2.St} {H : Hp} {D : Ends} (h : tS X.K N fe W (parS ts dA) D σ H) : tM X.K fe W (ts.map (·.2)) dA σ H fun vs' H1 => vs'.length = ts.length ∧ D.nx (setAll σ (ts.map (·.1)) vs') H1 := by
  obtain ⟨F, ι, S, ρ, se, o⟩ := h
  refine ⟨F, ι, S, ρ, se.sr, ?_⟩
  unfold parS at o
  revert o
  generalize dA fe ρ S = ra
  intro o
  cases ra with
  | no => exact o
  | ex x S1 => exact fun F' ι' cls d H' st hr rx => o F' ι' σ cls d H' st.sub st.pre (se.step st hr) rx
  | ok vs S1 =>
    intro F1 ι1 vs' H1 st1 hr1 r1
    simp only at o
    cases ep : parT ts vs ρ with
    | none => rw [ep] at o; exact o.elim
    | some ρ' =>
      rw [ep] at o
      have hlen : ∀ {bs : List Bool} {ps : List PV} {vs : List V}, RM X.K H F1 ι1 H1 bs ps vs → vs.length = bs.length := by
        intro bs
        induction bs with
        | nil => intro ps vs h; cases ps with
          | nil => rw [show vs = [] from h]; rfl
          | cons _ _ => exact h.elim
        | cons b bs ih => intro ps vs h; cases ps with
          | nil => exact h.elim
          | cons p ps =>
            obtain ⟨v, r, e, _, h2, _⟩ := h
            subst e
            rw [List.length_cons, List.length_cons, ih h2]
      refine ⟨by rw [hlen r1, List.length_map], o F1 ι1 _ H1 st1.sub st1.pre (par_of (fun a h => se.st.there a h) hn (se.step st1 hr1) r1 (fun j u x hj hx k hk hv => ?_) ep)⟩
      obtain ⟨y, e, z⟩ := r1.new k _ hk hv
      cases e
      exact se.there0 j u x hj hx z
theorem st_par2 {i j : Nat} {x y : Str} {px py pt : Pos} {kt k2 pt2} {bi bj : Bool} (hn : N.self = none ∨ 0 ∉ [i, j]) (hc : X.calm = true) (hN : X.N.Nodup) (hi : X.N[i]? = some x) (hj : X.N[j]? = some y) (hij : i ≠ j)
    (hx : X.env.scope.names.lookup x = some .local) (hy : X.env.scope.names.lookup y = some .local) (ha : PA X [a, b] (tM X.K fe W [bi, bj] dA))
    (hw : swappedStores [.Tuple [.Name x px, .Name y py] kt pt] (.Tuple [a, b] k2 pt2) X.env = pure (some [x, y]))
    (hs : swapsWithSole [.Tuple [.Name x px, .Name y py] kt pt] (.Tuple [a, b] k2 pt2) pos.line X.env = pure false := by rfl) :
    PS X (.Assign [.Tuple [.Name x px, .Name y py] kt pt] (.Tuple [a, b] k2 pt2) pos) (tS X.K N fe W (parS [(i, bi), (j, bj)] dA)) := by
  refine PS.imp (ps_par hc hN hi hj hij hx hy (PA.imp ha (t' := fun σ H Q => tM X.K fe W [bi, bj] dA σ H Q) fun _ _ _ h => h) hw hs) fun D σ H h => ?_
  obtain ⟨F, ι, S, ρ, sr, o⟩ := par_rd hn h
  refine ⟨F, ι, S, ρ, sr, ?_⟩
  revert o
  generalize dA fe ρ S = ra
  intro o
  cases ra with
  | no => exact o
  | ex x S1 => exact o
  | ok vs S1 =>
    intro F1 ι1 vs' H1 st1 hr1 r1
    obtain ⟨hl, q⟩ := o F1 ι1 vs' H1 st1 hr1 r1
    match vs', hl, q with
    | [v, w], _, q => exact ⟨v, w, rfl, q⟩
variable {i : Nat} {x : Str} {xp apos : Pos}
theorem own_lst {K : PySem.W.Frag} {F : Hp} {ι : List Addr} {σ : L2.St} {ρ : Rho} {H : Hp} {S : IS} {ps : List PV} (se : SE K N F ι σ ρ H S) (h : ρ[i]? = some (.own (.lst ps))) : ∃ a xs, σ[i]? = some (some (.ref a)) ∧ H a = some (.lst xs) ∧ F a = none ∧ a ∉ ι ∧ ps.length ≤ lim ∧ RVs K F ι ps xs := by
  obtain ⟨x, hx, a, e, f, n, xs, h1, l, r⟩ := se.sr.at_ i _ h
  subst e
  exact ⟨a, xs, hx, h1, f, n, l, r⟩
theorem st_app (hi : X.N[i]? = some x) (hv : Vis X.env.scope x) (he : PE X e (tE X.K fe W d)) (hs : isSt e = false := by rfl)
    (hd : (x == ("__debug__" : Str)) = false := by decide) (hcd : (x == ("__classdict__" : Str)) = false := by decide) (hline : (apos.endLine == pos.line) = true := by rfl) {pos' : Pos} :
    PS X (.Expr (.Call (.Attribute (.Name x xp) "append" apos) [e] [] pos) pos') (tS X.K N fe W (appS i d)) := by
  refine PS.imp (ps_expr (pe_bm F.plainAttrs_list F.slot_list_append F.type_list_append mt_append (pe_var hi hv hd hcd) (pa_cons he pa_nil (noStar hs)) rfl (by rw [noStar hs]; rfl) hline (noStar hs) rfl) rfl) fun D σ H h => ?_
  obtain ⟨F, ι, S, ρ, se, o⟩ := h
  unfold appS at o
  split at o
  · rename_i ps hp
    obtain ⟨l, xs, hx, h1, f, n, hl, r⟩ := own_lst se hp
    refine ⟨.ref l, hx, .inl ⟨rfl, xs, SqL.of h1⟩, ?_⟩
    refine s_b se o fun F1 ι1 S1 v v' H1 st1 se1 r1 o1 => ?_
    obtain ⟨l1, xs1, hx1, h1, f, n, hl, r⟩ := own_lst se1 hp
    rw [hx] at hx1
    cases hx1
    split at o1
    · rename_i hlt
      refine ⟨l, xs1, v', rfl, rfl, h1, by rw [← r.length, lim_eq]; exact hlt, o1 F1 ι1 σ _ (Sub.refl _) (Pre.refl _) (se1.upd hp hx ⟨_, upd_same, ?_, r.append (RVs.one r1)⟩)⟩
      rw [List.length_append]
      exact hlt
    · exact o1.elim
  · exact o.elim
theorem RVd.snoc {K : PySem.W.Frag} {F : Hp} {ι : List Addr} {k v : PV} {kk : Key} {v' : V} (hk : keyR k kk) (rv : RV K F ι v v') : ∀ {kvs : List (PV × PV)} {ks : List (Key × V)}, RVd K F ι kvs ks → RVd K F ι (kvs ++ [(k, v)]) (ks ++ [(kk, v')])
  | [], ks, r => by unfold RVd at r; subst r; exact ⟨kk, v', [], rfl, hk, rv, rfl⟩
  | (j, p) :: kvs, ks, r => by
    unfold RVd at r
    obtain ⟨jj, w, t, e, qj, rw', rt⟩ := r
    subst e
    exact ⟨jj, w, _, rfl, qj, rw', RVd.snoc hk rv rt⟩
end
end My
namespace My
open PySem PySem.Spec PyProof.Rows L2
variable [LT]
section
variable {K : PySem.W.Frag} {F : Hp} {ι : List Addr} {H : Hp} {S : IS} {a : Addr} {u : HO} {n : Nat} {o : IO}
theorem HR.updI (h : HR K F ι H S) (hn : ι[n]? = some a) (r : IOR K F ι (upd H a u) a o) : HR K F ι (upd H a u) (S.set n o) where
  sub := fun b v e => by
    have : b ≠ a := fun z => by rw [z, h.out a (List.mem_of_getElem? hn)] at e; cases e
    rw [L2.upd_ne this]; exact h.sub b v e
  len := by rw [List.length_set]; exact h.len
  nd := h.nd
  out := h.out
  obj := fun m b io e1 e2 => by
    have hnl : n < ι.length := (List.getElem?_eq_some_iff.mp hn).1
    by_cases z : n = m
    · subst z
      rw [hn] at e1
      cases e1
      rw [List.getElem?_set_self (by rw [← h.len]; exact hnl)] at e2
      cases e2
      exact r
    · rw [List.getElem?_set_ne z] at e2
      refine (h.obj m b io e1 e2).upd_ne fun q => z ?_
      subst q
      obtain ⟨h1, h2⟩ := List.getElem?_eq_some_iff.mp hn
      obtain ⟨h3, h4⟩ := List.getElem?_eq_some_iff.mp e1
      exact (List.getElem_inj h.nd).mp (h2.trans h4.symm)
  tabs := h.tabs.upd (by
    have hnl : n < S.length := by rw [← h.len]; exact (List.getElem?_eq_some_iff.mp hn).1
    exact (h.obj n a S[n] hn (by simp [hnl])).plain)
theorem Step.updI (hn : a ∈ ι) (h : H a ≠ none) : Step F ι H F ι (upd H a u) where
  sub := Sub.refl _
  fresh := fun _ _ h => h
  pre := Pre.refl _
  new := fun _ h => .inl h
  keep := fun b v e q _ => by rw [L2.upd_ne (fun z => q (by rw [z]; exact hn))]; exact e
  there := fun b e => by
    by_cases z : b = a
    · rw [z, upd_same]; simp
    · rw [L2.upd_ne z]; exact e
theorem Pre.snoc : Pre ι (ι ++ [a]) := fun m b e => by
  rw [List.getElem?_append_left (List.getElem?_eq_some_iff.mp e).1]; exact e
theorem Step.newI (hn : H a = none) : Step F ι H F (ι ++ [a]) (upd H a u) where
  sub := Sub.refl _
  fresh := fun _ _ h => h
  pre := Pre.snoc
  new := fun b h => by
    rcases List.mem_append.mp h with h | h
    · exact .inl h
    · rw [List.mem_singleton.mp h]; exact .inr hn
  keep := fun b v e _ _ => by rw [L2.upd_ne (ne_of_none e hn)]; exact e
  there := fun b e => by
    by_cases z : b = a
    · rw [z, upd_same]; simp
    · rw [L2.upd_ne z]; exact e
theorem HR.newI (h : HR K F ι H S) (hn : H a = none) (r : IOR K F (ι ++ [a]) (upd H a u) a o) : HR K F (ι ++ [a]) (upd H a u) (S ++ [o]) where
  sub := h.sub.trans (Sub.upd_new hn)
  len := by rw [List.length_append, List.length_append, h.len]; rfl
  nd := by
    rw [List.nodup_append]
    refine ⟨h.nd, by simp, fun x hx y hy e => ?_⟩
    rw [List.mem_singleton.mp hy] at e
    subst e
    exact h.notIn hn hx
  out := fun b hb => by
    rcases List.mem_append.mp hb with z | z
    · exact h.out b z
    · rw [List.mem_singleton.mp z]; exact free_of h.sub hn
  obj := fun m b io e1 e2 => by
    by_cases hm : m < ι.length
    · rw [List.getElem?_append_left hm] at e1
      rw [List.getElem?_append_left (by rw [← h.len]; exact hm)] at e2
      exact (h.obj m b io e1 e2).mono (Sub.refl _) Pre.snoc fun v e _ => by rw [L2.upd_ne (ne_of_none e hn)]; exact e
    · have hm2 : m = ι.length := by
        have := (List.getElem?_eq_some_iff.mp e1).1
        rw [List.length_append, List.length_singleton] at this
        omega
      subst hm2
      rw [List.getElem?_append_right (Nat.le_refl _), Nat.sub_self] at e1
      rw [List.getElem?_append_right (by rw [h.len]; exact Nat.le_refl _), h.len, Nat.sub_self] at e2
      cases e1; cases e2
      exact r
  tabs := ⟨h.tabs.1.ext (Sub.upd_new hn), h.tabs.2⟩
end
section
variable {X : Cx} {N : EN} {fe : FE} {W : WX} {a b c e : Expr} {da db dc d dk d2 : DE} {pos : Pos} {st : Stmt} {sts : List Stmt} {ds dt : DS} {es : List Expr} {dA : DEs}
theorem sim_new (h : PA X es (tA X.K fe W dA)) : PE X (.List es pos) (tE X.K fe W (newE dA)) := by
  refine PE.imp (pe_lst h) fun σ H Q h => ?_
  obtain ⟨F, ι, S, ρ, sr, o⟩ := h
  refine a_b sr o fun F1 ι1 S1 v v' H1 st1 sr1 r1 o1 => ?_
  split at o1
  · rename_i hl
    refine ⟨by rw [← r1.length, lim_eq]; exact hl, fun p hp => ?_⟩
    have ir : IOR X.K F1 (ι1 ++ [p]) (upd H1 p (.lst v')) p (.lst v) := ⟨v', upd_same, hl, r1.mono (Sub.refl _) Pre.snoc⟩
    refine o1 F1 (ι1 ++ [p]) _ _ (Step.newI hp) (sr1.hr.newI hp ir) ?_
    show RV _ _ _ _ _
    unfold RV
    refine ⟨p, rfl, ?_⟩
    rw [← sr1.hr.len, List.getElem?_append_right (Nat.le_refl _), Nat.sub_self]
    rfl
  · exact o1.elim
theorem st_iset {o k : Expr} {dO : DE} {spos : Pos} (ho : PE X o (tE X.K fe W dO)) (hk : PE X k (tE X.K fe W dk)) (he : PE X e (tE X.K fe W d)) (hs : swapsWithSole [.Subscript o k spos] e pos.line X.env = pure false := by rfl) (hw : swappedStores [.Subscript o k spos] e X.env = pure none := by rfl)
    (ha : ∀ v, assign (.Subscript o k spos) X.env v = (do
      let ov ← holding [v] (eval o X.env)
      let iv ← holding [v, ov] (eval k X.env)
      standAt spos
      holding [v, ov, iv] (setItem ov iv v)
      release [v, ov, iv] []) := by intro _; rfl) :
    PS X (.Assign [.Subscript o k spos] e pos) (tS X.K N fe W (isetS dO dk d)) := by
  refine PS.imp (ps_asg he (pg_sub ho hk set_list ha) hs hw rfl) fun D σ H h => ?_
  obtain ⟨F, ι, S, ρ, se, ou⟩ := h
  refine s_b se ou fun F1 ι1 S1 v v' H1 st1 se1 r1 o1 => ?_
  refine s_b se1 o1 fun F2 ι2 S2 w w' H2 st2 se2 r2 o2 => ?_
  refine s_b se2 o2 fun F3 ι3 S3 y y' H3 st3 se3 r3 o3 => ?_
  cases w <;> first | (exact o3.elim) | skip
  cases y <;> first | (exact o3.elim) | skip
  rename_i m i
  have e3 : y' = .int i := by simpa [RV] using r3
  subst e3
  have r2 := r2.mono st3.sub st3.pre
  unfold RV at r2
  obtain ⟨p, e2, hm⟩ := r2
  subst e2
  simp only at o3
  split at o3
  · rename_i xs hS
    split at o3
    · rename_i j hj
      obtain ⟨ys, h1, hl, rr⟩ := se3.sr.hr.obj m p _ hm hS
      have r1 := (r1.mono st2.sub st2.pre).mono st3.sub st3.pre
      refine ⟨p, ys, i, j, rfl, rfl, h1, by rw [← rr.length]; exact hj, ?_⟩
      have ir : IOR X.K F3 ι3 (upd H3 p (.lst (ys.set j v'))) p (.lst (xs.set j v)) := ⟨_, upd_same, by rw [List.length_set]; exact hl, rr.set r1⟩
      exact o3 F3 ι3 σ _ (Sub.refl _) (Pre.refl _) (se3.step (Step.updI (List.mem_of_getElem? hm) (by rw [h1]; simp)) (se3.sr.hr.updI hm ir))
    · exact o3.elim
  · exact o3.elim
end
end My
namespace My
open PySem PySem.Spec PyProof.Rows L2
variable [LT]
section
variable {X : Cx} {fe : FE} {W : WX} {a b e : Expr} {da db d : DE} {pos : Pos}
mutual
theorem alk_alike : ∀ {x y : PV}, alk x y = true → PySem.W.alike (toD x) (toD y) = true
  | x, y, h => by
    cases x <;> cases y <;> first | (simp [alk] at h; done) | (simp [toD, PySem.W.alike]; done) | skip
    simp only [alk] at h
    simp only [toD, PySem.W.alike]
    exact alks_alike h
theorem alks_alike : ∀ {xs ys : List PV}, alks xs ys = true → PySem.W.alikeAll (toDs xs) (toDs ys) = true
  | [], ys, _ => by simp [toDs, PySem.W.alikeAll]
  | x :: xs, [], _ => by simp [toDs, PySem.W.alikeAll]
  | x :: xs, y :: ys, h => by
    simp only [alks, Bool.and_eq_true] at h
    simp only [toDs, PySem.W.alikeAll, Bool.and_eq_true]
    exact ⟨alk_alike h.1, alks_alike h.2⟩
end
mutual
theorem ltA_data : ∀ {n m : Nat} {x y : PV}, alk x y = true → shp n x = true → shp m y = true → PySem.W.dataLt (toD x) (toD y) = ltA x y
  | n, m, x, y, h, hx, hy => by
    cases x <;> cases y <;> first | (simp [alk] at h; done) | skip
    · simp only [toD, ltA]; exact PySem.W.dataLt_int _ _
    · simp only [toD, ltA]; rw [PySem.W.dataLt_str, ltL_eq]; rfl
    · simp only [alk] at h
      simp only [toD, ltA]
      rw [PySem.W.dataLt_tuple]
      cases n with
      | zero => simp [shp] at hx
      | succ n => cases m with
        | zero => simp [shp] at hy
        | succ m =>
          simp only [shp] at hx hy
          exact ltAs_data h hx hy
theorem ltAs_data : ∀ {n m : Nat} {xs ys : List PV}, alks xs ys = true → shps n xs = true → shps m ys = true → PyProof.Rows.lexLt PyProof.Rows.itemOrd (PySem.W.keyToksAll (toDs xs)) (PySem.W.keyToksAll (toDs ys)) = ltAs xs ys
  | n, m, [], [], _, _, _ => by simp only [toDs, ltAs]; exact PyProof.Rows.lex_irrefl _
  | n, m, [], y :: ys, _, _, _ => by
    simp only [toDs, ltAs, PySem.W.keyToksAll]
    rfl
  | n, m, x :: xs, [], _, _, _ => by
    simp only [toDs, ltAs, PySem.W.keyToksAll]
    rfl
  | n, m, x :: xs, y :: ys, h, hx, hy => by
    simp only [alks, Bool.and_eq_true] at h
    simp only [shps, Bool.and_eq_true] at hx hy
    simp only [toDs, ltAs]
    rw [PySem.W.dataLt_cons (alk_alike h.1), eqv_eqB hx.1 hy.1, ltAs_data h.2 hx.2 hy.2, ltA_data h.1 hx.1 hy.1]
end
theorem sim_dnew : PE X (.Dict [] [] pos) (tN X.K fe W (cstE (.dct []))) := by
  refine PE.imp pe_dnewK fun σ H Q h => ?_
  obtain ⟨F, ι, S, ρ, sr, o⟩ := h
  exact fun p hp => o F ι _ _ (Step.nw sr.hr hp) (sr.hr.nw hp) ⟨p, .dct [], rfl, rfl, hp, free_of sr.hr.sub hp, sr.hr.notIn hp, [], upd_same, by decide, rfl⟩
end
end My
namespace My
open PySem PySem.Spec PyProof.Rows L2
variable [LT]
section
variable {P : Program} {w : World} {K : PySem.W.Frag} {mg : Str → Option Value} {base : Heap} {T : Tab} {D : Nat} {f c : Nm} {fa : Addr} {fd : FuncData} {x qual : Str} {params : Arguments} {body : List Stmt} {scope : Scope} {N ps : List Str} {ds : DS}
abbrev Cxd (P : Program) (w : World) (K : PySem.W.Frag) (mg : Str → Option Value) (base : Heap) (N : List Str) (qual : Str) (scope : Scope) (fa : Addr) (cdv : Value) (A : Around) (outer : List Env) (s : Shared) (H : Hp) (E : XK) : Cx := cxOf (L2.CX P w) P w K mg base N qual scope fa cdv A outer s H E
abbrev WEx (E : XK) : WX := fun c d _ H => E c d H
def BodyOk (P : Program) (w : World) (K : PySem.W.Frag) (mg : Str → Option Value) (base : Heap) (T : Tab) (D : Nat) (N : List Str) (qual : Str) (scope : Scope) (fa : Addr) (body : List Stmt) (ds : DS) : Prop :=
  ∀ (cdv : Value) (A : Around) (outer : List Env) (s : Shared) (H : Hp) (E : XK) (M : EN), codeV K fa = some cdv → M.self = none → RG (lev D + 3) (A.deeper (envOfC qual scope s.heap.objs.size fa cdv)) →
    PSs (Cxd P w K mg base N qual scope fa cdv A outer s H E) body (tS K M (fenv T D) (WEx E) ds)
def BodyI (P : Program) (w : World) (K : PySem.W.Frag) (mg : Str → Option Value) (base : Heap) (T : Tab) (D : Nat) (N : List Str) (qual : Str) (scope : Scope) (fa : Addr) (body : List Stmt) (ds : DS) : Prop :=
  ∀ (cdv : Value) (A : Around) (outer : List Env) (s : Shared) (H : Hp) (E : XK) (M : EN), codeV K fa = some cdv → RG (lev D + 3) (A.deeper (envOfC qual scope s.heap.objs.size fa cdv)) →
    PSs (Cxd P w K mg base N qual scope fa cdv A outer s H E) body (tS K M (fenv T D) (WEx E) ds)
theorem lev_succ : lev (D + 1) = (lev D + 3) + 1 := by unfold lev; omega
theorem start_get {N : List Str} {vs : List V} (hl : vs.length ≤ N.length) (i : Nat) : (L2.start N vs)[i]? = if i < vs.length then vs[i]?.map some else if i < N.length then some none else none := by
  unfold L2.start
  by_cases hi : i < vs.length
  · rw [if_pos hi, List.getElem?_append_left (by rw [List.length_map]; exact hi), List.getElem?_map]
  · rw [if_neg hi, List.getElem?_append_right (by rw [List.length_map]; omega), List.getElem?_replicate, List.length_map]
    by_cases h2 : i < N.length
    · rw [if_pos h2, if_pos (by omega)]
    · rw [if_neg h2, if_neg (by omega)]
theorem start_len {N : List Str} {vs : List V} (hl : vs.length ≤ N.length) : (L2.start N vs).length = N.length := by
  unfold L2.start
  rw [List.length_append, List.length_map, List.length_replicate]
  omega
theorem pre_len {N ps : List Str} (S : FnScope N ps scope) : ps.length ≤ N.length := by
  have := congrArg List.length S.pre
  rw [List.length_take] at this
  omega
theorem fnG_of {k : Nat} {sp : Sp} (Fd : FunD K x qual params body scope [] [] fa fd) (S : FnScope N ps scope) (len : ∀ vs H Q E, sp vs H Q E → vs.length = ps.length)
    (hbody : ∀ (cdv : Value) (A : Around) (outer : List Env) (s : Shared) (H : Hp) (vs : List V) (Q : VK) (E : XK), codeV K fa = some cdv → RG k (A.deeper (envOfC qual scope s.heap.objs.size fa cdv)) → sp vs H Q E →
      ∃ t, PSs (Cxd P w K mg base N qual scope fa cdv A outer s H E) body t ∧ t { nx := fun _ H' => Q .non H', rt := Q } (L2.start N vs) H) : FnG P w K mg base (k + 1) fa fd ps sp := by
  obtain ⟨oc, od, dV, kV, doc, pm, an, cdv, ct, osl, rfl, lk, hcd, _, _⟩ := Fd.ex
  refine ⟨len, fun A outer s H args us vs Q E hr e0 hb r hsp => ?_⟩
  have inn : K.In s.heap := e0.mod.kin.keeps fun b o e => (e0.bs b o e).1
  have nol : s.heap.NoLimit := e0.mod.nolimit.keeps fun b o e => (e0.bs b o e).1
  refine codeAny_call_function hr.room.depth (inn _ _ lk) rfl S.co S.gen rfl (PySem.W.codeRec_of inn hcd) (hb _ _ _ _ ?_)
  refine wpAny_newFunctionEnv_cells S.kind (fun y hy => ?_) fun env he s1 z => ?_
  · rcases S.par y.1 (List.of_mem_zip (show (y.1, y.2) ∈ ps.zip us from hy)).1 with q | q
    · exact .inl q
    · exact .inr ⟨q, PySem.W.cellsFrom_some _ _ _ (.inl q)⟩
  · subst he
    refine ⟨nol.keeps z.toInCall.keep, codeAny_func ?_⟩
    obtain ⟨t, ht, hq⟩ := hbody cdv A outer s H vs Q E (by unfold codeV; rw [lk]) (hr.deeper _) hsp
    have I : Inv (Cxd P w K mg base N qual scope fa cdv A outer s H E) [] (L2.start N vs) H s1 := inv_start S hr.room.hd e0 (len _ _ _ _ hsp) r z
    refine wpAny_mono (ht.run [] s1 (L2.start N vs) H _ I hq) (fun fl s' hs => ?_) fun e s' hs => hs
    cases fl with
    | ret u =>
      obtain ⟨v, σ', H', Z, rv, q⟩ := hs
      exact ⟨v, H', Z.os, Z.bare, Z.base, Z.hok, rv, q⟩
    | next =>
      obtain ⟨σ', H', Z, q⟩ := hs
      exact ⟨V.non, H', Z.os, Z.bare, Z.base, Z.hok, rfl, q⟩
    | brk =>
      obtain ⟨_, _, _, q⟩ := hs
      exact False.elim q
    | cont =>
      obtain ⟨_, _, _, q⟩ := hs
      exact False.elim q
theorem def_ok (Fd : FunD K x qual params body scope [] [] fa fd) (S : FnScope N ps scope) (hT : T f = some ⟨ps.length, N.length, none, ds⟩) (hb : BodyOk P w K mg base T D N qual scope fa body ds) :
    FnG P w K mg base (lev (D + 1)) fa fd ps (spI K T (D + 1) f ps.length) := by
  rw [lev_succ]
  refine fnG_of Fd S (fun vs H Q E h => h.1) fun cdv A outer s H vs Q E hcv hr h => ?_
  obtain ⟨hl, F, ι, Si, args, hh, ra, o⟩ := h
  refine ⟨_, hb cdv A outer s H E ⟨F, ι, H, none⟩ hcv rfl hr, F, ι, Si, startR N.length args, ?_, ?_⟩
  · have hp := pre_len S
    have hal := ra.length
    refine ⟨⟨hh, ?_, fun i sl e => ?_, fun i j o u a _ h1 => ?_⟩, Step.refl, fun i o a h1 => ?_, (fun x e => nomatch e)⟩
    · rw [start_len (by omega)]
      unfold startR
      rw [List.length_append, List.length_map, List.length_replicate]
      omega
    · have hi : i < N.length := by
        have := (List.getElem?_eq_some_iff.mp e).1
        unfold startR at this
        rw [List.length_append, List.length_map, List.length_replicate] at this
        omega
      rcases ra.at_ _ i sl e with ⟨p, e1, v, h1, h2⟩ | e1
      · subst e1
        have hv : i < vs.length := (List.getElem?_eq_some_iff.mp h1).1
        refine ⟨some v, ?_, v, rfl, h2⟩
        rw [start_get (by omega), if_pos hv, h1]
        rfl
      · subst e1
        cases e2 : (L2.start N vs)[i]? with
        | none =>
          rw [List.getElem?_eq_none_iff, start_len (by omega)] at e2
          omega
        | some y => exact ⟨y, rfl, trivial⟩
    · rcases ra.at_ _ i _ h1 with ⟨p, e1, _⟩ | e1 <;> cases e1
    · rcases ra.at_ _ i _ h1 with ⟨p, e1, _⟩ | e1 <;> cases e1
  · have e1 : fenv T (D + 1) f args Si = runF (fenv T D) ⟨ps.length, N.length, none, ds⟩ args Si := by
      show (match T f with | some fn => runF (fenv T D) fn args Si | none => .no) = _
      rw [hT]
    rw [e1] at o
    unfold runF at o
    rw [if_pos (by rw [ra.length, hl])] at o
    simp only at o
    revert o
    generalize ds (fenv T D) (startR N.length args) Si = rb
    intro o
    cases rb with
    | no => exact o
    | ex y ρ' S' => exact fun F' ι' σ' cls d H' _ _ se rx => o F' ι' cls d H' se.st se.sr.hr rx
    | fl fl S' =>
      cases fl with
      | nx ρ' => exact fun F' ι' σ' H' _ _ se => o F' ι' .non H' se.st se.sr.hr RV_non
      | rt v => exact fun F' ι' v' H' _ _ st hr' rv => o F' ι' v' H' st hr' rv
      | bk ρ' => exact o.elim
      | ct ρ' => exact o.elim
theorem init_ok {n : Nat} (Fd : FunD K x qual params body scope [] [] fa fd) (S : FnScope N ps scope) (hn : ps.length = n + 1) (hT : T (c ++ [40, 41]) = some ⟨n, N.length, some c, ds⟩) (hb : BodyI P w K mg base T D N qual scope fa body ds) :
    FnG P w K mg base (lev (D + 1)) fa fd ps (spM K T (D + 1) c n) := by
  rw [lev_succ]
  refine fnG_of Fd S (fun vs H Q E h => h.1.trans hn.symm) fun cdv A outer s H vs Q E hcv hr h => ?_
  obtain ⟨hl, F, ι, Si, args, z, dx, us, e0, hz, fz, nz, hh, ra, o⟩ := h
  subst e0
  refine ⟨_, hb cdv A outer s H E ⟨F, ι, mask z H, some z⟩ hcv hr, F, ι, Si, .own (.ins c []) :: startR (N.length - 1) args, ?_, ?_⟩
  · have hp := pre_len S
    have hal := ra.length
    have hul : us.length = n := by simpa using hl
    have hlen : (V.ref z :: us).length ≤ N.length := by rw [List.length_cons]; omega
    have hone : ∀ (i : Nat) (o : IO), (Slot.own (.ins c []) :: startR (N.length - 1) args)[i]? = some (.own o) → i = 0 := by
      intro i o e
      cases i with
      | zero => rfl
      | succ i =>
        rw [List.getElem?_cons_succ] at e
        rcases ra.at_ _ i _ e with ⟨p, e1, _⟩ | e1 <;> cases e1
    have h00 : (L2.start N (V.ref z :: us))[0]? = some (some (.ref z)) := by
      rw [start_get hlen]
      rfl
    refine ⟨⟨hh, ?_, fun i sl e => ?_, fun i j o u a hij h1 h2 => ?_⟩, ⟨Sub.refl _, fun _ _ h => h, Pre.refl _, fun _ h => .inl h, fun b u e _ _ => ?_, fun b e => ?_⟩, fun i o a h1 h2 => ?_, fun y e => ?_⟩
    · rw [start_len hlen, List.length_cons]
      unfold startR
      rw [List.length_append, List.length_map, List.length_replicate]
      omega
    · cases i with
      | zero =>
        cases e
        exact ⟨_, h00, z, rfl, fz, nz, dx, [], hz, rfl⟩
      | succ i =>
        rw [List.getElem?_cons_succ] at e
        have hi : i + 1 < N.length := by
          have := (List.getElem?_eq_some_iff.mp e).1
          unfold startR at this
          rw [List.length_append, List.length_map, List.length_replicate] at this
          omega
        rcases ra.at_ _ i sl e with ⟨p, e1, v, h1, h2⟩ | e1
        · subst e1
          have hv : i < us.length := (List.getElem?_eq_some_iff.mp h1).1
          refine ⟨some v, ?_, v, rfl, h2⟩
          rw [start_get hlen, if_pos (by rw [List.length_cons]; omega), List.getElem?_cons_succ, h1]
          rfl
        · subst e1
          cases e2 : (L2.start N (V.ref z :: us))[i + 1]? with
          | none =>
            rw [List.getElem?_eq_none_iff, start_len hlen] at e2
            omega
          | some y => exact ⟨y, rfl, trivial⟩
    · exact absurd ((hone i o h1).trans (hone j u h2).symm) hij
    · have e : mask z H b = some u := e
      by_cases hb : b = z
      · subst hb; rw [mask_self] at e; cases e
      · rw [mask_ne hb] at e; exact e
    · have e : mask z H b ≠ none := e
      by_cases hb : b = z
      · subst hb; exact absurd mask_self e
      · rw [mask_ne hb] at e; exact e
    · have := hone i o h1
      subst this
      rw [h00] at h2
      cases h2
      exact mask_self
    · cases e
      exact h00
  · have e1 : fenv T (D + 1) (c ++ [40, 41]) args Si = runF (fenv T D) ⟨n, N.length, some c, ds⟩ args Si := by
      show (match T (c ++ [40, 41]) with | some fn => runF (fenv T D) fn args Si | none => .no) = _
      rw [hT]
    rw [e1] at o
    unfold runF at o
    rw [if_pos (by rw [ra.length]; simpa using hl)] at o
    simp only at o
    revert o
    generalize ds (fenv T D) (Slot.own (.ins c []) :: startR (N.length - 1) args) Si = rb
    intro o
    cases rb with
    | no => exact o
    | ex y ρ' S' => exact fun F' ι' σ' cls d H' _ _ se rx => o F' ι' cls d H' se.st se.sr.hr rx
    | fl fl S' =>
      cases fl with
      | nx ρ' =>
        intro F' ι' σ' H' _ _ se
        cases h0 : (ρ'[0]? : Option Slot) with
        | none => simp only [h0] at o
        | some sl =>
          cases sl with
          | no => simp only [h0] at o
          | val p => simp only [h0] at o
          | exc x => simp only [h0] at o
          | lam => simp only [h0] at o
          | own io =>
            simp only [h0] at o
            obtain ⟨y, hy, a, e2, f1, n1, r1⟩ := se.sr.at_ 0 _ h0
            have := se.slf z rfl
            rw [this] at hy
            cases hy
            cases e2
            exact o F' ι' H' io rfl se.st se.sr.hr f1 n1 r1
      | rt v => exact o.elim
      | bk ρ' => exact o.elim
      | ct ρ' => exact o.elim
theorem def_0 (n : Nat) (hn : n = ps.length) : FnG P w K mg base (lev 0) fa fd ps (spI K T 0 f n) :=
  ⟨fun vs H Q E h => h.1.trans hn, fun A outer s H args us vs Q E _ _ _ _ h => by
    obtain ⟨_, F, ι, Si, ar, _, _, o⟩ := h
    exact (show False from o).elim⟩
theorem init_0 (n : Nat) (hn : n + 1 = ps.length) : FnG P w K mg base (lev 0) fa fd ps (spM K T 0 c n) :=
  ⟨fun vs H Q E h => h.1.trans hn, fun A outer s H args us vs Q E _ _ _ _ h => by
    obtain ⟨_, F, ι, Si, ar, z, dx, us, _, _, _, _, _, _, o⟩ := h
    exact (show False from o).elim⟩
end
end My
namespace My
open PySem PySem.Spec PyProof.Rows L2
variable [LT]
abbrev FunM (K : PySem.W.Frag) (d : DefM) (fd : FuncData) : Prop := FunD K d.name d.qual (defArgs d.st) (defBody d.st) (defScope d.st) [] [] (d.at_.ad K) fd
theorem DefM.funD {K : PySem.W.Frag} {d : DefM} (e : fnWA K (d.at_.ad K) = d.val) (c : d.ok K = true) : ∃ fd, FunM K d fd := by
  obtain ⟨kp, c2⟩ := He.ba c
  unfold fnWA at e
  cases q : K.lookup (d.at_.ad K) with
  | none =>
    rw [q] at c2
    cases c2
  | some o =>
    obtain ⟨oc, od, dt, osl⟩ := o
    rw [q] at c2 e
    cases dt with
    | func fd =>
      obtain ⟨n1, n2, n3, n4, n5, n6, n7, n8, n9, n10, n11, n12, n13, n14, n15⟩ := fd
      have e2 : (some (n1, n2, n3, n4, n5, n6, n7, n15) : He.FnW) = some (d.name, d.qual, defArgs d.st, .stmts (defBody d.st), defScope d.st, mainGlobals, [], builtinsNs) := e
      simp only [Option.some.injEq, Prod.mk.injEq] at e2
      obtain ⟨h1, h2, h3, h4, h5, h6, h7, h8⟩ := e2
      subst h1 h2 h3 h4 h5 h6 h7 h8
      have c3 : (PySem.W.codeIn K n13 d.qual && (He.dflB K n8 [] && He.kwdB K n9 [])) = true := c2
      obtain ⟨k1, k2⟩ := He.ba c3
      obtain ⟨k3, k4⟩ := He.ba k2
      exact ⟨_, ⟨oc, od, n8, n9, n10, n11, n12, n13, n14, osl, rfl, q, k1, He.dflB_ok k3, He.kwdB_ok k4⟩, kp⟩
    | _ => cases c2
section
variable {fb : List Fb} {fn : List DefM} {K : PySem.W.Frag}
theorem SaysM.fact (c : SaysM fb fn K) (i : Nat) {f : Fb} (h : fb[i]? = some f := by rfl) : f.ok K = true := by
  have c1 := (He.ba (show ((fb.all fun f => f.ok K) && fn.all fun d => d.ok K) = true from congrArg (fun z : He.AlD => z.1) c)).1
  exact List.all_eq_true.mp c1 f (List.mem_of_getElem? h)
theorem SaysM.def_ (c : SaysM fb fn K) (i : Nat) {d : DefM} (h : fn[i]? = some d := by rfl) : ∃ fd, FunM K d fd := by
  have c2 := (He.ba (show ((fb.all fun f => f.ok K) && fn.all fun d => d.ok K) = true from congrArg (fun z : He.AlD => z.1) c)).2
  have e : fn.map (fun d => fnWA K (d.at_.ad K)) = fn.map DefM.val := congrArg (fun z : He.AlD => z.2) c
  have hm := List.mem_of_getElem? h
  have e2 : fnWA K (d.at_.ad K) = d.val := by
    have := congrArg (fun l => l[i]?) e
    simp only [List.getElem?_map, h, Option.map_some, Option.some.injEq] at this
    exact this
  exact DefM.funD e2 (List.all_eq_true.mp c2 d hm)
end
section
variable (P : Program) (w : World) (K : PySem.W.Frag) (mg : Str → Option Value) (base : Heap) (T : Tab) (D : Nat)
structure Cal (d : DefM) (f : Nm) (ps : List Str) : Prop where
  ex : ∃ fd, FunM K d fd ∧ Binds K fd ps [] ∧ FnG P w K mg base (lev D) (d.at_.ad K) fd ps (spI K T D f ps.length)
structure CalI (d : DefM) (c : Nm) (ps : List Str) (n : Nat) : Prop where
  ex : ∃ fd, FunM K d fd ∧ Binds K fd ps [] ∧ FnG P w K mg base (lev D) (d.at_.ad K) fd ps (spM K T D c n)
end
section
variable {X : Cx} {T : Tab} {D : Nat} {W : WX} {e o : Expr} {es : List Expr} {ds : DEs} {d : DE} {x : Str} {p pos apos : Pos} {f c : Nm} {ps : List Str} {kws : List Keyword} {ks : List Str} {q : List Nat} {y qual : Str} {st : Stmt}
theorem k_call (C : Cal X.prog X.w X.K X.mg X.base T D ⟨.glo x, y, qual, st⟩ f ps) (hm : X.mg x = some (.ref (He.ga X.K x))) (hr : RG (lev D) X.A) (tk : Takes X W) (hg : Gl X x) (ha : PA X (e :: es) (tA X.K (fenv T D) W ds)) (hln : ∀ fe ρ S vs S', ds fe ρ S = .ok vs S' → vs.length = (e :: es).length) (hn : (e :: es).length = ps.length := by rfl)
    (hdb : (x == ("__debug__" : Str)) = false := by decide) (he : isSt e = false := by rfl) (hpl : (backTo pos (starEach es X.env)).any (·.1) = false := by rfl) : PE X (.Call (.Name x p) (e :: es) [] pos) (tE X.K (fenv T D) W (callE f ds)) := by
  obtain ⟨fd, F, B, C⟩ := C.ex
  exact sim_call C hr hg hm F.kp B tk ha hn hln hdb he hpl
def KwP (d : DefM) (ps ks : List Str) (q : List Nat) (n0 : Nat) : Prop := ∀ (kV doc pm : Value) (an : Option Addr) (cdv ct : Value) (first ws : List Value), first.length = n0 → ws.length = ks.length →
  bindArgs (PySem.W.fnOf d.name d.qual (defArgs d.st) (defBody d.st) (defScope d.st) .none kV doc pm an cdv ct) ⟨first, ks.zip ws⟩ = pure (ps.zip (first ++ permU q ws .none))
theorem KwP.kb {K : PySem.W.Frag} {d : DefM} {fd : FuncData} {n0 : Nat} (h : KwP d ps ks q n0) (F : FunM K d fd) : KwB K fd ps ks q n0 := by
  obtain ⟨oc, od, dV, kV, doc, pm, an, cdv, ct, osl, rfl, lk, hcd, hD, hK⟩ := F.ex
  rcases hD with ⟨_, rfl⟩ | ⟨e, _⟩
  · exact fun s first ws _ h1 h2 => .of_eq (h kV doc pm an cdv ct first ws h1 h2)
  · exact absurd rfl e
end
section
variable {P : Program} {w : World} {K : PySem.W.Frag} {mg : Str → Option Value} {base : Heap} {T : Tab} {D : Nat} {d : DefM} {f c : Nm} {N ps : List Str} {n : Nat} {ds : DS} {fd : FuncData}
theorem Cal.zero (F : ∃ fd, FunM K d fd ∧ Binds K fd ps []) : Cal P w K mg base T 0 d f ps := by
  obtain ⟨fd, F, B⟩ := F
  exact ⟨fd, F, B, def_0 _ rfl⟩
theorem Cal.succ (F : ∃ fd, FunM K d fd ∧ Binds K fd ps []) (S : FnScope N ps (defScope d.st)) (hT : T f = some ⟨ps.length, N.length, none, ds⟩) (hb : BodyOk P w K mg base T D N d.qual (defScope d.st) (d.at_.ad K) (defBody d.st) ds) : Cal P w K mg base T (D + 1) d f ps := by
  obtain ⟨fd, F, B⟩ := F
  exact ⟨fd, F, B, def_ok F S hT hb⟩
theorem CalI.zero (F : ∃ fd, FunM K d fd ∧ Binds K fd ps []) (hn : n + 1 = ps.length) : CalI P w K mg base T 0 d c ps n := by
  obtain ⟨fd, F, B⟩ := F
  exact ⟨fd, F, B, init_0 _ hn⟩
theorem CalI.succ (F : ∃ fd, FunM K d fd ∧ Binds K fd ps []) (S : FnScope N ps (defScope d.st)) (hn : ps.length = n + 1) (hT : T (c ++ [40, 41]) = some ⟨n, N.length, some c, ds⟩) (hb : BodyI P w K mg base T D N d.qual (defScope d.st) (d.at_.ad K) (defBody d.st) ds) : CalI P w K mg base T (D + 1) d c ps n := by
  obtain ⟨fd, F, B⟩ := F
  exact ⟨fd, F, B, init_ok F S hn hT hb⟩
theorem binds_of {k : Nat} (F : ∃ fd, FunM K d fd) (h : ∀ (kV doc pm : Value) (an : Option Addr) (cdv ct : Value) (us : List Value), us.length = ps.length → bindArgs (PySem.W.fnOf d.name d.qual (defArgs d.st) (defBody d.st) (defScope d.st) .none kV doc pm an cdv ct) ⟨us, []⟩ = pure (ps.zip us)) : ∃ fd, FunM K d fd ∧ Binds K fd ps [] := by
  obtain ⟨fd, F⟩ := F
  exact ⟨fd, F, FunD.bindsN F h⟩
end
end My
namespace My
open PySem PySem.Spec PyProof.Rows L2
variable [LT]
theorem bt_len : bootBuiltins "len" = some (.builtin "len") := by decide +kernel
theorem bt_abs : bootBuiltins "abs" = some (.builtin "abs") := by decide +kernel
theorem bt_max : bootBuiltins "max" = some (.builtin "max") := by decide +kernel
theorem bt_min : bootBuiltins "min" = some (.builtin "min") := by decide +kernel
theorem bt_all : bootBuiltins "all" = some (.builtin "all") := by decide +kernel
theorem bt_int : bootBuiltins "int" = some (.type "int") := by decide +kernel
def blkB (N : List Str) (sc scope : Scope) (own : List (Str × Nat)) : Bool :=
  decide (scope.kind = .function) && (scope.names.all (fun y => decide (scope.names.lookup y.1 = some y.2)) && (own.all (fun p => decide (N[p.2]? = some p.1)) &&
  (scope.names.all (fun y => !decide (y.2 = .free) || (decide (sc.names.lookup y.1 = some .cell) || decide (sc.names.lookup y.1 = some .free))) &&
  scope.names.all (fun y => !(decide (y.2 = .local) || decide (y.2 = .cell)) || (decide (y.1 ∈ own.map (·.1)) || !decide (y.1 ∈ N))))))
theorem blk_ok {N : List Str} {sc scope : Scope} {own : List (Str × Nat)} (h : blkB N sc scope own = true) : BlkOk N sc scope own := by
  unfold blkB at h
  simp only [Bool.and_eq_true, List.all_eq_true, decide_eq_true_eq, Bool.or_eq_true, Bool.not_eq_true', decide_eq_false_iff_not] at h
  obtain ⟨h1, h2, h3, h4, h5⟩ := h
  refine ⟨h1, h2, h3, fun y hy e => (h4 y hy).resolve_left fun z => z e, fun y hy e => ?_⟩
  rcases h5 y hy with z | z
  · rw [Bool.or_eq_false_iff, decide_eq_false_iff_not, decide_eq_false_iff_not] at z
    rcases e with e | e
    · exact absurd e z.1
    · exact absurd e z.2
  · exact z
section
variable {X : Cx} {fe : FE} {W : WX} {a b c e : Expr} {da db dc d : DE} {pos p : Pos} {x : Str}
theorem ko (i : Nat) (hN : X.N[i]? = some x := by rfl) (hv : Vis X.env.scope x := by first | exact .inl rfl | exact .inr (.inl rfl) | exact .inr (.inr rfl)) (hd : (x == ("__debug__" : Str)) = false := by decide) (hcd : (x == ("__classdict__" : Str)) = false := by decide) : PE X (.Name x pos) (tO X.K fe W (ovarE i)) := sim_ovar hN hv hd hcd
theorem k_gint {i : Int} (h : ∃ t, X.mg x = some (.int i t)) (hg : Gl X x := by rfl) (hd : (x == ("__debug__" : Str)) = false := by decide) : PE X (.Name x pos) (tE X.K fe W (cstE (.int i))) := by
  obtain ⟨t, h⟩ := h
  exact sim_glob hg h (v' := .int i) ⟨t, rfl⟩ (fun _ _ => RV_int i) hd
theorem k_len (hm : X.mg "len" = none) (ha : PE X a (tO X.K fe W da)) (hs : isSt a = false := by rfl) (hg : Gl X "len" := by rfl) : PE X (.Call (.Name "len" p) [a] [] pos) (tE X.K fe W (un pyLen da)) := sim_b1 c_len hg hm bt_len ha hs
theorem k_abs (hm : X.mg "abs" = none) (ha : PE X a (tO X.K fe W da)) (hs : isSt a = false := by rfl) (hg : Gl X "abs" := by rfl) : PE X (.Call (.Name "abs" p) [a] [] pos) (tE X.K fe W (un pyAbs da)) := sim_b1 c_abs hg hm bt_abs ha hs
theorem k_all (hc : X.calm = true) (hm : X.mg "all" = none) (ha : PE X a (tO X.K fe W da)) (hs : isSt a = false := by rfl) (hg : Gl X "all" := by rfl) : PE X (.Call (.Name "all" p) [a] [] pos) (tE X.K fe W (un pyAll da)) := sim_b1 (c_all hc) hg hm bt_all ha hs
theorem k_max2 (hc : X.calm = true) (hm : X.mg "max" = none) (ha : PE X a (tO X.K fe W da)) (hb : PE X b (tO X.K fe W db)) (hs : isSt a = false := by rfl) (hs2 : isSt b = false := by rfl) (hg : Gl X "max" := by rfl) : PE X (.Call (.Name "max" p) [a, b] [] pos) (tE X.K fe W (bin pyMax2 da db)) := sim_b2 (c_max2 hc) hg hm bt_max ha hb hs hs2
theorem k_min2 (hc : X.calm = true) (hm : X.mg "min" = none) (ha : PE X a (tO X.K fe W da)) (hb : PE X b (tO X.K fe W db)) (hs : isSt a = false := by rfl) (hs2 : isSt b = false := by rfl) (hg : Gl X "min" := by rfl) : PE X (.Call (.Name "min" p) [a, b] [] pos) (tE X.K fe W (bin pyMin2 da db)) := sim_b2 (c_min2 hc) hg hm bt_min ha hb hs hs2
theorem k_int (hm : X.mg "int" = none) (ha : PE X a (tO X.K fe W da)) (hs : isSt a = false := by rfl) (hg : Gl X "int" := by rfl) : PE X (.Call (.Name "int" p) [a] [] pos) (tE X.K fe W (un pyInt da)) := sim_t1 c_int hg hm bt_int ha hs
end
end My
namespace My
section
variable {c : Nm} {d : DE} {a b ds : DS} {T : Tab} {n m : Nat}
end
end My
namespace My
open PySem PySem.Spec PyProof.Rows L2
variable [LT]
section
variable {P : Program} {w : World} {K : PySem.W.Frag} {mg : Str → Option Value} {base : Heap} {T : Tab} {D : Nat} {d : DefM} {f : Nm} {x : Str} {fd fd' : FuncData}
def clearT (H : Hp) : Hp := fun b => match H b with
  | some (.tbl _) => none
  | u => u
def EndOk (P : Program) (w : World) (K : PySem.W.Frag) (mg : Str → Option Value) (base : Heap) (fa : Addr) : Prop :=
  ∀ (s : Shared) (H : Hp) (a : Addr) (ns : List Int), ns.length ≤ 63 → SqL K H a (ns.map V.int) → LamX.Tabs LT.T H → Env0 P w K mg base callerA [] s H →
    codeAny (model P w) callerA (.call (.ref fa) ⟨[.ref a], []⟩) (fun r s' => match r with | .ok (.ret u) => CE [] P w H s (fun v _ => v = .bl true) u s' | _ => False) s
theorem law_fn (C : Cal P w K mg base T D d f [x]) (hr : Room (lev D) callerA) (hb : ∀ fd, FunM K d fd → ∀ (s : Shared) (v : Value), BindsTo s fd ⟨[v], []⟩ [(x, v)]) (hp : ∀ ns : List Int, ns.length ≤ 63 → ∃ S', fenv T D f [.scr ns] [] = .ok (.bl true) S') : EndOk P w K mg base (d.at_.ad K) := by
  obtain ⟨fd, F, _, C⟩ := C.ex
  intro s H a ns hl hS hTab e0
  have sp : spI K T D f 1 [.ref a] H (fun v _ => v = .bl true) (fun _ _ _ => False) := by
    have cl : ∀ b u, (∀ ps, u ≠ .tbl ps) → H b = some u → clearT H b = some u := fun b u nt e => by
      unfold clearT
      rw [e]
      cases u <;> first | rfl | exact absurd rfl (nt _)
    refine ⟨rfl, clearT H, [], [], [.scr ns], ⟨fun b u e => ?_, rfl, List.nodup_nil, (fun a h => by simp at h), (fun n a o h => by simp at h), hTab, fun p hp => ?_⟩, ?_, ?_⟩
    · unfold clearT at e
      split at e
      · cases e
      · exact e
    · obtain ⟨ps, e, _⟩ := hTab p hp
      unfold clearT
      rw [e]
    · refine ⟨.ref a, [], rfl, ?_, rfl⟩
      unfold RV
      refine ⟨a, rfl, hS.imp (fun r => ?_) id, by simp only [lim]; omega⟩
      rcases r with r | ⟨u, r⟩
      · exact .inl (cl _ _ (fun _ z => by cases z) r)
      · exact .inr ⟨u, cl _ _ (fun _ z => by cases z) r⟩
    · obtain ⟨S', e⟩ := hp ns hl
      rw [e]
      intro F' ι' v' H' _ _ r
      show v' = .bl true
      simpa [RV] using r
  refine codeAny_mono (C.run callerA [] s H ⟨[.ref a], []⟩ [.ref a] [.ref a] _ _ ⟨hr, rfl⟩ e0 (hb fd F s (.ref a)) (.cons rfl .nil) sp) fun r s' hq => ?_
  cases r with
  | ok fl => cases fl <;> exact hq
  | error e =>
    obtain ⟨_, _, _, _, _, _, _, _, _, _, _, _, z⟩ := hq
    exact z.elim
end
end My
namespace My
open PySem PySem.Spec PyProof.Rows L2
variable [LT]
def pyRepr (x : PV) : Option PV := if ((isSeq x || isAt x) && shp 40 x && (toD x).showable && decide ((shw x).length ≤ sizeLine)) = true then some (.rep x) else none
mutual
theorem noDict : ∀ x : PV, (toD x).hasDict = false
  | .lst xs => by simp only [toD, PyData.hasDict]; exact noDicts xs
  | .tup xs => by simp only [toD, PyData.hasDict]; exact noDicts xs
  | .non => by simp [toD, PyData.hasDict]
  | .bl _ => by simp [toD, PyData.hasDict]
  | .int _ => by simp [toD, PyData.hasDict]
  | .str _ => by simp [toD, PyData.hasDict]
  | .ty _ => by simp [toD, PyData.hasDict]
  | .dct _ => by simp [toD, PyData.hasDict]
  | .ins _ _ => by simp [toD, PyData.hasDict]
  | .obj _ => by simp [toD, PyData.hasDict]
  | .cls _ => by simp [toD, PyData.hasDict]
  | .scr _ => by simp [toD, PyData.hasDict]
  | .rep _ => by simp [toD, PyData.hasDict]
  | .exn _ _ => by simp [toD, PyData.hasDict]
theorem noDicts : ∀ xs : List PV, PyData.hasDictAll (toDs xs) = false
  | [] => by simp [toDs, PyData.hasDictAll]
  | x :: xs => by simp only [toDs, PyData.hasDictAll, noDict x, noDicts xs, Bool.or_self]
end
mutual
theorem dep_of : ∀ {n : Nat} {x : PV}, shp n x = true → (toD x).depth ≤ n
  | n, x, h => by
    cases x <;> first | (cases n <;> simp [shp] at h; done) | (simp [toD, PyData.depth]; done) | skip
    · cases n with
      | zero => simp [shp] at h
      | succ n => simp only [shp] at h; simp only [toD, PyData.depth]; have := deps_of h; omega
    · cases n with
      | zero => simp [shp] at h
      | succ n => simp only [shp] at h; simp only [toD, PyData.depth]; have := deps_of h; omega
theorem deps_of : ∀ {n : Nat} {xs : List PV}, shps n xs = true → PyData.depthAll (toDs xs) ≤ n
  | n, [], _ => by simp [toDs, PyData.depthAll]
  | n, x :: xs, h => by
    simp only [shps, Bool.and_eq_true] at h
    have h1 := dep_of h.1
    have h2 := deps_of h.2
    simp only [toDs, PyData.depthAll]
    omega
end
section
variable {X : Cx} {fe : FE} {W : WX} {a b : Expr} {da db : DE} {pos p : Pos}
theorem c_repr (hg : X.A.guards = some []) (hu : X.A.units + 64 < cLine) : CallR X (.builtin "repr") (rC1 X.K pyRepr) := by
  intro pins s σ H xs us Q I r h
  obtain ⟨x', rfl, F, ι, S, px, pv, hr, qx, e, f⟩ := h
  unfold pyRepr at e
  split at e
  · rename_i c
    cases e
    simp only [Bool.and_eq_true, decide_eq_true_eq] at c
    obtain ⟨⟨⟨c1, c2⟩, c3⟩, c4⟩ := c
    rw [Bool.or_eq_true] at c1
    rcases c1 with c1 | c1
    case inr =>
      obtain ⟨u, rfl, ru⟩ := vals1 r
      cases px <;> first | (cases c1; done) | skip
      · have e := rW_non qx
        subst e
        cases ru
        exact PySem.P.repr_of_none ⟨.str (toD .non).shown, H, I.tok _, ⟨s.toks, by simp [toD, PyData.shown]⟩, f.same hr (by unfold RV; rfl)⟩
      · rename_i bb
        have e := rW_bl qx
        subst e
        cases ru
        exact PySem.P.repr_of_bool ⟨.str (toD (.bl bb)).shown, H, I.tok _, ⟨s.toks, by simp [toD, PyData.shown]⟩, f.same hr (by unfold RV; rfl)⟩
      · rename_i ii
        have e := rW_int qx
        subst e
        obtain ⟨t, rfl⟩ := ru
        simp only [toD, PyData.showable, decide_eq_true_eq] at c3
        exact PySem.P.repr_of_int c3 ⟨.str (toD (.int ii)).shown, H, I.tok _, ⟨s.toks, by simp [toD, PyData.shown]⟩, f.same hr (by unfold RV; rfl)⟩
      · rename_i ss
        have e := (rW_str qx).1
        subst e
        obtain ⟨t, rfl⟩ := ru
        refine PySem.P.repr_of_str ⟨.str (toD (.str ss)).shown, H, I.tok _, ⟨s.toks, by simp [toD, PyData.shown]⟩, f.same hr (by unfold RV; rfl)⟩ ?_
        simpa [shw, toD, PyData.shown] using c4
    obtain ⟨d1, h1⟩ := shaped_of hr.sub c2 (by decide) qx
    obtain ⟨u, rfl, ru⟩ := vals1 r
    obtain ⟨as, rd⟩ := Dp.reads I _ _ _ d1 ru
    have hdep := dep_of c2
    have href : ∃ q, u = .ref q := by
      cases px <;> first | (cases c1; done) | skip
      · obtain ⟨q, _, e1, _⟩ := rW_tup hr.sub qx
        subst e1
        exact ⟨q, ru⟩
      · obtain ⟨q, _, e1, _⟩ := rW_lst hr.sub qx
        subst e1
        exact ⟨q, ru⟩
    obtain ⟨q, rfl⟩ := href
    refine repr_of_reads' (h₀ := s.heap) rd c3 (fun z => absurd z (by rw [noDict px]; simp)) hg (by omega) (fun _ _ e => e) (fun h' tk1 tk keep => ?_) c4
    have I2 : Inv X pins σ H { s with heap := h', toks := tk } := I.kept (t' := tk) keep
    exact ⟨.str (toD px).shown, H, I2, ⟨_, rfl⟩, f.same hr (by unfold RV; rfl)⟩
  · cases e
theorem txt_of {K : PySem.W.Frag} {F : Hp} {ι : List Addr} {H : Hp} {x : PV} {v : V} {s : Str} (h : txtOf x = some s) (r : rW K F ι H x v) : v = .str s := by
  cases x <;> first | (cases h; done) | skip
  · cases h; exact (rW_str r).1
  · cases h
    rcases r with r | ⟨_, _, _, i, _⟩
    · unfold RV at r; exact r
    · cases i
theorem s_neR : OpR X (compareOp .NotEq) (rP X.K pyNeR) := by
  intro pins s σ H x y v u Q I rx ry h
  obtain ⟨F, ι, S, px, py, pv, hr, qx, qy, e, f⟩ := h
  unfold pyNeR at e
  split at e
  · rename_i s1 s2 h1 h2
    cases e
    have e1 := txt_of h1 qx
    have e2 := txt_of h2 qy
    subst e1 e2
    refine op_ne pins s σ H _ _ v u Q I rx ry ⟨rfl, f.same hr ?_⟩
    have : decide (V.str s1 = V.str s2) = decide (s1 = s2) := by rw [Bool.eq_iff_iff]; simp
    rw [this]
    exact RV_bl _
  · cases e
end
end My
namespace My
open PySem PySem.Spec PyProof.Rows L2
variable [LT]
section
variable {X : Cx} {fe : FE} {W : WX} {a : Expr} {da : DE} {pos p q : Pos}
end
end My
namespace My
open PySem PySem.Spec PyProof.Rows L2
variable [LT]
section
variable {X : Cx} {N : EN} {fe : FE} {W : WX} {e : Expr} {d : DE} {pos : Pos} {i : Nat}
end
end My
namespace My
open PySem PySem.Spec PyProof.Rows L2
variable [LT]
section
variable {prog : Program} {w : World} {A : Around} {R : Result → Shared → Prop} {J : Addr} {fp wr : List Addr} {G : Array GenState → Array GenState → Prop} {n : Nat} {Pw : Nat → Value → Prop} {St : Nat → Shared → Prop}
end
section
variable {prog : Program} {w : World} {A : Around} {E : Value → Shared → Prop} {s : Shared}
end
section
variable {X : Cx} {fe : FE} {W : WX} {a : Expr} {da : DE} {pos p p2 q : Pos}
end
end My
namespace My
section
open PySem PySem.Spec PyProof.Rows L2
section
variable {t : Bool} {h h' : Heap} {a b l : Addr} {k : Nat} {xs : Array Value}
end
section
variable {E : Value → Shared → Prop} {s : Shared} {prog : Program} {w : World} {A : Around} {t u : Bool}
variable {z I O i j l m : Addr} {p q : Nat} {xs ys : Array Value} {x y a b : Value}
end
section
variable {E : Value → Shared → Prop} {s : Shared} {prog : Program} {w : World} {A : Around}
end
section
variable {E : Value → Shared → Prop} {s : Shared} {prog : Program} {w : World} {A : Around}
end
end
open PySem PySem.Spec PyProof.Rows L2
variable [LT]
section
variable {K : PySem.W.Frag} {F : Hp} {ι : List Addr}
end
section
variable {X : Cx} {fe : FE} {W : WX} {a b : Expr} {da db : DE} {pos p tpos : Pos} {elts : List Expr} {kk : Nat}
end
end My
namespace My
open PySem PySem.Spec PyProof.Rows L2
variable [LT]
section
variable {X : Cx}
end
section
variable {X : Cx} {N : EN} {fe : FE} {W : WX} {a b e : Expr} {da db d : DE} {pos p : Pos}
end
end My
namespace My
open PySem PySem.Spec PyProof.Rows L2
variable [LT]
section
variable {prog : Program} {w : World} {A : Around} {E : Value → Shared → Prop} {s : Shared} {K : PySem.W.Frag} {x y C f : Addr} {ox oy : Obj} {od od' : Option Obj}
theorem ne_chk {M : Model} {Q : Unit → Shared → Prop} (X : K.In s.heap) (J : PySem.W.InstAt s.heap x ox C od) (ho : PySem.W.mroIn K C (.type "object") = some true) (q : Q () s) : wpAny M A (checkBuiltinCall "object.__ne__" ⟨[.ref x, .ref y], []⟩) Q E s := by
  simp only [checkBuiltinCall, F.cmpKind_ne, F.cmpSplit_ne]
  refine wpAny_bind ?_
  unfold isInstance
  refine wpAny_bind (J.type.here ((PySem.W.looks_mroIn X ho).here ?_))
  simp only [Bool.not_true, Bool.false_eq_true, if_false]
  have ha := F.cmpArgs_ne (.ref x) (.ref y)
  cases hsig : Manifest.signature? "object.__ne__" with
  | none => exact wpAny_pure q
  | some sig =>
    simp only [argsOk, hsig] at ha
    show wpAny M A (Bind.checkArgs "object.__ne__" sig ⟨[.ref x, .ref y], []⟩) Q E _
    rw [show Bind.checkArgs "object.__ne__" sig ⟨[.ref x, .ref y], []⟩ = pure () from ha]
    exact wpAny_pure q
theorem ne_body {Q : PySem.Fin → Shared → Prop} (hu : A.units < cLine) (X : K.In s.heap) (J : PySem.W.InstAt s.heap x ox C od) (he : PySem.W.findIn K (.ref C) "__eq__" = some (some (.ref f))) (hf : PySem.W.isFn K (.ref f) = true)
    (h : wpAny (model prog w) A (call (.ref f) [.ref x, .ref y]) (fun v s' => ∃ b, v = .bool b ∧ Q (.done (.ret (.bool (!b)))) s') E s) : wpAny (model prog w) A (Builtin.«object.__ne__» ⟨[.ref x, .ref y], []⟩) Q E s := by
  unfold Builtin.«object.__ne__»
  repeat (first
    | with_reducible refine wpAny_cRoomFor hu ?_
    | (refine wpAny_bind (m := callSpecialIfBound? (.ref x) (Str.ofString "__eq__") [.ref y]) (PySem.W.ifBound_K X J he hf (wpAny_mono h (fun r s' hr => by
          obtain ⟨b, rfl, hq⟩ := hr
          repeat (first | exact hq | exact wpAny_pure hq | exact wpAny_truthy_bool hq | (refine wpAny_bind (m := truthy (.bool _)) (wpAny_truthy_bool ?_)) | wp_step)) fun _ _ e => e)))
    | wp_step)
theorem ne_own {Q : Value → Shared → Prop} (hu : A.units + 1 < cLine) (X : K.In s.heap) (J : PySem.W.InstAt s.heap x ox C od) (J' : PySem.W.InstAt s.heap y oy C od') (hn : PySem.W.findIn K (.ref C) "__ne__" = some (some (.builtin "object.__ne__"))) (ho : PySem.W.mroIn K C (.type "object") = some true)
    (he : PySem.W.findIn K (.ref C) "__eq__" = some (some (.ref f))) (hf : PySem.W.isFn K (.ref f) = true)
    (h : wpAny (model prog w) A.in1 (call (.ref f) [.ref x, .ref y]) (fun v s' => ∃ b, v = .bool b ∧ Q (.bool (!b)) s') E s) : wpAny (model prog w) A (richCompare .NotEq (.ref x) (.ref y)) Q E s := by
  have bi : wpAny (model prog w) A (call (.builtin "object.__ne__") [.ref x, .ref y]) (fun v s' => (∃ b, v = .bool b) ∧ Q v s') E s := by
    refine wpAny_call (codeAny_call_builtin F.cmp_object.ne.plain F.cmpEntry_ne (ne_chk X J ho (ne_body (A := A.in1) hu X J he hf (wpAny_mono h (fun v s' hv => by
      obtain ⟨b, rfl, q⟩ := hv
      first | exact ⟨b, rfl, ⟨!b, rfl⟩, q⟩ | exact ⟨b, rfl, wpAny_pure ⟨⟨!b, rfl⟩, q⟩⟩) fun _ _ e => e))))
  have sp : wpAny (model prog w) A (callSpecialIfBound? (.ref x) "__ne__" [.ref y]) (fun v s' => ∃ b, v = some (.bool b) ∧ Q (.bool b) s') E s := by
    simp only [callSpecialIfBound?, bindSpecialIfBound?]
    refine wpAny_holding (wpAny_bind (wpAny_bind (wpAny_bind (J.type.here ((PySem.W.looks_findIn X hn).here ?_)))))
    simp only [F.cmp_object.ne.bind]
    refine wpAny_bind (wpAny_askSetting (wpAny_ite ?_))
    have fin : wpAny (model prog w) A (call (.builtin "object.__ne__") ([.ref x] ++ [.ref y]) >>= fun v => pure (some v)) (fun v s' => ∃ b, v = some (.bool b) ∧ Q (.bool b) s') E s := wpAny_bind (wpAny_mono bi (fun v s' h' => by
      obtain ⟨⟨b, rfl⟩, q⟩ := h'
      exact wpAny_pure ⟨b, rfl, q⟩) fun _ _ h' => h')
    split
    · exact wpAny_bind (wpAny_pure (wpAny_pure fin))
    · exact wpAny_tryCatch (wpAny_bind (wpAny_pure (wpAny_pure fin)))
  have one : wpAny (model prog w) A (tryCompare (.ref x) "__ne__" (.ref y)) (fun r s' => ∃ v, r = some v ∧ Q v s') E s := by
    unfold tryCompare
    refine wpAny_bind (wpAny_mono sp (fun v s' hv => ?_) fun _ _ e => e)
    obtain ⟨b, rfl, q⟩ := hv
    exact wpAny_pure ⟨_, rfl, q⟩
  unfold richCompare
  simp only [oneThing_ref]
  refine wpAny_holding (wpAny_bind (wpAny_cRoomFor (Nat.lt_of_succ_lt hu) ?_))
  rw [cmpInfo_NotEq]
  refine wpAny_bind (J.type.here (wpAny_bind (J'.type.here ?_)))
  rw [show (Value.ref C != Value.ref C) = false from by simp]
  simp only [Bool.false_eq_true, if_false]
  refine wpAny_bind (wpAny_pure ?_)
  simp only [Bool.false_eq_true, if_false]
  refine wpAny_bind (wpAny_mono one (fun r s' z => ?_) fun _ _ e => e)
  obtain ⟨v, rfl, hq⟩ := z
  exact wpAny_pure hq
end
abbrev eqN : Nm := [95, 95, 101, 113, 95, 95]
def neB (K : PySem.W.Frag) (C : Str) : Bool := He.eqO (PySem.W.findIn K (.ref (He.ga K C)) "__ne__") (some (some (.builtin "object.__ne__"))) && (decide (PySem.W.mroIn K (He.ga K C) (.type "object") = some true) &&
  (He.eqO (PySem.W.findIn K (.ref (He.ga K C)) "__eq__") (some (some (.ref (He.ma K (He.ga K C) "__eq__")))) && PySem.W.isFn K (.ref (He.ma K (He.ga K C) "__eq__"))))
section
variable {X : Cx} {T : Tab} {D : Nat} {W : WX} {a b : Expr} {da db : DE} {pos : Pos} {c : Nm} {fa : Addr} {fd : FuncData} {ps : List Str}
def rNe (X : Cx) (T : Tab) (D : Nat) (c : Nm) : R2 := fun x' y' H Q => ∃ p q dx dy fs gs, x' = .ref p ∧ y' = .ref q ∧ H p = some (.ins (He.ga X.K (sN c)) dx fs) ∧ H q = some (.ins (He.ga X.K (sN c)) dy gs) ∧ spI X.K T D (c ++ 46 :: eqN) 2 [x', y'] H (fun v H' => ∃ r, v = .bl r ∧ Q (.bl (!r)) H') (fun _ _ _ => False)
theorem op_ne (C : FnD X T D (c ++ 46 :: eqN) (He.ma X.K (He.ga X.K (sN c)) "__eq__") fd ps) (hB : neB X.K (sN c) = true) (hr : RG (lev D + 1) X.A) (hb : Binds X.K fd ps []) (hn : ps.length = 2) : OpR X (compareOp .NotEq) (rNe X T D c) := by
  intro pins s σ H x y v u Q I rx ry h
  obtain ⟨p, q, dx, dy, fs, gs, rfl, rfl, h1, h2, sp⟩ := h
  obtain rfl : v = Value.ref p := rx
  obtain rfl : u = Value.ref q := ry
  obtain ⟨b1, hB⟩ := He.ba hB
  obtain ⟨b2, hB⟩ := He.ba hB
  obtain ⟨b3, b4⟩ := He.ba hB
  obtain ⟨m1, O1, _⟩ := ins_get I.hok h1
  obtain ⟨m2, O2, _⟩ := ins_get I.hok h2
  obtain ⟨o1, J1, _⟩ := O1.look
  obtain ⟨o2, J2, _⟩ := O2.look
  have hbd := hb s [.ref p, .ref q] I.kIn (by rw [hn]; rfl)
  rw [List.append_nil] at hbd
  show wpAny (model X.prog X.w) X.A (richCompare .NotEq (.ref p) (.ref q)) (EP X pins σ Q) X.xe s
  have hun : X.A.units + 1 < cLine := by have := hr.room.un; omega
  refine ne_own hun I.kIn J1 J2 (He.eqO_ok b1) (of_decide_eq_true b2) (He.eqO_ok b3) b4 (wpAny_call ?_)
  rw [← hn] at sp
  refine codeAny_mono (C.run X.A.in1 X.stack s H ⟨[.ref p, .ref q], []⟩ [.ref p, .ref q] [.ref p, .ref q] _ (fun _ _ _ => False) hr.in1 I.env0.in1 hbd (.cons rfl (.cons rfl .nil)) sp) fun r s' hq => ?_
  cases r with
  | error er =>
    obtain ⟨_, _, _, _, _, _, _, _, _, _, _, _, z⟩ := hq
    exact z.elim
  | ok fl =>
    cases fl with
    | ret u =>
      obtain ⟨v, H', I3, rv, r, rfl, q3⟩ := I.after hq
      obtain rfl : u = Value.bool r := rv
      exact ⟨r, rfl, .bl (!r), H', I3, rfl, q3⟩
    | next => exact False.elim hq
    | brk => exact False.elim hq
    | cont => exact False.elim hq
end
end My
namespace My
open PySem PySem.Spec PyProof.Rows L2
variable [LT]
section
variable {X : Cx} {fe : FE} {W : WX} {a b : Expr} {da db : DE} {pos : Pos}
end
end My
namespace My
open PySem PySem.Spec PyProof.Rows L2
variable [LT]
section
variable {K : PySem.W.Frag} {F : Hp} {ι : List Addr}
end
section
variable {X : Cx} {fe : FE} {W : WX} {a : Expr} {da : DE} {pos : Pos}
end
end My
namespace My
open PySem PySem.Spec PyProof.Rows L2
variable [LT]
section
variable {X : Cx} {N : EN} {fe : FE} {W : WX} {pos : Pos} {i : Nat}
end
section
variable {prog : Program} {w : World} {A : Around} {E : Value → Shared → Prop} {s : Shared}
end
section
variable {prog : Program} {w : World} {A : Around} {E : Value → Shared → Prop} {s : Shared}
end
section
variable {X : Cx} {fe : FE} {W : WX} {a b : Expr} {da db : DE} {pos p p2 q : Pos}
end
section
variable {prog : Program} {w : World} {A : Around} {E : Value → Shared → Prop} {s : Shared}
end
section
variable {X : Cx} {fe : FE} {W : WX} {a : Expr} {da : DE} {pos p p2 q : Pos}
end
end My
namespace My
open PySem PySem.Spec PyProof.Rows L2 PySem.W
variable [LT]
section
variable {prog : Program} {w : World} {A : Around} {E : Value → Shared → Prop} {s : Shared}
end
section
variable {X : Cx} {N : EN} {fe : FE} {W : WX} {pos p : Pos} {a : Expr} {da : DE}
end
end My
namespace My
open PySem PySem.Spec PyProof.Rows L2
variable [LT]
end My
namespace My
open PySem PySem.Spec PyProof.Rows L2
variable [LT]
section
variable {X : Cx} {N : EN} {fe : FE} {W : WX} {pos : Pos} {dA : DEs}
end
end My
namespace My
open PySem PySem.Spec PyProof.Rows L2
variable [LT]
structure OxC (K : PySem.W.Frag) (C : Addr) (f : Str) (B newId initId : String) (bm : List Value) : Prop where
  fb : ExcBaseFacts B newId initId bm
  sf : StoreFacts B bm "object.__setattr__" "object"
  cl : PySem.W.excInitIn K C bm newId = true
  ov : PySem.W.excOver K C bm = true
  sa : PySem.W.findIn K (.ref C) "__setattr__" = some (some (.builtin "object.__setattr__"))
  na : PySem.W.findIn K (.ref C) f = some none
  hd : PySem.W.hasDictIn K C = true
  ex : PySem.W.subIn K (.ref C) (.type "BaseException") = some true
  ty : PySem.W.typeIn K (.ref C) = some (.type "type")
  kp : PySem.W.keepIn K (.ref C) = true
def spX (C : Addr) (f : Str) : Sp := fun vs H Q _ => ∃ (a : Addr) (y : V), vs = [.ref a, y] ∧ H a = some (exo a C none) ∧ ∀ dx, H dx = none → dx ≠ a → Q .non (upd (upd H dx (exd dx [(f, y)])) a (exo a C (some dx)))
section
variable {X : Cx} {pins : List (Addr × Obj)} {σ : L2.St} {H : Hp} {s : Shared} {a C : Addr} {f : Str} {y : V} {u : Value} {Q : Unit → Shared → Prop} {E : Value → Shared → Prop} {A : Around} {B newId initId : String} {bm : List Value}
theorem oxObj {q r : Addr} {z : HO} {d : Option Addr} (h1 : H q = some (exo q C d)) (h2 : H r = some z) (nz : ∀ φ, z ≠ .ext φ) : r ≠ q := fun e => by
  rw [e, h1] at h2
  exact nz _ (Option.some.inj h2).symm
theorem ost_newX (T : OxC X.K C f B newId initId bm) (I : Inv X pins σ H s) (e : H a = some (exo a C none)) (ry : RelV y u)
    (h : ∀ dx s', H dx = none → dx ≠ a → Inv X pins σ (upd (upd H dx (exd dx [(f, y)])) a (exo a C (some dx))) s' → Q () s') : wpAny (model X.prog X.w) A (setAttr (.ref a) f u) Q E s := by
  obtain ⟨t1, ho⟩ := exo_at I.hok e
  obtain ⟨hp, g, d, t, os⟩ := s
  obtain ⟨cd, hc, hd'⟩ := PySem.W.any_some T.hd
  have ht : PySem.W.takerIn X.K C f = some none := by
    unfold PySem.W.takerIn
    rw [T.na]
    rfl
  have hlt : a < hp.objs.size := Heap.lt_size ho
  refine PySem.W.set_plain I.kIn (ox := PySem.W.excObj C t1 none .none) (od := none) ⟨ho, rfl, rfl, trivial⟩ T.sa ?_
  refine PySem.W.osa_openX (od := none) T.sf I.kIn ⟨ho, rfl, rfl, trivial⟩ T.ov ht fun b => ?_
  refine wpAny_bind (wpAny_pure (wpAny_bind (PySem.W.instanceDict_exc ho (PySem.W.looks_clsIn I.kIn hc) hd' ?_)))
  show wpAny _ _ (Builtin.ObjectAttr.storeInDict hp.objs.size (.str f _) f u) _ _ _
  have one : ((hp.push (PySem.W.dictOf [] 0)).update a fun o => { o with dict := some hp.objs.size }).Ns hp.objs.size (fun _ => none) :=
    ⟨PySem.W.dictOf [] 0, #[], 0, (Heap.get?_update_ne _ _ _ _ (Nat.ne_of_gt hlt)).trans (Heap.get?_push_at rfl rfl), rfl, fun e he => absurd he (by simp), fun _ => rfl⟩
  refine PySem.HandSPX.store_in_new one fun h' tk' hn' hs => ?_
  have hnd : H hp.objs.size = none := I.hok.fresh (Nat.le_refl _)
  have hx : h'.get? a = some (PySem.W.excObj C t1 (some hp.objs.size) .none) := (hs.2 a (Nat.ne_of_lt hlt)).trans (Heap.get?_update_self _ (Heap.get?_push_of_some _ ho) rfl)
  have kp : ∀ {b : Addr} {o : Obj}, b ≠ a → hp.get? b = some o → h'.get? b = some o := fun {b o} ne z =>
    (hs.2 b (Nat.ne_of_lt (Heap.lt_size z))).trans ((Heap.get?_update_ne _ _ _ _ ne).trans (Heap.get?_push_of_some _ z))
  have nd : ∀ {b : Addr} {o : Obj}, hp.get? b = some o → b ≠ hp.objs.size := fun z => Nat.ne_of_lt (Heap.lt_size z)
  have na : ∀ {b : Addr}, H b = none → b ≠ a := fun n z => by
    rw [z, e] at n
    cases n
  have cut : ∀ {b : Addr}, b ≠ a → b ≠ hp.objs.size → (upd (upd H hp.objs.size (exd hp.objs.size [(f, y)])) a (exo a C (some hp.objs.size))) b = H b := fun n1 n2 => by rw [upd_ne n1, upd_ne n2]
  have U : Un X.fs [] H (upd (upd H hp.objs.size (exd hp.objs.size [(f, y)])) a (exo a C (some hp.objs.size))) hp h' := {
    keep := fun b o z n _ _ => kp (na n) z
    slot := fun b o z n _ _ => ⟨o.slots, kp (na n) z⟩
    free := fun b o z n _ => (cut (na n) (nd z)).trans n
    there := fun b o z _ => if hb : b = a then ⟨_, hb ▸ hx⟩ else ⟨o, kp hb z⟩
    tups := fun b xs z => (cut (oxObj e z (fun _ k => by cases k)) (ne_of_none z hnd)).trans z
    frzs := fun b o v z => (cut (oxObj e z (fun _ k => by cases k)) (ne_of_none z hnd)).trans z
    tbls := fun b ps z => ⟨#[], by rw [cut (oxObj e z (fun _ k => by cases k)) (ne_of_none z hnd), z]; simp⟩ }
  refine h hp.objs.size _ hnd (Nat.ne_of_gt hlt) (I.un (t' := tk') U fun b o z => ?_)
  by_cases hb : b = a
  · subst hb
    rw [upd_same] at z
    cases z
    exact exo_ok hx
  · by_cases hd : b = hp.objs.size
    · subst hd
      rw [upd_ne hb, upd_same] at z
      cases z
      exact exd_ok hn' (relO_put (fs := []) ry fun _ => trivial)
    · rw [cut hb hd] at z
      refine (I.hok b o z).stay (fun c v hc k => kp ?_ k) (fun c hc => (cut (oxObj e hc (fun _ k => by cases k)) (ne_of_none hc hnd)).trans hc) fun c xs hc => (cut (oxObj e hc (fun _ k => by cases k)) (ne_of_none hc hnd)).trans hc
      rcases hc with hc | hc
      · exact hc ▸ hb
      · exact oxObj e hc (fun _ k => by cases k)
end
section
variable {P : Program} {w : World} {K : PySem.W.Frag} {mg : Str → Option Value} {base : Heap} {fa C : Addr} {fd : FuncData} {x qual f g : Str} {params : Arguments} {scope : Scope} {p1 p2 p3 pos : Pos} {k : Nat} {B newId initId : String} {bm : List Value}
theorem exc_init (Fd : FunD K x qual params [.Assign [.Attribute (.Name "self" p1) f p2] (.Name g p3) pos] scope [] [] fa fd) (S : FnScope ["self", g] ["self", g] scope) (T : OxC K C f B newId initId bm)
    (v1 : Vis scope "self") (v2 : Vis scope g) (hd : (g == ("__debug__" : Str)) = false) (hcd : (g == ("__classdict__" : Str)) = false) : FnOk P w K mg base (L2.CX P w) (k + 1) fa fd ["self", g] (spX C f) := by
  obtain ⟨oc, od, dV, kV, doc, pm, an, cdv, ct, osl, rfl, lk, hcd', _, _⟩ := Fd.ex
  refine fn_of lk hcd' S (fun vs H Q E h => by obtain ⟨a, y, rfl, _⟩ := h; rfl) fun A outer s H vs Q E hr h => ?_
  obtain ⟨a, y, rfl, ha, hq⟩ := h
  refine ⟨fun D σ H' => σ = L2.start ["self", g] [.ref a, y] ∧ H' = H ∧ (∀ dx, H dx = none → dx ≠ a → D.nx σ (upd (upd H dx (exd dx [(f, y)])) a (exo a C (some dx)))), pss_one ⟨fun pins s σ H' D I h => ?_⟩, rfl, rfl, hq⟩
  obtain ⟨rfl, rfl, h⟩ := h
  refine plainObj_wpAny_Assign_Attribute (thn ((pe_var (i := 1) rfl v2 hd hcd).run pins s _ _ (fun v H1 => v = y ∧ H1 = H') I ⟨y, rfl, rfl, rfl⟩) fun v s1 ⟨y', H1, I1, r1, e1⟩ => ?_) rfl
  obtain ⟨rfl, rfl⟩ := e1
  refine thn ((pe_var (i := 0) rfl v1).run pins s1 _ _ (fun v H2 => v = .ref a ∧ H2 = H1) I1 ⟨.ref a, rfl, rfl, rfl⟩) fun u s2 ⟨x', H2, I2, r2, e2⟩ => ?_
  obtain ⟨rfl, rfl⟩ := e2
  obtain rfl : u = Value.ref a := r2
  exact ost_newX T I2 ha r1 fun dx s' n ne J => ⟨_, _, J, h dx n ne⟩
end
section
variable {X : Cx} {e : Expr} {ta : TA} {f x : Str} {p pos : Pos} {C fI : Addr} {k : Nat} {fd : FuncData} {ps : List Str} {B newId initId : String} {bm : List Value}
end
end My
namespace My
open PySem PySem.Spec PyProof.Rows L2
variable [LT]
section
variable {X : Cx} {N : EN} {fe : FE} {W : WX} {e : Expr} {d : DE} {x : Str} {p pos pos2 : Pos} {C fI : Addr} {fd : FuncData} {B newId initId : String} {bm : List Value} {c f : Nm} {g : Str}
end
def HR1.go (h : HR1) (a : Addr) (cls : Value) (d : Option Addr) (D : Ends) (σ : L2.St) (H : Hp) : Prop := match h.nm with
  | none => h.ts a cls d D σ H
  | some i => h.ts a cls d (Ends.un i D) (σ.set i (some (.ref a))) H
section
variable {X : Cx} {body : List Stmt} {h₀ : ExceptHandler} {hds : List ExceptHandler} {l : List HR1} {pos : Pos} {tb : WX → TS} {Wout : WX}
end
section
variable {X : Cx} {x x1 x2 x3 : Str} {c c1 c2 c3 : Value} {p p1 p2 p3 pos : Pos} {kk : Nat}
end
end My
namespace My
open PySem PySem.Spec PyProof.Rows L2
@[reducible] def hotT [L : LT] (a : Addr) (cls : Value) (d : Option Addr) : LT := ⟨L.T, some (a, cls, d), L.fn⟩
section
variable {K : PySem.W.Frag} {N : EN} {F : Hp} {ι : List Addr} {σ : L2.St} {ρ : Rho} {H : Hp} {S : IS} {W : WX} {D : Ends} {a : Addr} {cls : Value} {d : Option Addr}
end
section
variable [LT] {K : PySem.W.Frag} {N : EN} {F : Hp} {ι : List Addr} {σ : L2.St} {ρ : Rho} {H : Hp} {S : IS}
end
section
variable [L : LT] {K : PySem.W.Frag} {N : EN} {F : Hp} {ι : List Addr} {σ : L2.St} {ρ : Rho} {H : Hp} {S : IS}
end
section
variable [L0 : LT]
variable {X : Cx} {N : EN} {fe : FE} {W : WX} {body : List Stmt} {h₀ : ExceptHandler} {hds : List ExceptHandler} {l : List HR1} {pos : Pos} {ds : DS} {hs : List Hd}
end
end My
namespace My
open PySem PySem.Spec PyProof.Rows L2
section
variable [LT]
end
section
variable [LT] {X : Cx} {fe : FE} {W : WX} {i : Nat} {e g : Str} {f : Nm} {cs : List Nm} {p q q2 pos : Pos}
structure XiC (K : PySem.W.Frag) (C : Addr) : Prop where
  cl : (PySem.W.clsIn K C).isSome = true
  hg : PySem.W.findIn K (.ref C) "__getattribute__" = some (some (.builtin "BaseException.__getattribute__"))
  hk : PySem.W.findIn K (.ref C) "__getattr__" = some none
  hs : PySem.W.subIn K (.ref C) (.type "BaseException") = some true
  ha : PySem.W.findIn K (.ref C) "__class__" = some (some (.builtin "object.__class__"))
  hn : PySem.W.specialIn K (.builtin "object.__class__") "__get__" = some (some (.builtin "getset_descriptor.__get__"))
  ht : PySem.W.takesIn K (.builtin "object.__class__") = some true
  hm : PySem.W.mroIn K C (.type "object") = some true
theorem pe_names {x : Str} {c : Value} {v : V} (hc : Names X x c) (r : RelV v c) : PE X (.Name x pos) (tC v) := by
  obtain ⟨hg, hd, hm | ⟨hm, hv, hnn⟩⟩ := hc
  · exact pe_glob hg hm r hd
  · exact pe_bltn hg hm hv r hnn hd
section
variable (P : Program) (w : World) (K : PySem.W.Frag) (mg : Str → Option Value) (base : Heap)
end
end
end My
namespace My
open PySem PySem.Spec PyProof.Rows L2
theorem RGH.units {k : Nat} {A : Around} (r : RGH k A) : A.units + 65 < cLine := by have := r.room.un; omega
section
variable {P : Program} {w : World} {K : PySem.W.Frag} {mg : Str → Option Value} {base : Heap} {k m n : Nat} {fa : Addr} {fd : FuncData} {x qual : Str} {params : Arguments} {body : List Stmt} {scope : Scope} {N ps : List Str} {ds : DS}
end
section
variable [L : LT] {X : Cx} {fe : FE} {W : WX} {i k m n : Nat} {e x : Str} {p q pos : Pos} {f : Addr} {fd : FuncData} {ps : List Str} {ds : DS} {es : List Expr} {dA : DEs}
end
end My
namespace My
open PySem PySem.Spec PyProof.Rows L2
section
variable {X : Cx} {pins : List (Addr × Obj)} {σ : L2.St} {H : Hp} {s : Shared}
def TabOnly (P : Addr) (H H1 : Hp) : Prop := (∀ b, b ≠ P → H b ≠ none → H1 b = H b) ∧ H1 P ≠ none
end
section
variable [LT] {K : PySem.W.Frag} {F : Hp} {ι : List Addr} {H H1 : Hp} {S : IS} {P : Addr} {q : Str}
theorem tabOnly_keep (h : TabOnly P H H1) (hP : ∃ ps, H P = some (.tbl ps)) {b : Addr} {o : HO} (e : H b = some o) (nt : noT o) : H1 b = some o := by
  obtain ⟨ps, hP⟩ := hP
  rw [h.1 b (fun z => by rw [z, hP] at e; exact nt ps (Option.some.inj e).symm) (by rw [e]; simp), e]
theorem Step.tab (hr : HR K F ι H S) (hm : (P, q) ∈ LT.T) (h : TabOnly P H H1) : Step F ι H F ι H1 := by
  obtain ⟨ps, hP, _⟩ := hr.tabs.1 _ hm
  refine ⟨Sub.refl _, fun _ _ z => z, Pre.refl _, fun _ z => .inl z, fun a o e _ nt => tabOnly_keep h ⟨ps, hP⟩ e nt, fun a ha => ?_⟩
  by_cases z : a = P
  · rw [z]; exact h.2
  · rw [h.1 a z ha]; exact ha
theorem HR.tab (hr : HR K F ι H S) (hm : (P, q) ∈ LT.T) (h : TabOnly P H H1) (hT : LamX.Tabs LT.T H1) : HR K F ι H1 S := by
  obtain ⟨ps, hP, _⟩ := hr.tabs.1 _ hm
  refine ⟨fun a o e => ?_, hr.len, hr.nd, hr.out, fun n a o e1 e2 => (hr.obj n a o e1 e2).mono (Sub.refl _) (Pre.refl _) fun u e nt => tabOnly_keep h ⟨ps, hP⟩ e nt, hT, hr.tabs.2⟩
  have hH := hr.sub a o e
  have n : a ≠ P := fun z => by
    have := hr.tabs.2 _ hm
    rw [z] at e
    simp only at this
    rw [this] at e
    cases e
  rw [h.1 a n (by rw [hH]; simp), hH]
end
section
variable [LT] {X : Cx} {N : EN} {fe : FE} {W : WX} {r : IS → Res PV} {i j : Nat} {a y : Str} {p1 p2 pos pos' : Pos} {pn : List (Addr × Obj)} {xe : Value → Shared → Prop}
end
end My
namespace My
open PySem PySem.Spec PyProof.Rows L2
section
variable [L0 : LT] {X : Cx} {pins : List (Addr × Obj)} {σ : L2.St} {H1 : Hp} {s' : Shared} {fe : FE} {db : DE} {F : Hp} {ι : List Addr} {S : IS} {ρ : Rho} {g f c' : Addr} {cdv pm ctv : Value} {params : Arguments} {body : Expr} {scope sg : Scope} {x : Str} {Ng : List Str} {E : XK} {k : Nat}
end
section
variable [L0 : LT] {X : Cx} {W : WX} {fe : FE} {db : DE} {x a : Str} {g c P : Addr} {k m : Nat} {fdg : FuncData} {pg : Arguments} {bg : List Stmt} {sg : Scope} {Ng : List Str} {bd : (IS → Res PV) → DS} {params : Arguments} {body : Expr} {scope : Scope} {p lpos pos : Pos}
end
end My
namespace My
open PySem PySem.Spec PyProof.Rows L2
section
variable [LT] {P : Program} {w : World} {K : PySem.W.Frag} {mg mb : Str → Option Value} {fa a : Addr} {cs : List (Addr × Addr)} {s : Shared} {vs : List Value} {ns : List Int}
theorem end_tabs (inn : K.In s.heap) (gl : s.heap.Ns mainGlobals mg) (bl : s.heap.Ns builtinsNs mb) (bb : ∀ x : Str, x ≠ "__name__" → mb x = bootBuiltins x) (nol : s.heap.NoLimit) (ge : s.gens = #[]) (tb : ∀ p ∈ cs, s.heap.get? p.2 = some tab0) (tn : ∀ p ∈ cs, K.lookup p.2 = none) (tc : ∀ p ∈ cs, PySem.W.CodeHd s.heap p.1 p.2)
    (bm : ∃ (m : Addr) (ob : Obj), mg "__builtins__" = some (.ref m) ∧ m ≠ builtinsNs ∧ s.heap.get? m = some ob ∧ ob.cls = .type "module" ∧ ob.dict = some builtinsNs ∧ ob.data = .plain) (hTs : ∀ p ∈ LT.T, p.1 ∈ cs.map (·.2))
    (at_ : s.heap.get? a = some { cls := .type "list", data := .seq vs.toArray }) (hints : IntsAre vs ns) (hl : ns.length ≤ 63) (Fm : ∀ base : Heap, K.In base → base.Ns mainGlobals mg → (∀ p ∈ cs, LamX.TabB base mg p.1 p.2) → EndOk P w K mg base fa) :
    codeAny (model P w) callerA (.call (.ref fa) ⟨[.ref a], []⟩) (fun r s' => r = .ok (.ret (.bool true)) ∧ OldK s.heap s'.heap ∧ s'.os = s.os ∧ AllBare s'.gens) s := by
  have hlen := hints.length
  have hline : ns.length ≤ sizeLine := by rw [lim_eq]; simp only [lim]; omega
  have tab_at : ∀ {b : Addr}, b ∈ cs.map (·.2) → s.heap.get? b = some tab0 := fun {b} m => by
    obtain ⟨p, hp, e⟩ := List.mem_map.mp m
    exact e ▸ tb p hp
  have an : a ∉ cs.map (·.2) := fun m => by
    have := (tab_at m).symm.trans at_
    cases this
  have go : ∀ H : Hp, (∀ b ∈ cs.map (·.2), H b = some (.tbl #[])) → (∀ b u, H b = some u → b ∈ cs.map (·.2) ∨ ∃ o xs, u = .frz o (.lst xs)) → SqL K H a (ns.map V.int) → HOk P w H s.heap → (∀ b, H b ≠ none → b = a ∨ b ∈ cs.map (·.2)) → (H a ≠ none → K.lookup a = none) →
      codeAny (model P w) callerA (.call (.ref fa) ⟨[.ref a], []⟩) (fun r s' => r = .ok (.ret (.bool true)) ∧ OldK s.heap s'.heap ∧ s'.os = s.os ∧ AllBare s'.gens) s := by
    intro H hH hO sq hok one own
    have free : ∀ {b : Addr} {o : Obj}, s.heap.get? b = some o → (∀ xs n, o.data ≠ .seq xs n) → o.data ≠ .fields #[] → H b = none := fun {b o} e n1 n2 => by
      cases q : H b with
      | none => rfl
      | some u =>
        rcases one b (by rw [q]; simp) with z | z
        · rw [z, at_] at e
          cases e
          exact absurd rfl (n1 _ _)
        · rw [tab_at z] at e
          cases e
          exact absurd rfl n2
    have dictFree : ∀ {b : Addr} {o : Obj} {es : Array DictEntry} {n : Nat}, s.heap.get? b = some o → o.data = .dict es n → H b = none := fun {b o es n} e de => free e (fun xs n z => by rw [de] at z; cases z) (fun z => by rw [de] at z; cases z)
    have nsH : ∀ {b : Addr} {m : Str → Option Value}, s.heap.Ns b m → (hidT s.heap H).Ns b m := fun ⟨o, es, n, e, de, r⟩ => ⟨o, es, n, hidT_get e (dictFree e de), de, r⟩
    have inH : K.In (hidT s.heap H) := fun b o e => hidT_get (inn b o e) (by
      cases q : H b with
      | none => rfl
      | some u =>
        rcases one b (by rw [q]; simp) with z | z
        · rw [z] at e q
          rw [own (by rw [q]; simp)] at e
          cases e
        · obtain ⟨p, hp, ep⟩ := List.mem_map.mp z
          have ep : p.2 = b := ep
          rw [← ep, tn p hp] at e
          cases e)
    have tabs : ∀ p ∈ cs, LamX.TabB (hidT s.heap H) mg p.1 p.2 := fun p hp => by
      have oP := tb p hp
      refine ⟨?_, ?_, fun z => ?_⟩
      · obtain ⟨o, us, f1, f2, f3, f4, f5, f6, f7, e1, r1, r2, r3, rest⟩ := tc p hp
        refine ⟨o, us, f1, f2, f3, f4, f5, f6, f7, hidT_get e1 (free e1 (fun xs n z => by rw [r2] at z; cases z) fun z => ?_), r1, r2, r3, rest⟩
        rw [r2] at z
        cases z
        simp at r3
      · obtain ⟨m, ob, b1, b2, b3, b4, b5, b6⟩ := bm
        refine ⟨m, ob, b1, b2, fun z => ?_, fun z => ?_, hidT_get b3 (free b3 (fun xs n z => by rw [b6] at z; cases z) (fun z => by rw [b6] at z; cases z)), b4, b5, b6⟩
        · obtain ⟨o, es, n, e, de, _⟩ := gl
          rw [← z, b3] at e
          cases e
          rw [b6] at de
          cases de
        · rw [z, oP] at b3
          cases b3
          cases b6
      · obtain ⟨o, es, n, e, de, _⟩ := gl
        rw [z, oP] at e
        cases e
        cases de
    obtain ⟨mc, lim1, lim2⟩ := nol
    have e0 : Env0 P w K mg (hidT s.heap H) callerA [] s H := ⟨rfl, ⟨inH, nsH gl, ⟨mb, nsH bl, bb⟩, mc, nsH lim1, lim2⟩, fun b o e => of_hidT e, Nat.le_of_eq (hidT_size _ _), trivial, fun b hb => absurd hb List.not_mem_nil, hok, .of_eq ge⟩
    refine codeAny_mono (Fm _ inH (nsH gl) tabs s H a ns hl sq (fun p hp => LamX.TabS.nil (hH p.1 (hTs p hp))) e0) fun r s' h => ?_
    cases r with
    | error e => exact h.elim
    | ok fl =>
      cases fl <;> first | (exact h.elim) | skip
      obtain ⟨v, H', os, bare, un, hok', rv, q⟩ := h
      have q : v = .bl true := q
      subst q
      obtain rfl := rv
      have grown : ∀ b ∈ cs.map (·.2), ∃ more : Array Value, s'.heap.get? b = some { cls := .none, data := .fields more } := fun b hb => by
        obtain ⟨more, z⟩ := un.tbls b #[] (hH b hb)
        exact ⟨_, hok' b _ z⟩
      have same : ∀ b o, b ∉ cs.map (·.2) → s.heap.get? b = some o → s'.heap.get? b = some o := fun b o nb e => by
        cases z : H b with
        | none => exact un.keep b o e z (fun y => absurd y List.not_mem_nil) (by simp)
        | some u =>
          rcases hO b u z with y | ⟨ob, xs, y⟩
          · exact absurd y nb
          · subst y
            obtain ⟨e1, _⟩ := hok b _ z
            obtain ⟨e2, _⟩ := hok' b _ (un.frzs b ob _ z)
            rw [e] at e1
            cases e1
            exact e2
      refine ⟨rfl, ⟨fun b o e => ?_, fun b o e => ?_⟩, os, bare⟩
      · by_cases hb : b ∈ cs.map (·.2)
        · obtain ⟨more, hm⟩ := grown b hb
          obtain ⟨p, hp, ep⟩ := List.mem_map.mp hb
          have ep : p.2 = b := ep
          subst ep
          rw [tb p hp] at e
          cases e
          exact .inr (.inl ⟨((tc p hp).tab (tb p hp)).isCodeTable, rfl, #[], more, rfl, by rw [Array.empty_append]; exact hm⟩)
        · exact .inl (same b o hb e)
      · by_cases hb : b ∈ cs.map (·.2)
        · obtain ⟨more, hm⟩ := grown b hb
          exact ⟨_, hm⟩
        · exact ⟨o, same b o hb e⟩
  have tabOk : ∀ b ∈ cs.map (·.2), ∀ H : Hp, ObjOk P w H s.heap b (.tbl #[]) := fun b hb _ => tab_at hb
  cases hk : K.lookup a with
  | some o =>
    have e := inn a o hk
    rw [at_] at e
    cases e
    let H : Hp := fun b => if b ∈ cs.map (·.2) then some (.tbl #[]) else none
    have no : ∀ {b : Addr}, b ∉ cs.map (·.2) → H b = none := fun h => if_neg h
    refine go H (fun b hb => if_pos hb) (fun b u z => ?_) (.inr ⟨_, vs.toArray, _, hk, rfl, rfl, rfl, by rw [List.size_toArray, hlen]; exact hline, by simpa using vals_ints hints⟩) (fun b u z => ?_) (fun b z => ?_) (fun z => absurd (no an) z)
    · by_cases hb : b ∈ cs.map (·.2)
      · exact .inl hb
      · rw [no hb] at z; cases z
    · by_cases hb : b ∈ cs.map (·.2)
      · have : H b = some (.tbl #[]) := if_pos hb
        rw [this] at z
        cases z
        exact tabOk b hb H
      · rw [no hb] at z; cases z
    · by_cases hb : b ∈ cs.map (·.2)
      · exact .inr hb
      · exact absurd (no hb) z
  | none =>
    let H : Hp := fun b => if b ∈ cs.map (·.2) then some (.tbl #[]) else if b = a then some (.frz { cls := .type "list", data := .seq vs.toArray } (.lst (ns.map V.int))) else none
    have at1 : H a = some (.frz { cls := .type "list", data := .seq vs.toArray } (.lst (ns.map V.int))) := (if_neg an).trans (if_pos rfl)
    have no : ∀ {b : Addr}, b ∉ cs.map (·.2) → b ≠ a → H b = none := fun h1 h2 => (if_neg h1).trans (if_neg h2)
    refine go H (fun b hb => if_pos hb) (fun b u z => ?_) (.inl (.inr ⟨_, at1⟩)) (fun b u z => ?_) (fun b z => ?_) fun _ => hk
    · by_cases hb : b ∈ cs.map (·.2)
      · exact .inl hb
      · by_cases h : b = a
        · subst h; rw [at1] at z; cases z; exact .inr ⟨_, _, rfl⟩
        · rw [no hb h] at z; cases z
    · by_cases hb : b ∈ cs.map (·.2)
      · have : H b = some (.tbl #[]) := if_pos hb
        rw [this] at z
        cases z
        exact tabOk b hb H
      · by_cases h : b = a
        · subst h
          rw [at1] at z
          cases z
          exact ⟨at_, by rw [List.length_map]; exact hline, vs, _, vals_ints hints, at_⟩
        · rw [no hb h] at z; cases z
    · by_cases hb : b ∈ cs.map (·.2)
      · exact .inr hb
      · by_cases h : b = a
        · exact .inl h
        · exact absurd (no hb h) z
end
theorem obsT_eq {n : Nat} {fb : List Fb} {fn tf : List DefM} {g : Addr → Option Obj} {s : Shared} (h : ∀ a, g a = s.heap.get? a) : obsT n fb fn tf g = (hookT n fb fn tf).obs s := by
  have e : g = s.heap.get? := funext h
  rw [e] <;> rfl
theorem walk_tabs {l : PySem.W.OpenLaw} {q : Program} {loose : List Str} {XP : (Str → Option Value) → Heap → Prop} {YP : World → Heap → Prop} {d : DefRec} (hn : l.most = some 63) (hdf : d.params.defaults = [])
    (F : ∀ (w : World) (mg : Str → Option Value) (fa : Addr) (h : Heap), YP w h → h.Ns mainGlobals mg → mg d.name = some (.ref fa) → ∃ (K : PySem.W.Frag) (cs : List (Addr × Addr)) (L : LT), K.In h ∧ (∀ p ∈ cs, h.get? p.2 = some tab0) ∧ (∀ p ∈ cs, K.lookup p.2 = none) ∧ (∀ p ∈ cs, PySem.W.CodeHd h p.1 p.2) ∧ (∀ p ∈ L.T, p.1 ∈ cs.map (·.2)) ∧
      ∀ base : Heap, K.In base → base.Ns mainGlobals mg → (∀ p ∈ cs, LamX.TabB base mg p.1 p.2) → @EndOk L l.prog w K mg base fa) :
    PySem.W.WalkO q loose XP YP l.row.toRowW d [] (fun f vs => PySem.call f vs) := by
  refine Att.attach_call hn hdf fun w s₀ s₁ mg mb fa o pm cd doc a vs ns G Y ho hd hcd hmg hobj hints hlen hg => ?_
  obtain ⟨K, cs, L, inn, t1, t2, t3, t4, hF⟩ := F w mg fa _ Y G.T.g hmg
  exact @end_tabs L _ w K mg mb fa a cs s₁ vs ns inn G.T.g G.T.b G.T.builtins G.T.nolimit hg t1 t2 t3 G.T.bmain t4 hobj hints hlen hF
end My
namespace My
open PySem PySem.Spec PyProof.Rows L2
theorem oxB_ok {K : PySem.W.Frag} {x f : Str} {bm : List Value} {B newId initId : String} (fb : ExcBaseFacts B newId initId bm) (sf : StoreFacts B bm "object.__setattr__" "object") (h : oxB K x f bm newId = true) :
    OxC K (He.ga K x) f B newId initId bm ∧ PySem.W.findIn K (.ref (He.ga K x)) "__init__" = some (some (.ref (He.ma K (He.ga K x) "__init__"))) ∧ PySem.W.typeIn K (.ref (He.ma K (He.ga K x) "__init__")) = some (.type "function") := by
  obtain ⟨h1, h⟩ := He.ba h
  obtain ⟨h2, h⟩ := He.ba h
  obtain ⟨h3, h⟩ := He.ba h
  obtain ⟨h4, h⟩ := He.ba h
  obtain ⟨h5, h⟩ := He.ba h
  obtain ⟨h6, h⟩ := He.ba h
  obtain ⟨h7, h⟩ := He.ba h
  obtain ⟨h8, h⟩ := He.ba h
  obtain ⟨h9, h10⟩ := He.ba h
  exact ⟨⟨fb, sf, h1, h2, He.eqO_ok h3, He.eqO_ok h4, h5, of_decide_eq_true h6, of_decide_eq_true h7, h8⟩, He.eqO_ok h9, of_decide_eq_true h10⟩
theorem xicB_ok {K : PySem.W.Frag} {C : Addr} (h : xicB K C = true) : XiC K C := by
  obtain ⟨h1, h⟩ := He.ba h
  obtain ⟨h2, h⟩ := He.ba h
  obtain ⟨h3, h⟩ := He.ba h
  obtain ⟨h4, h⟩ := He.ba h
  obtain ⟨h5, h⟩ := He.ba h
  obtain ⟨h6, h⟩ := He.ba h
  obtain ⟨h7, h8⟩ := He.ba h
  exact ⟨h1, He.eqO_ok h2, He.eqO_ok h3, of_decide_eq_true h4, He.eqO_ok h5, He.eqO_ok h6, of_decide_eq_true h7, of_decide_eq_true h8⟩
theorem mem_of_lk {c : Nm} {b : Bool} : ∀ {tb : List (Nm × Bool)}, tb.lookup c = some b → (c, b) ∈ tb
  | [], h => nomatch h
  | (d, e) :: r, h => by
    rw [List.lookup_cons] at h
    cases z : (c == d) with
    | true =>
      rw [z] at h
      cases h
      rw [beq_iff_eq.mp z]
      exact List.mem_cons_self
    | false =>
      rw [z] at h
      exact List.mem_cons_of_mem _ (mem_of_lk h)
theorem xiB_ok {K : PySem.W.Frag} {cv : Value} {tb : List (Nm × Bool)} (h : xiB K cv tb = true) : ∀ c b, tb.lookup c = some b → XiC K (He.ga K (sN c)) ∧ PySem.W.kitOne K (.ref (He.ga K (sN c))) cv = some b := fun c b e => by
  obtain ⟨h1, h2⟩ := He.ba (List.all_eq_true.mp h (c, b) (mem_of_lk e))
  exact ⟨xicB_ok h1, of_decide_eq_true h2⟩
theorem xfs_ok {K : PySem.W.Frag} {f : Nm} {cs : List Nm} (h : xfsB K (sN f) cs = true) : ∀ c ∈ cs, XfC K (He.ga K (sN c)) ∧ PySem.W.findIn K (.ref (He.ga K (sN c))) (sN f) = some none := fun c hc => by
  obtain ⟨h1, h2⟩ := He.ba (List.all_eq_true.mp h c hc)
  exact ⟨L2.xfB_ok h1, He.eqO_ok h2⟩
theorem nm_own {X : Cx} {C : Str} (hm : X.mg C = some (.ref (He.ga X.K C))) (hg : Gl X C := by rfl) (hd : (C == ("__debug__" : Str)) = false := by decide) : Names X C (.ref (He.ga X.K C)) := ⟨hg, hd, .inl hm⟩
theorem nm_blt {X : Cx} {C : Str} {T : String} (hm : X.mg C = none) (hv : bootBuiltins C = some (.type T)) (hg : Gl X C := by rfl) (hd : (C == ("__debug__" : Str)) = false := by decide) (hn : C ≠ "__name__" := by decide) : Names X C (.type T) := ⟨hg, hd, .inr ⟨hm, hv, hn⟩⟩
theorem bt_ValueError : bootBuiltins "ValueError" = some (.type "ValueError") := by decide +kernel
theorem bt_LookupError : bootBuiltins "LookupError" = some (.type "LookupError") := by decide +kernel
theorem bt_ArithmeticError : bootBuiltins "ArithmeticError" = some (.type "ArithmeticError") := by decide +kernel
section
variable [LT] {X : Cx} {fe : FE} {W : WX} {e C : Str} {p q q2 pos : Pos} {tb : List (Nm × Bool)}
end
def isInitB (f g : Str) : List Stmt → Bool
  | [.Assign [.Attribute (.Name s _) f' _] (.Name g' _) _] => decide (s = "self") && (decide (f' = f) && decide (g' = g))
  | _ => false
theorem isInit_ok {f g : Str} {b : List Stmt} (h : isInitB f g b = true) : ∃ p1 p2 p3 pos, b = [.Assign [.Attribute (.Name "self" p1) f p2] (.Name g p3) pos] := by
  unfold isInitB at h
  split at h
  · obtain ⟨h1, h⟩ := He.ba h
    obtain ⟨h2, h3⟩ := He.ba h
    rw [of_decide_eq_true h1, of_decide_eq_true h2, of_decide_eq_true h3]
    exact ⟨_, _, _, _, rfl⟩
  · cases h
section
variable [LT] {X : Cx} {N : EN} {fe : FE} {W : WX} {e : Expr} {d : DE} {x : Str} {p pos pos2 : Pos} {c f : Nm} {D : Nat}
end
@[reducible] def lamT (K : PySem.W.Frag) (tf : List (DefM × Str)) : LT := ⟨tf.map fun d => ((ctM K d.1).2, d.2), none, none⟩
end My
namespace My
open PySem PySem.Spec PyProof.Rows L2
section
variable [LT] {X : Cx} {fe : FE} {W : WX} {k m n : Nat} {e x y qual : Str} {p q pos lpos : Pos} {ps : List Str} {ds : DS} {es : List Expr} {dA : DEs} {st : Stmt}
end
end My
namespace My
open PySem PySem.Spec PyProof.Rows L2
variable [LT]
section
variable {X : Cx} {fe : FE} {W : WX} {e a b : Expr} {d da db : DE} {pos : Pos}
theorem N_Ed (h : PE X e (tN X.K fe W d)) (hl : ∀ fe ρ S v S', d fe ρ S = .ok v S' → ∃ kvs, v = .dct kvs) : PE X e (tE X.K fe W d) := by
  refine ⟨fun pins s σ H Q I q => ?_⟩
  obtain ⟨F, ι, S, ρ, sr, o⟩ := q
  refine thn (h.run pins s σ H (fun v' H' => ∃ p ks, v' = .ref p ∧ H' p = some (.dK ks) ∧ ∀ od, Q (.ref p) (upd H' p (.frz od (.dK ks)))) I ⟨F, ι, S, ρ, sr, ?_⟩) fun v s1 ⟨x, H1, I1, r1, p, ks, ex, h1, q1⟩ => ?_
  · have hl := hl fe ρ S
    revert o hl
    generalize d fe ρ S = r
    intro o hl
    cases r with
    | no => exact o
    | ex x S' => exact o
    | ok v S' =>
      obtain ⟨kvs, ev⟩ := hl v S' rfl
      subst ev
      intro F' ι' v' H' st hr q
      obtain ⟨a, oo, ea, i, h0, f, n, q⟩ := q
      subst ea
      cases i
      obtain ⟨ks, ha, l, r⟩ := q
      refine ⟨a, ks, rfl, ha, fun od => ?_⟩
      have sub : Sub F' (upd F' a (.frz od (.dK ks))) := Sub.upd_new f
      refine o (upd F' a (.frz od (.dK ks))) ι' _ (upd H' a (.frz od (.dK ks))) ⟨st.sub.trans sub, fun b hb fb => ?_, st.pre, st.new, fun b v e hn nt => ?_, fun b hb => ?_⟩ ⟨hr.sub.upd_fz, hr.len, hr.nd, fun b hb => ?_, fun m b u e1 e2 => ?_, ?_⟩ ?_
      · have : b ≠ a := fun e => hb (by rw [e]; exact h0)
        rw [upd_ne this]
        exact st.fresh b hb fb
      · rw [upd_ne (fun z => by rw [z, h0] at e; cases e)]; exact st.keep b v e hn nt
      · rw [upd_ne (fun z => hb (by rw [z]; exact h0))]; exact st.there b hb
      · have : b ≠ a := fun e => n (by rw [← e]; exact hb)
        rw [upd_ne this]
        exact hr.out b hb
      · exact (hr.obj m b u e1 e2).mono sub (Pre.refl _) fun v e _ => by rw [upd_ne (fun z => n (by rw [← z]; exact List.mem_of_getElem? e1))]; exact e
      · exact (hr.tabs.fz (fun u z => by rw [ha] at z; cases z; trivial)).upd (fun u z => by rw [ha] at z; cases z; trivial)
      · show RV _ _ _ (.dct kvs) _
        unfold RV
        exact ⟨a, od, ks, rfl, upd_same, l, RVd.mono sub (Pre.refl _) r⟩
  · subst ex
    obtain ⟨od, I2⟩ := I1.lock h1 trivial
    exact ⟨.ref p, _, I2, r1, q1 od⟩
theorem sim_dnewE : PE X (.Dict [] [] pos) (tE X.K fe W (cstE (.dct []))) := N_Ed sim_dnew fun _ _ _ _ _ h => by cases h; exact ⟨_, rfl⟩
theorem sim_disp1 {k : Str} {n : Int} {j i : Nat} {ks : List Nat} {p1 p2 : Pos} (hk : k = sN ks := by decide +kernel) (ho : (decide (ks.length ≤ lim) && ks.all (· < 1114112)) = true := by decide +kernel) :
    PE X (.Dict [some (.Constant (.str k) j p1)] [.Constant (.int n) i p2] pos) (tN X.K fe W (cstE (.dct [(.str ks, .int n)]))) := by
  have hok : sOk ks := by simpa [sOk] using ho
  refine PE.imp (pe_disp (pps_cons pe_str pe_int pps_nil) rfl rfl (by simp) (by simp)) fun σ H Q h => ?_
  obtain ⟨F, ι, S, ρ, sr, o⟩ := h
  intro p hp
  show tPairs _ σ (upd H p (.dK [])) _
  refine ⟨upd_same, [(Sum.inr k, .int n)], rfl, by simp, ?_⟩
  have e : upd (upd H p (.dK [])) p (.dK (mergeK [] [(Sum.inr k, V.int n)])) = upd H p (.dK [(Sum.inr k, V.int n)]) := by
    funext b
    by_cases hb : b = p
    · subst hb; rw [upd_same, upd_same]; rfl
    · rw [upd_ne hb, upd_ne hb, upd_ne hb]
  rw [e]
  refine o F ι _ _ (Step.nw sr.hr hp) (sr.hr.nw hp) ⟨p, .dct [(.str ks, .int n)], rfl, rfl, hp, free_of sr.hr.sub hp, sr.hr.notIn hp, [(Sum.inr k, .int n)], upd_same, (by show 1 ≤ lim; decide), ?_⟩
  show RVd _ _ _ _ _
  unfold RVd
  refine ⟨_, _, _, rfl, ?_, RV_int _, rfl⟩
  show Sum.inr k = Sum.inr (sN ks) ∧ sOk ks
  exact ⟨by rw [hk], hok⟩
theorem sim_disp1E {k : Str} {n : Int} {j i : Nat} {ks : List Nat} {p1 p2 : Pos} (hk : k = sN ks := by decide +kernel) (ho : (decide (ks.length ≤ lim) && ks.all (· < 1114112)) = true := by decide +kernel) :
    PE X (.Dict [some (.Constant (.str k) j p1)] [.Constant (.int n) i p2] pos) (tE X.K fe W (cstE (.dct [(.str ks, .int n)]))) := N_Ed (sim_disp1 hk ho) fun _ _ _ _ _ h => by cases h; exact ⟨_, rfl⟩
section
variable {p apos cpos : Pos}
end
end
theorem sN_back (s : Str) : sN s.cps.toList = s := by
  obtain ⟨⟨l⟩⟩ := s
  rfl
section
variable {X : Cx} {fe : FE} {W : WX} {a b : Expr} {da db : DE} {pos p : Pos}
theorem reads_at {K : PySem.W.Frag} {F : Hp} {ι : List Addr} {H : Hp} {h : Heap} {x : PV} {v : V} {u : Value} (hx : isAt x = true) (r : RV K F ι x v) (ru : RelV v u) : Reads h u (toD x) [] := by
  cases x <;> first | (cases hx; done) | skip
  · have e : v = .non := by simpa [RV] using r
    subst e; cases ru; exact Reads.none
  · rename_i c
    have e : v = .bl c := by simpa [RV] using r
    subst e; cases ru; exact Reads.bool _
  · rename_i c
    have e : v = .int c := by simpa [RV] using r
    subst e; obtain ⟨t, rfl⟩ := ru; exact Reads.int _ t
  · rename_i c
    have e := (show v = .str (sN c) ∧ sOk c by simpa [RV] using r).1
    subst e; obtain ⟨t, rfl⟩ := ru; exact Reads.str _ t
theorem reads_dct {P : Program} {w : World} {K : PySem.W.Frag} {F : Hp} {ι : List Addr} {h : Heap} : ∀ {kvs : List (PV × PV)} {ks : List (Key × V)} {vs : List (Key × Value)} {es : List DictEntry}, RVd K F ι kvs ks → KV ks vs → PySem.Pairs (mixKind P w) es vs →
    (kvs.all fun p => isKy p.1 && isAt p.2) = true → ReadsAll h (es.map (·.key)) ((kvs.map fun p => (toD p.1, toD p.2)).map (·.1)) [] ∧ ReadsAll h (es.map (·.val)) ((kvs.map fun p => (toD p.1, toD p.2)).map (·.2)) []
  | [], ks, vs, es, r, kv, pr, ok => by
    cases (show ks = [] from r)
    cases kv
    cases pr
    exact ⟨.nil, .nil⟩
  | (k, x) :: kvs, ks, vs, es, r, kv, pr, ok => by
    unfold RVd at r
    obtain ⟨kk, v, t, rfl, rk, rx, rt⟩ := r
    cases kv with
    | cons hkv kv =>
      cases pr with
      | cons pk pv pr =>
        simp only [List.all_cons, Bool.and_eq_true] at ok
        obtain ⟨q1, q2⟩ := reads_dct (h := h) rt kv pr ok.2
        refine ⟨?_, ?_⟩
        · refine ReadsAll.cons (as := []) ?_ q1
          rename_i kvv _ en es2
          obtain ⟨z1, z2⟩ := hkv
          have pk' : keyIs kk en.key = true := by rw [show kk = kvv.1 from z1]; exact pk
          cases k <;> first | (simp [isKy] at ok; done) | skip
          · have e : kk = Sum.inl _ := rk
            subst e
            rcases keyIs_shape pk' with ⟨i, t, e1, e2⟩ | ⟨z, t, e1, e2⟩
            · cases e1; show Reads h en.key _ []; rw [e2]; exact Reads.int _ t
            · cases e1
          · have e : kk = Sum.inr (sN _) := rk.1
            subst e
            rcases keyIs_shape pk' with ⟨i, t, e1, e2⟩ | ⟨z, t, e1, e2⟩
            · cases e1
            · cases e1; show Reads h en.key _ []; rw [e2]; exact Reads.str _ t
        · refine ReadsAll.cons (as := []) ?_ q2
          obtain ⟨z1, z2⟩ := hkv
          refine reads_at (H := F) ok.1.2 rx ?_
          show RelV v (DictEntry.val _)
          rw [pv]
          exact z2
theorem c_reprS (hg : X.A.guards = some []) (hu : X.A.units + 64 < cLine) : CallR X (.builtin "repr") (rC1 X.K pyReprS) := by
  intro pins s σ H xs us Q I r h
  obtain ⟨x', rfl, F, ι, S, px, pv, hr, qx, e, f⟩ := h
  unfold pyReprS at e
  split at e
  · rename_i c
    cases e
    unfold reprOk at c
    simp only [Bool.and_eq_true, decide_eq_true_eq] at c
    obtain ⟨⟨c1, c2⟩, c3, c4⟩ := c
    have hok : sOk (shx px) := ⟨c3, c4⟩
    by_cases hd : dctAt px = true
    · cases px <;> first | (cases hd; done) | skip
      rename_i kvs
      obtain ⟨a, ks, rfl, rd, hl, rv⟩ := rW_dct hr.sub qx
      obtain ⟨u, rfl, ru⟩ := vals1 r
      cases ru
      obtain ⟨_, hns, vs, kv, o, es, ep, h1, h2, h3, h4, h5, h6⟩ := dk_rd I.hok rd
      obtain ⟨q1, q2⟩ := reads_dct (P := X.prog) (w := X.w) (h := s.heap) rv kv h5 hd
      have rds : Reads s.heap (.ref a) (toDx (.dct kvs)) [a] := Reads.dict (as := []) (bs := []) h1 h2.1 h3 q1 q2
      have hdep : (toDx (.dct kvs)).depth ≤ 2 := by
        show (PyData.dict _).depth ≤ 2
        have : ∀ l : List (PV × PV), (l.all fun p => isKy p.1 && isAt p.2) = true → PyData.depthKv (l.map fun p => (toD p.1, toD p.2)) ≤ 1 := by
          intro l
          induction l with
          | nil => intro _; simp [PyData.depthKv]
          | cons p l ih =>
            intro hl
            simp only [List.all_cons, Bool.and_eq_true] at hl
            have h1 : (toD p.1).depth ≤ 1 := by
              have := hl.1.1
              cases e : p.1 <;> rw [e] at this <;> first | (simp [isKy] at this; done) | simp [toD, PyData.depth]
            have h2 : (toD p.2).depth ≤ 1 := by
              have := hl.1.2
              cases e : p.2 <;> rw [e] at this <;> first | (simp [isAt] at this; done) | simp [toD, PyData.depth]
            have h3 := ih hl.2
            simp only [List.map_cons, PyData.depthKv]
            omega
        have := this kvs hd
        simp only [PyData.depth]
        omega
      refine repr_of_reads' (h₀ := s.heap) rds c2 (fun _ hm => ?_) hg (by omega) (fun _ _ e => e) (fun h' tk1 tk keep => ?_) (by rw [lim_eq]; exact c3)
      · rw [List.mem_singleton] at hm
        rw [← hm] at hns
        simp at hns
      · have I2 : Inv X pins σ H { s with heap := h', toks := tk } := I.kept (t' := tk) keep
        refine ⟨.str (sN (shx (.dct kvs))), H, I2, ⟨tk1, ?_⟩, f.same hr (RV_str hok)⟩
        show Value.str (toDx (.dct kvs)).shown _ = Value.str (sN (shx (.dct kvs))) _
        rw [show sN (shx (.dct kvs)) = (toDx (.dct kvs)).shown from sN_back _]
    · have c1' : (isSeq px || isAt px) = true ∧ shp 40 px = true := by
        rcases Bool.or_eq_true _ _ ▸ c1 with c | c
        · simpa using c
        · exact absurd c hd
      have ex : toDx px = toD px := by cases px <;> first | rfl | (exfalso; simp [isSeq, isAt] at c1'; done)
      have el : shw px = sN (shx px) := by
        show (toD px).shown = sN _
        unfold shx
        rw [ex, sN_back]
      refine c_repr hg hu pins s σ H _ us Q I r ⟨x', rfl, F, ι, S, px, .rep px, hr, qx, ?_, fun F4 v4 H4 st4 hr4 r4 => f F4 v4 H4 st4 hr4 ?_⟩
      · unfold pyRepr
        rw [if_pos]
        simp only [Bool.and_eq_true, decide_eq_true_eq]
        refine ⟨⟨⟨c1'.1, c1'.2⟩, by rw [← ex]; exact c2⟩, ?_⟩
        rw [el, sN_len, lim_eq]
        exact c3
      · have e4 : v4 = .str (toD px).shown := by unfold RV at r4; exact r4
        rw [e4, show (toD px).shown = sN (shx px) from el]
        exact RV_str hok
  · cases e
theorem k_reprS (hg : X.A.guards = some []) (hu : X.A.units + 64 < cLine) (hm : X.mg "repr" = none) (ha : PE X a (tO X.K fe W da)) (hs : isSt a = false := by rfl) (hgl : Gl X "repr" := by rfl) : PE X (.Call (.Name "repr" p) [a] [] pos) (tE X.K fe W (un pyReprS da)) :=
  sim_b1 (c_reprS hg hu) hgl hm (by decide +kernel) ha hs
end
end My
namespace My
open PySem PySem.Spec PyProof.Rows L2
section
open PySem.SeqAt PySem.AutoSeq1 PySem.MeetsSeq
end
variable [LT]
section
variable {X : Cx}
end
end My
namespace My
open PySem PySem.Spec PyProof.Rows L2
section
variable {prog : Program} {w : World} {A : Around} {E : Value → Shared → Prop} {s : Shared}
end
variable [LT]
section
variable {X : Cx} {fe : FE} {W : WX} {e a : Expr} {d da : DE} {pos p : Pos}
end
end My
namespace My
open PySem PySem.Spec PyProof.Rows L2
variable [LT]
section
variable {X : Cx} {fe : FE} {W : WX} {e a : Expr} {d da : DE} {pos p : Pos}
end
section
variable {X : Cx} {T : Tab} {D : Nat} {W : WX} {a : Expr} {da : DE} {pos p : Pos} {c : Nm} {fd : FuncData} {ps : List Str}
end
end My
namespace My
open PySem PySem.Spec PyProof.Rows L2
section
end
section
variable {X : Cx}
end
variable [LT]
section
variable {X : Cx}
end
end My
namespace My
open PySem PySem.Spec PyProof.Rows L2
variable [LT]
section
variable {prog : Program} {w : World} {A : Around} {E : Value → Shared → Prop} {s : Shared} {K : PySem.W.Frag} {x y C f : Addr} {ox oy : Obj} {od od' : Option Obj}
end
section
variable {X : Cx} {T : Tab} {D : Nat} {W : WX} {a b : Expr} {da db : DE} {pos : Pos} {c : Nm} {fa : Addr} {fd : FuncData} {ps : List Str}
end
end My
namespace My
open PySem PySem.Spec PyProof.Rows L2
variable [LT]
section
variable {X : Cx} {fe : FE} {W : WX} {a : Expr} {da : DE} {pos p q : Pos} {x : Str}
end
end My
namespace My
open PySem PySem.Spec PyProof.Rows L2
variable [LT]
section
variable {P : Program} {w : World} {h h' : Heap} {a : Addr} {S : Str → Bool} {n : Nat}
theorem SetS.congr {S' : Str → Bool} (R : SetS w h a S) (e : ∀ k, S' k = S k) : SetS w h a S' := by
  have q : S' = S := funext e
  rw [q]; exact R
end
section
variable {P : Program} {w : World} {A : Around} {E : Value → Shared → Prop} {s : Shared} {a : Addr} {S : Str → Bool} {n : Nat}
end
end My
namespace My
open PySem PySem.Spec PyProof.Rows L2
variable [LT]
section
variable {prog : Program} {w : World} {A : Around} {R : Result → Shared → Prop} {J : Addr} {fp wr : List Addr} {G : Array GenState → Array GenState → Prop} {n : Nat} {Pw : Nat → Value → Prop} {St : Nat → Shared → Prop}
end
section
variable {prog : Program} {w : World} {A : Around} {E : Value → Shared → Prop} {s : Shared}
end
end My
namespace My
open PySem PySem.Spec PyProof.Rows L2
variable [LT]
section
variable {P : Program} {w : World} {A : Around} {E : Value → Shared → Prop} {s : Shared} {a : Addr}
end
section
variable {X : Cx} {fe : FE} {W : WX} {a : Expr} {da : DE} {pos p p2 q : Pos}
end
end My
namespace My
open PySem PySem.Spec PyProof.Rows L2
variable [LT]
section
variable {X : Cx} {T : Tab} {D : Nat} {W : WX} {e : Expr} {es : List Expr} {ds : DEs} {p pos apos : Pos} {f c : Nm} {ps : List Str} {y qual : Str} {st : Stmt}
end
end My
namespace My
open PySem PySem.Spec PyProof.Rows L2
variable [LT]
section
variable {X : Cx} {T : Tab} {D : Nat} {W : WX} {ds : DEs} {p pos apos : Pos} {f c : Nm} {ps : List Str} {y qual : Str} {st : Stmt} {kws : List Keyword} {ks : List Str} {q : List Nat}
end
section
variable {X : Cx} {fe : FE} {W : WX} {e : Expr} {d : DE} {pos : Pos}
end
end My
namespace My
open PySem PySem.Spec PyProof.Rows L2
variable [LT]
section
variable {X : Cx} {fe : FE} {W : WX} {e : Expr} {d : DE} {pos : Pos}
end
end My
namespace My
open PySem PySem.Spec PyProof.Rows L2
variable [LT]
section
variable {P : Program} {w : World} {A : Around} {E : Value → Shared → Prop} {s : Shared} {a : Addr}
end
section
variable {X : Cx} {fe : FE} {W : WX} {a : Expr} {da : DE} {pos p p2 q : Pos}
end
end My
namespace My
open PySem PySem.Spec PyProof.Rows L2
variable [LT]
section
variable {prog : Program} {w : World} {A : Around} {E : Value → Shared → Prop} {s : Shared}
end
section
variable {X : Cx} {fe : FE} {W : WX} {a : Expr} {da : DE} {pos p p2 q : Pos}
end
end My
namespace My
open PySem PySem.Spec PyProof.Rows L2
variable [LT]
theorem SR.after {K : PySem.W.Frag} {F : Hp} {ι : List Addr} {H : Hp} {S : IS} {σ σ2 : L2.St} {ρ : Rho} {i : Nat} {v : PV} {x : V} (r : SR K F ι σ ρ H S) (hl : σ2.length = σ.length) (ho : ∀ j, j ∉ [i] → σ2[j]? = σ[j]?) (hx : σ2[i]? = some (some x)) (hv : RV K F ι v x) : SR K F ι σ2 (ρ.set i (.val v)) H S where
  hr := r.hr
  len := by rw [hl, r.len, List.length_set]
  at_ := fun j s e => by
    by_cases h : i = j
    · subst h
      have hi : i < ρ.length := by simpa using (List.getElem?_eq_some_iff.mp e).1
      rw [List.getElem?_set_self hi] at e
      cases e
      exact ⟨_, hx, ⟨x, rfl, hv⟩⟩
    · rw [List.getElem?_set_ne h] at e
      obtain ⟨y, e1, e2⟩ := r.at_ j s e
      exact ⟨y, by rw [ho j (by simpa using fun z => h z.symm)]; exact e1, e2⟩
  ap := fun j k o u a hjk h1 h2 h3 => by
    have ne : ∀ (j : Nat) (o : IO), (ρ.set i (Slot.val v))[j]? = some (.own o) → i ≠ j := fun j o e z => by
      subst z
      have hi : i < ρ.length := by simpa using (List.getElem?_eq_some_iff.mp e).1
      rw [List.getElem?_set_self hi] at e
      cases e
    have n1 := ne _ _ h1
    have n2 := ne _ _ h2
    rw [List.getElem?_set_ne n1] at h1
    rw [List.getElem?_set_ne n2] at h2
    rw [ho j (by simpa using fun z => n1 z.symm)] at h3
    rw [ho k (by simpa using fun z => n2 z.symm)]
    exact r.ap j k o u a hjk h1 h2 h3
section
variable {X : Cx} {fe : FE} {W : WX} {elt tg iter tg1 iter1 : Expr} {ifs ifs1 : List Expr} {scope : Scope} {own : List (Str × Nat)} {i0 : Nat} {vs1 : List Nat} {pos : Pos} {it it1 : DI} {t1 : DT} {dc dc1 de : DE}
end
end My
namespace My
open PySem PySem.Spec PyProof.Rows L2
variable [LT]
section
variable {X : Cx}
end
section
variable {prog : Program} {w : World} {A : Around} {E : Value → Shared → Prop} {s : Shared}
end
section
variable {X : Cx} {fe : FE} {W : WX} {a : Expr} {da : DE} {pos p p2 q : Pos}
end
end My
namespace My
open PySem PySem.Spec PyProof.Rows L2
section
open PySem.SeqAt PySem.AutoSeq1 PySem.MeetsSeq
end
section
variable {prog : Program} {w : World} {A : Around} {E : Value → Shared → Prop} {s : Shared} {x l : Addr} {Q : Option Value → Shared → Prop}
end
section
variable {prog : Program} {w : World} {A : Around} {E : Value → Shared → Prop} {s : Shared} {K : PySem.W.Frag} {x C f : Addr} {ox : Obj} {od : Option Obj} {v : Value} {T : String}
end
variable [LT]
section
variable {X : Cx} {pins : List (Addr × Obj)} {s : Shared} {σ : L2.St} {H : Hp} {y : V} {u : Value} {T : String}
end
section
variable {X : Cx} {T : Tab} {D : Nat} {W : WX} {a b : Expr} {da db : DE} {pos : Pos} {c : Nm} {fa : Addr} {fd : FuncData} {ps : List Str}
end
end My
namespace My
open PySem PySem.Spec PyProof.Rows L2
section
variable {prog : Program} {w : World} {A : Around} {E : Value → Shared → Prop} {s : Shared} {K : PySem.W.Frag} {x C f : Addr} {ox : Obj} {od : Option Obj}
end
variable [LT]
section
variable {X : Cx} {T : Tab} {D : Nat} {W : WX} {a : Expr} {da : DE} {pos p : Pos} {c : Nm} {fd : FuncData} {ps : List Str}
end
end My
namespace My
open PySem PySem.Spec PyProof.Rows L2
variable [LT]
section
variable {K : PySem.W.Frag} {F : Hp} {ι : List Addr}
end
section
variable {X : Cx} {N : EN} {T : Tab} {D : Nat} {fe : FE} {W : WX} {e o : Expr} {dO d : DE} {pos p : Pos} {c g : Nm} {es : List Expr} {ds : DEs} {fa : Addr} {fd : FuncData} {ps : List Str} {x : Str}
end
end My
namespace My
open PySem PySem.Spec PyProof.Rows L2
variable [LT]
section
variable {X : Cx} {N : EN} {T : Tab} {D : Nat} {fe : FE} {W : WX} {e o : Expr} {dO d : DE} {pos p : Pos} {c g : Nm} {x : Str}
end
end My
namespace My
open PySem PySem.Spec PyProof.Rows L2
variable [LT]
section
variable {X : Cx} {N : EN} {fe : FE} {W : WX} {e k : Expr} {dk d : DE} {pos : Pos} {i : Nat} {x : Str}
end
section
variable {X : Cx} {N : EN} {T : Tab} {D : Nat} {fe : FE} {W : WX} {e : Expr} {es : List Expr} {ds : DEs} {pos p : Pos} {c : Nm} {ps : List Str} {y qual : Str} {st : Stmt}
end
section
variable {X : Cx} {N : EN} {fe : FE} {W : WX} {e : Expr} {d : DE} {pos : Pos}
end
end My
namespace My
section
variable {c : Nm} {d o e : DE} {a b : DS} {i : Nat} {it : DI}
end
end My
namespace My
open PySem PySem.Spec PyProof.Rows L2
variable [LT]
section
variable {X : Cx} {fe : FE} {W : WX} {a b : Expr} {da db : DE} {apos cpos : Pos}
end
end My
namespace My
open PySem PySem.Spec PyProof.Rows L2
variable [LT]
section
variable {X : Cx} {fe : FE} {W : WX} {a : Expr} {da : DE} {pos : Pos}
end
end My
namespace My
open PySem PySem.Spec PyProof.Rows L2
variable [LT]
section
variable {X : Cx} {N : EN} {fe : FE} {W : WX} {C : Addr} {bmB : List Value} {B newId initId : String} {x : Str} {p pos pos2 : Pos} {c : Nm}
structure XN0 (K : PySem.W.Frag) (c : Nm) : Prop where
  ex : ∃ (B newId initId : String) (bm : List Value), ExcBaseFacts B newId initId bm ∧ PySem.W.excIn K (He.ga K (sN c)) bm newId = true
  kp : PySem.W.keepIn K (.ref (He.ga K (sN c))) = true
  sb : PySem.W.subIn K (.ref (He.ga K (sN c))) (.type "BaseException") = some true
  ty : PySem.W.typeIn K (.ref (He.ga K (sN c))) = some (.type "type")
omit [LT] in
theorem xn0_of {K : PySem.W.Frag} {B newId initId : String} {bm : List Value} (fb : ExcBaseFacts B newId initId bm) (h : (PySem.W.excIn K (He.ga K (sN c)) bm newId && (PySem.W.keepIn K (.ref (He.ga K (sN c))) && (decide (PySem.W.subIn K (.ref (He.ga K (sN c))) (.type "BaseException") = some true) && decide (PySem.W.typeIn K (.ref (He.ga K (sN c))) = some (.type "type"))))) = true) : XN0 K c := by
  obtain ⟨h1, h⟩ := He.ba h
  obtain ⟨h2, h⟩ := He.ba h
  obtain ⟨h3, h4⟩ := He.ba h
  exact ⟨⟨B, newId, initId, bm, fb, h1⟩, h2, of_decide_eq_true h3, of_decide_eq_true h4⟩
end
end My
namespace My
open PySem PySem.Spec PyProof.Rows L2
section
open Sem (wp)
variable {prog : Program} {w : World} {A : Around} {E : Value → Shared → Prop} {s : Shared}
end
variable [LT]
section
variable {K : PySem.W.Frag} {F : Hp} {ι : List Addr}
end
section
variable {X : Cx} {fe : FE} {W : WX} {a : Expr} {da : DE} {pos p tpos : Pos} {elts : List Expr} {kk : Nat}
end
section
variable {X : Cx} {T : Tab} {D : Nat} {W : WX} {o : Expr} {d : DE} {x m : Str} {pos apos : Pos} {f c : Nm} {fa : Addr} {fd : FuncData} {ps : List Str}
end
end My
namespace My
open PySem PySem.Spec PyProof.Rows L2
end My
namespace My
open PySem PySem.Spec PyProof.Rows L2
section
variable {prog : Program} {w : World} {A : Around} {E : Value → Shared → Prop} {s : Shared} {K : PySem.W.Frag} {x C : Addr} {ox : Obj} {od : Option Obj} {v t : Value}
end
end My
namespace My
open PySem PySem.Spec PyProof.Rows L2
section
open PySem.SeqAt PySem.AutoSeq1 PySem.MeetsSeq
end
section
variable {prog : Program} {w : World} {A : Around} {E : Value → Shared → Prop} {s : Shared} {K : PySem.W.Frag} {x C f : Addr} {ox : Obj} {od : Option Obj} {v : Value}
end
variable [LT]
section
variable {X : Cx} {T : Tab} {D : Nat} {fe : FE} {W : WX} {a b : Expr} {da db : DE} {pos p : Pos} {c cw : Nm} {fa : Addr} {fd : FuncData} {ps : List Str}
end
end My
namespace My
open PySem PySem.Spec PyProof.Rows L2
variable [LT]
section
variable {X : Cx} {T : Tab} {D : Nat} {fe : FE} {W : WX} {a b : Expr} {da db : DE} {pos p q : Pos} {c cw : Nm} {fa : Addr} {fd : FuncData} {ps : List Str}
end
section
variable {X : Cx} {T : Tab} {D : Nat} {W : WX} {kws : List Keyword} {ks : List Str} {q : List Nat} {ds : DEs} {pos p : Pos} {c : Nm} {x : Str} {fa : Addr} {fd : FuncData} {ps : List Str}
end
end My
namespace My
open PySem PySem.Spec PyProof.Rows L2
variable [LT]
section
variable {X : Cx} {fe : FE} {W : WX} {a : Expr} {da : DE} {pos p : Pos}
end
end My
namespace My
open PySem PySem.Spec PyProof.Rows L2
section
variable [LT]
end
section
variable [LT]
variable {X : Cx} {fe : FE} {W : WX} {a : Expr} {da : DE} {x : Str} {pos p : Pos} {tbl : List (List Nat × Int)}
end
end My
namespace My
open PySem PySem.Spec PyProof.Rows L2
variable [LT]
section
variable {X : Cx} {fe : FE} {W : WX} {o : Expr} {da : DE} {pos apos : Pos}
end
end My
namespace My
open PySem PySem.Spec PyProof.Rows L2
variable [LT]
section
variable {X : Cx} {fe : FE} {W : WX} {a b : Expr} {da db : DE} {pos : Pos}
end
section
variable {K : PySem.W.Frag} {F : Hp} {ι : List Addr} {n : Nat}
end
section
variable {X : Cx} {N : EN} {fe : FE} {W : WX} {sts : List Stmt} {ds : DS}
end
section
variable {X : Cx} {N : EN} {fe : FE} {W : WX} {e tg : Expr} {d : DE} {pos : Pos}
end
end My
namespace My
open PySem PySem.HandSPX PySem.W Calls
section
variable {M : Model} {A : Around} {E : Value → Shared → Prop} {hp : Heap} {gs : Array GenState} {dr : Drawn} {tk : Nat} {os : OsState}
variable {nm qn : Str} {C N : Addr} {bs bm bmB : List Value} {hdct : Bool} {sn : List Str} {sub : List Value} {ab : Bool} {col : Option Bool} {dd : Option Addr} {k0 k1 k2 k3 k5 : Option Value} {B newId initId : String}
theorem chk_kw (F : ExcBaseFacts B newId initId bmB) (has : ∀ T : String, bm.contains (.type T) = bmB.contains (.type T)) {l : List Value} {kw : List (Str × Value)} {Q : Unit → Shared → Prop} (lk : hp.get? C = some (excClassObj nm qn C N bs bm hdct sn sub ab col dd k0 k1 k2 k3 k5 newId))
    (q : Q () ⟨hp, gs, dr, tk, os⟩) : wpAny M A (checkBuiltinCall newId ⟨.ref C :: l, kw⟩) Q E ⟨hp, gs, dr, tk, os⟩ := by
  have c1 : (Value.ref C :: bm).contains (.type B) = true := by
    rw [List.contains_cons, has, F.hasB]
    exact Bool.or_true _
  have c2 := F.noStar
  simp only [checkBuiltinCall, F.newKind, F.newSplit, F.newRow]
  repeat (first
    | refine wpAny_loadPart_at lk ?_
    | (refine wpAny_isSubtype_exc lk ?_; rw [c1])
    | refine wpAny_staticBase_exc lk ?_
    | refine wpAny_madeBy_exc lk ?_
    | simp only [bne_self_eq_false, Bool.false_eq_true, if_false]
    | wp_step)
  exact q
end
section
variable {P : Program} {w : World} {A : Around} {E : Value → Shared → Prop} {R : Result → Shared → Prop} {hp : Heap} {gs : Array GenState} {dr : Drawn} {tk : Nat} {os : OsState}
variable {nm qn : Str} {C N : Addr} {bs bm bmB : List Value} {hdct : Bool} {sn : List Str} {sub : List Value} {ab : Bool} {col : Option Bool} {dd : Option Addr} {k0 k1 k2 k3 k5 : Option Value} {B newId initId : String}
theorem new_kw (F : ExcBaseFacts B newId initId bmB) (has : ∀ T : String, bm.contains (.type T) = bmB.contains (.type T)) {l : List Value} {kw : List (Str × Value)} (lk : hp.get? C = some (excClassObj nm qn C N bs bm hdct sn sub ab col dd k0 k1 k2 k3 k5 newId))
    (q : R (.ok (.ret (.ref (hp.objs.size + 1)))) ⟨(hp.push (kdv_tup l)).push (excO C hp.objs.size), gs, dr, tk, os⟩) (sz : l.length ≤ sizeLine) :
    codeAny (model P w) A (.builtin newId ⟨.ref C :: l, kw⟩) R ⟨hp, gs, dr, tk, os⟩ := by
  have c0 := F.ends
  have cB : (Value.ref C :: bm).contains (.type B) = true := by
    rw [List.contains_cons, has, F.hasB]
    exact Bool.or_true _
  have cA : (Value.ref C :: bm).contains (.type "AttributeError") = false := by
    rw [List.contains_cons, has, F.noAttr] <;> rfl
  have cN : (Value.ref C :: bm).contains (.type "NameError") = false := by
    rw [List.contains_cons, has, F.noName] <;> rfl
  refine codeAny_builtinAt F.entry ?_
  unfold Builtin.«BaseException.__new__»
  refine PySem.wpAt_bind ?_
  show PySem.wpAt _ _ _ (stack >>= _) _ _ _
  refine PySem.wpAt_bind (wpAt_stack fun p below => wpAt_of_wpAny ?_)
  wp_walk
  refine wpAt_of_wpAny ?_
  rw [F.owner]
  repeat (first
    | with_reducible refine wpAny_madeHere_exc F.canon lk ?_
    | with_reducible refine wpAny_loadPart_at lk ?_
    | (with_reducible refine wpAny_isSubtype_exc lk ?_; first | rw [cB] | rw [cA] | rw [cN])
    | wp_step)
  show R _ _
  rw [Heap.size_push]
  exact q
theorem make_kw (F : ExcBaseFacts B newId initId bmB) (has : ∀ T : String, bm.contains (.type T) = bmB.contains (.type T)) {l : List Value} {kw : List (Str × Value)} {fI : Addr} {Q : PySem.Fin → Shared → Prop} (lk : hp.get? C = some (excClassObj nm qn C N bs bm hdct sn sub ab col dd k0 k1 k2 k3 k5 newId))
    (li : PySem.W.Looks (model P w) hp (typeLookup (.ref C) "__init__") (some (.ref fI))) (lb : ∀ self, PySem.W.Looks (model P w) hp (bindSpecial (.ref fI) self) (.ref fI, [self])) (sz : l.length ≤ sizeLine)
    (q : codeAny (model P w) A (.call (.ref fI) ⟨.ref (hp.objs.size + 1) :: l, kw⟩) (fun r s' => match r with
        | .ok (.ret v) => v = .none ∧ Q (.done (.ret (.ref (hp.objs.size + 1)))) s'
        | .ok _ => False
        | .error e => E e s') ⟨(hp.push (kdv_tup l)).push (excO C hp.objs.size), gs, dr, tk, os⟩) :
    wpAny (model P w) A (Builtin.«type.__call__» ⟨.ref C :: l, kw⟩) Q E ⟨hp, gs, dr, tk, os⟩ := by
  repeat (first
    | with_reducible refine wpAny_loadPart_at lk ?_
    | with_reducible refine wpAny_madeBy_exc lk ?_
    | wp_step)
  refine codeAny_call_builtin_code (Code.quiet_builtin _ F.quiet) (chk_kw F has lk ?_)
  refine new_kw F has lk ?_ sz
  show wpAny _ _ _ _ _ _
  have kp : ∀ b o, hp.get? b = some o → ((hp.push (kdv_tup l)).push (excO C hp.objs.size)).get? b = some o := fun b o z => Heap.get?_push_of_some _ (Heap.get?_push_of_some _ z)
  have lk1 := kp _ _ lk
  have lx : ((hp.push (kdv_tup l)).push (excO C hp.objs.size)).get? (hp.objs.size + 1) = some (excO C hp.objs.size) := by heap_get
  have cC : (Value.ref C :: bm).contains (.ref C) = true := by simp
  have i1 := li.keeps kp
  have b1 := (lb (.ref (hp.objs.size + 1))).keeps kp
  unfold isInstance
  repeat (first
    | with_reducible refine wpAny_loadPart_at lx ?_
    | (with_reducible refine wpAny_isSubtype_exc lk1 ?_; rw [cC])
    | wp_step)
  show wpAny _ _ (typeLookup (.ref C) _) _ _ _
  refine i1.at ?_
  refine wpAny_holding (wpAny_bind (b1.at ?_))
  refine wpAny_bind (wpAny_call (codeAny_mono q fun r s' z => ?_))
  rcases r with e | (_ | _ | _ | _)
  all_goals first
    | exact z
    | exact z.elim
    | (obtain ⟨e1, z⟩ := z; subst e1; exact wpAny_pure (wpAny_pure z))
theorem call_kw (F : ExcBaseFacts B newId initId bmB) (has : ∀ T : String, bm.contains (.type T) = bmB.contains (.type T)) {l : List Value} {kw : List (Str × Value)} {fI : Addr} (lk : hp.get? C = some (excClassObj nm qn C N bs bm hdct sn sub ab col dd k0 k1 k2 k3 k5 newId))
    (li : PySem.W.Looks (model P w) hp (typeLookup (.ref C) "__init__") (some (.ref fI))) (lb : ∀ self, PySem.W.Looks (model P w) hp (bindSpecial (.ref fI) self) (.ref fI, [self])) (sz : l.length ≤ sizeLine)
    (q : codeAny (model P w) (A.under (.builtin "type.__call__" ⟨.ref C :: l, kw⟩)) (.call (.ref fI) ⟨.ref (hp.objs.size + 1) :: l, kw⟩) (InitBack (hp.objs.size + 1) R) ⟨(hp.push (kdv_tup l)).push (excO C hp.objs.size), gs, dr, tk, os⟩) :
    codeAny (model P w) A (.call (.ref C) ⟨l, kw⟩) R ⟨hp, gs, dr, tk, os⟩ := by
  have t1 := tc_lookup
  have t2 := tc_bind (.ref C)
  have ty : (⟨hp, gs, dr, tk, os⟩ : Shared).TypeIs (.ref C) "type" := ⟨_, lk, rfl⟩
  refine codeAny_of_tree ?_
  show wpAny _ _ (callAny (.ref C) _) _ _ _
  repeat (any_goals (first
    | assumption
    | with_reducible refine wpAny_loadPart_at lk ?_
    | wp_step))
  refine ⟨rfl, ?_⟩
  refine codeAny_call_builtin_at (Code.quiet_builtin _ (by decide +kernel)) entry_typeCall (wpAny_check_type_call_sub lk (make_kw F has lk li lb sz ?_))
  refine codeAny_mono q fun r s' z => ?_
  rcases r with e | (v | _ | _ | _)
  all_goals exact z
end
end My
namespace My
open PySem PySem.Spec PyProof.Rows L2
section
variable [LT] {X : Cx} {pins : List (Addr × Obj)} {σ : L2.St} {H : Hp} {s : Shared} {C fI : Addr} {f : Str} {k : Nat} {fd : FuncData} {ps : List Str} {B newId initId : String} {bm : List Value} {us : List Value} {kw : List (Str × Value)} {u0 : Value} {y : V} {Q : VK}
theorem run_mkV (T : OxC X.K C f B newId initId bm) (iC : PySem.W.findIn X.K (.ref C) "__init__" = some (some (.ref fI))) (tI : PySem.W.typeIn X.K (.ref fI) = some (.type "function"))
    (F1 : FnOk X.prog X.w X.K X.mg X.base (L2.CX X.prog X.w) k fI fd ps (spX C f)) (hr : Room (k + 1) X.A) (hb : ∀ (s1 : Shared) (a : Addr), X.K.In s1.heap → BindsTo s1 fd ⟨Value.ref a :: us, kw⟩ (ps.zip [Value.ref a, u0])) (hx : Passes (L2.CX X.prog X.w) X (fun _ _ _ => False))
    (I : Inv X pins σ H s) (ry : RelV y u0) (sz : us.length ≤ sizeLine) (h : ∀ a d, H a = none → H d = none → d ≠ a → Q (.ref a) (upd (upd H d (exd d [(f, y)])) a (exo a C (some d)))) :
    wpAny (model X.prog X.w) X.A (call (.ref C) us kw) (EP X pins σ Q) X.xe s := by
  obtain ⟨nm, N, qn, bs, bm', hdct, sn, sub, ab, col, dd, k0, k1, k2, k3, k5, hC, hT⟩ := PySem.W.excInit_of I.kIn T.cl
  obtain ⟨hp, g, dr, tk, os⟩ := s
  have le1 : hp.objs.size ≤ hp.objs.size + 1 := Nat.le_succ _
  have fr : H (hp.objs.size + 1) = none := I.hok.fresh le1
  have kk : ∀ b o, hp.get? b = some o → ((hp.push (PySem.W.kdv_tup us)).push (PySem.HandSPX.excO C hp.objs.size)).get? b = some o := fun b o z => Heap.get?_push_of_some _ (Heap.get?_push_of_some _ z)
  have ge : ((hp.push (PySem.W.kdv_tup us)).push (PySem.HandSPX.excO C hp.objs.size)).get? (hp.objs.size + 1) = some (PySem.HandSPX.excO C hp.objs.size) := by heap_get
  have I2 : Inv X pins σ (upd H (hp.objs.size + 1) (exo (hp.objs.size + 1) C none)) ⟨(hp.push (PySem.W.kdv_tup us)).push (PySem.HandSPX.excO C hp.objs.size), g, dr, tk, os⟩ := I.laid (t' := tk) (o := exo (hp.objs.size + 1) C none) kk le1 (exo_ok ge)
  have r2 : Vals [V.ref (hp.objs.size + 1), y] [Value.ref (hp.objs.size + 1), u0] := .cons rfl (.cons ry .nil)
  have sp : spX C f [V.ref (hp.objs.size + 1), y] (upd H (hp.objs.size + 1) (exo (hp.objs.size + 1) C none)) (fun v H2 => v = .non ∧ Q (.ref (hp.objs.size + 1)) H2) (fun _ _ _ => False) := by
    refine ⟨_, y, rfl, upd_same, fun dx h1 h2 => ⟨rfl, ?_⟩⟩
    have ef : upd (upd (upd H (hp.objs.size + 1) (exo (hp.objs.size + 1) C none)) dx (exd dx [(f, y)])) (hp.objs.size + 1) (exo (hp.objs.size + 1) C (some dx)) = upd (upd H dx (exd dx [(f, y)])) (hp.objs.size + 1) (exo (hp.objs.size + 1) C (some dx)) := by
      funext b
      by_cases e1 : b = hp.objs.size + 1
      · rw [e1, upd_same, upd_same]
      · rw [upd_ne e1, upd_ne e1]
        by_cases e2 : b = dx
        · rw [e2, upd_same, upd_same]
        · rw [upd_ne e2, upd_ne e2, upd_ne e1]
    rw [ef]
    rw [upd_ne h2] at h1
    exact h _ dx fr h1 h2
  refine wpAny_call (call_kw T.fb hT hC (PySem.W.looks_findIn I.kIn iC) (fun self => PySem.W.bind_fn I.kIn self tI) sz
    (codeAny_mono (F1.run _ X.stack _ _ ⟨Value.ref (hp.objs.size + 1) :: us, kw⟩ [Value.ref (hp.objs.size + 1), u0] _ _ (fun _ _ _ => False) (hr.make C us kw) (I2.env0.make C us kw) (hb _ _ I2.kIn) r2 sp) fun r s1 hq => ?_))
  cases r with
  | error er => exact hx pins σ _ _ er s1 I2 hq
  | ok fl =>
    cases fl with
    | ret u =>
      obtain ⟨v, H1, I3, rv, ev, q3⟩ := I2.after hq
      subst ev
      exact ⟨rv, ⟨V.ref (hp.objs.size + 1), H1, I3, rfl, q3⟩⟩
    | next => exact False.elim hq
    | brk => exact False.elim hq
    | cont => exact False.elim hq
theorem run_mk0 {bmB : List Value} (F : ExcBaseFacts B newId initId bmB) (q : PySem.W.excIn X.K C bmB newId = true) (I : Inv X pins σ H s) (h : ∀ a, H a = none → Q (.ref a) (upd H a (exo a C none))) : wpAny (model X.prog X.w) X.A (call (.ref C) []) (EP X pins σ Q) X.xe s := by
  obtain ⟨bm, N, nm, qn, bs, hdct, sn, sub, ab, col, dd, k0, k1, k2, k3, k5, mN, hC, hN, hni, T⟩ := exc_obj I.kIn q
  refine wpAny_call_exc_subT F T hC hN hni (fun h1 a hm => ?_) (Nat.zero_le _)
  have fr : H a = none := I.hok.gone hm.new
  obtain ⟨t, ht, _, _⟩ := hm.there
  exact ⟨.ref a, upd H a (exo a C none), I.laidN hm.keeps hm.new fr (exo_ok ht), rfl, h a fr⟩
end
def XMk (P : Program) (w : World) (K : PySem.W.Frag) (mg : Str → Option Value) (base : Heap) (c f : Nm) (g : Str) : Prop := ∃ B newId initId bm fd, OxC K (He.ga K (sN c)) (sN f) B newId initId bm ∧ PySem.W.findIn K (.ref (He.ga K (sN c))) "__init__" = some (some (.ref (He.ma K (He.ga K (sN c)) "__init__"))) ∧
  PySem.W.typeIn K (.ref (He.ma K (He.ga K (sN c)) "__init__")) = some (.type "function") ∧ FnOk P w K mg base (L2.CX P w) 1 (He.ma K (He.ga K (sN c)) "__init__") fd ["self", g] (spX (He.ga K (sN c)) (sN f)) ∧ Binds K fd ["self", g] [] ∧ KwB K fd ["self", g] [g] [0] 1
theorem xmk_of {P : Program} {w : World} {K : PySem.W.Frag} {mg : Str → Option Value} {base : Heap} {c f : Nm} {x g qual : Str} {st : Stmt} {B newId initId : String} {bm : List Value} (fb : ExcBaseFacts B newId initId bm) (sf : StoreFacts B bm "object.__setattr__" "object") (h : oxB K x (sN f) bm newId = true)
    (F : ∃ fd, FunM K ⟨.met x "__init__", "__init__", qual, st⟩ fd ∧ Binds K fd ["self", g] []) (S : FnScope ["self", g] ["self", g] (defScope st)) (hst : isInitB (sN f) g (defBody st) = true) (hkw : KwP ⟨.met x "__init__", "__init__", qual, st⟩ ["self", g] [g] [0] 1) (hx : x = sN c := by decide +kernel)
    (hv : (decide ((defScope st).names.lookup ("self" : Str) = some NameKind.local) && decide ((defScope st).names.lookup g = some NameKind.local)) = true := by decide +kernel) (hd : (g == ("__debug__" : Str)) = false := by decide) (hcd : (g == ("__classdict__" : Str)) = false := by decide) : XMk P w K mg base c f g := by
  subst hx
  obtain ⟨T, i1, i2⟩ := oxB_ok fb sf h
  obtain ⟨fd, F, b⟩ := F
  obtain ⟨p1, p2, p3, pos, e⟩ := isInit_ok hst
  obtain ⟨v1, v2⟩ := He.ba hv
  haveI : LT := ⟨[], none, none⟩
  have kb := hkw.kb F
  have F' : FunD K "__init__" qual (defArgs st) (defBody st) (defScope st) [] [] (He.ma K (He.ga K (sN c)) "__init__") fd := F
  rw [e] at F'
  exact ⟨B, newId, initId, bm, fd, T, i1, i2, exc_init F' S T (.inl (of_decide_eq_true v1)) (.inl (of_decide_eq_true v2)) hd hcd, b, kb⟩
variable [LT]
section
variable {X : Cx} {fe : FE} {W : WX} {e : Expr} {d : DE} {x g : Str} {p pos kp : Pos} {c f : Nm} {D : Nat}
theorem exn_made {F : Hp} {ι : List Addr} {S : IS} {ρ : Rho} {σ : L2.St} {H : Hp} {Q : VK} (sr : SR X.K F ι σ ρ H S) (o : OutE X.K (rV X.K) W Q F ι σ H (makeXE c f d fe ρ S)) :
    tE X.K fe W d σ H fun y0 H1 => ∃ y, [y0] = [y] ∧ ∀ a dx, H1 a = none → H1 dx = none → dx ≠ a → Q (.ref a) (upd (upd H1 dx (exd dx [(sN f, y)])) a (exo a (He.ga X.K (sN c)) (some dx))) := by
  refine e_b sr o fun F2 ι2 S1 v v1 H1 st1 sr1 q o2 => ⟨v1, rfl, fun a dx ha hd ne => ?_⟩
  have hr2 := sr1.hr
  have ha' : (upd H1 dx (exd dx [(sN f, v1)])) a = none := by rw [upd_ne (Ne.symm ne)]; exact ha
  have hs1 : Step F2 ι2 H1 (upd F2 dx (exd dx [(sN f, v1)])) ι2 (upd H1 dx (exd dx [(sN f, v1)])) := Step.fz hr2 hd
  have hr3 : HR X.K (upd F2 dx (exd dx [(sN f, v1)])) ι2 (upd H1 dx (exd dx [(sN f, v1)])) S1 := hr2.fz hd
  have hs2 := Step.fz (o := exo a (He.ga X.K (sN c)) (some dx)) hr3 ha'
  have hr4 := hr3.fz (o := exo a (He.ga X.K (sN c)) (some dx)) ha'
  refine o2 _ ι2 (.ref a) _ (hs1.trans hs2) hr4 ?_
  unfold rV RV
  refine ⟨a, some dx, [(sN f, v1)], rfl, upd_same, ?_, .inr ⟨dx, rfl, by rw [upd_ne ne, upd_same]⟩⟩
  exact ⟨v1, [], rfl, RV.mono (hs1.trans hs2).sub (Pre.refl _) q, rfl⟩
theorem k_mkX (C : XMk X.prog X.w X.K X.mg X.base c f g) (hm : X.mg x = some (.ref (He.ga X.K x))) (tk : Takes X W) (hr : RG (lev D) X.A) (hg : Gl X x) (he : PE X e (tE X.K fe W d)) (hx : x = sN c := by decide +kernel) (hdb : (x == ("__debug__" : Str)) = false := by decide) (hst : isSt e = false := by rfl) :
    PE X (.Call (.Name x p) [e] [] pos) (tE X.K fe W (makeXE c f d)) := by
  subst hx
  obtain ⟨B, newId, initId, bm, fd, T, i1, i2, F1, hb, _⟩ := C
  refine ⟨fun pins s σ H Q I h => ?_⟩
  obtain ⟨F, ι, S, ρ, sr, o⟩ := h
  have key := exn_made sr o
  refine wpAny_Call_Name_kw (ld_glob I hg hm ?_ hdb)
  refine PySem.W.callWith_K (h₀ := X.base) I.ok.mod.kin T.kp (thn ((pa_cons he pa_nil (noStar hst)).run pos pins s σ H (fun vs H1 => ∃ y, vs = [y] ∧ ∀ a dx, H1 a = none → H1 dx = none → dx ≠ a → Q (.ref a) (upd (upd H1 dx (exd dx [(sN f, y)])) a (exo a (He.ga X.K (sN c)) (some dx)))) I ?_) fun us s1 ⟨vs, H1, I1, r1, y, ev, q1⟩ => ⟨I1.kIn, ?_⟩) (noStar hst) (by rfl)
  · exact key
  · subst ev
    cases r1 with
    | @cons _ u0 _ ur ry rn =>
      cases rn
      refine run_mkV (us := [u0]) (kw := []) T i1 i2 F1 (hr.room.mono (by unfold lev; omega)) (fun s2 a hk => ?_) (passes_call tk fun _ _ _ _ z => z.elim) I1 ry (by show 1 ≤ sizeLine; rw [sizeLine_eq]; omega) q1
      have := hb s2 [Value.ref a, u0] hk rfl
      rw [List.append_nil] at this
      exact this
theorem k_mkXK (C : XMk X.prog X.w X.K X.mg X.base c f g) (hm : X.mg x = some (.ref (He.ga X.K x))) (tk : Takes X W) (hr : RG (lev D) X.A) (hg : Gl X x) (he : PE X e (tE X.K fe W d)) (hx : x = sN c := by decide +kernel) (hdb : (x == ("__debug__" : Str)) = false := by decide) :
    PE X (.Call (.Name x p) [] [⟨some g, e, kp⟩] pos) (tE X.K fe W (makeXE c f d)) := by
  subst hx
  obtain ⟨B, newId, initId, bm, fd, T, i1, i2, F1, _, hb⟩ := C
  refine ⟨fun pins s σ H Q I h => ?_⟩
  obtain ⟨F, ι, S, ρ, sr, o⟩ := h
  have key := exn_made sr o
  refine wpAny_Call_Name_kw (ld_glob I hg hm ?_ hdb)
  refine PySem.W.callWith_KW0 (h₀ := X.base) I.ok.mod.kin T.kp (by rfl) (thn ((pk_cons he pk_nil).run pos pins s σ H (fun vs H1 => ∃ y, vs = [y] ∧ ∀ a dx, H1 a = none → H1 dx = none → dx ≠ a → Q (.ref a) (upd (upd H1 dx (exd dx [(sN f, y)])) a (exo a (He.ga X.K (sN c)) (some dx)))) I ?_) fun us s1 ⟨vs, H1, I1, r1, y, ev, q1⟩ => ⟨I1.kIn, ?_⟩) (by rfl)
  · exact key
  · subst ev
    cases r1 with
    | @cons _ u0 _ ur ry rn =>
      cases rn
      exact run_mkV (us := []) (kw := [g].zip [u0]) T i1 i2 F1 (hr.room.mono (by unfold lev; omega)) (fun s2 a hk => hb s2 [Value.ref a] [u0] hk rfl rfl) (passes_call tk fun _ _ _ _ z => z.elim) I1 ry (Nat.zero_le _) q1
theorem k_mkX0 (C : XN0 X.K c) (hm : X.mg x = some (.ref (He.ga X.K x))) (hg : Gl X x) (hx : x = sN c := by decide +kernel) (hdb : (x == ("__debug__" : Str)) = false := by decide) :
    PE X (.Call (.Name x p) [] [] pos) (tE X.K fe W (makeX0E c)) := by
  subst hx
  obtain ⟨B, newId, initId, bm, Fb, q⟩ := C.ex
  refine ⟨fun pins s σ H Q I h => ?_⟩
  obtain ⟨F, ι, S, ρ, sr, o⟩ := h
  refine wpAny_Call_Name_kw (ld_glob I hg hm ?_ hdb)
  refine PySem.W.callWith_K0 I.kIn C.kp (run_mk0 Fb q I fun a ha => ?_)
  have hr := sr.hr
  refine o (upd F a (exo a (He.ga X.K (sN c)) none)) ι (.ref a) _ (Step.fz hr ha) (hr.fz ha) ?_
  unfold rV RV
  exact ⟨a, none, [], rfl, upd_same, rfl, .inl ⟨rfl, rfl⟩⟩
end
section
variable {X : Cx} {fe : FE} {W : WX} {e : Expr} {d : DE} {g C : Str} {f : Nm} {cs : List Nm} {tb : List (Nm × Bool)} {p q q2 pos : Pos}
theorem exn_at {pins : List (Addr × Obj)} {σ : L2.St} {H F : Hp} {ι : List Addr} {S : IS} {s : Shared} {c : Nm} {fs : List (Nm × PV)} {v : V} (I : Inv X pins σ H s) (hr : HR X.K F ι H S) (r : RV X.K F ι (.exn c fs) v) :
    ∃ (a : Addr) (oe : Obj) (od : Option Obj) (dx : Option Addr) (gs : List (Str × V)), v = .ref a ∧ PySem.W.InstAt s.heap a oe (He.ga X.K (sN c)) od ∧ RVf X.K F ι fs gs ∧ (gs ≠ [] → ∃ (o : Obj) (mA : Str → Option Value), od = some o ∧ (∀ n, RelO (gs.lookup n) (mA n)) ∧ ∀ n, PySem.W.lookIn n o = some (mA n)) := by
  unfold RV at r
  obtain ⟨a, d, gs, rfl, ha, rf, hd⟩ := r
  obtain ⟨t1, ho⟩ := exo_at I.hok (hr.sub _ _ ha)
  rcases hd with ⟨rfl, rfl⟩ | ⟨dx, rfl, hx⟩
  · exact ⟨a, _, none, none, [], rfl, ⟨ho, rfl, by unfold PySem.W.notCls; rfl, trivial⟩, rf, fun z => absurd rfl z⟩
  · obtain ⟨mA, hns, rel⟩ := exd_at I.hok (hr.sub _ _ hx)
    obtain ⟨od, ho2, hlk⟩ := lookIn_ns hns
    exact ⟨a, _, some od, some dx, gs, rfl, ⟨ho, rfl, by unfold PySem.W.notCls; rfl, ho2⟩, rf, fun _ => ⟨od, mA, rfl, rel, hlk⟩⟩
theorem exn_is {cv : Value} {v : V} {t : List (Nm × Bool)} (rv1 : ∀ u, RelV v u → u = cv) (hT : ∀ c b, t.lookup c = some b → XiC X.K (He.ga X.K (sN c)) ∧ PySem.W.kitOne X.K (.ref (He.ga X.K (sN c))) cv = some b) :
    CallR X (.builtin "isinstance") (fun xs H Q => ∃ F ι S c fs b x, xs = [x, v] ∧ HR X.K F ι H S ∧ RV X.K F ι (.exn c fs) x ∧ t.lookup c = some b ∧ Q (.bl b) H) := by
  intro pins s σ H xs us Q I r h
  obtain ⟨F, ι, S, c, fs, b, x, rfl, hr, rx, eb, q⟩ := h
  obtain ⟨T, ek⟩ := hT c b eb
  cases r with
  | cons r1 rr =>
    cases rr with
    | cons r2 rr =>
      cases rr
      obtain rfl := rv1 _ r2
      obtain ⟨a, oe, od, dx, gs, rfl, J, _⟩ := exn_at I hr rx
      cases r1
      exact PySem.W.kia_one (PySem.W.kitx_exc T.cl T.hg T.hk T.hs T.ha T.hn T.ht T.hm) I.kIn J ek (fun z => nomatch z) fun tk => ⟨.bl b, H, I.kept (t' := tk) fun _ _ z => z, rfl, q⟩
theorem sim_ix {cv : Value} {v : V} (hC : Names X C cv) (rv : RelV v cv) (rv1 : ∀ u, RelV v u → u = cv) (hT : ∀ c b, tb.lookup c = some b → XiC X.K (He.ga X.K (sN c)) ∧ PySem.W.kitOne X.K (.ref (He.ga X.K (sN c))) cv = some b) (hm : X.mg "isinstance" = none) (he : PE X e (tE X.K fe W d))
    (hg : Gl X "isinstance" := by rfl) (hs : isSt e = false := by rfl) : PE X (.Call (.Name "isinstance" p) [e, .Name C q2] [] pos) (tE X.K fe W (ixE tb d)) := by
  refine PE.imp (pe_callB (id := "isinstance") (exn_is rv1 hT) hg hm (by first | rfl | decide +kernel) (pa_cons he (pa_cons (pe_names hC rv) pa_nil rfl) (noStar hs)) (by decide) (by decide) (noStar hs) rfl) fun σ H Q h => ?_
  obtain ⟨F, ι, S, ρ, sr, o⟩ := h
  refine e_b sr o fun F1 ι1 S1 w w1 H1 st1 sr1 r1 o1 => ?_
  cases w <;> first | exact (show False from o1).elim | skip
  rename_i c fs
  cases eb : tb.lookup c with
  | none => simp only [eb] at o1; exact (show False from o1).elim
  | some b =>
    simp only [eb] at o1
    exact ⟨F1, ι1, S1, c, fs, b, w1, rfl, sr1.hr, r1, eb, o1 F1 ι1 _ H1 Step.refl sr1.hr (RV_bl b)⟩
theorem sim_xv (hT : ∀ c ∈ cs, XfC X.K (He.ga X.K (sN c)) ∧ PySem.W.findIn X.K (.ref (He.ga X.K (sN c))) (sN f) = some none) (he : PE X e (tE X.K fe W d)) (hg : g = sN f := by decide +kernel) (hb : attributeBase e g X.env (eval e X.env) = eval e X.env := by rfl) :
    PE X (.Attribute e g pos) (tE X.K fe W (xvE f cs d)) := by
  subst hg
  refine ⟨fun pins s σ H Q I h => ?_⟩
  obtain ⟨F, ι, S, ρ, sr, o⟩ := h
  refine attr_of hb (thn (he.run pins s σ H (fun w1 H1 => ∃ F1 ι1 S1 c fs v u, HR X.K F1 ι1 H1 S1 ∧ RV X.K F1 ι1 (.exn c fs) w1 ∧ c ∈ cs ∧ fLook f fs = some v ∧ (∀ v', RV X.K F1 ι1 v v' → Q v' H1) ∧ u = w1) I (e_b sr o fun F1 ι1 S1 w w1 H1 st1 sr1 r1 o1 => ?_)) fun u s1 ⟨y, H1, I1, ry, F1, ι1, S1, c, fs, v, _, hr, r1, hc, ef, q, _⟩ => ?_)
  · cases w <;> first | exact (show False from o1).elim | skip
    rename_i c fs
    by_cases hc : c ∈ cs
    · simp only [if_pos hc] at o1
      cases ef : fLook f fs with
      | none => rw [ef] at o1; exact (show False from o1).elim
      | some v =>
        rw [ef] at o1
        exact ⟨F1, ι1, S1, c, fs, v, w1, sr1.hr, r1, hc, ef, fun v' q => o1 F1 ι1 v' H1 Step.refl sr1.hr q, rfl⟩
    · simp only [if_neg hc] at o1
      exact (show False from o1).elim
  · obtain ⟨a, oe, od, dx, gs, rfl, J, rf, hl⟩ := exn_at I1 hr r1
    obtain rfl : u = Value.ref a := ry
    obtain ⟨l1, _⟩ := fLook_lookup (K := X.K) (F := F1) (ι := ι1) f rf
    obtain ⟨v', hl', qv⟩ := l1 v ef
    obtain ⟨o, mA, rfl, rel, hlk⟩ := hl (fun z => by rw [z] at hl'; cases hl')
    obtain ⟨T, hno⟩ := hT c hc
    obtain ⟨u', hu, ru⟩ := RelO.some_of (v := v') (o := mA (sN f)) (by rw [← hl']; exact rel _)
    exact HandSPX.exc_get I1.kIn J T.ga T.gg T.exC (PySem.W.findObj_own T.hdC hno rfl (by rw [hlk, hu])) (handed_of ru) ⟨v', H1, I1.tok _, ru, q v' qv⟩
theorem k_ixO (hm : X.mg C = some (.ref (He.ga X.K C))) (hB : xiB X.K (.ref (He.ga X.K C)) tb = true) (hI : X.mg "isinstance" = none) (he : PE X e (tE X.K fe W d)) (hg : Gl X "isinstance" := by rfl) (hg2 : Gl X C := by rfl) (hd2 : (C == ("__debug__" : Str)) = false := by decide) (hs : isSt e = false := by rfl) :
    PE X (.Call (.Name "isinstance" p) [e, .Name C q2] [] pos) (tE X.K fe W (ixE tb d)) :=
  sim_ix (v := .ref (He.ga X.K C)) (nm_own hm hg2 hd2) rfl (fun _ h => h) (xiB_ok hB) hI he hg hs
theorem k_ixB {T : String} (hm : X.mg C = none) (hb : bootBuiltins C = some (.type T)) (hB : xiB X.K (.type T) tb = true) (hI : X.mg "isinstance" = none) (he : PE X e (tE X.K fe W d)) (hg : Gl X "isinstance" := by rfl) (hg2 : Gl X C := by rfl) (hd2 : (C == ("__debug__" : Str)) = false := by decide) (hn : C ≠ "__name__" := by decide) (hs : isSt e = false := by rfl) :
    PE X (.Call (.Name "isinstance" p) [e, .Name C q2] [] pos) (tE X.K fe W (ixE tb d)) :=
  sim_ix (v := .ty T) (nm_blt hm hb hg2 hd2 hn) rfl (fun _ h => h) (xiB_ok hB) hI he hg hs
theorem k_xv (hB : xfsB X.K (sN f) cs = true) (he : PE X e (tE X.K fe W d)) (hg : g = sN f := by decide +kernel) (hb : attributeBase e g X.env (eval e X.env) = eval e X.env := by rfl) : PE X (.Attribute e g pos) (tE X.K fe W (xvE f cs d)) := sim_xv (xfs_ok hB) he hg hb
end
end My
namespace My
open PySem PySem.Spec PyProof.Rows L2
mutual
def lvs : PV → Bool
  | .non => true
  | .bl _ => true
  | .int i => decide (i.natAbs < 10 ^ 100)
  | .str s => s.all fun c => decide (c < 16 ^ 8)
  | .lst xs => lvss xs
  | .tup xs => lvss xs
  | _ => false
def lvss : List PV → Bool
  | [] => true
  | x :: xs => lvs x && lvss xs
end
mutual
def wgt : PV → Nat
  | .int _ => 340
  | .str s => s.length
  | .lst xs => wgts xs
  | .tup xs => wgts xs
  | _ => 0
def wgts : List PV → Nat
  | [] => 0
  | x :: xs => wgt x + 1 + wgts xs
end
theorem int_short {i : Int} (h : i.natAbs < 10 ^ 100) : (PyData.shown (.int i)).length ≤ 101 := by
  have e := int_text_length_le10 (k := 100) (by decide) h
  show (Str.ofString (toString i)).length ≤ 101
  rw [PySem.ofString_length]; exact e
theorem log_short {i : Int} (h : i.natAbs < 10 ^ 100) : i.natAbs.log2 < 1920 := by
  rcases Nat.eq_zero_or_pos i.natAbs with e | e
  · rw [e]; decide
  · exact (Nat.log2_lt (by omega)).mpr (Nat.lt_of_lt_of_le h (by decide +kernel))
theorem log_short2 {i : Int} (h : i.natAbs < 10 ^ 100) : i.natAbs.log2 < 339 := by
  rcases Nat.eq_zero_or_pos i.natAbs with e | e
  · rw [e]; decide
  · exact (Nat.log2_lt (by omega)).mpr (Nat.lt_of_lt_of_le h (by decide +kernel))
mutual
theorem lvs_ok : ∀ x : PV, lvs x = true → (toD x).leavesShort 101 = true ∧ (toD x).showable = true ∧ (toD x).weight ≤ wgt x
  | .non, _ => ⟨rfl, rfl, Nat.le_refl _⟩
  | .bl _, _ => ⟨rfl, rfl, Nat.le_refl _⟩
  | .int i, h => by
    simp only [lvs, decide_eq_true_eq] at h
    simp only [toD, PyData.leavesShort, PyData.showable, PyData.weight, wgt, decide_eq_true_eq]
    refine ⟨int_short h, log_short h, ?_⟩
    have := log_short2 h
    split <;> omega
  | .str s, h => by
    simp only [lvs] at h
    exact ⟨h, rfl, Nat.le_refl _⟩
  | .lst xs, h => by
    simp only [lvs] at h
    simp only [toD, PyData.leavesShort, PyData.showable, PyData.weight, wgt]
    exact lvss_ok xs h
  | .tup xs, h => by
    simp only [lvs] at h
    simp only [toD, PyData.leavesShort, PyData.showable, PyData.weight, wgt]
    exact lvss_ok xs h
  | .ty _, h => by simp [lvs] at h
  | .dct _, h => by simp [lvs] at h
  | .ins _ _, h => by simp [lvs] at h
  | .obj _, h => by simp [lvs] at h
  | .cls _, h => by simp [lvs] at h
  | .scr _, h => by simp [lvs] at h
  | .rep _, h => by simp [lvs] at h
theorem lvss_ok : ∀ xs : List PV, lvss xs = true → PyData.leavesShortAll 101 (toDs xs) = true ∧ PyData.showableAll (toDs xs) = true ∧ PyData.weightAll (toDs xs) ≤ wgts xs
  | [], _ => ⟨rfl, rfl, Nat.le_refl _⟩
  | x :: xs, h => by
    simp only [lvss, Bool.and_eq_true] at h
    obtain ⟨a1, a2, a3⟩ := lvs_ok x h.1
    obtain ⟨b1, b2, b3⟩ := lvss_ok xs h.2
    simp only [toDs, PyData.leavesShortAll, PyData.showableAll, PyData.weightAll, wgts, a1, a2, b1, b2, Bool.and_self]
    exact ⟨trivial, trivial, by omega⟩
end
end My
namespace My
open PySem PySem.Spec PyProof.Rows L2
abbrev N_f__law_bases : List Str := ["_law_e", "_law_found"]
abbrev P_f__law_bases : List Str := ["_law_e"]
theorem sc_f__law_bases : FnScope N_f__law_bases P_f__law_bases (defScope s_f__law_bases) := ⟨rfl, rfl, rfl, by decide +kernel, rfl, by decide +kernel, by decide +kernel⟩
abbrev N_f__law_dip : List Str := ["_law_jar_here", "_law_wide", "_law_seed", "_law_digit"]
abbrev P_f__law_dip : List Str := ["_law_jar_here", "_law_wide"]
theorem sc_f__law_dip : FnScope N_f__law_dip P_f__law_dip (defScope s_f__law_dip) := ⟨rfl, rfl, rfl, by decide +kernel, rfl, by decide +kernel, by decide +kernel⟩
abbrev N_f__law_pick : List Str := ["_law_jar_here", "_law_menu", "_law_at"]
abbrev P_f__law_pick : List Str := ["_law_jar_here", "_law_menu"]
theorem sc_f__law_pick : FnScope N_f__law_pick P_f__law_pick (defScope s_f__law_pick) := ⟨rfl, rfl, rfl, by decide +kernel, rfl, by decide +kernel, by decide +kernel⟩
abbrev N_f__law_odd : List Str := ["_law_jar_here", "_law_menu"]
abbrev P_f__law_odd : List Str := ["_law_jar_here"]
theorem sc_f__law_odd : FnScope N_f__law_odd P_f__law_odd (defScope s_f__law_odd) := ⟨rfl, rfl, rfl, by decide +kernel, rfl, by decide +kernel, by decide +kernel⟩
abbrev N_f__law_by_place : List Str := ["_law_first", "_law_second", "_law_found"]
abbrev P_f__law_by_place : List Str := ["_law_first", "_law_second"]
theorem sc_f__law_by_place : FnScope N_f__law_by_place P_f__law_by_place (defScope s_f__law_by_place) := ⟨rfl, rfl, rfl, by decide +kernel, rfl, by decide +kernel, by decide +kernel⟩
abbrev N_f__law_by_word : List Str := ["_law_first", "_law_second", "_law_found"]
abbrev P_f__law_by_word : List Str := ["_law_first", "_law_second"]
theorem sc_f__law_by_word : FnScope N_f__law_by_word P_f__law_by_word (defScope s_f__law_by_word) := ⟨rfl, rfl, rfl, by decide +kernel, rfl, by decide +kernel, by decide +kernel⟩
abbrev N_f__law_sorts : List Str := ["_law_e", "_law_found"]
abbrev P_f__law_sorts : List Str := ["_law_e"]
theorem sc_f__law_sorts : FnScope N_f__law_sorts P_f__law_sorts (defScope s_f__law_sorts) := ⟨rfl, rfl, rfl, by decide +kernel, rfl, by decide +kernel, by decide +kernel⟩
abbrev N_f__law_kept : List Str := ["_law_e", "_law_at"]
abbrev P_f__law_kept : List Str := ["_law_e", "_law_at"]
theorem sc_f__law_kept : FnScope N_f__law_kept P_f__law_kept (defScope s_f__law_kept) := ⟨rfl, rfl, rfl, by decide +kernel, rfl, by decide +kernel, by decide +kernel⟩
abbrev N_f__law_right : List Str := ["_law_jar_here", "_law_made", "_law_first", "_law_second", "_law_at", "_law_under", "_law_due", "_law_k"]
abbrev P_f__law_right : List Str := ["_law_jar_here"]
theorem sc_f__law_right : FnScope N_f__law_right P_f__law_right (defScope s_f__law_right) := ⟨rfl, rfl, rfl, by decide +kernel, rfl, by decide +kernel, by decide +kernel⟩
abbrev N_f__law_jar : List Str := ["_law_script", "_law_k", "_law_churned", "_law_cell", "_law_own", "_law_digits"]
abbrev P_f__law_jar : List Str := ["_law_script", "_law_k"]
theorem sc_f__law_jar : FnScope N_f__law_jar P_f__law_jar (defScope s_f__law_jar) := ⟨rfl, rfl, rfl, by decide +kernel, rfl, by decide +kernel, by decide +kernel⟩
abbrev N_f_law : List Str := ["_law_script", "_law_plain_ones", "_law_e", "_law_k"]
abbrev P_f_law : List Str := ["_law_script"]
theorem sc_f_law : FnScope N_f_law P_f_law (defScope s_f_law) := ⟨rfl, rfl, rfl, by decide +kernel, rfl, by decide +kernel, by decide +kernel⟩
theorem sc_x_InvalidText : FnScope ["self", "given"] ["self", "given"] (defScope s_x_InvalidText) := ⟨rfl, rfl, rfl, by decide +kernel, rfl, by decide +kernel, by decide +kernel⟩
theorem sc_x_InvalidQuestions : FnScope ["self", "given"] ["self", "given"] (defScope s_x_InvalidQuestions) := ⟨rfl, rfl, rfl, by decide +kernel, rfl, by decide +kernel, by decide +kernel⟩
theorem sc_x_InvalidPair : FnScope ["self", "given"] ["self", "given"] (defScope s_x_InvalidPair) := ⟨rfl, rfl, rfl, by decide +kernel, rfl, by decide +kernel, by decide +kernel⟩
theorem sc_x_InvalidShare : FnScope ["self", "given"] ["self", "given"] (defScope s_x_InvalidShare) := ⟨rfl, rfl, rfl, by decide +kernel, rfl, by decide +kernel, by decide +kernel⟩
theorem sc_x_InvalidSplit : FnScope ["self", "given"] ["self", "given"] (defScope s_x_InvalidSplit) := ⟨rfl, rfl, rfl, by decide +kernel, rfl, by decide +kernel, by decide +kernel⟩
theorem sc_x_InvalidRing : FnScope ["self", "given"] ["self", "given"] (defScope s_x_InvalidRing) := ⟨rfl, rfl, rfl, by decide +kernel, rfl, by decide +kernel, by decide +kernel⟩
theorem sc_x_InvalidLot : FnScope ["self", "given"] ["self", "given"] (defScope s_x_InvalidLot) := ⟨rfl, rfl, rfl, by decide +kernel, rfl, by decide +kernel, by decide +kernel⟩
theorem sc_x_InvalidBet : FnScope ["self", "given"] ["self", "given"] (defScope s_x_InvalidBet) := ⟨rfl, rfl, rfl, by decide +kernel, rfl, by decide +kernel, by decide +kernel⟩
theorem sc_x_InvalidNumber : FnScope ["self", "given"] ["self", "given"] (defScope s_x_InvalidNumber) := ⟨rfl, rfl, rfl, by decide +kernel, rfl, by decide +kernel, by decide +kernel⟩
theorem sc_x_InvalidWish : FnScope ["self", "given"] ["self", "given"] (defScope s_x_InvalidWish) := ⟨rfl, rfl, rfl, by decide +kernel, rfl, by decide +kernel, by decide +kernel⟩
theorem sc_x_InvalidCommand : FnScope ["self", "given"] ["self", "given"] (defScope s_x_InvalidCommand) := ⟨rfl, rfl, rfl, by decide +kernel, rfl, by decide +kernel, by decide +kernel⟩
theorem sc_x_NotAWeb : FnScope ["self", "given"] ["self", "given"] (defScope s_x_NotAWeb) := ⟨rfl, rfl, rfl, by decide +kernel, rfl, by decide +kernel, by decide +kernel⟩
theorem sc_x_InvalidShares : FnScope ["self", "index"] ["self", "index"] (defScope s_x_InvalidShares) := ⟨rfl, rfl, rfl, by decide +kernel, rfl, by decide +kernel, by decide +kernel⟩
theorem sc_x_InvalidCrowd : FnScope ["self", "index"] ["self", "index"] (defScope s_x_InvalidCrowd) := ⟨rfl, rfl, rfl, by decide +kernel, rfl, by decide +kernel, by decide +kernel⟩
theorem sc_x_UnknownQuestion : FnScope ["self", "given"] ["self", "given"] (defScope s_x_UnknownQuestion) := ⟨rfl, rfl, rfl, by decide +kernel, rfl, by decide +kernel, by decide +kernel⟩
theorem sc_x_UnknownTie : FnScope ["self", "given"] ["self", "given"] (defScope s_x_UnknownTie) := ⟨rfl, rfl, rfl, by decide +kernel, rfl, by decide +kernel, by decide +kernel⟩
theorem sc_x_TooMany : FnScope ["self", "given"] ["self", "given"] (defScope s_x_TooMany) := ⟨rfl, rfl, rfl, by decide +kernel, rfl, by decide +kernel, by decide +kernel⟩
theorem sc_x_Broken : FnScope ["self", "index"] ["self", "index"] (defScope s_x_Broken) := ⟨rfl, rfl, rfl, by decide +kernel, rfl, by decide +kernel, by decide +kernel⟩
theorem t_f__law_bases : T n_f__law_bases = some ⟨1, 2, none, d_f__law_bases⟩ := rfl
theorem t_f__law_dip : T n_f__law_dip = some ⟨2, 4, none, d_f__law_dip⟩ := rfl
theorem t_f__law_pick : T n_f__law_pick = some ⟨2, 3, none, d_f__law_pick⟩ := rfl
theorem t_f__law_odd : T n_f__law_odd = some ⟨1, 2, none, d_f__law_odd⟩ := rfl
theorem t_f__law_by_place : T n_f__law_by_place = some ⟨2, 3, none, d_f__law_by_place⟩ := rfl
theorem t_f__law_by_word : T n_f__law_by_word = some ⟨2, 3, none, d_f__law_by_word⟩ := rfl
theorem t_f__law_sorts : T n_f__law_sorts = some ⟨1, 2, none, d_f__law_sorts⟩ := rfl
theorem t_f__law_kept : T n_f__law_kept = some ⟨2, 2, none, d_f__law_kept⟩ := rfl
theorem t_f__law_right : T n_f__law_right = some ⟨1, 8, none, d_f__law_right⟩ := rfl
theorem t_f__law_jar : T n_f__law_jar = some ⟨2, 6, none, d_f__law_jar⟩ := rfl
theorem t_f_law : T n_f_law = some ⟨1, 4, none, d_f_law⟩ := rfl
structure Fx (K : PySem.W.Frag) (mg : Str → Option Value) : Prop where
  g__law_bases : mg "_law_bases" = some (.ref (He.ga K "_law_bases"))
  g__law_dip : mg "_law_dip" = some (.ref (He.ga K "_law_dip"))
  g__law_pick : mg "_law_pick" = some (.ref (He.ga K "_law_pick"))
  g__law_odd : mg "_law_odd" = some (.ref (He.ga K "_law_odd"))
  g__law_by_place : mg "_law_by_place" = some (.ref (He.ga K "_law_by_place"))
  g__law_by_word : mg "_law_by_word" = some (.ref (He.ga K "_law_by_word"))
  g__law_sorts : mg "_law_sorts" = some (.ref (He.ga K "_law_sorts"))
  g__law_kept : mg "_law_kept" = some (.ref (He.ga K "_law_kept"))
  g__law_right : mg "_law_right" = some (.ref (He.ga K "_law_right"))
  g__law_jar : mg "_law_jar" = some (.ref (He.ga K "_law_jar"))
  g_law : mg "law" = some (.ref (He.ga K "law"))
  g_Broken : mg "Broken" = some (.ref (He.ga K "Broken"))
  g_InvalidBet : mg "InvalidBet" = some (.ref (He.ga K "InvalidBet"))
  g_InvalidCommand : mg "InvalidCommand" = some (.ref (He.ga K "InvalidCommand"))
  g_InvalidCrowd : mg "InvalidCrowd" = some (.ref (He.ga K "InvalidCrowd"))
  g_InvalidLot : mg "InvalidLot" = some (.ref (He.ga K "InvalidLot"))
  g_InvalidNumber : mg "InvalidNumber" = some (.ref (He.ga K "InvalidNumber"))
  g_InvalidPair : mg "InvalidPair" = some (.ref (He.ga K "InvalidPair"))
  g_InvalidQuestions : mg "InvalidQuestions" = some (.ref (He.ga K "InvalidQuestions"))
  g_InvalidRing : mg "InvalidRing" = some (.ref (He.ga K "InvalidRing"))
  g_InvalidShare : mg "InvalidShare" = some (.ref (He.ga K "InvalidShare"))
  g_InvalidShares : mg "InvalidShares" = some (.ref (He.ga K "InvalidShares"))
  g_InvalidSplit : mg "InvalidSplit" = some (.ref (He.ga K "InvalidSplit"))
  g_InvalidText : mg "InvalidText" = some (.ref (He.ga K "InvalidText"))
  g_InvalidWish : mg "InvalidWish" = some (.ref (He.ga K "InvalidWish"))
  g_NoCrowd : mg "NoCrowd" = some (.ref (He.ga K "NoCrowd"))
  g_NotAWeb : mg "NotAWeb" = some (.ref (He.ga K "NotAWeb"))
  g_NotPossible : mg "NotPossible" = some (.ref (He.ga K "NotPossible"))
  g_NothingToUndo : mg "NothingToUndo" = some (.ref (He.ga K "NothingToUndo"))
  g_TooMany : mg "TooMany" = some (.ref (He.ga K "TooMany"))
  g_UnknownQuestion : mg "UnknownQuestion" = some (.ref (He.ga K "UnknownQuestion"))
  g_UnknownTie : mg "UnknownTie" = some (.ref (He.ga K "UnknownTie"))
  g_WrongName : mg "WrongName" = some (.ref (He.ga K "WrongName"))
  g_WrongValue : mg "WrongValue" = some (.ref (He.ga K "WrongValue"))
  n_ArithmeticError : mg "ArithmeticError" = none
  n_LookupError : mg "LookupError" = none
  n_ValueError : mg "ValueError" = none
  n_abs : mg "abs" = none
  n_all : mg "all" = none
  n_int : mg "int" = none
  n_isinstance : mg "isinstance" = none
  n_len : mg "len" = none
  n_max : mg "max" = none
  n_min : mg "min" = none
  n_range : mg "range" = none
  n_repr : mg "repr" = none
  k_LEAST_QUESTIONS : ∃ t, mg "LEAST_QUESTIONS" = some (.int 2 t)
  k_LOTS : ∃ t, mg "LOTS" = some (.int 5 t)
  k_MOST_OF : ∃ t, mg "MOST_OF" = some (.int 1000 t)
  k_MOST_QUESTIONS : ∃ t, mg "MOST_QUESTIONS" = some (.int 6 t)
  k_MOST_TIES : ∃ t, mg "MOST_TIES" = some (.int 10 t)
  ox_InvalidText : oxB K "InvalidText" (sN [103, 105, 118, 101, 110]) veM "ValueError.__new__" = true
  ox_InvalidQuestions : oxB K "InvalidQuestions" (sN [103, 105, 118, 101, 110]) veM "ValueError.__new__" = true
  ox_InvalidPair : oxB K "InvalidPair" (sN [103, 105, 118, 101, 110]) veM "ValueError.__new__" = true
  ox_InvalidShare : oxB K "InvalidShare" (sN [103, 105, 118, 101, 110]) veM "ValueError.__new__" = true
  ox_InvalidSplit : oxB K "InvalidSplit" (sN [103, 105, 118, 101, 110]) veM "ValueError.__new__" = true
  ox_InvalidRing : oxB K "InvalidRing" (sN [103, 105, 118, 101, 110]) veM "ValueError.__new__" = true
  ox_InvalidLot : oxB K "InvalidLot" (sN [103, 105, 118, 101, 110]) veM "ValueError.__new__" = true
  ox_InvalidBet : oxB K "InvalidBet" (sN [103, 105, 118, 101, 110]) veM "ValueError.__new__" = true
  ox_InvalidNumber : oxB K "InvalidNumber" (sN [103, 105, 118, 101, 110]) veM "ValueError.__new__" = true
  ox_InvalidWish : oxB K "InvalidWish" (sN [103, 105, 118, 101, 110]) veM "ValueError.__new__" = true
  ox_InvalidCommand : oxB K "InvalidCommand" (sN [103, 105, 118, 101, 110]) veM "ValueError.__new__" = true
  ox_NotAWeb : oxB K "NotAWeb" (sN [103, 105, 118, 101, 110]) veM "ValueError.__new__" = true
  ox_InvalidShares : oxB K "InvalidShares" (sN [105, 110, 100, 101, 120]) veM "ValueError.__new__" = true
  ox_InvalidCrowd : oxB K "InvalidCrowd" (sN [105, 110, 100, 101, 120]) veM "ValueError.__new__" = true
  ox_UnknownQuestion : oxB K "UnknownQuestion" (sN [103, 105, 118, 101, 110]) leM "LookupError.__new__" = true
  ox_UnknownTie : oxB K "UnknownTie" (sN [103, 105, 118, 101, 110]) leM "LookupError.__new__" = true
  ox_TooMany : oxB K "TooMany" (sN [103, 105, 118, 101, 110]) aeM "ArithmeticError.__new__" = true
  ox_Broken : oxB K "Broken" (sN [105, 110, 100, 101, 120]) aeM "ArithmeticError.__new__" = true
  x0_NoCrowd : (PySem.W.excIn K (He.ga K (sN [78, 111, 67, 114, 111, 119, 100])) aeM "ArithmeticError.__new__" && (PySem.W.keepIn K (.ref (He.ga K (sN [78, 111, 67, 114, 111, 119, 100]))) && (decide (PySem.W.subIn K (.ref (He.ga K (sN [78, 111, 67, 114, 111, 119, 100]))) (.type "BaseException") = some true) && decide (PySem.W.typeIn K (.ref (He.ga K (sN [78, 111, 67, 114, 111, 119, 100]))) = some (.type "type"))))) = true
  x0_NotPossible : (PySem.W.excIn K (He.ga K (sN [78, 111, 116, 80, 111, 115, 115, 105, 98, 108, 101])) aeM "ArithmeticError.__new__" && (PySem.W.keepIn K (.ref (He.ga K (sN [78, 111, 116, 80, 111, 115, 115, 105, 98, 108, 101]))) && (decide (PySem.W.subIn K (.ref (He.ga K (sN [78, 111, 116, 80, 111, 115, 115, 105, 98, 108, 101]))) (.type "BaseException") = some true) && decide (PySem.W.typeIn K (.ref (He.ga K (sN [78, 111, 116, 80, 111, 115, 115, 105, 98, 108, 101]))) = some (.type "type"))))) = true
  x0_NothingToUndo : (PySem.W.excIn K (He.ga K (sN [78, 111, 116, 104, 105, 110, 103, 84, 111, 85, 110, 100, 111])) aeM "ArithmeticError.__new__" && (PySem.W.keepIn K (.ref (He.ga K (sN [78, 111, 116, 104, 105, 110, 103, 84, 111, 85, 110, 100, 111]))) && (decide (PySem.W.subIn K (.ref (He.ga K (sN [78, 111, 116, 104, 105, 110, 103, 84, 111, 85, 110, 100, 111]))) (.type "BaseException") = some true) && decide (PySem.W.typeIn K (.ref (He.ga K (sN [78, 111, 116, 104, 105, 110, 103, 84, 111, 85, 110, 100, 111]))) = some (.type "type"))))) = true
  x0_WrongName : (PySem.W.excIn K (He.ga K (sN [87, 114, 111, 110, 103, 78, 97, 109, 101])) leM "LookupError.__new__" && (PySem.W.keepIn K (.ref (He.ga K (sN [87, 114, 111, 110, 103, 78, 97, 109, 101]))) && (decide (PySem.W.subIn K (.ref (He.ga K (sN [87, 114, 111, 110, 103, 78, 97, 109, 101]))) (.type "BaseException") = some true) && decide (PySem.W.typeIn K (.ref (He.ga K (sN [87, 114, 111, 110, 103, 78, 97, 109, 101]))) = some (.type "type"))))) = true
  x0_WrongValue : (PySem.W.excIn K (He.ga K (sN [87, 114, 111, 110, 103, 86, 97, 108, 117, 101])) veM "ValueError.__new__" && (PySem.W.keepIn K (.ref (He.ga K (sN [87, 114, 111, 110, 103, 86, 97, 108, 117, 101]))) && (decide (PySem.W.subIn K (.ref (He.ga K (sN [87, 114, 111, 110, 103, 86, 97, 108, 117, 101]))) (.type "BaseException") = some true) && decide (PySem.W.typeIn K (.ref (He.ga K (sN [87, 114, 111, 110, 103, 86, 97, 108, 117, 101]))) = some (.type "type"))))) = true
  xi_ArithmeticError : xiB K (.type "ArithmeticError") [([87, 114, 111, 110, 103, 86, 97, 108, 117, 101], false), ([73, 110, 118, 97, 108, 105, 100, 84, 101, 120, 116], false), ([73, 110, 118, 97, 108, 105, 100, 81, 117, 101, 115, 116, 105, 111, 110, 115], false), ([73, 110, 118, 97, 108, 105, 100, 80, 97, 105, 114], false), ([73, 110, 118, 97, 108, 105, 100, 83, 104, 97, 114, 101], false), ([73, 110, 118, 97, 108, 105, 100, 83, 112, 108, 105, 116], false), ([73, 110, 118, 97, 108, 105, 100, 82, 105, 110, 103], false), ([73, 110, 118, 97, 108, 105, 100, 76, 111, 116], false), ([73, 110, 118, 97, 108, 105, 100, 66, 101, 116], false), ([73, 110, 118, 97, 108, 105, 100, 78, 117, 109, 98, 101, 114], false), ([73, 110, 118, 97, 108, 105, 100, 87, 105, 115, 104], false), ([73, 110, 118, 97, 108, 105, 100, 67, 111, 109, 109, 97, 110, 100], false), ([78, 111, 116, 65, 87, 101, 98], false), ([73, 110, 118, 97, 108, 105, 100, 83, 104, 97, 114, 101, 115], false), ([73, 110, 118, 97, 108, 105, 100, 67, 114, 111, 119, 100], false), ([87, 114, 111, 110, 103, 78, 97, 109, 101], false), ([85, 110, 107, 110, 111, 119, 110, 81, 117, 101, 115, 116, 105, 111, 110], false), ([85, 110, 107, 110, 111, 119, 110, 84, 105, 101], false), ([78, 111, 116, 80, 111, 115, 115, 105, 98, 108, 101], true), ([78, 111, 116, 104, 105, 110, 103, 84, 111, 85, 110, 100, 111], true), ([84, 111, 111, 77, 97, 110, 121], true), ([78, 111, 67, 114, 111, 119, 100], true), ([66, 114, 111, 107, 101, 110], true)] = true
  xi_Broken : xiB K (.ref (He.ga K "Broken")) [([87, 114, 111, 110, 103, 86, 97, 108, 117, 101], false), ([73, 110, 118, 97, 108, 105, 100, 84, 101, 120, 116], false), ([73, 110, 118, 97, 108, 105, 100, 81, 117, 101, 115, 116, 105, 111, 110, 115], false), ([73, 110, 118, 97, 108, 105, 100, 80, 97, 105, 114], false), ([73, 110, 118, 97, 108, 105, 100, 83, 104, 97, 114, 101], false), ([73, 110, 118, 97, 108, 105, 100, 83, 112, 108, 105, 116], false), ([73, 110, 118, 97, 108, 105, 100, 82, 105, 110, 103], false), ([73, 110, 118, 97, 108, 105, 100, 76, 111, 116], false), ([73, 110, 118, 97, 108, 105, 100, 66, 101, 116], false), ([73, 110, 118, 97, 108, 105, 100, 78, 117, 109, 98, 101, 114], false), ([73, 110, 118, 97, 108, 105, 100, 87, 105, 115, 104], false), ([73, 110, 118, 97, 108, 105, 100, 67, 111, 109, 109, 97, 110, 100], false), ([78, 111, 116, 65, 87, 101, 98], false), ([73, 110, 118, 97, 108, 105, 100, 83, 104, 97, 114, 101, 115], false), ([73, 110, 118, 97, 108, 105, 100, 67, 114, 111, 119, 100], false), ([87, 114, 111, 110, 103, 78, 97, 109, 101], false), ([85, 110, 107, 110, 111, 119, 110, 81, 117, 101, 115, 116, 105, 111, 110], false), ([85, 110, 107, 110, 111, 119, 110, 84, 105, 101], false), ([78, 111, 116, 80, 111, 115, 115, 105, 98, 108, 101], false), ([78, 111, 116, 104, 105, 110, 103, 84, 111, 85, 110, 100, 111], false), ([84, 111, 111, 77, 97, 110, 121], false), ([78, 111, 67, 114, 111, 119, 100], false), ([66, 114, 111, 107, 101, 110], true)] = true
  xi_InvalidBet : xiB K (.ref (He.ga K "InvalidBet")) [([87, 114, 111, 110, 103, 86, 97, 108, 117, 101], false), ([73, 110, 118, 97, 108, 105, 100, 84, 101, 120, 116], false), ([73, 110, 118, 97, 108, 105, 100, 81, 117, 101, 115, 116, 105, 111, 110, 115], false), ([73, 110, 118, 97, 108, 105, 100, 80, 97, 105, 114], false), ([73, 110, 118, 97, 108, 105, 100, 83, 104, 97, 114, 101], false), ([73, 110, 118, 97, 108, 105, 100, 83, 112, 108, 105, 116], false), ([73, 110, 118, 97, 108, 105, 100, 82, 105, 110, 103], false), ([73, 110, 118, 97, 108, 105, 100, 76, 111, 116], false), ([73, 110, 118, 97, 108, 105, 100, 66, 101, 116], true), ([73, 110, 118, 97, 108, 105, 100, 78, 117, 109, 98, 101, 114], false), ([73, 110, 118, 97, 108, 105, 100, 87, 105, 115, 104], false), ([73, 110, 118, 97, 108, 105, 100, 67, 111, 109, 109, 97, 110, 100], false), ([78, 111, 116, 65, 87, 101, 98], false), ([73, 110, 118, 97, 108, 105, 100, 83, 104, 97, 114, 101, 115], false), ([73, 110, 118, 97, 108, 105, 100, 67, 114, 111, 119, 100], false), ([87, 114, 111, 110, 103, 78, 97, 109, 101], false), ([85, 110, 107, 110, 111, 119, 110, 81, 117, 101, 115, 116, 105, 111, 110], false), ([85, 110, 107, 110, 111, 119, 110, 84, 105, 101], false), ([78, 111, 116, 80, 111, 115, 115, 105, 98, 108, 101], false), ([78, 111, 116, 104, 105, 110, 103, 84, 111, 85, 110, 100, 111], false), ([84, 111, 111, 77, 97, 110, 121], false), ([78, 111, 67, 114, 111, 119, 100], false), ([66, 114, 111, 107, 101, 110], false)] = true
  xi_InvalidCommand : xiB K (.ref (He.ga K "InvalidCommand")) [([87, 114, 111, 110, 103, 86, 97, 108, 117, 101], false), ([73, 110, 118, 97, 108, 105, 100, 84, 101, 120, 116], false), ([73, 110, 118, 97, 108, 105, 100, 81, 117, 101, 115, 116, 105, 111, 110, 115], false), ([73, 110, 118, 97, 108, 105, 100, 80, 97, 105, 114], false), ([73, 110, 118, 97, 108, 105, 100, 83, 104, 97, 114, 101], false), ([73, 110, 118, 97, 108, 105, 100, 83, 112, 108, 105, 116], false), ([73, 110, 118, 97, 108, 105, 100, 82, 105, 110, 103], false), ([73, 110, 118, 97, 108, 105, 100, 76, 111, 116], false), ([73, 110, 118, 97, 108, 105, 100, 66, 101, 116], false), ([73, 110, 118, 97, 108, 105, 100, 78, 117, 109, 98, 101, 114], false), ([73, 110, 118, 97, 108, 105, 100, 87, 105, 115, 104], false), ([73, 110, 118, 97, 108, 105, 100, 67, 111, 109, 109, 97, 110, 100], true), ([78, 111, 116, 65, 87, 101, 98], false), ([73, 110, 118, 97, 108, 105, 100, 83, 104, 97, 114, 101, 115], false), ([73, 110, 118, 97, 108, 105, 100, 67, 114, 111, 119, 100], false), ([87, 114, 111, 110, 103, 78, 97, 109, 101], false), ([85, 110, 107, 110, 111, 119, 110, 81, 117, 101, 115, 116, 105, 111, 110], false), ([85, 110, 107, 110, 111, 119, 110, 84, 105, 101], false), ([78, 111, 116, 80, 111, 115, 115, 105, 98, 108, 101], false), ([78, 111, 116, 104, 105, 110, 103, 84, 111, 85, 110, 100, 111], false), ([84, 111, 111, 77, 97, 110, 121], false), ([78, 111, 67, 114, 111, 119, 100], false), ([66, 114, 111, 107, 101, 110], false)] = true
  xi_InvalidCrowd : xiB K (.ref (He.ga K "InvalidCrowd")) [([87, 114, 111, 110, 103, 86, 97, 108, 117, 101], false), ([73, 110, 118, 97, 108, 105, 100, 84, 101, 120, 116], false), ([73, 110, 118, 97, 108, 105, 100, 81, 117, 101, 115, 116, 105, 111, 110, 115], false), ([73, 110, 118, 97, 108, 105, 100, 80, 97, 105, 114], false), ([73, 110, 118, 97, 108, 105, 100, 83, 104, 97, 114, 101], false), ([73, 110, 118, 97, 108, 105, 100, 83, 112, 108, 105, 116], false), ([73, 110, 118, 97, 108, 105, 100, 82, 105, 110, 103], false), ([73, 110, 118, 97, 108, 105, 100, 76, 111, 116], false), ([73, 110, 118, 97, 108, 105, 100, 66, 101, 116], false), ([73, 110, 118, 97, 108, 105, 100, 78, 117, 109, 98, 101, 114], false), ([73, 110, 118, 97, 108, 105, 100, 87, 105, 115, 104], false), ([73, 110, 118, 97, 108, 105, 100, 67, 111, 109, 109, 97, 110, 100], false), ([78, 111, 116, 65, 87, 101, 98], false), ([73, 110, 118, 97, 108, 105, 100, 83, 104, 97, 114, 101, 115], false), ([73, 110, 118, 97, 108, 105, 100, 67, 114, 111, 119, 100], true), ([87, 114, 111, 110, 103, 78, 97, 109, 101], false), ([85, 110, 107, 110, 111, 119, 110, 81, 117, 101, 115, 116, 105, 111, 110], false), ([85, 110, 107, 110, 111, 119, 110, 84, 105, 101], false), ([78, 111, 116, 80, 111, 115, 115, 105, 98, 108, 101], false), ([78, 111, 116, 104, 105, 110, 103, 84, 111, 85, 110, 100, 111], false), ([84, 111, 111, 77, 97, 110, 121], false), ([78, 111, 67, 114, 111, 119, 100], false), ([66, 114, 111, 107, 101, 110], false)] = true
  xi_InvalidLot : xiB K (.ref (He.ga K "InvalidLot")) [([87, 114, 111, 110, 103, 86, 97, 108, 117, 101], false), ([73, 110, 118, 97, 108, 105, 100, 84, 101, 120, 116], false), ([73, 110, 118, 97, 108, 105, 100, 81, 117, 101, 115, 116, 105, 111, 110, 115], false), ([73, 110, 118, 97, 108, 105, 100, 80, 97, 105, 114], false), ([73, 110, 118, 97, 108, 105, 100, 83, 104, 97, 114, 101], false), ([73, 110, 118, 97, 108, 105, 100, 83, 112, 108, 105, 116], false), ([73, 110, 118, 97, 108, 105, 100, 82, 105, 110, 103], false), ([73, 110, 118, 97, 108, 105, 100, 76, 111, 116], true), ([73, 110, 118, 97, 108, 105, 100, 66, 101, 116], false), ([73, 110, 118, 97, 108, 105, 100, 78, 117, 109, 98, 101, 114], false), ([73, 110, 118, 97, 108, 105, 100, 87, 105, 115, 104], false), ([73, 110, 118, 97, 108, 105, 100, 67, 111, 109, 109, 97, 110, 100], false), ([78, 111, 116, 65, 87, 101, 98], false), ([73, 110, 118, 97, 108, 105, 100, 83, 104, 97, 114, 101, 115], false), ([73, 110, 118, 97, 108, 105, 100, 67, 114, 111, 119, 100], false), ([87, 114, 111, 110, 103, 78, 97, 109, 101], false), ([85, 110, 107, 110, 111, 119, 110, 81, 117, 101, 115, 116, 105, 111, 110], false), ([85, 110, 107, 110, 111, 119, 110, 84, 105, 101], false), ([78, 111, 116, 80, 111, 115, 115, 105, 98, 108, 101], false), ([78, 111, 116, 104, 105, 110, 103, 84, 111, 85, 110, 100, 111], false), ([84, 111, 111, 77, 97, 110, 121], false), ([78, 111, 67, 114, 111, 119, 100], false), ([66, 114, 111, 107, 101, 110], false)] = true
  xi_InvalidNumber : xiB K (.ref (He.ga K "InvalidNumber")) [([87, 114, 111, 110, 103, 86, 97, 108, 117, 101], false), ([73, 110, 118, 97, 108, 105, 100, 84, 101, 120, 116], false), ([73, 110, 118, 97, 108, 105, 100, 81, 117, 101, 115, 116, 105, 111, 110, 115], false), ([73, 110, 118, 97, 108, 105, 100, 80, 97, 105, 114], false), ([73, 110, 118, 97, 108, 105, 100, 83, 104, 97, 114, 101], false), ([73, 110, 118, 97, 108, 105, 100, 83, 112, 108, 105, 116], false), ([73, 110, 118, 97, 108, 105, 100, 82, 105, 110, 103], false), ([73, 110, 118, 97, 108, 105, 100, 76, 111, 116], false), ([73, 110, 118, 97, 108, 105, 100, 66, 101, 116], false), ([73, 110, 118, 97, 108, 105, 100, 78, 117, 109, 98, 101, 114], true), ([73, 110, 118, 97, 108, 105, 100, 87, 105, 115, 104], false), ([73, 110, 118, 97, 108, 105, 100, 67, 111, 109, 109, 97, 110, 100], false), ([78, 111, 116, 65, 87, 101, 98], false), ([73, 110, 118, 97, 108, 105, 100, 83, 104, 97, 114, 101, 115], false), ([73, 110, 118, 97, 108, 105, 100, 67, 114, 111, 119, 100], false), ([87, 114, 111, 110, 103, 78, 97, 109, 101], false), ([85, 110, 107, 110, 111, 119, 110, 81, 117, 101, 115, 116, 105, 111, 110], false), ([85, 110, 107, 110, 111, 119, 110, 84, 105, 101], false), ([78, 111, 116, 80, 111, 115, 115, 105, 98, 108, 101], false), ([78, 111, 116, 104, 105, 110, 103, 84, 111, 85, 110, 100, 111], false), ([84, 111, 111, 77, 97, 110, 121], false), ([78, 111, 67, 114, 111, 119, 100], false), ([66, 114, 111, 107, 101, 110], false)] = true
  xi_InvalidPair : xiB K (.ref (He.ga K "InvalidPair")) [([87, 114, 111, 110, 103, 86, 97, 108, 117, 101], false), ([73, 110, 118, 97, 108, 105, 100, 84, 101, 120, 116], false), ([73, 110, 118, 97, 108, 105, 100, 81, 117, 101, 115, 116, 105, 111, 110, 115], false), ([73, 110, 118, 97, 108, 105, 100, 80, 97, 105, 114], true), ([73, 110, 118, 97, 108, 105, 100, 83, 104, 97, 114, 101], false), ([73, 110, 118, 97, 108, 105, 100, 83, 112, 108, 105, 116], false), ([73, 110, 118, 97, 108, 105, 100, 82, 105, 110, 103], false), ([73, 110, 118, 97, 108, 105, 100, 76, 111, 116], false), ([73, 110, 118, 97, 108, 105, 100, 66, 101, 116], false), ([73, 110, 118, 97, 108, 105, 100, 78, 117, 109, 98, 101, 114], false), ([73, 110, 118, 97, 108, 105, 100, 87, 105, 115, 104], false), ([73, 110, 118, 97, 108, 105, 100, 67, 111, 109, 109, 97, 110, 100], false), ([78, 111, 116, 65, 87, 101, 98], false), ([73, 110, 118, 97, 108, 105, 100, 83, 104, 97, 114, 101, 115], false), ([73, 110, 118, 97, 108, 105, 100, 67, 114, 111, 119, 100], false), ([87, 114, 111, 110, 103, 78, 97, 109, 101], false), ([85, 110, 107, 110, 111, 119, 110, 81, 117, 101, 115, 116, 105, 111, 110], false), ([85, 110, 107, 110, 111, 119, 110, 84, 105, 101], false), ([78, 111, 116, 80, 111, 115, 115, 105, 98, 108, 101], false), ([78, 111, 116, 104, 105, 110, 103, 84, 111, 85, 110, 100, 111], false), ([84, 111, 111, 77, 97, 110, 121], false), ([78, 111, 67, 114, 111, 119, 100], false), ([66, 114, 111, 107, 101, 110], false)] = true
  xi_InvalidQuestions : xiB K (.ref (He.ga K "InvalidQuestions")) [([87, 114, 111, 110, 103, 86, 97, 108, 117, 101], false), ([73, 110, 118, 97, 108, 105, 100, 84, 101, 120, 116], false), ([73, 110, 118, 97, 108, 105, 100, 81, 117, 101, 115, 116, 105, 111, 110, 115], true), ([73, 110, 118, 97, 108, 105, 100, 80, 97, 105, 114], false), ([73, 110, 118, 97, 108, 105, 100, 83, 104, 97, 114, 101], false), ([73, 110, 118, 97, 108, 105, 100, 83, 112, 108, 105, 116], false), ([73, 110, 118, 97, 108, 105, 100, 82, 105, 110, 103], false), ([73, 110, 118, 97, 108, 105, 100, 76, 111, 116], false), ([73, 110, 118, 97, 108, 105, 100, 66, 101, 116], false), ([73, 110, 118, 97, 108, 105, 100, 78, 117, 109, 98, 101, 114], false), ([73, 110, 118, 97, 108, 105, 100, 87, 105, 115, 104], false), ([73, 110, 118, 97, 108, 105, 100, 67, 111, 109, 109, 97, 110, 100], false), ([78, 111, 116, 65, 87, 101, 98], false), ([73, 110, 118, 97, 108, 105, 100, 83, 104, 97, 114, 101, 115], false), ([73, 110, 118, 97, 108, 105, 100, 67, 114, 111, 119, 100], false), ([87, 114, 111, 110, 103, 78, 97, 109, 101], false), ([85, 110, 107, 110, 111, 119, 110, 81, 117, 101, 115, 116, 105, 111, 110], false), ([85, 110, 107, 110, 111, 119, 110, 84, 105, 101], false), ([78, 111, 116, 80, 111, 115, 115, 105, 98, 108, 101], false), ([78, 111, 116, 104, 105, 110, 103, 84, 111, 85, 110, 100, 111], false), ([84, 111, 111, 77, 97, 110, 121], false), ([78, 111, 67, 114, 111, 119, 100], false), ([66, 114, 111, 107, 101, 110], false)] = true
  xi_InvalidRing : xiB K (.ref (He.ga K "InvalidRing")) [([87, 114, 111, 110, 103, 86, 97, 108, 117, 101], false), ([73, 110, 118, 97, 108, 105, 100, 84, 101, 120, 116], false), ([73, 110, 118, 97, 108, 105, 100, 81, 117, 101, 115, 116, 105, 111, 110, 115], false), ([73, 110, 118, 97, 108, 105, 100, 80, 97, 105, 114], false), ([73, 110, 118, 97, 108, 105, 100, 83, 104, 97, 114, 101], false), ([73, 110, 118, 97, 108, 105, 100, 83, 112, 108, 105, 116], false), ([73, 110, 118, 97, 108, 105, 100, 82, 105, 110, 103], true), ([73, 110, 118, 97, 108, 105, 100, 76, 111, 116], false), ([73, 110, 118, 97, 108, 105, 100, 66, 101, 116], false), ([73, 110, 118, 97, 108, 105, 100, 78, 117, 109, 98, 101, 114], false), ([73, 110, 118, 97, 108, 105, 100, 87, 105, 115, 104], false), ([73, 110, 118, 97, 108, 105, 100, 67, 111, 109, 109, 97, 110, 100], false), ([78, 111, 116, 65, 87, 101, 98], false), ([73, 110, 118, 97, 108, 105, 100, 83, 104, 97, 114, 101, 115], false), ([73, 110, 118, 97, 108, 105, 100, 67, 114, 111, 119, 100], false), ([87, 114, 111, 110, 103, 78, 97, 109, 101], false), ([85, 110, 107, 110, 111, 119, 110, 81, 117, 101, 115, 116, 105, 111, 110], false), ([85, 110, 107, 110, 111, 119, 110, 84, 105, 101], false), ([78, 111, 116, 80, 111, 115, 115, 105, 98, 108, 101], false), ([78, 111, 116, 104, 105, 110, 103, 84, 111, 85, 110, 100, 111], false), ([84, 111, 111, 77, 97, 110, 121], false), ([78, 111, 67, 114, 111, 119, 100], false), ([66, 114, 111, 107, 101, 110], false)] = true
  xi_InvalidShare : xiB K (.ref (He.ga K "InvalidShare")) [([87, 114, 111, 110, 103, 86, 97, 108, 117, 101], false), ([73, 110, 118, 97, 108, 105, 100, 84, 101, 120, 116], false), ([73, 110, 118, 97, 108, 105, 100, 81, 117, 101, 115, 116, 105, 111, 110, 115], false), ([73, 110, 118, 97, 108, 105, 100, 80, 97, 105, 114], false), ([73, 110, 118, 97, 108, 105, 100, 83, 104, 97, 114, 101], true), ([73, 110, 118, 97, 108, 105, 100, 83, 112, 108, 105, 116], false), ([73, 110, 118, 97, 108, 105, 100, 82, 105, 110, 103], false), ([73, 110, 118, 97, 108, 105, 100, 76, 111, 116], false), ([73, 110, 118, 97, 108, 105, 100, 66, 101, 116], false), ([73, 110, 118, 97, 108, 105, 100, 78, 117, 109, 98, 101, 114], false), ([73, 110, 118, 97, 108, 105, 100, 87, 105, 115, 104], false), ([73, 110, 118, 97, 108, 105, 100, 67, 111, 109, 109, 97, 110, 100], false), ([78, 111, 116, 65, 87, 101, 98], false), ([73, 110, 118, 97, 108, 105, 100, 83, 104, 97, 114, 101, 115], false), ([73, 110, 118, 97, 108, 105, 100, 67, 114, 111, 119, 100], false), ([87, 114, 111, 110, 103, 78, 97, 109, 101], false), ([85, 110, 107, 110, 111, 119, 110, 81, 117, 101, 115, 116, 105, 111, 110], false), ([85, 110, 107, 110, 111, 119, 110, 84, 105, 101], false), ([78, 111, 116, 80, 111, 115, 115, 105, 98, 108, 101], false), ([78, 111, 116, 104, 105, 110, 103, 84, 111, 85, 110, 100, 111], false), ([84, 111, 111, 77, 97, 110, 121], false), ([78, 111, 67, 114, 111, 119, 100], false), ([66, 114, 111, 107, 101, 110], false)] = true
  xi_InvalidShares : xiB K (.ref (He.ga K "InvalidShares")) [([87, 114, 111, 110, 103, 86, 97, 108, 117, 101], false), ([73, 110, 118, 97, 108, 105, 100, 84, 101, 120, 116], false), ([73, 110, 118, 97, 108, 105, 100, 81, 117, 101, 115, 116, 105, 111, 110, 115], false), ([73, 110, 118, 97, 108, 105, 100, 80, 97, 105, 114], false), ([73, 110, 118, 97, 108, 105, 100, 83, 104, 97, 114, 101], false), ([73, 110, 118, 97, 108, 105, 100, 83, 112, 108, 105, 116], false), ([73, 110, 118, 97, 108, 105, 100, 82, 105, 110, 103], false), ([73, 110, 118, 97, 108, 105, 100, 76, 111, 116], false), ([73, 110, 118, 97, 108, 105, 100, 66, 101, 116], false), ([73, 110, 118, 97, 108, 105, 100, 78, 117, 109, 98, 101, 114], false), ([73, 110, 118, 97, 108, 105, 100, 87, 105, 115, 104], false), ([73, 110, 118, 97, 108, 105, 100, 67, 111, 109, 109, 97, 110, 100], false), ([78, 111, 116, 65, 87, 101, 98], false), ([73, 110, 118, 97, 108, 105, 100, 83, 104, 97, 114, 101, 115], true), ([73, 110, 118, 97, 108, 105, 100, 67, 114, 111, 119, 100], false), ([87, 114, 111, 110, 103, 78, 97, 109, 101], false), ([85, 110, 107, 110, 111, 119, 110, 81, 117, 101, 115, 116, 105, 111, 110], false), ([85, 110, 107, 110, 111, 119, 110, 84, 105, 101], false), ([78, 111, 116, 80, 111, 115, 115, 105, 98, 108, 101], false), ([78, 111, 116, 104, 105, 110, 103, 84, 111, 85, 110, 100, 111], false), ([84, 111, 111, 77, 97, 110, 121], false), ([78, 111, 67, 114, 111, 119, 100], false), ([66, 114, 111, 107, 101, 110], false)] = true
  xi_InvalidSplit : xiB K (.ref (He.ga K "InvalidSplit")) [([87, 114, 111, 110, 103, 86, 97, 108, 117, 101], false), ([73, 110, 118, 97, 108, 105, 100, 84, 101, 120, 116], false), ([73, 110, 118, 97, 108, 105, 100, 81, 117, 101, 115, 116, 105, 111, 110, 115], false), ([73, 110, 118, 97, 108, 105, 100, 80, 97, 105, 114], false), ([73, 110, 118, 97, 108, 105, 100, 83, 104, 97, 114, 101], false), ([73, 110, 118, 97, 108, 105, 100, 83, 112, 108, 105, 116], true), ([73, 110, 118, 97, 108, 105, 100, 82, 105, 110, 103], false), ([73, 110, 118, 97, 108, 105, 100, 76, 111, 116], false), ([73, 110, 118, 97, 108, 105, 100, 66, 101, 116], false), ([73, 110, 118, 97, 108, 105, 100, 78, 117, 109, 98, 101, 114], false), ([73, 110, 118, 97, 108, 105, 100, 87, 105, 115, 104], false), ([73, 110, 118, 97, 108, 105, 100, 67, 111, 109, 109, 97, 110, 100], false), ([78, 111, 116, 65, 87, 101, 98], false), ([73, 110, 118, 97, 108, 105, 100, 83, 104, 97, 114, 101, 115], false), ([73, 110, 118, 97, 108, 105, 100, 67, 114, 111, 119, 100], false), ([87, 114, 111, 110, 103, 78, 97, 109, 101], false), ([85, 110, 107, 110, 111, 119, 110, 81, 117, 101, 115, 116, 105, 111, 110], false), ([85, 110, 107, 110, 111, 119, 110, 84, 105, 101], false), ([78, 111, 116, 80, 111, 115, 115, 105, 98, 108, 101], false), ([78, 111, 116, 104, 105, 110, 103, 84, 111, 85, 110, 100, 111], false), ([84, 111, 111, 77, 97, 110, 121], false), ([78, 111, 67, 114, 111, 119, 100], false), ([66, 114, 111, 107, 101, 110], false)] = true
  xi_InvalidText : xiB K (.ref (He.ga K "InvalidText")) [([87, 114, 111, 110, 103, 86, 97, 108, 117, 101], false), ([73, 110, 118, 97, 108, 105, 100, 84, 101, 120, 116], true), ([73, 110, 118, 97, 108, 105, 100, 81, 117, 101, 115, 116, 105, 111, 110, 115], false), ([73, 110, 118, 97, 108, 105, 100, 80, 97, 105, 114], false), ([73, 110, 118, 97, 108, 105, 100, 83, 104, 97, 114, 101], false), ([73, 110, 118, 97, 108, 105, 100, 83, 112, 108, 105, 116], false), ([73, 110, 118, 97, 108, 105, 100, 82, 105, 110, 103], false), ([73, 110, 118, 97, 108, 105, 100, 76, 111, 116], false), ([73, 110, 118, 97, 108, 105, 100, 66, 101, 116], false), ([73, 110, 118, 97, 108, 105, 100, 78, 117, 109, 98, 101, 114], false), ([73, 110, 118, 97, 108, 105, 100, 87, 105, 115, 104], false), ([73, 110, 118, 97, 108, 105, 100, 67, 111, 109, 109, 97, 110, 100], false), ([78, 111, 116, 65, 87, 101, 98], false), ([73, 110, 118, 97, 108, 105, 100, 83, 104, 97, 114, 101, 115], false), ([73, 110, 118, 97, 108, 105, 100, 67, 114, 111, 119, 100], false), ([87, 114, 111, 110, 103, 78, 97, 109, 101], false), ([85, 110, 107, 110, 111, 119, 110, 81, 117, 101, 115, 116, 105, 111, 110], false), ([85, 110, 107, 110, 111, 119, 110, 84, 105, 101], false), ([78, 111, 116, 80, 111, 115, 115, 105, 98, 108, 101], false), ([78, 111, 116, 104, 105, 110, 103, 84, 111, 85, 110, 100, 111], false), ([84, 111, 111, 77, 97, 110, 121], false), ([78, 111, 67, 114, 111, 119, 100], false), ([66, 114, 111, 107, 101, 110], false)] = true
  xi_InvalidWish : xiB K (.ref (He.ga K "InvalidWish")) [([87, 114, 111, 110, 103, 86, 97, 108, 117, 101], false), ([73, 110, 118, 97, 108, 105, 100, 84, 101, 120, 116], false), ([73, 110, 118, 97, 108, 105, 100, 81, 117, 101, 115, 116, 105, 111, 110, 115], false), ([73, 110, 118, 97, 108, 105, 100, 80, 97, 105, 114], false), ([73, 110, 118, 97, 108, 105, 100, 83, 104, 97, 114, 101], false), ([73, 110, 118, 97, 108, 105, 100, 83, 112, 108, 105, 116], false), ([73, 110, 118, 97, 108, 105, 100, 82, 105, 110, 103], false), ([73, 110, 118, 97, 108, 105, 100, 76, 111, 116], false), ([73, 110, 118, 97, 108, 105, 100, 66, 101, 116], false), ([73, 110, 118, 97, 108, 105, 100, 78, 117, 109, 98, 101, 114], false), ([73, 110, 118, 97, 108, 105, 100, 87, 105, 115, 104], true), ([73, 110, 118, 97, 108, 105, 100, 67, 111, 109, 109, 97, 110, 100], false), ([78, 111, 116, 65, 87, 101, 98], false), ([73, 110, 118, 97, 108, 105, 100, 83, 104, 97, 114, 101, 115], false), ([73, 110, 118, 97, 108, 105, 100, 67, 114, 111, 119, 100], false), ([87, 114, 111, 110, 103, 78, 97, 109, 101], false), ([85, 110, 107, 110, 111, 119, 110, 81, 117, 101, 115, 116, 105, 111, 110], false), ([85, 110, 107, 110, 111, 119, 110, 84, 105, 101], false), ([78, 111, 116, 80, 111, 115, 115, 105, 98, 108, 101], false), ([78, 111, 116, 104, 105, 110, 103, 84, 111, 85, 110, 100, 111], false), ([84, 111, 111, 77, 97, 110, 121], false), ([78, 111, 67, 114, 111, 119, 100], false), ([66, 114, 111, 107, 101, 110], false)] = true
  xi_LookupError : xiB K (.type "LookupError") [([87, 114, 111, 110, 103, 86, 97, 108, 117, 101], false), ([73, 110, 118, 97, 108, 105, 100, 84, 101, 120, 116], false), ([73, 110, 118, 97, 108, 105, 100, 81, 117, 101, 115, 116, 105, 111, 110, 115], false), ([73, 110, 118, 97, 108, 105, 100, 80, 97, 105, 114], false), ([73, 110, 118, 97, 108, 105, 100, 83, 104, 97, 114, 101], false), ([73, 110, 118, 97, 108, 105, 100, 83, 112, 108, 105, 116], false), ([73, 110, 118, 97, 108, 105, 100, 82, 105, 110, 103], false), ([73, 110, 118, 97, 108, 105, 100, 76, 111, 116], false), ([73, 110, 118, 97, 108, 105, 100, 66, 101, 116], false), ([73, 110, 118, 97, 108, 105, 100, 78, 117, 109, 98, 101, 114], false), ([73, 110, 118, 97, 108, 105, 100, 87, 105, 115, 104], false), ([73, 110, 118, 97, 108, 105, 100, 67, 111, 109, 109, 97, 110, 100], false), ([78, 111, 116, 65, 87, 101, 98], false), ([73, 110, 118, 97, 108, 105, 100, 83, 104, 97, 114, 101, 115], false), ([73, 110, 118, 97, 108, 105, 100, 67, 114, 111, 119, 100], false), ([87, 114, 111, 110, 103, 78, 97, 109, 101], true), ([85, 110, 107, 110, 111, 119, 110, 81, 117, 101, 115, 116, 105, 111, 110], true), ([85, 110, 107, 110, 111, 119, 110, 84, 105, 101], true), ([78, 111, 116, 80, 111, 115, 115, 105, 98, 108, 101], false), ([78, 111, 116, 104, 105, 110, 103, 84, 111, 85, 110, 100, 111], false), ([84, 111, 111, 77, 97, 110, 121], false), ([78, 111, 67, 114, 111, 119, 100], false), ([66, 114, 111, 107, 101, 110], false)] = true
  xi_NoCrowd : xiB K (.ref (He.ga K "NoCrowd")) [([87, 114, 111, 110, 103, 86, 97, 108, 117, 101], false), ([73, 110, 118, 97, 108, 105, 100, 84, 101, 120, 116], false), ([73, 110, 118, 97, 108, 105, 100, 81, 117, 101, 115, 116, 105, 111, 110, 115], false), ([73, 110, 118, 97, 108, 105, 100, 80, 97, 105, 114], false), ([73, 110, 118, 97, 108, 105, 100, 83, 104, 97, 114, 101], false), ([73, 110, 118, 97, 108, 105, 100, 83, 112, 108, 105, 116], false), ([73, 110, 118, 97, 108, 105, 100, 82, 105, 110, 103], false), ([73, 110, 118, 97, 108, 105, 100, 76, 111, 116], false), ([73, 110, 118, 97, 108, 105, 100, 66, 101, 116], false), ([73, 110, 118, 97, 108, 105, 100, 78, 117, 109, 98, 101, 114], false), ([73, 110, 118, 97, 108, 105, 100, 87, 105, 115, 104], false), ([73, 110, 118, 97, 108, 105, 100, 67, 111, 109, 109, 97, 110, 100], false), ([78, 111, 116, 65, 87, 101, 98], false), ([73, 110, 118, 97, 108, 105, 100, 83, 104, 97, 114, 101, 115], false), ([73, 110, 118, 97, 108, 105, 100, 67, 114, 111, 119, 100], false), ([87, 114, 111, 110, 103, 78, 97, 109, 101], false), ([85, 110, 107, 110, 111, 119, 110, 81, 117, 101, 115, 116, 105, 111, 110], false), ([85, 110, 107, 110, 111, 119, 110, 84, 105, 101], false), ([78, 111, 116, 80, 111, 115, 115, 105, 98, 108, 101], false), ([78, 111, 116, 104, 105, 110, 103, 84, 111, 85, 110, 100, 111], false), ([84, 111, 111, 77, 97, 110, 121], false), ([78, 111, 67, 114, 111, 119, 100], true), ([66, 114, 111, 107, 101, 110], false)] = true
  xi_NotAWeb : xiB K (.ref (He.ga K "NotAWeb")) [([87, 114, 111, 110, 103, 86, 97, 108, 117, 101], false), ([73, 110, 118, 97, 108, 105, 100, 84, 101, 120, 116], false), ([73, 110, 118, 97, 108, 105, 100, 81, 117, 101, 115, 116, 105, 111, 110, 115], false), ([73, 110, 118, 97, 108, 105, 100, 80, 97, 105, 114], false), ([73, 110, 118, 97, 108, 105, 100, 83, 104, 97, 114, 101], false), ([73, 110, 118, 97, 108, 105, 100, 83, 112, 108, 105, 116], false), ([73, 110, 118, 97, 108, 105, 100, 82, 105, 110, 103], false), ([73, 110, 118, 97, 108, 105, 100, 76, 111, 116], false), ([73, 110, 118, 97, 108, 105, 100, 66, 101, 116], false), ([73, 110, 118, 97, 108, 105, 100, 78, 117, 109, 98, 101, 114], false), ([73, 110, 118, 97, 108, 105, 100, 87, 105, 115, 104], false), ([73, 110, 118, 97, 108, 105, 100, 67, 111, 109, 109, 97, 110, 100], false), ([78, 111, 116, 65, 87, 101, 98], true), ([73, 110, 118, 97, 108, 105, 100, 83, 104, 97, 114, 101, 115], false), ([73, 110, 118, 97, 108, 105, 100, 67, 114, 111, 119, 100], false), ([87, 114, 111, 110, 103, 78, 97, 109, 101], false), ([85, 110, 107, 110, 111, 119, 110, 81, 117, 101, 115, 116, 105, 111, 110], false), ([85, 110, 107, 110, 111, 119, 110, 84, 105, 101], false), ([78, 111, 116, 80, 111, 115, 115, 105, 98, 108, 101], false), ([78, 111, 116, 104, 105, 110, 103, 84, 111, 85, 110, 100, 111], false), ([84, 111, 111, 77, 97, 110, 121], false), ([78, 111, 67, 114, 111, 119, 100], false), ([66, 114, 111, 107, 101, 110], false)] = true
  xi_NotPossible : xiB K (.ref (He.ga K "NotPossible")) [([87, 114, 111, 110, 103, 86, 97, 108, 117, 101], false), ([73, 110, 118, 97, 108, 105, 100, 84, 101, 120, 116], false), ([73, 110, 118, 97, 108, 105, 100, 81, 117, 101, 115, 116, 105, 111, 110, 115], false), ([73, 110, 118, 97, 108, 105, 100, 80, 97, 105, 114], false), ([73, 110, 118, 97, 108, 105, 100, 83, 104, 97, 114, 101], false), ([73, 110, 118, 97, 108, 105, 100, 83, 112, 108, 105, 116], false), ([73, 110, 118, 97, 108, 105, 100, 82, 105, 110, 103], false), ([73, 110, 118, 97, 108, 105, 100, 76, 111, 116], false), ([73, 110, 118, 97, 108, 105, 100, 66, 101, 116], false), ([73, 110, 118, 97, 108, 105, 100, 78, 117, 109, 98, 101, 114], false), ([73, 110, 118, 97, 108, 105, 100, 87, 105, 115, 104], false), ([73, 110, 118, 97, 108, 105, 100, 67, 111, 109, 109, 97, 110, 100], false), ([78, 111, 116, 65, 87, 101, 98], false), ([73, 110, 118, 97, 108, 105, 100, 83, 104, 97, 114, 101, 115], false), ([73, 110, 118, 97, 108, 105, 100, 67, 114, 111, 119, 100], false), ([87, 114, 111, 110, 103, 78, 97, 109, 101], false), ([85, 110, 107, 110, 111, 119, 110, 81, 117, 101, 115, 116, 105, 111, 110], false), ([85, 110, 107, 110, 111, 119, 110, 84, 105, 101], false), ([78, 111, 116, 80, 111, 115, 115, 105, 98, 108, 101], true), ([78, 111, 116, 104, 105, 110, 103, 84, 111, 85, 110, 100, 111], true), ([84, 111, 111, 77, 97, 110, 121], true), ([78, 111, 67, 114, 111, 119, 100], true), ([66, 114, 111, 107, 101, 110], true)] = true
  xi_NothingToUndo : xiB K (.ref (He.ga K "NothingToUndo")) [([87, 114, 111, 110, 103, 86, 97, 108, 117, 101], false), ([73, 110, 118, 97, 108, 105, 100, 84, 101, 120, 116], false), ([73, 110, 118, 97, 108, 105, 100, 81, 117, 101, 115, 116, 105, 111, 110, 115], false), ([73, 110, 118, 97, 108, 105, 100, 80, 97, 105, 114], false), ([73, 110, 118, 97, 108, 105, 100, 83, 104, 97, 114, 101], false), ([73, 110, 118, 97, 108, 105, 100, 83, 112, 108, 105, 116], false), ([73, 110, 118, 97, 108, 105, 100, 82, 105, 110, 103], false), ([73, 110, 118, 97, 108, 105, 100, 76, 111, 116], false), ([73, 110, 118, 97, 108, 105, 100, 66, 101, 116], false), ([73, 110, 118, 97, 108, 105, 100, 78, 117, 109, 98, 101, 114], false), ([73, 110, 118, 97, 108, 105, 100, 87, 105, 115, 104], false), ([73, 110, 118, 97, 108, 105, 100, 67, 111, 109, 109, 97, 110, 100], false), ([78, 111, 116, 65, 87, 101, 98], false), ([73, 110, 118, 97, 108, 105, 100, 83, 104, 97, 114, 101, 115], false), ([73, 110, 118, 97, 108, 105, 100, 67, 114, 111, 119, 100], false), ([87, 114, 111, 110, 103, 78, 97, 109, 101], false), ([85, 110, 107, 110, 111, 119, 110, 81, 117, 101, 115, 116, 105, 111, 110], false), ([85, 110, 107, 110, 111, 119, 110, 84, 105, 101], false), ([78, 111, 116, 80, 111, 115, 115, 105, 98, 108, 101], false), ([78, 111, 116, 104, 105, 110, 103, 84, 111, 85, 110, 100, 111], true), ([84, 111, 111, 77, 97, 110, 121], false), ([78, 111, 67, 114, 111, 119, 100], false), ([66, 114, 111, 107, 101, 110], false)] = true
  xi_TooMany : xiB K (.ref (He.ga K "TooMany")) [([87, 114, 111, 110, 103, 86, 97, 108, 117, 101], false), ([73, 110, 118, 97, 108, 105, 100, 84, 101, 120, 116], false), ([73, 110, 118, 97, 108, 105, 100, 81, 117, 101, 115, 116, 105, 111, 110, 115], false), ([73, 110, 118, 97, 108, 105, 100, 80, 97, 105, 114], false), ([73, 110, 118, 97, 108, 105, 100, 83, 104, 97, 114, 101], false), ([73, 110, 118, 97, 108, 105, 100, 83, 112, 108, 105, 116], false), ([73, 110, 118, 97, 108, 105, 100, 82, 105, 110, 103], false), ([73, 110, 118, 97, 108, 105, 100, 76, 111, 116], false), ([73, 110, 118, 97, 108, 105, 100, 66, 101, 116], false), ([73, 110, 118, 97, 108, 105, 100, 78, 117, 109, 98, 101, 114], false), ([73, 110, 118, 97, 108, 105, 100, 87, 105, 115, 104], false), ([73, 110, 118, 97, 108, 105, 100, 67, 111, 109, 109, 97, 110, 100], false), ([78, 111, 116, 65, 87, 101, 98], false), ([73, 110, 118, 97, 108, 105, 100, 83, 104, 97, 114, 101, 115], false), ([73, 110, 118, 97, 108, 105, 100, 67, 114, 111, 119, 100], false), ([87, 114, 111, 110, 103, 78, 97, 109, 101], false), ([85, 110, 107, 110, 111, 119, 110, 81, 117, 101, 115, 116, 105, 111, 110], false), ([85, 110, 107, 110, 111, 119, 110, 84, 105, 101], false), ([78, 111, 116, 80, 111, 115, 115, 105, 98, 108, 101], false), ([78, 111, 116, 104, 105, 110, 103, 84, 111, 85, 110, 100, 111], false), ([84, 111, 111, 77, 97, 110, 121], true), ([78, 111, 67, 114, 111, 119, 100], false), ([66, 114, 111, 107, 101, 110], false)] = true
  xi_UnknownQuestion : xiB K (.ref (He.ga K "UnknownQuestion")) [([87, 114, 111, 110, 103, 86, 97, 108, 117, 101], false), ([73, 110, 118, 97, 108, 105, 100, 84, 101, 120, 116], false), ([73, 110, 118, 97, 108, 105, 100, 81, 117, 101, 115, 116, 105, 111, 110, 115], false), ([73, 110, 118, 97, 108, 105, 100, 80, 97, 105, 114], false), ([73, 110, 118, 97, 108, 105, 100, 83, 104, 97, 114, 101], false), ([73, 110, 118, 97, 108, 105, 100, 83, 112, 108, 105, 116], false), ([73, 110, 118, 97, 108, 105, 100, 82, 105, 110, 103], false), ([73, 110, 118, 97, 108, 105, 100, 76, 111, 116], false), ([73, 110, 118, 97, 108, 105, 100, 66, 101, 116], false), ([73, 110, 118, 97, 108, 105, 100, 78, 117, 109, 98, 101, 114], false), ([73, 110, 118, 97, 108, 105, 100, 87, 105, 115, 104], false), ([73, 110, 118, 97, 108, 105, 100, 67, 111, 109, 109, 97, 110, 100], false), ([78, 111, 116, 65, 87, 101, 98], false), ([73, 110, 118, 97, 108, 105, 100, 83, 104, 97, 114, 101, 115], false), ([73, 110, 118, 97, 108, 105, 100, 67, 114, 111, 119, 100], false), ([87, 114, 111, 110, 103, 78, 97, 109, 101], false), ([85, 110, 107, 110, 111, 119, 110, 81, 117, 101, 115, 116, 105, 111, 110], true), ([85, 110, 107, 110, 111, 119, 110, 84, 105, 101], false), ([78, 111, 116, 80, 111, 115, 115, 105, 98, 108, 101], false), ([78, 111, 116, 104, 105, 110, 103, 84, 111, 85, 110, 100, 111], false), ([84, 111, 111, 77, 97, 110, 121], false), ([78, 111, 67, 114, 111, 119, 100], false), ([66, 114, 111, 107, 101, 110], false)] = true
  xi_UnknownTie : xiB K (.ref (He.ga K "UnknownTie")) [([87, 114, 111, 110, 103, 86, 97, 108, 117, 101], false), ([73, 110, 118, 97, 108, 105, 100, 84, 101, 120, 116], false), ([73, 110, 118, 97, 108, 105, 100, 81, 117, 101, 115, 116, 105, 111, 110, 115], false), ([73, 110, 118, 97, 108, 105, 100, 80, 97, 105, 114], false), ([73, 110, 118, 97, 108, 105, 100, 83, 104, 97, 114, 101], false), ([73, 110, 118, 97, 108, 105, 100, 83, 112, 108, 105, 116], false), ([73, 110, 118, 97, 108, 105, 100, 82, 105, 110, 103], false), ([73, 110, 118, 97, 108, 105, 100, 76, 111, 116], false), ([73, 110, 118, 97, 108, 105, 100, 66, 101, 116], false), ([73, 110, 118, 97, 108, 105, 100, 78, 117, 109, 98, 101, 114], false), ([73, 110, 118, 97, 108, 105, 100, 87, 105, 115, 104], false), ([73, 110, 118, 97, 108, 105, 100, 67, 111, 109, 109, 97, 110, 100], false), ([78, 111, 116, 65, 87, 101, 98], false), ([73, 110, 118, 97, 108, 105, 100, 83, 104, 97, 114, 101, 115], false), ([73, 110, 118, 97, 108, 105, 100, 67, 114, 111, 119, 100], false), ([87, 114, 111, 110, 103, 78, 97, 109, 101], false), ([85, 110, 107, 110, 111, 119, 110, 81, 117, 101, 115, 116, 105, 111, 110], false), ([85, 110, 107, 110, 111, 119, 110, 84, 105, 101], true), ([78, 111, 116, 80, 111, 115, 115, 105, 98, 108, 101], false), ([78, 111, 116, 104, 105, 110, 103, 84, 111, 85, 110, 100, 111], false), ([84, 111, 111, 77, 97, 110, 121], false), ([78, 111, 67, 114, 111, 119, 100], false), ([66, 114, 111, 107, 101, 110], false)] = true
  xi_ValueError : xiB K (.type "ValueError") [([87, 114, 111, 110, 103, 86, 97, 108, 117, 101], true), ([73, 110, 118, 97, 108, 105, 100, 84, 101, 120, 116], true), ([73, 110, 118, 97, 108, 105, 100, 81, 117, 101, 115, 116, 105, 111, 110, 115], true), ([73, 110, 118, 97, 108, 105, 100, 80, 97, 105, 114], true), ([73, 110, 118, 97, 108, 105, 100, 83, 104, 97, 114, 101], true), ([73, 110, 118, 97, 108, 105, 100, 83, 112, 108, 105, 116], true), ([73, 110, 118, 97, 108, 105, 100, 82, 105, 110, 103], true), ([73, 110, 118, 97, 108, 105, 100, 76, 111, 116], true), ([73, 110, 118, 97, 108, 105, 100, 66, 101, 116], true), ([73, 110, 118, 97, 108, 105, 100, 78, 117, 109, 98, 101, 114], true), ([73, 110, 118, 97, 108, 105, 100, 87, 105, 115, 104], true), ([73, 110, 118, 97, 108, 105, 100, 67, 111, 109, 109, 97, 110, 100], true), ([78, 111, 116, 65, 87, 101, 98], true), ([73, 110, 118, 97, 108, 105, 100, 83, 104, 97, 114, 101, 115], true), ([73, 110, 118, 97, 108, 105, 100, 67, 114, 111, 119, 100], true), ([87, 114, 111, 110, 103, 78, 97, 109, 101], false), ([85, 110, 107, 110, 111, 119, 110, 81, 117, 101, 115, 116, 105, 111, 110], false), ([85, 110, 107, 110, 111, 119, 110, 84, 105, 101], false), ([78, 111, 116, 80, 111, 115, 115, 105, 98, 108, 101], false), ([78, 111, 116, 104, 105, 110, 103, 84, 111, 85, 110, 100, 111], false), ([84, 111, 111, 77, 97, 110, 121], false), ([78, 111, 67, 114, 111, 119, 100], false), ([66, 114, 111, 107, 101, 110], false)] = true
  xi_WrongName : xiB K (.ref (He.ga K "WrongName")) [([87, 114, 111, 110, 103, 86, 97, 108, 117, 101], false), ([73, 110, 118, 97, 108, 105, 100, 84, 101, 120, 116], false), ([73, 110, 118, 97, 108, 105, 100, 81, 117, 101, 115, 116, 105, 111, 110, 115], false), ([73, 110, 118, 97, 108, 105, 100, 80, 97, 105, 114], false), ([73, 110, 118, 97, 108, 105, 100, 83, 104, 97, 114, 101], false), ([73, 110, 118, 97, 108, 105, 100, 83, 112, 108, 105, 116], false), ([73, 110, 118, 97, 108, 105, 100, 82, 105, 110, 103], false), ([73, 110, 118, 97, 108, 105, 100, 76, 111, 116], false), ([73, 110, 118, 97, 108, 105, 100, 66, 101, 116], false), ([73, 110, 118, 97, 108, 105, 100, 78, 117, 109, 98, 101, 114], false), ([73, 110, 118, 97, 108, 105, 100, 87, 105, 115, 104], false), ([73, 110, 118, 97, 108, 105, 100, 67, 111, 109, 109, 97, 110, 100], false), ([78, 111, 116, 65, 87, 101, 98], false), ([73, 110, 118, 97, 108, 105, 100, 83, 104, 97, 114, 101, 115], false), ([73, 110, 118, 97, 108, 105, 100, 67, 114, 111, 119, 100], false), ([87, 114, 111, 110, 103, 78, 97, 109, 101], true), ([85, 110, 107, 110, 111, 119, 110, 81, 117, 101, 115, 116, 105, 111, 110], true), ([85, 110, 107, 110, 111, 119, 110, 84, 105, 101], true), ([78, 111, 116, 80, 111, 115, 115, 105, 98, 108, 101], false), ([78, 111, 116, 104, 105, 110, 103, 84, 111, 85, 110, 100, 111], false), ([84, 111, 111, 77, 97, 110, 121], false), ([78, 111, 67, 114, 111, 119, 100], false), ([66, 114, 111, 107, 101, 110], false)] = true
  xi_WrongValue : xiB K (.ref (He.ga K "WrongValue")) [([87, 114, 111, 110, 103, 86, 97, 108, 117, 101], true), ([73, 110, 118, 97, 108, 105, 100, 84, 101, 120, 116], true), ([73, 110, 118, 97, 108, 105, 100, 81, 117, 101, 115, 116, 105, 111, 110, 115], true), ([73, 110, 118, 97, 108, 105, 100, 80, 97, 105, 114], true), ([73, 110, 118, 97, 108, 105, 100, 83, 104, 97, 114, 101], true), ([73, 110, 118, 97, 108, 105, 100, 83, 112, 108, 105, 116], true), ([73, 110, 118, 97, 108, 105, 100, 82, 105, 110, 103], true), ([73, 110, 118, 97, 108, 105, 100, 76, 111, 116], true), ([73, 110, 118, 97, 108, 105, 100, 66, 101, 116], true), ([73, 110, 118, 97, 108, 105, 100, 78, 117, 109, 98, 101, 114], true), ([73, 110, 118, 97, 108, 105, 100, 87, 105, 115, 104], true), ([73, 110, 118, 97, 108, 105, 100, 67, 111, 109, 109, 97, 110, 100], true), ([78, 111, 116, 65, 87, 101, 98], true), ([73, 110, 118, 97, 108, 105, 100, 83, 104, 97, 114, 101, 115], true), ([73, 110, 118, 97, 108, 105, 100, 67, 114, 111, 119, 100], true), ([87, 114, 111, 110, 103, 78, 97, 109, 101], false), ([85, 110, 107, 110, 111, 119, 110, 81, 117, 101, 115, 116, 105, 111, 110], false), ([85, 110, 107, 110, 111, 119, 110, 84, 105, 101], false), ([78, 111, 116, 80, 111, 115, 115, 105, 98, 108, 101], false), ([78, 111, 116, 104, 105, 110, 103, 84, 111, 85, 110, 100, 111], false), ([84, 111, 111, 77, 97, 110, 121], false), ([78, 111, 67, 114, 111, 119, 100], false), ([66, 114, 111, 107, 101, 110], false)] = true
  xf_given : xfsB K (sN [103, 105, 118, 101, 110]) [[73, 110, 118, 97, 108, 105, 100, 84, 101, 120, 116], [73, 110, 118, 97, 108, 105, 100, 81, 117, 101, 115, 116, 105, 111, 110, 115], [73, 110, 118, 97, 108, 105, 100, 80, 97, 105, 114], [73, 110, 118, 97, 108, 105, 100, 83, 104, 97, 114, 101], [73, 110, 118, 97, 108, 105, 100, 83, 112, 108, 105, 116], [73, 110, 118, 97, 108, 105, 100, 82, 105, 110, 103], [73, 110, 118, 97, 108, 105, 100, 76, 111, 116], [73, 110, 118, 97, 108, 105, 100, 66, 101, 116], [73, 110, 118, 97, 108, 105, 100, 78, 117, 109, 98, 101, 114], [73, 110, 118, 97, 108, 105, 100, 87, 105, 115, 104], [73, 110, 118, 97, 108, 105, 100, 67, 111, 109, 109, 97, 110, 100], [78, 111, 116, 65, 87, 101, 98], [85, 110, 107, 110, 111, 119, 110, 81, 117, 101, 115, 116, 105, 111, 110], [85, 110, 107, 110, 111, 119, 110, 84, 105, 101], [84, 111, 111, 77, 97, 110, 121]] = true
  xf_index : xfsB K (sN [105, 110, 100, 101, 120]) [[73, 110, 118, 97, 108, 105, 100, 83, 104, 97, 114, 101, 115], [73, 110, 118, 97, 108, 105, 100, 67, 114, 111, 119, 100], [66, 114, 111, 107, 101, 110]] = true
structure Dk (K : PySem.W.Frag) : Prop where
  f__law_bases : ∃ fd, FunM K D_f__law_bases fd ∧ Binds K fd P_f__law_bases []
  f__law_dip : ∃ fd, FunM K D_f__law_dip fd ∧ Binds K fd P_f__law_dip []
  f__law_pick : ∃ fd, FunM K D_f__law_pick fd ∧ Binds K fd P_f__law_pick []
  f__law_odd : ∃ fd, FunM K D_f__law_odd fd ∧ Binds K fd P_f__law_odd []
  f__law_by_place : ∃ fd, FunM K D_f__law_by_place fd ∧ Binds K fd P_f__law_by_place []
  f__law_by_word : ∃ fd, FunM K D_f__law_by_word fd ∧ Binds K fd P_f__law_by_word []
  f__law_sorts : ∃ fd, FunM K D_f__law_sorts fd ∧ Binds K fd P_f__law_sorts []
  f__law_kept : ∃ fd, FunM K D_f__law_kept fd ∧ Binds K fd P_f__law_kept []
  f__law_right : ∃ fd, FunM K D_f__law_right fd ∧ Binds K fd P_f__law_right []
  f__law_jar : ∃ fd, FunM K D_f__law_jar fd ∧ Binds K fd P_f__law_jar []
  f_law : ∃ fd, FunM K D_f_law fd ∧ Binds K fd P_f_law []
  x_InvalidText : ∃ fd, FunM K D_x_InvalidText fd ∧ Binds K fd ["self", "given"] []
  x_InvalidQuestions : ∃ fd, FunM K D_x_InvalidQuestions fd ∧ Binds K fd ["self", "given"] []
  x_InvalidPair : ∃ fd, FunM K D_x_InvalidPair fd ∧ Binds K fd ["self", "given"] []
  x_InvalidShare : ∃ fd, FunM K D_x_InvalidShare fd ∧ Binds K fd ["self", "given"] []
  x_InvalidSplit : ∃ fd, FunM K D_x_InvalidSplit fd ∧ Binds K fd ["self", "given"] []
  x_InvalidRing : ∃ fd, FunM K D_x_InvalidRing fd ∧ Binds K fd ["self", "given"] []
  x_InvalidLot : ∃ fd, FunM K D_x_InvalidLot fd ∧ Binds K fd ["self", "given"] []
  x_InvalidBet : ∃ fd, FunM K D_x_InvalidBet fd ∧ Binds K fd ["self", "given"] []
  x_InvalidNumber : ∃ fd, FunM K D_x_InvalidNumber fd ∧ Binds K fd ["self", "given"] []
  x_InvalidWish : ∃ fd, FunM K D_x_InvalidWish fd ∧ Binds K fd ["self", "given"] []
  x_InvalidCommand : ∃ fd, FunM K D_x_InvalidCommand fd ∧ Binds K fd ["self", "given"] []
  x_NotAWeb : ∃ fd, FunM K D_x_NotAWeb fd ∧ Binds K fd ["self", "given"] []
  x_InvalidShares : ∃ fd, FunM K D_x_InvalidShares fd ∧ Binds K fd ["self", "index"] []
  x_InvalidCrowd : ∃ fd, FunM K D_x_InvalidCrowd fd ∧ Binds K fd ["self", "index"] []
  x_UnknownQuestion : ∃ fd, FunM K D_x_UnknownQuestion fd ∧ Binds K fd ["self", "given"] []
  x_UnknownTie : ∃ fd, FunM K D_x_UnknownTie fd ∧ Binds K fd ["self", "given"] []
  x_TooMany : ∃ fd, FunM K D_x_TooMany fd ∧ Binds K fd ["self", "given"] []
  x_Broken : ∃ fd, FunM K D_x_Broken fd ∧ Binds K fd ["self", "index"] []
structure Lx [LT] (K : PySem.W.Frag) (mg : Str → Option Value) (base : Heap) : Prop where
  h0 : LT.hot = none
structure Ok [LT] (P : Program) (w : World) (K : PySem.W.Frag) (mg : Str → Option Value) (base : Heap) (D : Nat) : Prop where
  f__law_bases : Cal P w K mg base T D D_f__law_bases n_f__law_bases P_f__law_bases
  f__law_dip : Cal P w K mg base T D D_f__law_dip n_f__law_dip P_f__law_dip
  f__law_pick : Cal P w K mg base T D D_f__law_pick n_f__law_pick P_f__law_pick
  f__law_odd : Cal P w K mg base T D D_f__law_odd n_f__law_odd P_f__law_odd
  f__law_by_place : Cal P w K mg base T D D_f__law_by_place n_f__law_by_place P_f__law_by_place
  f__law_by_word : Cal P w K mg base T D D_f__law_by_word n_f__law_by_word P_f__law_by_word
  f__law_sorts : Cal P w K mg base T D D_f__law_sorts n_f__law_sorts P_f__law_sorts
  f__law_kept : Cal P w K mg base T D D_f__law_kept n_f__law_kept P_f__law_kept
  f__law_right : Cal P w K mg base T D D_f__law_right n_f__law_right P_f__law_right
  f__law_jar : Cal P w K mg base T D D_f__law_jar n_f__law_jar P_f__law_jar
  f_law : Cal P w K mg base T D D_f_law n_f_law P_f_law
end My
namespace My
open PySem PySem.Spec PyProof.Rows L2
theorem fx_of [LT] {K : PySem.W.Frag} {h : Heap} {mg : Str → Option Value} (X : K.In h) (G : h.Ns mainGlobals mg) (c : SaysM fb fn K) : Fx K mg := ⟨He.glo_ok X G (c.fact 0 rfl), He.glo_ok X G (c.fact 1 rfl), He.glo_ok X G (c.fact 2 rfl), He.glo_ok X G (c.fact 3 rfl), He.glo_ok X G (c.fact 4 rfl), He.glo_ok X G (c.fact 5 rfl), He.glo_ok X G (c.fact 6 rfl), He.glo_ok X G (c.fact 7 rfl), He.glo_ok X G (c.fact 8 rfl), He.glo_ok X G (c.fact 9 rfl), He.glo_ok X G (c.fact 10 rfl), He.glo_ok X G (c.fact 11 rfl), He.glo_ok X G (c.fact 12 rfl), He.glo_ok X G (c.fact 13 rfl), He.glo_ok X G (c.fact 14 rfl), He.glo_ok X G (c.fact 15 rfl), He.glo_ok X G (c.fact 16 rfl), He.glo_ok X G (c.fact 17 rfl), He.glo_ok X G (c.fact 18 rfl), He.glo_ok X G (c.fact 19 rfl), He.glo_ok X G (c.fact 20 rfl), He.glo_ok X G (c.fact 21 rfl), He.glo_ok X G (c.fact 22 rfl), He.glo_ok X G (c.fact 23 rfl), He.glo_ok X G (c.fact 24 rfl), He.glo_ok X G (c.fact 25 rfl), He.glo_ok X G (c.fact 26 rfl), He.glo_ok X G (c.fact 27 rfl), He.glo_ok X G (c.fact 28 rfl), He.glo_ok X G (c.fact 29 rfl), He.glo_ok X G (c.fact 30 rfl), He.glo_ok X G (c.fact 31 rfl), He.glo_ok X G (c.fact 32 rfl), He.glo_ok X G (c.fact 33 rfl), He.free_ok X G (c.fact 34 rfl), He.free_ok X G (c.fact 35 rfl), He.free_ok X G (c.fact 36 rfl), He.free_ok X G (c.fact 37 rfl), He.free_ok X G (c.fact 38 rfl), He.free_ok X G (c.fact 39 rfl), He.free_ok X G (c.fact 40 rfl), He.free_ok X G (c.fact 41 rfl), He.free_ok X G (c.fact 42 rfl), He.free_ok X G (c.fact 43 rfl), He.free_ok X G (c.fact 44 rfl), He.free_ok X G (c.fact 45 rfl), He.int_ok X G (c.fact 46 rfl), He.int_ok X G (c.fact 47 rfl), He.int_ok X G (c.fact 48 rfl), He.int_ok X G (c.fact 49 rfl), He.int_ok X G (c.fact 50 rfl), (c.fact 51 rfl), (c.fact 52 rfl), (c.fact 53 rfl), (c.fact 54 rfl), (c.fact 55 rfl), (c.fact 56 rfl), (c.fact 57 rfl), (c.fact 58 rfl), (c.fact 59 rfl), (c.fact 60 rfl), (c.fact 61 rfl), (c.fact 62 rfl), (c.fact 63 rfl), (c.fact 64 rfl), (c.fact 65 rfl), (c.fact 66 rfl), (c.fact 67 rfl), (c.fact 68 rfl), (c.fact 69 rfl), (c.fact 70 rfl), (c.fact 71 rfl), (c.fact 72 rfl), (c.fact 73 rfl), (c.fact 74 rfl), (c.fact 75 rfl), (c.fact 76 rfl), (c.fact 77 rfl), (c.fact 78 rfl), (c.fact 79 rfl), (c.fact 80 rfl), (c.fact 81 rfl), (c.fact 82 rfl), (c.fact 83 rfl), (c.fact 84 rfl), (c.fact 85 rfl), (c.fact 86 rfl), (c.fact 87 rfl), (c.fact 88 rfl), (c.fact 89 rfl), (c.fact 90 rfl), (c.fact 91 rfl), (c.fact 92 rfl), (c.fact 93 rfl), (c.fact 94 rfl), (c.fact 95 rfl), (c.fact 96 rfl), (c.fact 97 rfl), (c.fact 98 rfl), (c.fact 99 rfl), (c.fact 100 rfl), (c.fact 101 rfl)⟩
theorem dk_of [LT] {K : PySem.W.Frag} (c : SaysM fb fn K) : Dk K := ⟨binds_of (k := 0) (c.def_ 0 rfl) fun _ _ _ _ _ _ us hl => match us, hl with | [_], _ => rfl,
  binds_of (k := 0) (c.def_ 1 rfl) fun _ _ _ _ _ _ us hl => match us, hl with | [_, _], _ => rfl,
  binds_of (k := 0) (c.def_ 2 rfl) fun _ _ _ _ _ _ us hl => match us, hl with | [_, _], _ => rfl,
  binds_of (k := 0) (c.def_ 3 rfl) fun _ _ _ _ _ _ us hl => match us, hl with | [_], _ => rfl,
  binds_of (k := 0) (c.def_ 4 rfl) fun _ _ _ _ _ _ us hl => match us, hl with | [_, _], _ => rfl,
  binds_of (k := 0) (c.def_ 5 rfl) fun _ _ _ _ _ _ us hl => match us, hl with | [_, _], _ => rfl,
  binds_of (k := 0) (c.def_ 6 rfl) fun _ _ _ _ _ _ us hl => match us, hl with | [_], _ => rfl,
  binds_of (k := 0) (c.def_ 7 rfl) fun _ _ _ _ _ _ us hl => match us, hl with | [_, _], _ => rfl,
  binds_of (k := 0) (c.def_ 8 rfl) fun _ _ _ _ _ _ us hl => match us, hl with | [_], _ => rfl,
  binds_of (k := 0) (c.def_ 9 rfl) fun _ _ _ _ _ _ us hl => match us, hl with | [_, _], _ => rfl,
  binds_of (k := 0) (c.def_ 10 rfl) fun _ _ _ _ _ _ us hl => match us, hl with | [_], _ => rfl,
  binds_of (k := 0) (c.def_ 11 rfl) fun _ _ _ _ _ _ us hl => match us, hl with | [_, _], _ => rfl,
  binds_of (k := 0) (c.def_ 12 rfl) fun _ _ _ _ _ _ us hl => match us, hl with | [_, _], _ => rfl,
  binds_of (k := 0) (c.def_ 13 rfl) fun _ _ _ _ _ _ us hl => match us, hl with | [_, _], _ => rfl,
  binds_of (k := 0) (c.def_ 14 rfl) fun _ _ _ _ _ _ us hl => match us, hl with | [_, _], _ => rfl,
  binds_of (k := 0) (c.def_ 15 rfl) fun _ _ _ _ _ _ us hl => match us, hl with | [_, _], _ => rfl,
  binds_of (k := 0) (c.def_ 16 rfl) fun _ _ _ _ _ _ us hl => match us, hl with | [_, _], _ => rfl,
  binds_of (k := 0) (c.def_ 17 rfl) fun _ _ _ _ _ _ us hl => match us, hl with | [_, _], _ => rfl,
  binds_of (k := 0) (c.def_ 18 rfl) fun _ _ _ _ _ _ us hl => match us, hl with | [_, _], _ => rfl,
  binds_of (k := 0) (c.def_ 19 rfl) fun _ _ _ _ _ _ us hl => match us, hl with | [_, _], _ => rfl,
  binds_of (k := 0) (c.def_ 20 rfl) fun _ _ _ _ _ _ us hl => match us, hl with | [_, _], _ => rfl,
  binds_of (k := 0) (c.def_ 21 rfl) fun _ _ _ _ _ _ us hl => match us, hl with | [_, _], _ => rfl,
  binds_of (k := 0) (c.def_ 22 rfl) fun _ _ _ _ _ _ us hl => match us, hl with | [_, _], _ => rfl,
  binds_of (k := 0) (c.def_ 23 rfl) fun _ _ _ _ _ _ us hl => match us, hl with | [_, _], _ => rfl,
  binds_of (k := 0) (c.def_ 24 rfl) fun _ _ _ _ _ _ us hl => match us, hl with | [_, _], _ => rfl,
  binds_of (k := 0) (c.def_ 25 rfl) fun _ _ _ _ _ _ us hl => match us, hl with | [_, _], _ => rfl,
  binds_of (k := 0) (c.def_ 26 rfl) fun _ _ _ _ _ _ us hl => match us, hl with | [_, _], _ => rfl,
  binds_of (k := 0) (c.def_ 27 rfl) fun _ _ _ _ _ _ us hl => match us, hl with | [_, _], _ => rfl,
  binds_of (k := 0) (c.def_ 28 rfl) fun _ _ _ _ _ _ us hl => match us, hl with | [_, _], _ => rfl⟩
theorem ob_eq (s : PySem.W.SharedT) : ob s = hk.obs s.abs := obsT_eq (HandSHeadRun.getT_eq s)
end My
namespace My
local instance ltD1 : LT := { T := [] }
theorem fenv_s {T : Tab} {f : Nm} {fn : Fn} (h : T f = some fn) (D : Nat) (args : List PV) (S : IS) : fenv T (D + 1) f args S = runF (fenv T D) fn args S := by
  show (match T f with | some fn => runF (fenv T D) fn args S | none => .no) = _
  rw [h]
theorem ret_s {T : Tab} {f : Nm} {n m : Nat} {ds : DS} (h : T f = some ⟨n, m, none, ds⟩) {D : Nat} {args : List PV} {S S1 : IS} {v : PV} (hr : ds (fenv T D) (startR m args) S = .fl (.rt v) S1) (hl : args.length = n := by rfl) : fenv T (D + 1) f args S = .ok v S1 := by
  rw [fenv_s h]
  unfold runF
  rw [if_pos hl]
  simp only
  rw [hr]
def notObj : PV → Bool
  | .obj _ => false
  | _ => true
section
variable {fe : FE} {ρ ρ1 : Rho} {S S1 S2 : IS} {a b c d e : DE} {x y z v : PV} {t : DT} {f g : PV → PV → Option PV} {h : PV → Option PV} {p q : DS} {r r' : RS} {i n : Nat} {es : DEs} {xs : List PV} {w : Res PV}
theorem e_var (hi : (ρ[i]? : Option Slot) = some (.val v) := by rfl) : varE i fe ρ S = .ok v S := by unfold varE; rw [hi]
theorem e_un (ha : a fe ρ S = .ok x S1) (hf : h x = some v) : un h a fe ρ S = .ok v S1 := by unfold un; rw [ha]; simp only [Res.bind_ok]; rw [hf]; rfl
theorem e_bin (ha : a fe ρ S = .ok x S1) (hb : b fe ρ S1 = .ok y S2) (hf : f x y = some v) : bin f a b fe ρ S = .ok v S2 := by unfold bin; rw [ha]; simp only [Res.bind_ok]; rw [hb]; simp only [Res.bind_ok]; rw [hf]; rfl
theorem e_andT (ha : a fe ρ S = .ok (.bl true) S1) (hb : b fe ρ S1 = w) : andE a b fe ρ S = w := by unfold andE; rw [ha]; exact hb
theorem e_andF (ha : a fe ρ S = .ok (.bl false) S1) : andE a b fe ρ S = .ok (.bl false) S1 := by unfold andE; rw [ha]; rfl
theorem e_orT (ha : a fe ρ S = .ok (.bl true) S1) : orE a b fe ρ S = .ok (.bl true) S1 := by unfold orE; rw [ha]; rfl
theorem e_orF (ha : a fe ρ S = .ok (.bl false) S1) (hb : b fe ρ S1 = w) : orE a b fe ρ S = w := by unfold orE; rw [ha]; exact hb
theorem e_iteT (ha : a fe ρ S = .ok (.bl true) S1) (hb : b fe ρ S1 = w) : iteE a b c fe ρ S = w := by unfold iteE; rw [ha]; exact hb
theorem e_iteF (ha : a fe ρ S = .ok (.bl false) S1) (hb : c fe ρ S1 = w) : iteE a b c fe ρ S = w := by unfold iteE; rw [ha]; exact hb
theorem e_cons (ha : a fe ρ S = .ok x S1) (hb : es fe ρ S1 = .ok xs S2) : consA a es fe ρ S = .ok (x :: xs) S2 := by unfold consA; rw [ha]; simp only [Res.bind_ok]; rw [hb]; rfl
theorem e_nil : nilA fe ρ S = .ok [] S := rfl
theorem e_lst (ha : es fe ρ S = .ok xs S1) (hl : xs.length ≤ lim) : lstE es fe ρ S = .ok (.lst xs) S1 := by unfold lstE; rw [ha]; simp only [Res.bind_ok]; rw [if_pos hl]
theorem e_call {nm : Nm} (ha : es fe ρ S = .ok xs S1) (hf : fe nm xs S1 = w) : callE nm es fe ρ S = w := by unfold callE; rw [ha]; exact hf
theorem e_sub (ha : a fe ρ S = .ok x S1) (hb : b fe ρ S1 = .ok y S2) (hf : pyAt x y = some v) (hx : notObj x = true := by rfl) : subE a b fe ρ S = .ok v S2 := by
  unfold subE; rw [ha]; simp only [Res.bind_ok]; rw [hb]; simp only [Res.bind_ok]
  cases x <;> first | (cases hx; done) | exact (show Res.of (pyAt _ y) S2 = _ by rw [hf]; rfl)
theorem e_subO {k : Int} (ha : a fe ρ S = .ok (.obj n) S1) (hb : b fe ρ S1 = .ok (.int k) S2) (hs : S2[n]? = some (.lst xs)) (hf : atI xs k = some v) : subE a b fe ρ S = .ok v S2 := by
  unfold subE; rw [ha]; simp only [Res.bind_ok]; rw [hb]; simp only [Res.bind_ok]; rw [hs]; simp only; rw [hf]; rfl
theorem e_lc {own : List Nat} {it : DI} {vs : List PV} (hi : it fe ρ S = .ok xs S1) (hl : lcLoop fe t c e (wipe ρ own) xs [] S1 = .ok vs S2) : lcE own it t c e fe ρ S = .ok (.lst vs) S2 := by
  unfold lcE; rw [hi]; simp only [Res.bind_ok]; rw [hl]; rfl
theorem i_it (ha : a fe ρ S = .ok x S1) (hx : itemsOf x = some xs) : itE a fe ρ S = .ok xs S1 := by unfold itE; rw [ha]; simp only [Res.bind_ok]; rw [hx]; rfl
theorem i_rng1 {k : Int} (ha : a fe ρ S = .ok (.int k) S1) (hk : -16777216 ≤ k ∧ k ≤ 16777216) : rng1 a fe ρ S = .ok (rangeL 0 k.toNat) S1 := by unfold rng1; rw [ha]; simp only [Res.bind_ok]; rw [if_pos hk]
theorem s_seq (ha : p fe ρ S = .fl (.nx ρ1) S1) (hb : q fe ρ1 S1 = r) : seqS p q fe ρ S = r := by unfold seqS; rw [ha]; exact hb
theorem s_seqR (ha : p fe ρ S = .fl (.rt v) S1) : seqS p q fe ρ S = .fl (.rt v) S1 := by unfold seqS; rw [ha]
theorem s_ret (ha : a fe ρ S = .ok v S1) : retS a fe ρ S = .fl (.rt v) S1 := by unfold retS; rw [ha]; rfl
theorem s_asg (ha : a fe ρ S = .ok v S1) (ht : t v ρ = some ρ1) : asgS t a fe ρ S = .fl (.nx ρ1) S1 := by unfold asgS; rw [ha]; simp only [RS.ofE_ok]; rw [ht]
theorem s_par {ts : List (Nat × Bool)} (ha : es fe ρ S = .ok xs S1) (ht : parT ts xs ρ = some ρ1) : parS ts es fe ρ S = .fl (.nx ρ1) S1 := by unfold parS; rw [ha]; simp only; rw [ht]
theorem s_ifT (ha : a fe ρ S = .ok (.bl true) S1) (hp : p fe ρ S1 = r) : ifS a p q fe ρ S = r := by unfold ifS; rw [ha]; exact hp
theorem s_ifF (ha : a fe ρ S = .ok (.bl false) S1) (hq : q fe ρ S1 = r) : ifS a p q fe ρ S = r := by unfold ifS; rw [ha]; exact hq
theorem s_for {it : DI} (hi : it fe ρ S = .ok xs S1) (hl : forLoop fe t p xs ρ S1 = r) : forS it t p fe ρ S = r := by unfold forS; rw [hi]; exact hl
theorem f_cons {xs : List PV} {ρ2 : Rho} (ht : t x ρ = some ρ1) (hb : p fe ρ1 S = .fl (.nx ρ2) S1) (hl : forLoop fe t p xs ρ2 S1 = r) : forLoop fe t p (x :: xs) ρ S = r := by unfold forLoop; rw [ht]; simp only; rw [hb]; exact hl
theorem s_iset {k : Int} {o kk : DE} {j : Nat} (ha : a fe ρ S = .ok v S1) (ho : o fe ρ S1 = .ok (.obj n) S1) (hk : kk fe ρ S1 = .ok (.int k) S1) (hs : S1[n]? = some (.lst xs)) (hj : ixN xs.length k = some j) : isetS o kk a fe ρ S = .fl (.nx ρ) (S1.set n (.lst (xs.set j v))) := by
  unfold isetS; rw [ha]; simp only [RS.ofE_ok]; rw [ho]; simp only [RS.ofE_ok]; rw [hk]; simp only [RS.ofE_ok]; rw [hs]; simp only; rw [hj]
end
section
variable {fe : FE} {ρ : Rho} {S : IS} {c e : DE} {t : DT} {p : DS}
theorem f_inv (P : List PV → Rho → IS → Prop) : ∀ {xs : List PV} {ρ : Rho} {S : IS}, (∀ x rest ρ S, P (x :: rest) ρ S → ∃ ρ1 ρ2 S2, t x ρ = some ρ1 ∧ p fe ρ1 S = .fl (.nx ρ2) S2 ∧ P rest ρ2 S2) → P xs ρ S → ∃ ρ' S', forLoop fe t p xs ρ S = .fl (.nx ρ') S' ∧ P [] ρ' S'
  | [], ρ, S, _, h0 => ⟨ρ, S, rfl, h0⟩
  | x :: xs, ρ, S, h, h0 => by
    obtain ⟨ρ1, ρ2, S2, h1, h2, h3⟩ := h x xs ρ S h0
    obtain ⟨ρ', S', h4, h5⟩ := f_inv P (xs := xs) h h3
    exact ⟨ρ', S', f_cons h1 h2 h4, h5⟩
end
theorem mod_int {i j : Int} (h : j ≠ 0) : pyMod (.int i) (.int j) = some (.int (i.fmod j)) := by
  show (if j ≠ 0 then _ else _) = _
  rw [if_pos h]
theorem div_int {i j : Int} (h : 0 < j) (h2 : j < 1073741824) : pyDiv (.int i) (.int j) = some (.int (i.fdiv j)) := by
  show (if divOk j = true then _ else _) = _
  rw [if_pos]
  unfold divOk
  rw [Bool.or_eq_true]
  right
  rw [Bool.and_eq_true, decide_eq_true_eq, decide_eq_true_eq]
  omega
theorem mul_int {i j : Int} (h : j.natAbs < 2 ^ 64) : pyMul (.int i) (.int j) = some (.int (i * j)) := by
  show (if mulOk i j = true then _ else _) = _
  rw [if_pos]
  unfold mulOk
  rw [Bool.or_eq_true, Bool.or_eq_true]
  exact .inl (.inr (decide_eq_true h))
end My
namespace My
local instance ltD2 : LT := { T := [] }
theorem all_true {α : Type} (xs : List α) : pyAll (.lst (xs.map fun _ => PV.bl true)) = some (.bl true) := by
  have : allM blOf (xs.map fun _ => PV.bl true) = some (xs.map fun _ => true) := by
    induction xs with
    | nil => rfl
    | cons x xs ih =>
      rw [List.map_cons]
      unfold allM
      rw [ih]
      rfl
  show (allM blOf _).map _ = _
  rw [this]
  show some (PV.bl ((xs.map fun _ => true).all id)) = _
  congr 2
  rw [List.all_eq_true]
  intro b hb
  obtain ⟨_, _, rfl⟩ := List.mem_map.mp hb
  rfl
theorem ixN_nat {n k : Nat} (h : k < n) : ixN n (k : Int) = some k := by
  unfold ixN
  rw [if_pos (by omega), if_pos (by omega)]
  rfl
theorem atI_nat {α : Type} {xs : List α} {k : Nat} {x : α} (h : xs[k]? = some x) : atI xs (k : Int) = some x := by
  unfold atI
  rw [ixN_nat (List.getElem?_eq_some_iff.mp h).1]
  exact h
theorem mem_range {lo : Int} {n : Nat} {x : PV} (h : x ∈ rangeL lo n) : ∃ k : Nat, k < n ∧ x = .int (lo + k) := by
  unfold rangeL at h
  obtain ⟨k, hk, rfl⟩ := List.mem_map.mp h
  exact ⟨k, List.mem_range.mp hk, rfl⟩
structure Ti where
  x : Nat
  y : Nat
  n : Int
  u : Int
def Ti.pv (t : Ti) : PV := .tup [.str [t.x, t.y], .int t.n, .int t.u]
def Ti.pr (t : Ti) : PV := .str [t.x, t.y]
section
variable {g : List Nat} {l : List Ti} (D : Nat) (S : IS)
end
end My
namespace My
local instance ltD3 : LT := { T := [] }
end My
namespace My
local instance ltD4 : LT := { T := [] }
def J (n : Nat) (S : IS) : Prop := ∃ a b c : Int, S[n]? = some (.lst [.int a, .int b, .int c])
theorem J.set {n : Nat} {S : IS} (h : J n S) (a b c : Int) : J n (S.set n (.lst [.int a, .int b, .int c])) := by
  obtain ⟨_, _, _, h⟩ := h
  exact ⟨a, b, c, List.getElem?_set_self (List.getElem?_eq_some_iff.mp h).1⟩
theorem dip_okG (D : Nat) {n : Nat} {w : Int} {S : IS} (h : J n S) (hw : 0 < w) (hd : ∀ a : Int, pyDiv (.int a) (.int w) = some (.int (a.fdiv w))) : ∃ r S', fenv T (D + 1) n_f__law_dip [.obj n, .int w] S = .ok (.int r) S' ∧ 0 ≤ r ∧ r < w ∧ J n S' := by
  obtain ⟨a, b, c, hs⟩ := h
  have hn : n < S.length := (List.getElem?_eq_some_iff.mp hs).1
  have e1 : isetS (varE 0) (cstE (.int 2)) (bin pyAdd (subE (varE 0) (cstE (.int 2))) (cstE (.int 1))) (fenv T D) (startR 4 [.obj n, .int w]) S = .fl (.nx (startR 4 [.obj n, .int w])) (S.set n (.lst [.int a, .int b, .int (c + 1)])) :=
    s_iset (xs := [.int a, .int b, .int c]) (j := 2) (e_bin (e_subO e_var rfl hs rfl) rfl rfl) e_var rfl hs rfl
  have hs1 : (S.set n (.lst [.int a, .int b, .int (c + 1)]))[n]? = some (.lst [.int a, .int b, .int (c + 1)]) := List.getElem?_set_self hn
  have hn1 : n < (S.set n (IO.lst [.int a, .int b, .int (c + 1)])).length := by rw [List.length_set]; exact hn
  by_cases ha : 0 < a
  · refine ⟨a.fmod w, (S.set n (.lst [.int a, .int b, .int (c + 1)])).set n (.lst [.int (a.fdiv w), .int b, .int (c + 1)]), ?_, Int.fmod_nonneg_of_pos _ hw, Int.fmod_lt_of_pos _ hw, ⟨_, _, _, List.getElem?_set_self hn1⟩⟩
    refine ret_s t_f__law_dip (s_seq e1 (s_seqR (s_ifT (S1 := S.set n (.lst [.int a, .int b, .int (c + 1)])) (e_bin (e_subO e_var rfl hs1 rfl) rfl ?_) (s_seq (s_asg (e_bin (e_un (e_subO (v := .int a) e_var rfl hs1 rfl) rfl) e_var (mod_int (by omega))) rfl) (s_seq (s_iset (j := 0) (e_bin (e_un (e_subO (v := .int a) e_var rfl hs1 rfl) rfl) e_var (hd a)) e_var rfl hs1 rfl) (s_ret e_var))))))
    show some (PV.bl (decide (0 < a))) = _
    rw [decide_eq_true ha]
  · have hm : ∀ x : Int, pyMod (.int x) (.int 2147483399) = some (.int (x.fmod 2147483399)) := fun x => mod_int (by omega)
    refine ⟨Int.fmod (Int.fdiv ((b * 40692 + (c + 1) * 52021 + 31).fmod 2147483399) 2048) w, (S.set n (.lst [.int a, .int b, .int (c + 1)])).set n (.lst [.int a, .int ((b * 40692 + (c + 1) * 52021 + 31).fmod 2147483399), .int (c + 1)]), ?_, Int.fmod_nonneg_of_pos _ hw, Int.fmod_lt_of_pos _ hw, ⟨_, _, _, List.getElem?_set_self hn1⟩⟩
    refine ret_s t_f__law_dip (s_seq e1 (s_seq (s_ifF (S1 := S.set n (.lst [.int a, .int b, .int (c + 1)])) (e_bin (e_subO e_var rfl hs1 rfl) rfl ?_) rfl) (s_seq (s_asg (e_un (e_subO (v := .int b) e_var rfl hs1 rfl) rfl) rfl) (s_seq (s_iset (j := 1) (e_bin (e_un (e_bin (e_bin (e_bin e_var rfl (mul_int (by decide))) (e_bin (e_subO e_var rfl hs1 rfl) rfl (mul_int (by decide))) rfl) rfl rfl) rfl) rfl (hm _)) e_var rfl hs1 rfl) (s_ret (e_bin (e_un (e_bin (e_subO (k := 1) e_var rfl (List.getElem?_set_self hn1) rfl) rfl (div_int (by decide) (by decide))) rfl) e_var (mod_int (by omega))))))))
    show some (PV.bl (decide (0 < a))) = _
    rw [decide_eq_false ha]
theorem dip_ok (D : Nat) {n : Nat} {w : Int} {S : IS} (h : J n S) (hw : 0 < w) (hw2 : w < 1073741824) : ∃ r S', fenv T (D + 1) n_f__law_dip [.obj n, .int w] S = .ok (.int r) S' ∧ 0 ≤ r ∧ r < w ∧ J n S' := dip_okG D h hw fun _ => div_int hw hw2
theorem pick_ok (D : Nat) {n : Nat} {xs : List PV} {S : IS} (h : J n S) (hne : xs ≠ []) (hl : xs.length ≤ 1000) : ∃ x S', fenv T (D + 2) n_f__law_pick [.obj n, .lst xs] S = .ok x S' ∧ x ∈ xs ∧ J n S' := by
  have hp : 0 < xs.length := List.length_pos_iff.mpr hne
  obtain ⟨r, S', h1, h2, h3, h4⟩ := dip_ok D (w := xs.length) h (by omega) (by omega)
  have hr : r.toNat < xs.length := by omega
  refine ⟨xs[r.toNat], S', ret_s t_f__law_pick (s_seq (s_asg (e_call (e_cons e_var (e_cons (e_un e_var rfl) e_nil)) h1) rfl) (s_ret (e_sub e_var e_var ?_))), List.getElem_mem hr, h4⟩
  have h5 := atI_nat (List.getElem?_eq_getElem hr)
  rw [show ((r.toNat : Nat) : Int) = r by omega] at h5
  exact h5
end My
namespace My
local instance ltD5 : LT := { T := [] }
section
variable {fe : FE} {ρ ρ1 : Rho} {S S1 S2 : IS} {e : DE} {i x y : Nat} {xs ys : List PV} {k : Int} {j : Nat} {u v : PV} {kvs : List (PV × PV)}
end
end My
namespace My
local instance ltD6 : LT := { T := [] }
structure DOk (b : Int) (kvs : List (PV × PV)) : Prop where
  key : ∀ p ∈ kvs, ∃ s, p.1 = .str s
  val : ∀ p ∈ kvs, ∃ i, p.2 = .int i ∧ 0 ≤ i ∧ i ≤ b
theorem DOk.mono {b c : Int} {kvs : List (PV × PV)} (h : DOk b kvs) (hb : b ≤ c) : DOk c kvs := ⟨h.key, fun p hp => by
  obtain ⟨i, h1, h2, h3⟩ := h.val p hp
  exact ⟨i, h1, h2, by omega⟩⟩
end My
namespace My
local instance ltD7 : LT := { T := [] }
end My
namespace My
local instance ltD8 : LT := { T := [] }
theorem mul_intL {i j : Int} (h : i.natAbs < 2 ^ 64) : pyMul (.int i) (.int j) = some (.int (i * j)) := by
  show (if mulOk i j = true then _ else _) = _
  rw [if_pos]
  unfold mulOk
  rw [Bool.or_eq_true, Bool.or_eq_true]
  exact .inl (.inl (decide_eq_true h))
theorem jar_ok (D : Nat) (ns : List Int) (k : Nat) (hk : k ≤ 100) (S : IS) : ∃ S', fenv T (D + 1) n_f__law_jar [.scr ns, .int k] S = .ok (.obj S.length) S' ∧ J S.length S' := by
  have hn : ∀ j : Int, j.natAbs ≤ 100000 → j.natAbs < 2 ^ 64 := fun j h => Nat.lt_of_le_of_lt h (by decide)
  obtain ⟨c0, hc0⟩ : ∃ c0 : Int, c0 = 7369 * ((k : Int) + 5) * ((k : Int) + 2) + 29 * ns.length := ⟨_, rfl⟩
  obtain ⟨ρ', S1, h1, rfl, c, s3, e1⟩ := f_inv (fe := fenv T D) (t := tgN 3) (p := asgS (tgN 2) (bin pyMod (un pyInt (bin pyAdd (bin pyMul (varE 2) (cstE (.int 733))) (varE 3))) (cstE (.int 1000000009))))
    (fun rest ρ S' => S' = S ∧ ∃ (c : Int) (s3 : Slot), ρ = [.val (.scr ns), .val (.int k), .val (.int c), s3, .no, .no] ∧ ∀ z ∈ rest, ∃ i, z = .int i) (xs := (cut ns none (some 4)).map PV.int) (ρ := [.val (.scr ns), .val (.int k), .val (.int c0), .no, .no, .no]) (S := S)
    (fun z rest ρ S' ⟨e, c, s3, e1, hz⟩ => by
      subst e e1
      obtain ⟨i, rfl⟩ := hz z (by simp)
      exact ⟨_, _, _, rfl, s_asg (e_bin (e_un (e_bin (e_bin e_var rfl (mul_int (by decide))) e_var rfl) rfl) rfl (mod_int (by decide))) rfl, rfl, _, _, rfl, fun z hz' => hz z (List.mem_cons_of_mem _ hz')⟩)
    ⟨rfl, c0, .no, rfl, fun z hz => by obtain ⟨i, _, rfl⟩ := List.mem_map.mp hz; exact ⟨i, rfl⟩⟩
  obtain ⟨e1, _⟩ := e1
  subst e1
  have own : ∃ o : Int, iteE (bin pyLt (varE 1) (un pyLen (varE 0))) (subE (varE 0) (varE 1)) (cstE (.int 0)) (fenv T D) [.val (.scr ns), .val (.int k), .val (.int c), s3, .no, .no] S1 = .ok (.int o) S1 := by
    by_cases hl : k < ns.length
    · refine ⟨ns[k], e_iteT (S1 := S1) (e_bin e_var (e_un e_var rfl) ?_) (e_sub e_var e_var ?_)⟩
      · show some (PV.bl (decide ((k : Int) < ns.length))) = _
        rw [decide_eq_true (by omega)]
      · show (atI ns (k : Int)).map _ = _
        rw [atI_nat (List.getElem?_eq_getElem hl)]
        rfl
    · refine ⟨0, e_iteF (S1 := S1) (e_bin e_var (e_un e_var rfl) ?_) rfl⟩
      show some (PV.bl (decide ((k : Int) < ns.length))) = _
      rw [decide_eq_false (by omega)]
  obtain ⟨o, ho⟩ := own
  have dig : ∃ d : Int, iteE (orE (bin pyLt (varE 4) (cstE (.int 0))) (bin pyGe (varE 4) (bin pyPow (cstE (.int 10)) (cstE (.int 18))))) (un pyAbs (varE 4)) (cstE (.int 0)) (fenv T D) [.val (.scr ns), .val (.int k), .val (.int c), s3, .val (.int o), .no] S1 = .ok (.int d) S1 := by
    have hcnd : ∃ b, orE (bin pyLt (varE 4) (cstE (.int 0))) (bin pyGe (varE 4) (bin pyPow (cstE (.int 10)) (cstE (.int 18)))) (fenv T D) [.val (.scr ns), .val (.int k), .val (.int c), s3, .val (.int o), .no] S1 = .ok (.bl b) S1 := by
      by_cases h0 : o < 0
      · exact ⟨true, e_orT (e_bin e_var rfl (by show some (PV.bl (decide (o < 0))) = _; rw [decide_eq_true h0]))⟩
      · exact ⟨decide ((10 : Int) ^ 18 ≤ o), e_orF (e_bin e_var rfl (by show some (PV.bl (decide (o < 0))) = _; rw [decide_eq_false h0])) (e_bin (y := .int (10 ^ 18)) e_var (e_bin rfl rfl rfl) rfl)⟩
    obtain ⟨b, hb⟩ := hcnd
    cases b with
    | true => exact ⟨_, e_iteT hb (e_un e_var rfl)⟩
    | false => exact ⟨0, e_iteF hb rfl⟩
  obtain ⟨d, hd⟩ := dig
  refine ⟨S1 ++ [.lst [.int d, .int (Int.fmod (c * 8117 + o * 64013 + 105019 * ((k : Int) + 1)) 2147483563), .int 0]], ?_, d, Int.fmod (c * 8117 + o * 64013 + 105019 * ((k : Int) + 1)) 2147483563, 0, ?_⟩
  · refine ret_s t_f__law_jar (s_seq (s_asg (v := .int c0) (e_bin (e_bin (e_bin rfl (e_bin e_var rfl rfl) (mul_intL (by decide))) (e_bin e_var rfl rfl) (mul_int (hn _ (by omega)))) (e_bin rfl (e_un e_var rfl) (mul_intL (by decide))) (by rw [hc0]; rfl)) rfl) (s_seq (s_for (i_it (x := .lst ((cut ns none (some 4)).map PV.int)) rfl rfl) h1) (s_seq (s_asg ho rfl) (s_seq (s_asg hd rfl) (s_ret ?_)))))
    have hes : consA (varE 5) (consA (bin pyMod (un pyInt (bin pyAdd (bin pyAdd (bin pyMul (varE 2) (cstE (.int 8117))) (bin pyMul (varE 4) (cstE (.int 64013)))) (bin pyMul (cstE (.int 105019)) (bin pyAdd (varE 1) (cstE (.int 1)))))) (cstE (.int 2147483563))) (consA (cstE (.int 0)) nilA)) (fenv T D) [.val (.scr ns), .val (.int k), .val (.int c), s3, .val (.int o), .val (.int d)] S1 = .ok [.int d, .int (Int.fmod (c * 8117 + o * 64013 + 105019 * ((k : Int) + 1)) 2147483563), .int 0] S1 :=
      e_cons e_var (e_cons (e_bin (e_un (e_bin (e_bin (e_bin e_var rfl (mul_int (by decide))) (e_bin e_var rfl (mul_int (by decide))) rfl) (e_bin rfl (e_bin e_var rfl rfl) (mul_intL (by decide))) rfl) rfl) rfl (mod_int (by decide))) (e_cons rfl e_nil))
    show newE _ (fenv T D) [.val (.scr ns), .val (.int k), .val (.int c), s3, .val (.int o), .val (.int d)] S1 = _
    unfold newE
    rw [hes]
    simp only [Res.bind_ok]
    exact if_pos (show 3 ≤ lim by decide)
  · rw [List.getElem?_append_right (Nat.le_refl _), Nat.sub_self]
    rfl
mutual
theorem eqB_refl : ∀ {n : Nat} {x : PV}, shp n x = true → eqB x x = true
  | n, x, h => by
    cases x <;> first | (simp [shp] at h; done) | (simp [eqB]; done) | skip
    · cases n with
      | zero => simp [shp] at h
      | succ n => simp only [shp] at h; simp only [eqB]; exact eqBs_refl h
    · cases n with
      | zero => simp [shp] at h
      | succ n => simp only [shp] at h; simp only [eqB]; exact eqBs_refl h
theorem eqBs_refl : ∀ {n : Nat} {xs : List PV}, shps n xs = true → eqBs xs xs = true
  | n, [], _ => rfl
  | n, x :: xs, h => by
    simp only [shps, Bool.and_eq_true] at h
    simp only [eqBs, Bool.and_eq_true]
    exact ⟨eqB_refl h.1, eqBs_refl h.2⟩
end
end My
namespace My
local instance ltD9 : LT := { T := [] }
section
variable {fe : FE} {ρ ρ1 : Rho} {S S1 S2 : IS} {a b c d e : DE} {x y z v : PV} {t : DT} {p q : DS} {r r' : RS} {i n : Nat}
end
end My
namespace My
local instance ltD10 : LT := { T := [] }
section
variable {fe : FE} {ρ ρ1 : Rho} {S S1 S2 : IS} {a b c d e : DE} {x y z v w : PV} {t : DT} {p q : DS} {r r' : RS} {i j n m : Nat} {es : DEs} {vs : List PV}
end
structure Od (v : PV) : Prop where
  pl : isPl v = true
  rp : reprOk v = true
theorem Od.repr {v : PV} (h : Od v) : pyReprS v = some (.str (shx v)) := by unfold pyReprS; rw [if_pos h.rp]
def oddB (v : PV) : Bool := isPl v && reprOk v
theorem od_of {v : PV} (h : oddB v = true) : Od v := by
  unfold oddB at h
  rw [Bool.and_eq_true] at h
  exact ⟨h.1, h.2⟩
def prB (g : List Nat) : PV → Bool
  | .str [x, y] => decide (x < y) && (decide (x ∈ g) && decide (y ∈ g))
  | _ => false
end My
namespace My
local instance ltD11 : LT := { T := [] }
abbrev kPair : List Nat := [112, 97, 105, 114]
def kindV (k : List Nat) (v : PV) : PV := .lst [.str k, .str (shx v)]
section
variable {fe : FE} {ρ : Rho} {S : IS} {d : DE} {v : PV}
end
end My
namespace My
local instance ltD12 : LT := { T := [] }
def first (g : List Nat) (v : PV) : List PV := if prB g v = true then [] else [kindV kPair v]
section
variable {g : List Nat} {l : List Ti} {v n u : PV}
end
def odd1 : List PV := [.non, .bl true, .bl false, .int 0, .int 1, .int (-1), .int 2, .int (10 ^ 30), .str []]
def odd2 : List PV := odd1 ++ [.str [97], .str [97, 98], .str [98, 97], .str [97, 98, 99], .tup [], .tup [.str [97, 98]], .tup [.str [97, 98], .int 1, .int 2], .lst [.str [97, 98]], .lst []]
def odd3 : List PV := odd2 ++ [.dct [], .dct [(.str [97, 98], .int 1)], .tup [.non, .int 0], .str [97, 98, 10, 97, 98, 32, 49, 47, 50], .tup [.tup [.str [97, 98], .int 1, .int 2]], .tup [.int 1, .int 2], .lst [.lst []], .tup [.tup []], .str [65, 66]]
theorem odd3_ok : odd3.all oddB = true := by decide +kernel
theorem odd_ok (D : Nat) {n : Nat} {S : IS} (h : J n S) : ∃ v S', fenv T (D + 3) n_f__law_odd [.obj n] S = .ok v S' ∧ Od v ∧ J n S' := by
  obtain ⟨v, S', h1, h2, h3⟩ := pick_ok D (xs := odd3) h (by decide) (by decide)
  refine ⟨v, S', ret_s t_f__law_odd (s_seq (s_asg (v := .lst odd1) rfl rfl) (s_seq (s_asg (v := .lst odd2) (e_bin e_var (y := .lst (odd2.drop 9)) rfl rfl) rfl) (s_ret (e_call (e_cons e_var (e_cons (e_bin (y := .lst (odd3.drop 18)) e_var rfl rfl) e_nil)) h1)))), ?_, h3⟩
  have := odd3_ok
  rw [List.all_eq_true] at this
  exact od_of (this v h2)
end My
namespace My
local instance ltD_Pu8 : LT := { T := [] }
def made (a b : PV) : List PV := [.exn [73, 110, 118, 97, 108, 105, 100, 84, 101, 120, 116] [([103, 105, 118, 101, 110], a)], .exn [73, 110, 118, 97, 108, 105, 100, 81, 117, 101, 115, 116, 105, 111, 110, 115] [([103, 105, 118, 101, 110], b)], .exn [73, 110, 118, 97, 108, 105, 100, 80, 97, 105, 114] [([103, 105, 118, 101, 110], a)], .exn [73, 110, 118, 97, 108, 105, 100, 83, 104, 97, 114, 101] [([103, 105, 118, 101, 110], b)], .exn [73, 110, 118, 97, 108, 105, 100, 83, 112, 108, 105, 116] [([103, 105, 118, 101, 110], a)], .exn [73, 110, 118, 97, 108, 105, 100, 82, 105, 110, 103] [([103, 105, 118, 101, 110], b)], .exn [73, 110, 118, 97, 108, 105, 100, 76, 111, 116] [([103, 105, 118, 101, 110], a)], .exn [73, 110, 118, 97, 108, 105, 100, 66, 101, 116] [([103, 105, 118, 101, 110], b)], .exn [73, 110, 118, 97, 108, 105, 100, 78, 117, 109, 98, 101, 114] [([103, 105, 118, 101, 110], a)], .exn [73, 110, 118, 97, 108, 105, 100, 87, 105, 115, 104] [([103, 105, 118, 101, 110], b)], .exn [73, 110, 118, 97, 108, 105, 100, 67, 111, 109, 109, 97, 110, 100] [([103, 105, 118, 101, 110], a)], .exn [78, 111, 116, 65, 87, 101, 98] [([103, 105, 118, 101, 110], b)], .exn [73, 110, 118, 97, 108, 105, 100, 83, 104, 97, 114, 101, 115] [([105, 110, 100, 101, 120], a)], .exn [73, 110, 118, 97, 108, 105, 100, 67, 114, 111, 119, 100] [([105, 110, 100, 101, 120], b)], .exn [85, 110, 107, 110, 111, 119, 110, 81, 117, 101, 115, 116, 105, 111, 110] [([103, 105, 118, 101, 110], a)], .exn [85, 110, 107, 110, 111, 119, 110, 84, 105, 101] [([103, 105, 118, 101, 110], b)], .exn [84, 111, 111, 77, 97, 110, 121] [([103, 105, 118, 101, 110], a)], .exn [66, 114, 111, 107, 101, 110] [([105, 110, 100, 101, 120], b)]]
def made2 : List PV := [.exn [78, 111, 67, 114, 111, 119, 100] [], .exn [78, 111, 116, 104, 105, 110, 103, 84, 111, 85, 110, 100, 111] []]
def onlyB (n k : Nat) : PV := .lst ((List.range n).map fun i => PV.bl (decide (i = k)))
def under (k : Nat) : Nat := if k < 14 then 0 else if k < 16 then 1 else 2
section
variable (D : Nat) (a b : PV) (S : IS)
theorem place_ok : fenv T (D + 1) n_f__law_by_place [a, b] S = .ok (.lst (made a b)) S := by kernel_rfl
theorem word_ok : fenv T (D + 1) n_f__law_by_word [a, b] S = .ok (.lst (made a b)) S := by kernel_rfl
def ex0 (a b : PV) : PV := .exn [73, 110, 118, 97, 108, 105, 100, 84, 101, 120, 116] [([103, 105, 118, 101, 110], a)]
theorem so0 : fenv T (D + 1) n_f__law_sorts [ex0 a b] S = .ok (onlyB 20 0) S := by kernel_rfl
theorem ba0 : fenv T (D + 1) n_f__law_bases [ex0 a b] S = .ok (onlyB 3 (under 0)) S := by kernel_rfl
theorem ke0 : fenv T (D + 1) n_f__law_kept [ex0 a b, .int 0] S = .ok a S := by kernel_rfl
def ex1 (a b : PV) : PV := .exn [73, 110, 118, 97, 108, 105, 100, 81, 117, 101, 115, 116, 105, 111, 110, 115] [([103, 105, 118, 101, 110], b)]
theorem so1 : fenv T (D + 1) n_f__law_sorts [ex1 a b] S = .ok (onlyB 20 1) S := by kernel_rfl
theorem ba1 : fenv T (D + 1) n_f__law_bases [ex1 a b] S = .ok (onlyB 3 (under 1)) S := by kernel_rfl
theorem ke1 : fenv T (D + 1) n_f__law_kept [ex1 a b, .int 1] S = .ok b S := by kernel_rfl
def ex2 (a b : PV) : PV := .exn [73, 110, 118, 97, 108, 105, 100, 80, 97, 105, 114] [([103, 105, 118, 101, 110], a)]
theorem so2 : fenv T (D + 1) n_f__law_sorts [ex2 a b] S = .ok (onlyB 20 2) S := by kernel_rfl
theorem ba2 : fenv T (D + 1) n_f__law_bases [ex2 a b] S = .ok (onlyB 3 (under 2)) S := by kernel_rfl
theorem ke2 : fenv T (D + 1) n_f__law_kept [ex2 a b, .int 2] S = .ok a S := by kernel_rfl
def ex3 (a b : PV) : PV := .exn [73, 110, 118, 97, 108, 105, 100, 83, 104, 97, 114, 101] [([103, 105, 118, 101, 110], b)]
theorem so3 : fenv T (D + 1) n_f__law_sorts [ex3 a b] S = .ok (onlyB 20 3) S := by kernel_rfl
theorem ba3 : fenv T (D + 1) n_f__law_bases [ex3 a b] S = .ok (onlyB 3 (under 3)) S := by kernel_rfl
theorem ke3 : fenv T (D + 1) n_f__law_kept [ex3 a b, .int 3] S = .ok b S := by kernel_rfl
def ex4 (a b : PV) : PV := .exn [73, 110, 118, 97, 108, 105, 100, 83, 112, 108, 105, 116] [([103, 105, 118, 101, 110], a)]
theorem so4 : fenv T (D + 1) n_f__law_sorts [ex4 a b] S = .ok (onlyB 20 4) S := by kernel_rfl
theorem ba4 : fenv T (D + 1) n_f__law_bases [ex4 a b] S = .ok (onlyB 3 (under 4)) S := by kernel_rfl
theorem ke4 : fenv T (D + 1) n_f__law_kept [ex4 a b, .int 4] S = .ok a S := by kernel_rfl
def ex5 (a b : PV) : PV := .exn [73, 110, 118, 97, 108, 105, 100, 82, 105, 110, 103] [([103, 105, 118, 101, 110], b)]
theorem so5 : fenv T (D + 1) n_f__law_sorts [ex5 a b] S = .ok (onlyB 20 5) S := by kernel_rfl
theorem ba5 : fenv T (D + 1) n_f__law_bases [ex5 a b] S = .ok (onlyB 3 (under 5)) S := by kernel_rfl
theorem ke5 : fenv T (D + 1) n_f__law_kept [ex5 a b, .int 5] S = .ok b S := by kernel_rfl
def ex6 (a b : PV) : PV := .exn [73, 110, 118, 97, 108, 105, 100, 76, 111, 116] [([103, 105, 118, 101, 110], a)]
theorem so6 : fenv T (D + 1) n_f__law_sorts [ex6 a b] S = .ok (onlyB 20 6) S := by kernel_rfl
theorem ba6 : fenv T (D + 1) n_f__law_bases [ex6 a b] S = .ok (onlyB 3 (under 6)) S := by kernel_rfl
theorem ke6 : fenv T (D + 1) n_f__law_kept [ex6 a b, .int 6] S = .ok a S := by kernel_rfl
def ex7 (a b : PV) : PV := .exn [73, 110, 118, 97, 108, 105, 100, 66, 101, 116] [([103, 105, 118, 101, 110], b)]
theorem so7 : fenv T (D + 1) n_f__law_sorts [ex7 a b] S = .ok (onlyB 20 7) S := by kernel_rfl
theorem ba7 : fenv T (D + 1) n_f__law_bases [ex7 a b] S = .ok (onlyB 3 (under 7)) S := by kernel_rfl
theorem ke7 : fenv T (D + 1) n_f__law_kept [ex7 a b, .int 7] S = .ok b S := by kernel_rfl
def ex8 (a b : PV) : PV := .exn [73, 110, 118, 97, 108, 105, 100, 78, 117, 109, 98, 101, 114] [([103, 105, 118, 101, 110], a)]
theorem so8 : fenv T (D + 1) n_f__law_sorts [ex8 a b] S = .ok (onlyB 20 8) S := by kernel_rfl
theorem ba8 : fenv T (D + 1) n_f__law_bases [ex8 a b] S = .ok (onlyB 3 (under 8)) S := by kernel_rfl
theorem ke8 : fenv T (D + 1) n_f__law_kept [ex8 a b, .int 8] S = .ok a S := by kernel_rfl
def ex9 (a b : PV) : PV := .exn [73, 110, 118, 97, 108, 105, 100, 87, 105, 115, 104] [([103, 105, 118, 101, 110], b)]
theorem so9 : fenv T (D + 1) n_f__law_sorts [ex9 a b] S = .ok (onlyB 20 9) S := by kernel_rfl
theorem ba9 : fenv T (D + 1) n_f__law_bases [ex9 a b] S = .ok (onlyB 3 (under 9)) S := by kernel_rfl
theorem ke9 : fenv T (D + 1) n_f__law_kept [ex9 a b, .int 9] S = .ok b S := by kernel_rfl
def ex10 (a b : PV) : PV := .exn [73, 110, 118, 97, 108, 105, 100, 67, 111, 109, 109, 97, 110, 100] [([103, 105, 118, 101, 110], a)]
theorem so10 : fenv T (D + 1) n_f__law_sorts [ex10 a b] S = .ok (onlyB 20 10) S := by kernel_rfl
theorem ba10 : fenv T (D + 1) n_f__law_bases [ex10 a b] S = .ok (onlyB 3 (under 10)) S := by kernel_rfl
theorem ke10 : fenv T (D + 1) n_f__law_kept [ex10 a b, .int 10] S = .ok a S := by kernel_rfl
def ex11 (a b : PV) : PV := .exn [78, 111, 116, 65, 87, 101, 98] [([103, 105, 118, 101, 110], b)]
theorem so11 : fenv T (D + 1) n_f__law_sorts [ex11 a b] S = .ok (onlyB 20 11) S := by kernel_rfl
theorem ba11 : fenv T (D + 1) n_f__law_bases [ex11 a b] S = .ok (onlyB 3 (under 11)) S := by kernel_rfl
theorem ke11 : fenv T (D + 1) n_f__law_kept [ex11 a b, .int 11] S = .ok b S := by kernel_rfl
def ex12 (a b : PV) : PV := .exn [73, 110, 118, 97, 108, 105, 100, 83, 104, 97, 114, 101, 115] [([105, 110, 100, 101, 120], a)]
theorem so12 : fenv T (D + 1) n_f__law_sorts [ex12 a b] S = .ok (onlyB 20 12) S := by kernel_rfl
theorem ba12 : fenv T (D + 1) n_f__law_bases [ex12 a b] S = .ok (onlyB 3 (under 12)) S := by kernel_rfl
theorem ke12 : fenv T (D + 1) n_f__law_kept [ex12 a b, .int 12] S = .ok a S := by kernel_rfl
def ex13 (a b : PV) : PV := .exn [73, 110, 118, 97, 108, 105, 100, 67, 114, 111, 119, 100] [([105, 110, 100, 101, 120], b)]
theorem so13 : fenv T (D + 1) n_f__law_sorts [ex13 a b] S = .ok (onlyB 20 13) S := by kernel_rfl
theorem ba13 : fenv T (D + 1) n_f__law_bases [ex13 a b] S = .ok (onlyB 3 (under 13)) S := by kernel_rfl
theorem ke13 : fenv T (D + 1) n_f__law_kept [ex13 a b, .int 13] S = .ok b S := by kernel_rfl
def ex14 (a b : PV) : PV := .exn [85, 110, 107, 110, 111, 119, 110, 81, 117, 101, 115, 116, 105, 111, 110] [([103, 105, 118, 101, 110], a)]
theorem so14 : fenv T (D + 1) n_f__law_sorts [ex14 a b] S = .ok (onlyB 20 14) S := by kernel_rfl
theorem ba14 : fenv T (D + 1) n_f__law_bases [ex14 a b] S = .ok (onlyB 3 (under 14)) S := by kernel_rfl
theorem ke14 : fenv T (D + 1) n_f__law_kept [ex14 a b, .int 14] S = .ok a S := by kernel_rfl
def ex15 (a b : PV) : PV := .exn [85, 110, 107, 110, 111, 119, 110, 84, 105, 101] [([103, 105, 118, 101, 110], b)]
theorem so15 : fenv T (D + 1) n_f__law_sorts [ex15 a b] S = .ok (onlyB 20 15) S := by kernel_rfl
theorem ba15 : fenv T (D + 1) n_f__law_bases [ex15 a b] S = .ok (onlyB 3 (under 15)) S := by kernel_rfl
theorem ke15 : fenv T (D + 1) n_f__law_kept [ex15 a b, .int 15] S = .ok b S := by kernel_rfl
def ex16 (a b : PV) : PV := .exn [84, 111, 111, 77, 97, 110, 121] [([103, 105, 118, 101, 110], a)]
theorem so16 : fenv T (D + 1) n_f__law_sorts [ex16 a b] S = .ok (onlyB 20 16) S := by kernel_rfl
theorem ba16 : fenv T (D + 1) n_f__law_bases [ex16 a b] S = .ok (onlyB 3 (under 16)) S := by kernel_rfl
theorem ke16 : fenv T (D + 1) n_f__law_kept [ex16 a b, .int 16] S = .ok a S := by kernel_rfl
def ex17 (a b : PV) : PV := .exn [66, 114, 111, 107, 101, 110] [([105, 110, 100, 101, 120], b)]
theorem so17 : fenv T (D + 1) n_f__law_sorts [ex17 a b] S = .ok (onlyB 20 17) S := by kernel_rfl
theorem ba17 : fenv T (D + 1) n_f__law_bases [ex17 a b] S = .ok (onlyB 3 (under 17)) S := by kernel_rfl
theorem ke17 : fenv T (D + 1) n_f__law_kept [ex17 a b, .int 17] S = .ok b S := by kernel_rfl
def ex18 (a b : PV) : PV := .exn [78, 111, 67, 114, 111, 119, 100] []
theorem so18 : fenv T (D + 1) n_f__law_sorts [ex18 a b] S = .ok (onlyB 20 18) S := by kernel_rfl
theorem ba18 : fenv T (D + 1) n_f__law_bases [ex18 a b] S = .ok (onlyB 3 (under 18)) S := by kernel_rfl
def ex19 (a b : PV) : PV := .exn [78, 111, 116, 104, 105, 110, 103, 84, 111, 85, 110, 100, 111] []
theorem so19 : fenv T (D + 1) n_f__law_sorts [ex19 a b] S = .ok (onlyB 20 19) S := by kernel_rfl
theorem ba19 : fenv T (D + 1) n_f__law_bases [ex19 a b] S = .ok (onlyB 3 (under 19)) S := by kernel_rfl
end
theorem lc_each {α : Type} {fe : FE} {t : DT} {e : DE} {ρ : Rho} {f : α → PV} {P : IS → Prop} {Q : α → PV → Prop} : ∀ {xs : List α} {acc : List PV} {S : IS}, (∀ x ∈ xs, ∀ S, P S → ∃ ρ1 v S', t (f x) ρ = some ρ1 ∧ e fe ρ1 S = .ok v S' ∧ Q x v ∧ P S') → P S → ∃ (ps : List (α × PV)) (S' : IS), lcLoop fe t yesE e ρ (xs.map f) acc S = .ok (acc ++ ps.map (·.2)) S' ∧ P S' ∧ ps.map (·.1) = xs ∧ ∀ p ∈ ps, Q p.1 p.2
  | [], acc, S, _, h0 => ⟨[], S, by simp [lcLoop], h0, rfl, fun p hp => absurd hp List.not_mem_nil⟩
  | x :: xs, acc, S, h, h0 => by
    obtain ⟨ρ1, v, S1, h1, h2, h3, h4⟩ := h x (by simp) S h0
    obtain ⟨ps, S2, e1, e2, e3, e4⟩ := lc_each (xs := xs) (acc := acc ++ [v]) (fun y hy => h y (List.mem_cons_of_mem _ hy)) h4
    refine ⟨(x, v) :: ps, S2, ?_, e2, by rw [List.map_cons, e3], fun p hp => ?_⟩
    · rw [List.map_cons]
      unfold lcLoop
      rw [h1]
      simp only
      show (e fe ρ1 S).bind _ = _
      rw [h2]
      simp only [Res.bind_ok]
      rw [e1, List.append_assoc]
      rfl
    · rcases List.mem_cons.mp hp with rfl | hp
      · exact h3
      · exact e4 p hp
def plains : List PV := [.exn [87, 114, 111, 110, 103, 86, 97, 108, 117, 101] [], .exn [87, 114, 111, 110, 103, 78, 97, 109, 101] [], .exn [78, 111, 116, 80, 111, 115, 115, 105, 98, 108, 101] []]
def sR (n : Nat) (m : List PV) (a b : PV) (s4 s5 s6 : Slot) : Rho := [.val (.obj n), .val (.lst m), .val a, .val b, s4, s5, s6, .no]
theorem neR_refl (v : List Nat) : pyNeR (.str v) (.str v) = some (.bl false) := by
  show some (PV.bl (!decide (sN v = sN v))) = _
  rw [decide_eq_true rfl]
  rfl
section
variable (D n : Nat) (a b : PV) (S : IS) (s5 s6 : Slot)
theorem turn0 (ha : Od a) (hb : Od b) : (seqS (ifS (bin pyNe (callE n_f__law_sorts (consA (subE (varE 1) (varE 4)) nilA)) (lcE [7] (rng1 (cstE (.int 20))) (tgN 7) yesE (bin pyEq (varE 7) (varE 4)))) (retS (cstE (.bl false))) nextS) (seqS (asgS (tgN 5) (iteE (bin pyLt (varE 4) (cstE (.int 14))) (cstE (.int 0)) (iteE (bin pyLt (varE 4) (cstE (.int 16))) (cstE (.int 1)) (cstE (.int 2))))) (seqS (ifS (bin pyNe (callE n_f__law_bases (consA (subE (varE 1) (varE 4)) nilA)) (lcE [7] (rng1 (cstE (.int 3))) (tgN 7) yesE (bin pyEq (varE 7) (varE 5)))) (retS (cstE (.bl false))) nextS) (seqS (asgS (tgN 6) (iteE (bin pyEq (bin pyMod (un pyInt (varE 4)) (cstE (.int 2))) (cstE (.int 0))) (varE 2) (varE 3))) (ifS (andE (bin pyLt (varE 4) (cstE (.int 18))) (bin pyNeR (un pyReprS (callE n_f__law_kept (consA (subE (varE 1) (varE 4)) (consA (varE 4) nilA)))) (un pyReprS (varE 6)))) (retS (cstE (.bl false))) nextS))))) (fenv T (D + 1)) (sR n (made a b ++ made2) a b (.val (.int 0)) s5 s6) S = .fl (.nx (sR n (made a b ++ made2) a b (.val (.int 0)) (.val (.int 0)) (.val a))) S := by
  have q1 : (ifS (bin pyNe (callE n_f__law_sorts (consA (subE (varE 1) (varE 4)) nilA)) (lcE [7] (rng1 (cstE (.int 20))) (tgN 7) yesE (bin pyEq (varE 7) (varE 4)))) (retS (cstE (.bl false))) nextS) (fenv T (D + 1)) (sR n (made a b ++ made2) a b (.val (.int 0)) s5 s6) S = .fl (.nx (sR n (made a b ++ made2) a b (.val (.int 0)) s5 s6)) S := s_ifF (e_bin (e_call (e_cons (e_sub (e_var (i := 1) rfl) (e_var (i := 4) rfl) rfl) e_nil) (so0 D a b S)) (e_lc (own := [7]) (vs := (List.range 20).map fun i => PV.bl (decide (i = 0))) (xs := rangeL 0 20) (S1 := S) (by kernel_rfl) (by kernel_rfl)) (by kernel_rfl)) rfl
  have q2 : (asgS (tgN 5) (iteE (bin pyLt (varE 4) (cstE (.int 14))) (cstE (.int 0)) (iteE (bin pyLt (varE 4) (cstE (.int 16))) (cstE (.int 1)) (cstE (.int 2))))) (fenv T (D + 1)) (sR n (made a b ++ made2) a b (.val (.int 0)) s5 s6) S = .fl (.nx (sR n (made a b ++ made2) a b (.val (.int 0)) (.val (.int 0)) s6)) S := by kernel_rfl
  have q3 : (ifS (bin pyNe (callE n_f__law_bases (consA (subE (varE 1) (varE 4)) nilA)) (lcE [7] (rng1 (cstE (.int 3))) (tgN 7) yesE (bin pyEq (varE 7) (varE 5)))) (retS (cstE (.bl false))) nextS) (fenv T (D + 1)) (sR n (made a b ++ made2) a b (.val (.int 0)) (.val (.int 0)) s6) S = .fl (.nx (sR n (made a b ++ made2) a b (.val (.int 0)) (.val (.int 0)) s6)) S := s_ifF (e_bin (e_call (e_cons (e_sub (e_var (i := 1) rfl) (e_var (i := 4) rfl) rfl) e_nil) (ba0 D a b S)) (e_lc (own := [7]) (vs := (List.range 3).map fun i => PV.bl (decide (i = under 0))) (xs := rangeL 0 3) (S1 := S) (by kernel_rfl) (by kernel_rfl)) (by kernel_rfl)) rfl
  have q4 : (asgS (tgN 6) (iteE (bin pyEq (bin pyMod (un pyInt (varE 4)) (cstE (.int 2))) (cstE (.int 0))) (varE 2) (varE 3))) (fenv T (D + 1)) (sR n (made a b ++ made2) a b (.val (.int 0)) (.val (.int 0)) s6) S = .fl (.nx (sR n (made a b ++ made2) a b (.val (.int 0)) (.val (.int 0)) (.val a))) S := by kernel_rfl
  have q5 : (ifS (andE (bin pyLt (varE 4) (cstE (.int 18))) (bin pyNeR (un pyReprS (callE n_f__law_kept (consA (subE (varE 1) (varE 4)) (consA (varE 4) nilA)))) (un pyReprS (varE 6)))) (retS (cstE (.bl false))) nextS) (fenv T (D + 1)) (sR n (made a b ++ made2) a b (.val (.int 0)) (.val (.int 0)) (.val a)) S = .fl (.nx (sR n (made a b ++ made2) a b (.val (.int 0)) (.val (.int 0)) (.val a))) S := s_ifF (e_andT (by kernel_rfl) (e_bin (e_un (e_call (e_cons (e_sub (e_var (i := 1) rfl) (e_var (i := 4) rfl) rfl) (e_cons (e_var (i := 4) rfl) e_nil)) (ke0 D a b S)) ha.repr) (e_un (e_var (i := 6) rfl) ha.repr) (neR_refl _))) rfl
  exact s_seq q1 (s_seq q2 (s_seq q3 (s_seq q4 q5)))
theorem turn1 (ha : Od a) (hb : Od b) : (seqS (ifS (bin pyNe (callE n_f__law_sorts (consA (subE (varE 1) (varE 4)) nilA)) (lcE [7] (rng1 (cstE (.int 20))) (tgN 7) yesE (bin pyEq (varE 7) (varE 4)))) (retS (cstE (.bl false))) nextS) (seqS (asgS (tgN 5) (iteE (bin pyLt (varE 4) (cstE (.int 14))) (cstE (.int 0)) (iteE (bin pyLt (varE 4) (cstE (.int 16))) (cstE (.int 1)) (cstE (.int 2))))) (seqS (ifS (bin pyNe (callE n_f__law_bases (consA (subE (varE 1) (varE 4)) nilA)) (lcE [7] (rng1 (cstE (.int 3))) (tgN 7) yesE (bin pyEq (varE 7) (varE 5)))) (retS (cstE (.bl false))) nextS) (seqS (asgS (tgN 6) (iteE (bin pyEq (bin pyMod (un pyInt (varE 4)) (cstE (.int 2))) (cstE (.int 0))) (varE 2) (varE 3))) (ifS (andE (bin pyLt (varE 4) (cstE (.int 18))) (bin pyNeR (un pyReprS (callE n_f__law_kept (consA (subE (varE 1) (varE 4)) (consA (varE 4) nilA)))) (un pyReprS (varE 6)))) (retS (cstE (.bl false))) nextS))))) (fenv T (D + 1)) (sR n (made a b ++ made2) a b (.val (.int 1)) s5 s6) S = .fl (.nx (sR n (made a b ++ made2) a b (.val (.int 1)) (.val (.int 0)) (.val b))) S := by
  have q1 : (ifS (bin pyNe (callE n_f__law_sorts (consA (subE (varE 1) (varE 4)) nilA)) (lcE [7] (rng1 (cstE (.int 20))) (tgN 7) yesE (bin pyEq (varE 7) (varE 4)))) (retS (cstE (.bl false))) nextS) (fenv T (D + 1)) (sR n (made a b ++ made2) a b (.val (.int 1)) s5 s6) S = .fl (.nx (sR n (made a b ++ made2) a b (.val (.int 1)) s5 s6)) S := s_ifF (e_bin (e_call (e_cons (e_sub (e_var (i := 1) rfl) (e_var (i := 4) rfl) rfl) e_nil) (so1 D a b S)) (e_lc (own := [7]) (vs := (List.range 20).map fun i => PV.bl (decide (i = 1))) (xs := rangeL 0 20) (S1 := S) (by kernel_rfl) (by kernel_rfl)) (by kernel_rfl)) rfl
  have q2 : (asgS (tgN 5) (iteE (bin pyLt (varE 4) (cstE (.int 14))) (cstE (.int 0)) (iteE (bin pyLt (varE 4) (cstE (.int 16))) (cstE (.int 1)) (cstE (.int 2))))) (fenv T (D + 1)) (sR n (made a b ++ made2) a b (.val (.int 1)) s5 s6) S = .fl (.nx (sR n (made a b ++ made2) a b (.val (.int 1)) (.val (.int 0)) s6)) S := by kernel_rfl
  have q3 : (ifS (bin pyNe (callE n_f__law_bases (consA (subE (varE 1) (varE 4)) nilA)) (lcE [7] (rng1 (cstE (.int 3))) (tgN 7) yesE (bin pyEq (varE 7) (varE 5)))) (retS (cstE (.bl false))) nextS) (fenv T (D + 1)) (sR n (made a b ++ made2) a b (.val (.int 1)) (.val (.int 0)) s6) S = .fl (.nx (sR n (made a b ++ made2) a b (.val (.int 1)) (.val (.int 0)) s6)) S := s_ifF (e_bin (e_call (e_cons (e_sub (e_var (i := 1) rfl) (e_var (i := 4) rfl) rfl) e_nil) (ba1 D a b S)) (e_lc (own := [7]) (vs := (List.range 3).map fun i => PV.bl (decide (i = under 1))) (xs := rangeL 0 3) (S1 := S) (by kernel_rfl) (by kernel_rfl)) (by kernel_rfl)) rfl
  have q4 : (asgS (tgN 6) (iteE (bin pyEq (bin pyMod (un pyInt (varE 4)) (cstE (.int 2))) (cstE (.int 0))) (varE 2) (varE 3))) (fenv T (D + 1)) (sR n (made a b ++ made2) a b (.val (.int 1)) (.val (.int 0)) s6) S = .fl (.nx (sR n (made a b ++ made2) a b (.val (.int 1)) (.val (.int 0)) (.val b))) S := by kernel_rfl
  have q5 : (ifS (andE (bin pyLt (varE 4) (cstE (.int 18))) (bin pyNeR (un pyReprS (callE n_f__law_kept (consA (subE (varE 1) (varE 4)) (consA (varE 4) nilA)))) (un pyReprS (varE 6)))) (retS (cstE (.bl false))) nextS) (fenv T (D + 1)) (sR n (made a b ++ made2) a b (.val (.int 1)) (.val (.int 0)) (.val b)) S = .fl (.nx (sR n (made a b ++ made2) a b (.val (.int 1)) (.val (.int 0)) (.val b))) S := s_ifF (e_andT (by kernel_rfl) (e_bin (e_un (e_call (e_cons (e_sub (e_var (i := 1) rfl) (e_var (i := 4) rfl) rfl) (e_cons (e_var (i := 4) rfl) e_nil)) (ke1 D a b S)) hb.repr) (e_un (e_var (i := 6) rfl) hb.repr) (neR_refl _))) rfl
  exact s_seq q1 (s_seq q2 (s_seq q3 (s_seq q4 q5)))
theorem turn2 (ha : Od a) (hb : Od b) : (seqS (ifS (bin pyNe (callE n_f__law_sorts (consA (subE (varE 1) (varE 4)) nilA)) (lcE [7] (rng1 (cstE (.int 20))) (tgN 7) yesE (bin pyEq (varE 7) (varE 4)))) (retS (cstE (.bl false))) nextS) (seqS (asgS (tgN 5) (iteE (bin pyLt (varE 4) (cstE (.int 14))) (cstE (.int 0)) (iteE (bin pyLt (varE 4) (cstE (.int 16))) (cstE (.int 1)) (cstE (.int 2))))) (seqS (ifS (bin pyNe (callE n_f__law_bases (consA (subE (varE 1) (varE 4)) nilA)) (lcE [7] (rng1 (cstE (.int 3))) (tgN 7) yesE (bin pyEq (varE 7) (varE 5)))) (retS (cstE (.bl false))) nextS) (seqS (asgS (tgN 6) (iteE (bin pyEq (bin pyMod (un pyInt (varE 4)) (cstE (.int 2))) (cstE (.int 0))) (varE 2) (varE 3))) (ifS (andE (bin pyLt (varE 4) (cstE (.int 18))) (bin pyNeR (un pyReprS (callE n_f__law_kept (consA (subE (varE 1) (varE 4)) (consA (varE 4) nilA)))) (un pyReprS (varE 6)))) (retS (cstE (.bl false))) nextS))))) (fenv T (D + 1)) (sR n (made a b ++ made2) a b (.val (.int 2)) s5 s6) S = .fl (.nx (sR n (made a b ++ made2) a b (.val (.int 2)) (.val (.int 0)) (.val a))) S := by
  have q1 : (ifS (bin pyNe (callE n_f__law_sorts (consA (subE (varE 1) (varE 4)) nilA)) (lcE [7] (rng1 (cstE (.int 20))) (tgN 7) yesE (bin pyEq (varE 7) (varE 4)))) (retS (cstE (.bl false))) nextS) (fenv T (D + 1)) (sR n (made a b ++ made2) a b (.val (.int 2)) s5 s6) S = .fl (.nx (sR n (made a b ++ made2) a b (.val (.int 2)) s5 s6)) S := s_ifF (e_bin (e_call (e_cons (e_sub (e_var (i := 1) rfl) (e_var (i := 4) rfl) rfl) e_nil) (so2 D a b S)) (e_lc (own := [7]) (vs := (List.range 20).map fun i => PV.bl (decide (i = 2))) (xs := rangeL 0 20) (S1 := S) (by kernel_rfl) (by kernel_rfl)) (by kernel_rfl)) rfl
  have q2 : (asgS (tgN 5) (iteE (bin pyLt (varE 4) (cstE (.int 14))) (cstE (.int 0)) (iteE (bin pyLt (varE 4) (cstE (.int 16))) (cstE (.int 1)) (cstE (.int 2))))) (fenv T (D + 1)) (sR n (made a b ++ made2) a b (.val (.int 2)) s5 s6) S = .fl (.nx (sR n (made a b ++ made2) a b (.val (.int 2)) (.val (.int 0)) s6)) S := by kernel_rfl
  have q3 : (ifS (bin pyNe (callE n_f__law_bases (consA (subE (varE 1) (varE 4)) nilA)) (lcE [7] (rng1 (cstE (.int 3))) (tgN 7) yesE (bin pyEq (varE 7) (varE 5)))) (retS (cstE (.bl false))) nextS) (fenv T (D + 1)) (sR n (made a b ++ made2) a b (.val (.int 2)) (.val (.int 0)) s6) S = .fl (.nx (sR n (made a b ++ made2) a b (.val (.int 2)) (.val (.int 0)) s6)) S := s_ifF (e_bin (e_call (e_cons (e_sub (e_var (i := 1) rfl) (e_var (i := 4) rfl) rfl) e_nil) (ba2 D a b S)) (e_lc (own := [7]) (vs := (List.range 3).map fun i => PV.bl (decide (i = under 2))) (xs := rangeL 0 3) (S1 := S) (by kernel_rfl) (by kernel_rfl)) (by kernel_rfl)) rfl
  have q4 : (asgS (tgN 6) (iteE (bin pyEq (bin pyMod (un pyInt (varE 4)) (cstE (.int 2))) (cstE (.int 0))) (varE 2) (varE 3))) (fenv T (D + 1)) (sR n (made a b ++ made2) a b (.val (.int 2)) (.val (.int 0)) s6) S = .fl (.nx (sR n (made a b ++ made2) a b (.val (.int 2)) (.val (.int 0)) (.val a))) S := by kernel_rfl
  have q5 : (ifS (andE (bin pyLt (varE 4) (cstE (.int 18))) (bin pyNeR (un pyReprS (callE n_f__law_kept (consA (subE (varE 1) (varE 4)) (consA (varE 4) nilA)))) (un pyReprS (varE 6)))) (retS (cstE (.bl false))) nextS) (fenv T (D + 1)) (sR n (made a b ++ made2) a b (.val (.int 2)) (.val (.int 0)) (.val a)) S = .fl (.nx (sR n (made a b ++ made2) a b (.val (.int 2)) (.val (.int 0)) (.val a))) S := s_ifF (e_andT (by kernel_rfl) (e_bin (e_un (e_call (e_cons (e_sub (e_var (i := 1) rfl) (e_var (i := 4) rfl) rfl) (e_cons (e_var (i := 4) rfl) e_nil)) (ke2 D a b S)) ha.repr) (e_un (e_var (i := 6) rfl) ha.repr) (neR_refl _))) rfl
  exact s_seq q1 (s_seq q2 (s_seq q3 (s_seq q4 q5)))
theorem turn3 (ha : Od a) (hb : Od b) : (seqS (ifS (bin pyNe (callE n_f__law_sorts (consA (subE (varE 1) (varE 4)) nilA)) (lcE [7] (rng1 (cstE (.int 20))) (tgN 7) yesE (bin pyEq (varE 7) (varE 4)))) (retS (cstE (.bl false))) nextS) (seqS (asgS (tgN 5) (iteE (bin pyLt (varE 4) (cstE (.int 14))) (cstE (.int 0)) (iteE (bin pyLt (varE 4) (cstE (.int 16))) (cstE (.int 1)) (cstE (.int 2))))) (seqS (ifS (bin pyNe (callE n_f__law_bases (consA (subE (varE 1) (varE 4)) nilA)) (lcE [7] (rng1 (cstE (.int 3))) (tgN 7) yesE (bin pyEq (varE 7) (varE 5)))) (retS (cstE (.bl false))) nextS) (seqS (asgS (tgN 6) (iteE (bin pyEq (bin pyMod (un pyInt (varE 4)) (cstE (.int 2))) (cstE (.int 0))) (varE 2) (varE 3))) (ifS (andE (bin pyLt (varE 4) (cstE (.int 18))) (bin pyNeR (un pyReprS (callE n_f__law_kept (consA (subE (varE 1) (varE 4)) (consA (varE 4) nilA)))) (un pyReprS (varE 6)))) (retS (cstE (.bl false))) nextS))))) (fenv T (D + 1)) (sR n (made a b ++ made2) a b (.val (.int 3)) s5 s6) S = .fl (.nx (sR n (made a b ++ made2) a b (.val (.int 3)) (.val (.int 0)) (.val b))) S := by
  have q1 : (ifS (bin pyNe (callE n_f__law_sorts (consA (subE (varE 1) (varE 4)) nilA)) (lcE [7] (rng1 (cstE (.int 20))) (tgN 7) yesE (bin pyEq (varE 7) (varE 4)))) (retS (cstE (.bl false))) nextS) (fenv T (D + 1)) (sR n (made a b ++ made2) a b (.val (.int 3)) s5 s6) S = .fl (.nx (sR n (made a b ++ made2) a b (.val (.int 3)) s5 s6)) S := s_ifF (e_bin (e_call (e_cons (e_sub (e_var (i := 1) rfl) (e_var (i := 4) rfl) rfl) e_nil) (so3 D a b S)) (e_lc (own := [7]) (vs := (List.range 20).map fun i => PV.bl (decide (i = 3))) (xs := rangeL 0 20) (S1 := S) (by kernel_rfl) (by kernel_rfl)) (by kernel_rfl)) rfl
  have q2 : (asgS (tgN 5) (iteE (bin pyLt (varE 4) (cstE (.int 14))) (cstE (.int 0)) (iteE (bin pyLt (varE 4) (cstE (.int 16))) (cstE (.int 1)) (cstE (.int 2))))) (fenv T (D + 1)) (sR n (made a b ++ made2) a b (.val (.int 3)) s5 s6) S = .fl (.nx (sR n (made a b ++ made2) a b (.val (.int 3)) (.val (.int 0)) s6)) S := by kernel_rfl
  have q3 : (ifS (bin pyNe (callE n_f__law_bases (consA (subE (varE 1) (varE 4)) nilA)) (lcE [7] (rng1 (cstE (.int 3))) (tgN 7) yesE (bin pyEq (varE 7) (varE 5)))) (retS (cstE (.bl false))) nextS) (fenv T (D + 1)) (sR n (made a b ++ made2) a b (.val (.int 3)) (.val (.int 0)) s6) S = .fl (.nx (sR n (made a b ++ made2) a b (.val (.int 3)) (.val (.int 0)) s6)) S := s_ifF (e_bin (e_call (e_cons (e_sub (e_var (i := 1) rfl) (e_var (i := 4) rfl) rfl) e_nil) (ba3 D a b S)) (e_lc (own := [7]) (vs := (List.range 3).map fun i => PV.bl (decide (i = under 3))) (xs := rangeL 0 3) (S1 := S) (by kernel_rfl) (by kernel_rfl)) (by kernel_rfl)) rfl
  have q4 : (asgS (tgN 6) (iteE (bin pyEq (bin pyMod (un pyInt (varE 4)) (cstE (.int 2))) (cstE (.int 0))) (varE 2) (varE 3))) (fenv T (D + 1)) (sR n (made a b ++ made2) a b (.val (.int 3)) (.val (.int 0)) s6) S = .fl (.nx (sR n (made a b ++ made2) a b (.val (.int 3)) (.val (.int 0)) (.val b))) S := by kernel_rfl
  have q5 : (ifS (andE (bin pyLt (varE 4) (cstE (.int 18))) (bin pyNeR (un pyReprS (callE n_f__law_kept (consA (subE (varE 1) (varE 4)) (consA (varE 4) nilA)))) (un pyReprS (varE 6)))) (retS (cstE (.bl false))) nextS) (fenv T (D + 1)) (sR n (made a b ++ made2) a b (.val (.int 3)) (.val (.int 0)) (.val b)) S = .fl (.nx (sR n (made a b ++ made2) a b (.val (.int 3)) (.val (.int 0)) (.val b))) S := s_ifF (e_andT (by kernel_rfl) (e_bin (e_un (e_call (e_cons (e_sub (e_var (i := 1) rfl) (e_var (i := 4) rfl) rfl) (e_cons (e_var (i := 4) rfl) e_nil)) (ke3 D a b S)) hb.repr) (e_un (e_var (i := 6) rfl) hb.repr) (neR_refl _))) rfl
  exact s_seq q1 (s_seq q2 (s_seq q3 (s_seq q4 q5)))
theorem turn4 (ha : Od a) (hb : Od b) : (seqS (ifS (bin pyNe (callE n_f__law_sorts (consA (subE (varE 1) (varE 4)) nilA)) (lcE [7] (rng1 (cstE (.int 20))) (tgN 7) yesE (bin pyEq (varE 7) (varE 4)))) (retS (cstE (.bl false))) nextS) (seqS (asgS (tgN 5) (iteE (bin pyLt (varE 4) (cstE (.int 14))) (cstE (.int 0)) (iteE (bin pyLt (varE 4) (cstE (.int 16))) (cstE (.int 1)) (cstE (.int 2))))) (seqS (ifS (bin pyNe (callE n_f__law_bases (consA (subE (varE 1) (varE 4)) nilA)) (lcE [7] (rng1 (cstE (.int 3))) (tgN 7) yesE (bin pyEq (varE 7) (varE 5)))) (retS (cstE (.bl false))) nextS) (seqS (asgS (tgN 6) (iteE (bin pyEq (bin pyMod (un pyInt (varE 4)) (cstE (.int 2))) (cstE (.int 0))) (varE 2) (varE 3))) (ifS (andE (bin pyLt (varE 4) (cstE (.int 18))) (bin pyNeR (un pyReprS (callE n_f__law_kept (consA (subE (varE 1) (varE 4)) (consA (varE 4) nilA)))) (un pyReprS (varE 6)))) (retS (cstE (.bl false))) nextS))))) (fenv T (D + 1)) (sR n (made a b ++ made2) a b (.val (.int 4)) s5 s6) S = .fl (.nx (sR n (made a b ++ made2) a b (.val (.int 4)) (.val (.int 0)) (.val a))) S := by
  have q1 : (ifS (bin pyNe (callE n_f__law_sorts (consA (subE (varE 1) (varE 4)) nilA)) (lcE [7] (rng1 (cstE (.int 20))) (tgN 7) yesE (bin pyEq (varE 7) (varE 4)))) (retS (cstE (.bl false))) nextS) (fenv T (D + 1)) (sR n (made a b ++ made2) a b (.val (.int 4)) s5 s6) S = .fl (.nx (sR n (made a b ++ made2) a b (.val (.int 4)) s5 s6)) S := s_ifF (e_bin (e_call (e_cons (e_sub (e_var (i := 1) rfl) (e_var (i := 4) rfl) rfl) e_nil) (so4 D a b S)) (e_lc (own := [7]) (vs := (List.range 20).map fun i => PV.bl (decide (i = 4))) (xs := rangeL 0 20) (S1 := S) (by kernel_rfl) (by kernel_rfl)) (by kernel_rfl)) rfl
  have q2 : (asgS (tgN 5) (iteE (bin pyLt (varE 4) (cstE (.int 14))) (cstE (.int 0)) (iteE (bin pyLt (varE 4) (cstE (.int 16))) (cstE (.int 1)) (cstE (.int 2))))) (fenv T (D + 1)) (sR n (made a b ++ made2) a b (.val (.int 4)) s5 s6) S = .fl (.nx (sR n (made a b ++ made2) a b (.val (.int 4)) (.val (.int 0)) s6)) S := by kernel_rfl
  have q3 : (ifS (bin pyNe (callE n_f__law_bases (consA (subE (varE 1) (varE 4)) nilA)) (lcE [7] (rng1 (cstE (.int 3))) (tgN 7) yesE (bin pyEq (varE 7) (varE 5)))) (retS (cstE (.bl false))) nextS) (fenv T (D + 1)) (sR n (made a b ++ made2) a b (.val (.int 4)) (.val (.int 0)) s6) S = .fl (.nx (sR n (made a b ++ made2) a b (.val (.int 4)) (.val (.int 0)) s6)) S := s_ifF (e_bin (e_call (e_cons (e_sub (e_var (i := 1) rfl) (e_var (i := 4) rfl) rfl) e_nil) (ba4 D a b S)) (e_lc (own := [7]) (vs := (List.range 3).map fun i => PV.bl (decide (i = under 4))) (xs := rangeL 0 3) (S1 := S) (by kernel_rfl) (by kernel_rfl)) (by kernel_rfl)) rfl
  have q4 : (asgS (tgN 6) (iteE (bin pyEq (bin pyMod (un pyInt (varE 4)) (cstE (.int 2))) (cstE (.int 0))) (varE 2) (varE 3))) (fenv T (D + 1)) (sR n (made a b ++ made2) a b (.val (.int 4)) (.val (.int 0)) s6) S = .fl (.nx (sR n (made a b ++ made2) a b (.val (.int 4)) (.val (.int 0)) (.val a))) S := by kernel_rfl
  have q5 : (ifS (andE (bin pyLt (varE 4) (cstE (.int 18))) (bin pyNeR (un pyReprS (callE n_f__law_kept (consA (subE (varE 1) (varE 4)) (consA (varE 4) nilA)))) (un pyReprS (varE 6)))) (retS (cstE (.bl false))) nextS) (fenv T (D + 1)) (sR n (made a b ++ made2) a b (.val (.int 4)) (.val (.int 0)) (.val a)) S = .fl (.nx (sR n (made a b ++ made2) a b (.val (.int 4)) (.val (.int 0)) (.val a))) S := s_ifF (e_andT (by kernel_rfl) (e_bin (e_un (e_call (e_cons (e_sub (e_var (i := 1) rfl) (e_var (i := 4) rfl) rfl) (e_cons (e_var (i := 4) rfl) e_nil)) (ke4 D a b S)) ha.repr) (e_un (e_var (i := 6) rfl) ha.repr) (neR_refl _))) rfl
  exact s_seq q1 (s_seq q2 (s_seq q3 (s_seq q4 q5)))
theorem turn5 (ha : Od a) (hb : Od b) : (seqS (ifS (bin pyNe (callE n_f__law_sorts (consA (subE (varE 1) (varE 4)) nilA)) (lcE [7] (rng1 (cstE (.int 20))) (tgN 7) yesE (bin pyEq (varE 7) (varE 4)))) (retS (cstE (.bl false))) nextS) (seqS (asgS (tgN 5) (iteE (bin pyLt (varE 4) (cstE (.int 14))) (cstE (.int 0)) (iteE (bin pyLt (varE 4) (cstE (.int 16))) (cstE (.int 1)) (cstE (.int 2))))) (seqS (ifS (bin pyNe (callE n_f__law_bases (consA (subE (varE 1) (varE 4)) nilA)) (lcE [7] (rng1 (cstE (.int 3))) (tgN 7) yesE (bin pyEq (varE 7) (varE 5)))) (retS (cstE (.bl false))) nextS) (seqS (asgS (tgN 6) (iteE (bin pyEq (bin pyMod (un pyInt (varE 4)) (cstE (.int 2))) (cstE (.int 0))) (varE 2) (varE 3))) (ifS (andE (bin pyLt (varE 4) (cstE (.int 18))) (bin pyNeR (un pyReprS (callE n_f__law_kept (consA (subE (varE 1) (varE 4)) (consA (varE 4) nilA)))) (un pyReprS (varE 6)))) (retS (cstE (.bl false))) nextS))))) (fenv T (D + 1)) (sR n (made a b ++ made2) a b (.val (.int 5)) s5 s6) S = .fl (.nx (sR n (made a b ++ made2) a b (.val (.int 5)) (.val (.int 0)) (.val b))) S := by
  have q1 : (ifS (bin pyNe (callE n_f__law_sorts (consA (subE (varE 1) (varE 4)) nilA)) (lcE [7] (rng1 (cstE (.int 20))) (tgN 7) yesE (bin pyEq (varE 7) (varE 4)))) (retS (cstE (.bl false))) nextS) (fenv T (D + 1)) (sR n (made a b ++ made2) a b (.val (.int 5)) s5 s6) S = .fl (.nx (sR n (made a b ++ made2) a b (.val (.int 5)) s5 s6)) S := s_ifF (e_bin (e_call (e_cons (e_sub (e_var (i := 1) rfl) (e_var (i := 4) rfl) rfl) e_nil) (so5 D a b S)) (e_lc (own := [7]) (vs := (List.range 20).map fun i => PV.bl (decide (i = 5))) (xs := rangeL 0 20) (S1 := S) (by kernel_rfl) (by kernel_rfl)) (by kernel_rfl)) rfl
  have q2 : (asgS (tgN 5) (iteE (bin pyLt (varE 4) (cstE (.int 14))) (cstE (.int 0)) (iteE (bin pyLt (varE 4) (cstE (.int 16))) (cstE (.int 1)) (cstE (.int 2))))) (fenv T (D + 1)) (sR n (made a b ++ made2) a b (.val (.int 5)) s5 s6) S = .fl (.nx (sR n (made a b ++ made2) a b (.val (.int 5)) (.val (.int 0)) s6)) S := by kernel_rfl
  have q3 : (ifS (bin pyNe (callE n_f__law_bases (consA (subE (varE 1) (varE 4)) nilA)) (lcE [7] (rng1 (cstE (.int 3))) (tgN 7) yesE (bin pyEq (varE 7) (varE 5)))) (retS (cstE (.bl false))) nextS) (fenv T (D + 1)) (sR n (made a b ++ made2) a b (.val (.int 5)) (.val (.int 0)) s6) S = .fl (.nx (sR n (made a b ++ made2) a b (.val (.int 5)) (.val (.int 0)) s6)) S := s_ifF (e_bin (e_call (e_cons (e_sub (e_var (i := 1) rfl) (e_var (i := 4) rfl) rfl) e_nil) (ba5 D a b S)) (e_lc (own := [7]) (vs := (List.range 3).map fun i => PV.bl (decide (i = under 5))) (xs := rangeL 0 3) (S1 := S) (by kernel_rfl) (by kernel_rfl)) (by kernel_rfl)) rfl
  have q4 : (asgS (tgN 6) (iteE (bin pyEq (bin pyMod (un pyInt (varE 4)) (cstE (.int 2))) (cstE (.int 0))) (varE 2) (varE 3))) (fenv T (D + 1)) (sR n (made a b ++ made2) a b (.val (.int 5)) (.val (.int 0)) s6) S = .fl (.nx (sR n (made a b ++ made2) a b (.val (.int 5)) (.val (.int 0)) (.val b))) S := by kernel_rfl
  have q5 : (ifS (andE (bin pyLt (varE 4) (cstE (.int 18))) (bin pyNeR (un pyReprS (callE n_f__law_kept (consA (subE (varE 1) (varE 4)) (consA (varE 4) nilA)))) (un pyReprS (varE 6)))) (retS (cstE (.bl false))) nextS) (fenv T (D + 1)) (sR n (made a b ++ made2) a b (.val (.int 5)) (.val (.int 0)) (.val b)) S = .fl (.nx (sR n (made a b ++ made2) a b (.val (.int 5)) (.val (.int 0)) (.val b))) S := s_ifF (e_andT (by kernel_rfl) (e_bin (e_un (e_call (e_cons (e_sub (e_var (i := 1) rfl) (e_var (i := 4) rfl) rfl) (e_cons (e_var (i := 4) rfl) e_nil)) (ke5 D a b S)) hb.repr) (e_un (e_var (i := 6) rfl) hb.repr) (neR_refl _))) rfl
  exact s_seq q1 (s_seq q2 (s_seq q3 (s_seq q4 q5)))
theorem turn6 (ha : Od a) (hb : Od b) : (seqS (ifS (bin pyNe (callE n_f__law_sorts (consA (subE (varE 1) (varE 4)) nilA)) (lcE [7] (rng1 (cstE (.int 20))) (tgN 7) yesE (bin pyEq (varE 7) (varE 4)))) (retS (cstE (.bl false))) nextS) (seqS (asgS (tgN 5) (iteE (bin pyLt (varE 4) (cstE (.int 14))) (cstE (.int 0)) (iteE (bin pyLt (varE 4) (cstE (.int 16))) (cstE (.int 1)) (cstE (.int 2))))) (seqS (ifS (bin pyNe (callE n_f__law_bases (consA (subE (varE 1) (varE 4)) nilA)) (lcE [7] (rng1 (cstE (.int 3))) (tgN 7) yesE (bin pyEq (varE 7) (varE 5)))) (retS (cstE (.bl false))) nextS) (seqS (asgS (tgN 6) (iteE (bin pyEq (bin pyMod (un pyInt (varE 4)) (cstE (.int 2))) (cstE (.int 0))) (varE 2) (varE 3))) (ifS (andE (bin pyLt (varE 4) (cstE (.int 18))) (bin pyNeR (un pyReprS (callE n_f__law_kept (consA (subE (varE 1) (varE 4)) (consA (varE 4) nilA)))) (un pyReprS (varE 6)))) (retS (cstE (.bl false))) nextS))))) (fenv T (D + 1)) (sR n (made a b ++ made2) a b (.val (.int 6)) s5 s6) S = .fl (.nx (sR n (made a b ++ made2) a b (.val (.int 6)) (.val (.int 0)) (.val a))) S := by
  have q1 : (ifS (bin pyNe (callE n_f__law_sorts (consA (subE (varE 1) (varE 4)) nilA)) (lcE [7] (rng1 (cstE (.int 20))) (tgN 7) yesE (bin pyEq (varE 7) (varE 4)))) (retS (cstE (.bl false))) nextS) (fenv T (D + 1)) (sR n (made a b ++ made2) a b (.val (.int 6)) s5 s6) S = .fl (.nx (sR n (made a b ++ made2) a b (.val (.int 6)) s5 s6)) S := s_ifF (e_bin (e_call (e_cons (e_sub (e_var (i := 1) rfl) (e_var (i := 4) rfl) rfl) e_nil) (so6 D a b S)) (e_lc (own := [7]) (vs := (List.range 20).map fun i => PV.bl (decide (i = 6))) (xs := rangeL 0 20) (S1 := S) (by kernel_rfl) (by kernel_rfl)) (by kernel_rfl)) rfl
  have q2 : (asgS (tgN 5) (iteE (bin pyLt (varE 4) (cstE (.int 14))) (cstE (.int 0)) (iteE (bin pyLt (varE 4) (cstE (.int 16))) (cstE (.int 1)) (cstE (.int 2))))) (fenv T (D + 1)) (sR n (made a b ++ made2) a b (.val (.int 6)) s5 s6) S = .fl (.nx (sR n (made a b ++ made2) a b (.val (.int 6)) (.val (.int 0)) s6)) S := by kernel_rfl
  have q3 : (ifS (bin pyNe (callE n_f__law_bases (consA (subE (varE 1) (varE 4)) nilA)) (lcE [7] (rng1 (cstE (.int 3))) (tgN 7) yesE (bin pyEq (varE 7) (varE 5)))) (retS (cstE (.bl false))) nextS) (fenv T (D + 1)) (sR n (made a b ++ made2) a b (.val (.int 6)) (.val (.int 0)) s6) S = .fl (.nx (sR n (made a b ++ made2) a b (.val (.int 6)) (.val (.int 0)) s6)) S := s_ifF (e_bin (e_call (e_cons (e_sub (e_var (i := 1) rfl) (e_var (i := 4) rfl) rfl) e_nil) (ba6 D a b S)) (e_lc (own := [7]) (vs := (List.range 3).map fun i => PV.bl (decide (i = under 6))) (xs := rangeL 0 3) (S1 := S) (by kernel_rfl) (by kernel_rfl)) (by kernel_rfl)) rfl
  have q4 : (asgS (tgN 6) (iteE (bin pyEq (bin pyMod (un pyInt (varE 4)) (cstE (.int 2))) (cstE (.int 0))) (varE 2) (varE 3))) (fenv T (D + 1)) (sR n (made a b ++ made2) a b (.val (.int 6)) (.val (.int 0)) s6) S = .fl (.nx (sR n (made a b ++ made2) a b (.val (.int 6)) (.val (.int 0)) (.val a))) S := by kernel_rfl
  have q5 : (ifS (andE (bin pyLt (varE 4) (cstE (.int 18))) (bin pyNeR (un pyReprS (callE n_f__law_kept (consA (subE (varE 1) (varE 4)) (consA (varE 4) nilA)))) (un pyReprS (varE 6)))) (retS (cstE (.bl false))) nextS) (fenv T (D + 1)) (sR n (made a b ++ made2) a b (.val (.int 6)) (.val (.int 0)) (.val a)) S = .fl (.nx (sR n (made a b ++ made2) a b (.val (.int 6)) (.val (.int 0)) (.val a))) S := s_ifF (e_andT (by kernel_rfl) (e_bin (e_un (e_call (e_cons (e_sub (e_var (i := 1) rfl) (e_var (i := 4) rfl) rfl) (e_cons (e_var (i := 4) rfl) e_nil)) (ke6 D a b S)) ha.repr) (e_un (e_var (i := 6) rfl) ha.repr) (neR_refl _))) rfl
  exact s_seq q1 (s_seq q2 (s_seq q3 (s_seq q4 q5)))
theorem turn7 (ha : Od a) (hb : Od b) : (seqS (ifS (bin pyNe (callE n_f__law_sorts (consA (subE (varE 1) (varE 4)) nilA)) (lcE [7] (rng1 (cstE (.int 20))) (tgN 7) yesE (bin pyEq (varE 7) (varE 4)))) (retS (cstE (.bl false))) nextS) (seqS (asgS (tgN 5) (iteE (bin pyLt (varE 4) (cstE (.int 14))) (cstE (.int 0)) (iteE (bin pyLt (varE 4) (cstE (.int 16))) (cstE (.int 1)) (cstE (.int 2))))) (seqS (ifS (bin pyNe (callE n_f__law_bases (consA (subE (varE 1) (varE 4)) nilA)) (lcE [7] (rng1 (cstE (.int 3))) (tgN 7) yesE (bin pyEq (varE 7) (varE 5)))) (retS (cstE (.bl false))) nextS) (seqS (asgS (tgN 6) (iteE (bin pyEq (bin pyMod (un pyInt (varE 4)) (cstE (.int 2))) (cstE (.int 0))) (varE 2) (varE 3))) (ifS (andE (bin pyLt (varE 4) (cstE (.int 18))) (bin pyNeR (un pyReprS (callE n_f__law_kept (consA (subE (varE 1) (varE 4)) (consA (varE 4) nilA)))) (un pyReprS (varE 6)))) (retS (cstE (.bl false))) nextS))))) (fenv T (D + 1)) (sR n (made a b ++ made2) a b (.val (.int 7)) s5 s6) S = .fl (.nx (sR n (made a b ++ made2) a b (.val (.int 7)) (.val (.int 0)) (.val b))) S := by
  have q1 : (ifS (bin pyNe (callE n_f__law_sorts (consA (subE (varE 1) (varE 4)) nilA)) (lcE [7] (rng1 (cstE (.int 20))) (tgN 7) yesE (bin pyEq (varE 7) (varE 4)))) (retS (cstE (.bl false))) nextS) (fenv T (D + 1)) (sR n (made a b ++ made2) a b (.val (.int 7)) s5 s6) S = .fl (.nx (sR n (made a b ++ made2) a b (.val (.int 7)) s5 s6)) S := s_ifF (e_bin (e_call (e_cons (e_sub (e_var (i := 1) rfl) (e_var (i := 4) rfl) rfl) e_nil) (so7 D a b S)) (e_lc (own := [7]) (vs := (List.range 20).map fun i => PV.bl (decide (i = 7))) (xs := rangeL 0 20) (S1 := S) (by kernel_rfl) (by kernel_rfl)) (by kernel_rfl)) rfl
  have q2 : (asgS (tgN 5) (iteE (bin pyLt (varE 4) (cstE (.int 14))) (cstE (.int 0)) (iteE (bin pyLt (varE 4) (cstE (.int 16))) (cstE (.int 1)) (cstE (.int 2))))) (fenv T (D + 1)) (sR n (made a b ++ made2) a b (.val (.int 7)) s5 s6) S = .fl (.nx (sR n (made a b ++ made2) a b (.val (.int 7)) (.val (.int 0)) s6)) S := by kernel_rfl
  have q3 : (ifS (bin pyNe (callE n_f__law_bases (consA (subE (varE 1) (varE 4)) nilA)) (lcE [7] (rng1 (cstE (.int 3))) (tgN 7) yesE (bin pyEq (varE 7) (varE 5)))) (retS (cstE (.bl false))) nextS) (fenv T (D + 1)) (sR n (made a b ++ made2) a b (.val (.int 7)) (.val (.int 0)) s6) S = .fl (.nx (sR n (made a b ++ made2) a b (.val (.int 7)) (.val (.int 0)) s6)) S := s_ifF (e_bin (e_call (e_cons (e_sub (e_var (i := 1) rfl) (e_var (i := 4) rfl) rfl) e_nil) (ba7 D a b S)) (e_lc (own := [7]) (vs := (List.range 3).map fun i => PV.bl (decide (i = under 7))) (xs := rangeL 0 3) (S1 := S) (by kernel_rfl) (by kernel_rfl)) (by kernel_rfl)) rfl
  have q4 : (asgS (tgN 6) (iteE (bin pyEq (bin pyMod (un pyInt (varE 4)) (cstE (.int 2))) (cstE (.int 0))) (varE 2) (varE 3))) (fenv T (D + 1)) (sR n (made a b ++ made2) a b (.val (.int 7)) (.val (.int 0)) s6) S = .fl (.nx (sR n (made a b ++ made2) a b (.val (.int 7)) (.val (.int 0)) (.val b))) S := by kernel_rfl
  have q5 : (ifS (andE (bin pyLt (varE 4) (cstE (.int 18))) (bin pyNeR (un pyReprS (callE n_f__law_kept (consA (subE (varE 1) (varE 4)) (consA (varE 4) nilA)))) (un pyReprS (varE 6)))) (retS (cstE (.bl false))) nextS) (fenv T (D + 1)) (sR n (made a b ++ made2) a b (.val (.int 7)) (.val (.int 0)) (.val b)) S = .fl (.nx (sR n (made a b ++ made2) a b (.val (.int 7)) (.val (.int 0)) (.val b))) S := s_ifF (e_andT (by kernel_rfl) (e_bin (e_un (e_call (e_cons (e_sub (e_var (i := 1) rfl) (e_var (i := 4) rfl) rfl) (e_cons (e_var (i := 4) rfl) e_nil)) (ke7 D a b S)) hb.repr) (e_un (e_var (i := 6) rfl) hb.repr) (neR_refl _))) rfl
  exact s_seq q1 (s_seq q2 (s_seq q3 (s_seq q4 q5)))
theorem turn8 (ha : Od a) (hb : Od b) : (seqS (ifS (bin pyNe (callE n_f__law_sorts (consA (subE (varE 1) (varE 4)) nilA)) (lcE [7] (rng1 (cstE (.int 20))) (tgN 7) yesE (bin pyEq (varE 7) (varE 4)))) (retS (cstE (.bl false))) nextS) (seqS (asgS (tgN 5) (iteE (bin pyLt (varE 4) (cstE (.int 14))) (cstE (.int 0)) (iteE (bin pyLt (varE 4) (cstE (.int 16))) (cstE (.int 1)) (cstE (.int 2))))) (seqS (ifS (bin pyNe (callE n_f__law_bases (consA (subE (varE 1) (varE 4)) nilA)) (lcE [7] (rng1 (cstE (.int 3))) (tgN 7) yesE (bin pyEq (varE 7) (varE 5)))) (retS (cstE (.bl false))) nextS) (seqS (asgS (tgN 6) (iteE (bin pyEq (bin pyMod (un pyInt (varE 4)) (cstE (.int 2))) (cstE (.int 0))) (varE 2) (varE 3))) (ifS (andE (bin pyLt (varE 4) (cstE (.int 18))) (bin pyNeR (un pyReprS (callE n_f__law_kept (consA (subE (varE 1) (varE 4)) (consA (varE 4) nilA)))) (un pyReprS (varE 6)))) (retS (cstE (.bl false))) nextS))))) (fenv T (D + 1)) (sR n (made a b ++ made2) a b (.val (.int 8)) s5 s6) S = .fl (.nx (sR n (made a b ++ made2) a b (.val (.int 8)) (.val (.int 0)) (.val a))) S := by
  have q1 : (ifS (bin pyNe (callE n_f__law_sorts (consA (subE (varE 1) (varE 4)) nilA)) (lcE [7] (rng1 (cstE (.int 20))) (tgN 7) yesE (bin pyEq (varE 7) (varE 4)))) (retS (cstE (.bl false))) nextS) (fenv T (D + 1)) (sR n (made a b ++ made2) a b (.val (.int 8)) s5 s6) S = .fl (.nx (sR n (made a b ++ made2) a b (.val (.int 8)) s5 s6)) S := s_ifF (e_bin (e_call (e_cons (e_sub (e_var (i := 1) rfl) (e_var (i := 4) rfl) rfl) e_nil) (so8 D a b S)) (e_lc (own := [7]) (vs := (List.range 20).map fun i => PV.bl (decide (i = 8))) (xs := rangeL 0 20) (S1 := S) (by kernel_rfl) (by kernel_rfl)) (by kernel_rfl)) rfl
  have q2 : (asgS (tgN 5) (iteE (bin pyLt (varE 4) (cstE (.int 14))) (cstE (.int 0)) (iteE (bin pyLt (varE 4) (cstE (.int 16))) (cstE (.int 1)) (cstE (.int 2))))) (fenv T (D + 1)) (sR n (made a b ++ made2) a b (.val (.int 8)) s5 s6) S = .fl (.nx (sR n (made a b ++ made2) a b (.val (.int 8)) (.val (.int 0)) s6)) S := by kernel_rfl
  have q3 : (ifS (bin pyNe (callE n_f__law_bases (consA (subE (varE 1) (varE 4)) nilA)) (lcE [7] (rng1 (cstE (.int 3))) (tgN 7) yesE (bin pyEq (varE 7) (varE 5)))) (retS (cstE (.bl false))) nextS) (fenv T (D + 1)) (sR n (made a b ++ made2) a b (.val (.int 8)) (.val (.int 0)) s6) S = .fl (.nx (sR n (made a b ++ made2) a b (.val (.int 8)) (.val (.int 0)) s6)) S := s_ifF (e_bin (e_call (e_cons (e_sub (e_var (i := 1) rfl) (e_var (i := 4) rfl) rfl) e_nil) (ba8 D a b S)) (e_lc (own := [7]) (vs := (List.range 3).map fun i => PV.bl (decide (i = under 8))) (xs := rangeL 0 3) (S1 := S) (by kernel_rfl) (by kernel_rfl)) (by kernel_rfl)) rfl
  have q4 : (asgS (tgN 6) (iteE (bin pyEq (bin pyMod (un pyInt (varE 4)) (cstE (.int 2))) (cstE (.int 0))) (varE 2) (varE 3))) (fenv T (D + 1)) (sR n (made a b ++ made2) a b (.val (.int 8)) (.val (.int 0)) s6) S = .fl (.nx (sR n (made a b ++ made2) a b (.val (.int 8)) (.val (.int 0)) (.val a))) S := by kernel_rfl
  have q5 : (ifS (andE (bin pyLt (varE 4) (cstE (.int 18))) (bin pyNeR (un pyReprS (callE n_f__law_kept (consA (subE (varE 1) (varE 4)) (consA (varE 4) nilA)))) (un pyReprS (varE 6)))) (retS (cstE (.bl false))) nextS) (fenv T (D + 1)) (sR n (made a b ++ made2) a b (.val (.int 8)) (.val (.int 0)) (.val a)) S = .fl (.nx (sR n (made a b ++ made2) a b (.val (.int 8)) (.val (.int 0)) (.val a))) S := s_ifF (e_andT (by kernel_rfl) (e_bin (e_un (e_call (e_cons (e_sub (e_var (i := 1) rfl) (e_var (i := 4) rfl) rfl) (e_cons (e_var (i := 4) rfl) e_nil)) (ke8 D a b S)) ha.repr) (e_un (e_var (i := 6) rfl) ha.repr) (neR_refl _))) rfl
  exact s_seq q1 (s_seq q2 (s_seq q3 (s_seq q4 q5)))
theorem turn9 (ha : Od a) (hb : Od b) : (seqS (ifS (bin pyNe (callE n_f__law_sorts (consA (subE (varE 1) (varE 4)) nilA)) (lcE [7] (rng1 (cstE (.int 20))) (tgN 7) yesE (bin pyEq (varE 7) (varE 4)))) (retS (cstE (.bl false))) nextS) (seqS (asgS (tgN 5) (iteE (bin pyLt (varE 4) (cstE (.int 14))) (cstE (.int 0)) (iteE (bin pyLt (varE 4) (cstE (.int 16))) (cstE (.int 1)) (cstE (.int 2))))) (seqS (ifS (bin pyNe (callE n_f__law_bases (consA (subE (varE 1) (varE 4)) nilA)) (lcE [7] (rng1 (cstE (.int 3))) (tgN 7) yesE (bin pyEq (varE 7) (varE 5)))) (retS (cstE (.bl false))) nextS) (seqS (asgS (tgN 6) (iteE (bin pyEq (bin pyMod (un pyInt (varE 4)) (cstE (.int 2))) (cstE (.int 0))) (varE 2) (varE 3))) (ifS (andE (bin pyLt (varE 4) (cstE (.int 18))) (bin pyNeR (un pyReprS (callE n_f__law_kept (consA (subE (varE 1) (varE 4)) (consA (varE 4) nilA)))) (un pyReprS (varE 6)))) (retS (cstE (.bl false))) nextS))))) (fenv T (D + 1)) (sR n (made a b ++ made2) a b (.val (.int 9)) s5 s6) S = .fl (.nx (sR n (made a b ++ made2) a b (.val (.int 9)) (.val (.int 0)) (.val b))) S := by
  have q1 : (ifS (bin pyNe (callE n_f__law_sorts (consA (subE (varE 1) (varE 4)) nilA)) (lcE [7] (rng1 (cstE (.int 20))) (tgN 7) yesE (bin pyEq (varE 7) (varE 4)))) (retS (cstE (.bl false))) nextS) (fenv T (D + 1)) (sR n (made a b ++ made2) a b (.val (.int 9)) s5 s6) S = .fl (.nx (sR n (made a b ++ made2) a b (.val (.int 9)) s5 s6)) S := s_ifF (e_bin (e_call (e_cons (e_sub (e_var (i := 1) rfl) (e_var (i := 4) rfl) rfl) e_nil) (so9 D a b S)) (e_lc (own := [7]) (vs := (List.range 20).map fun i => PV.bl (decide (i = 9))) (xs := rangeL 0 20) (S1 := S) (by kernel_rfl) (by kernel_rfl)) (by kernel_rfl)) rfl
  have q2 : (asgS (tgN 5) (iteE (bin pyLt (varE 4) (cstE (.int 14))) (cstE (.int 0)) (iteE (bin pyLt (varE 4) (cstE (.int 16))) (cstE (.int 1)) (cstE (.int 2))))) (fenv T (D + 1)) (sR n (made a b ++ made2) a b (.val (.int 9)) s5 s6) S = .fl (.nx (sR n (made a b ++ made2) a b (.val (.int 9)) (.val (.int 0)) s6)) S := by kernel_rfl
  have q3 : (ifS (bin pyNe (callE n_f__law_bases (consA (subE (varE 1) (varE 4)) nilA)) (lcE [7] (rng1 (cstE (.int 3))) (tgN 7) yesE (bin pyEq (varE 7) (varE 5)))) (retS (cstE (.bl false))) nextS) (fenv T (D + 1)) (sR n (made a b ++ made2) a b (.val (.int 9)) (.val (.int 0)) s6) S = .fl (.nx (sR n (made a b ++ made2) a b (.val (.int 9)) (.val (.int 0)) s6)) S := s_ifF (e_bin (e_call (e_cons (e_sub (e_var (i := 1) rfl) (e_var (i := 4) rfl) rfl) e_nil) (ba9 D a b S)) (e_lc (own := [7]) (vs := (List.range 3).map fun i => PV.bl (decide (i = under 9))) (xs := rangeL 0 3) (S1 := S) (by kernel_rfl) (by kernel_rfl)) (by kernel_rfl)) rfl
  have q4 : (asgS (tgN 6) (iteE (bin pyEq (bin pyMod (un pyInt (varE 4)) (cstE (.int 2))) (cstE (.int 0))) (varE 2) (varE 3))) (fenv T (D + 1)) (sR n (made a b ++ made2) a b (.val (.int 9)) (.val (.int 0)) s6) S = .fl (.nx (sR n (made a b ++ made2) a b (.val (.int 9)) (.val (.int 0)) (.val b))) S := by kernel_rfl
  have q5 : (ifS (andE (bin pyLt (varE 4) (cstE (.int 18))) (bin pyNeR (un pyReprS (callE n_f__law_kept (consA (subE (varE 1) (varE 4)) (consA (varE 4) nilA)))) (un pyReprS (varE 6)))) (retS (cstE (.bl false))) nextS) (fenv T (D + 1)) (sR n (made a b ++ made2) a b (.val (.int 9)) (.val (.int 0)) (.val b)) S = .fl (.nx (sR n (made a b ++ made2) a b (.val (.int 9)) (.val (.int 0)) (.val b))) S := s_ifF (e_andT (by kernel_rfl) (e_bin (e_un (e_call (e_cons (e_sub (e_var (i := 1) rfl) (e_var (i := 4) rfl) rfl) (e_cons (e_var (i := 4) rfl) e_nil)) (ke9 D a b S)) hb.repr) (e_un (e_var (i := 6) rfl) hb.repr) (neR_refl _))) rfl
  exact s_seq q1 (s_seq q2 (s_seq q3 (s_seq q4 q5)))
theorem turn10 (ha : Od a) (hb : Od b) : (seqS (ifS (bin pyNe (callE n_f__law_sorts (consA (subE (varE 1) (varE 4)) nilA)) (lcE [7] (rng1 (cstE (.int 20))) (tgN 7) yesE (bin pyEq (varE 7) (varE 4)))) (retS (cstE (.bl false))) nextS) (seqS (asgS (tgN 5) (iteE (bin pyLt (varE 4) (cstE (.int 14))) (cstE (.int 0)) (iteE (bin pyLt (varE 4) (cstE (.int 16))) (cstE (.int 1)) (cstE (.int 2))))) (seqS (ifS (bin pyNe (callE n_f__law_bases (consA (subE (varE 1) (varE 4)) nilA)) (lcE [7] (rng1 (cstE (.int 3))) (tgN 7) yesE (bin pyEq (varE 7) (varE 5)))) (retS (cstE (.bl false))) nextS) (seqS (asgS (tgN 6) (iteE (bin pyEq (bin pyMod (un pyInt (varE 4)) (cstE (.int 2))) (cstE (.int 0))) (varE 2) (varE 3))) (ifS (andE (bin pyLt (varE 4) (cstE (.int 18))) (bin pyNeR (un pyReprS (callE n_f__law_kept (consA (subE (varE 1) (varE 4)) (consA (varE 4) nilA)))) (un pyReprS (varE 6)))) (retS (cstE (.bl false))) nextS))))) (fenv T (D + 1)) (sR n (made a b ++ made2) a b (.val (.int 10)) s5 s6) S = .fl (.nx (sR n (made a b ++ made2) a b (.val (.int 10)) (.val (.int 0)) (.val a))) S := by
  have q1 : (ifS (bin pyNe (callE n_f__law_sorts (consA (subE (varE 1) (varE 4)) nilA)) (lcE [7] (rng1 (cstE (.int 20))) (tgN 7) yesE (bin pyEq (varE 7) (varE 4)))) (retS (cstE (.bl false))) nextS) (fenv T (D + 1)) (sR n (made a b ++ made2) a b (.val (.int 10)) s5 s6) S = .fl (.nx (sR n (made a b ++ made2) a b (.val (.int 10)) s5 s6)) S := s_ifF (e_bin (e_call (e_cons (e_sub (e_var (i := 1) rfl) (e_var (i := 4) rfl) rfl) e_nil) (so10 D a b S)) (e_lc (own := [7]) (vs := (List.range 20).map fun i => PV.bl (decide (i = 10))) (xs := rangeL 0 20) (S1 := S) (by kernel_rfl) (by kernel_rfl)) (by kernel_rfl)) rfl
  have q2 : (asgS (tgN 5) (iteE (bin pyLt (varE 4) (cstE (.int 14))) (cstE (.int 0)) (iteE (bin pyLt (varE 4) (cstE (.int 16))) (cstE (.int 1)) (cstE (.int 2))))) (fenv T (D + 1)) (sR n (made a b ++ made2) a b (.val (.int 10)) s5 s6) S = .fl (.nx (sR n (made a b ++ made2) a b (.val (.int 10)) (.val (.int 0)) s6)) S := by kernel_rfl
  have q3 : (ifS (bin pyNe (callE n_f__law_bases (consA (subE (varE 1) (varE 4)) nilA)) (lcE [7] (rng1 (cstE (.int 3))) (tgN 7) yesE (bin pyEq (varE 7) (varE 5)))) (retS (cstE (.bl false))) nextS) (fenv T (D + 1)) (sR n (made a b ++ made2) a b (.val (.int 10)) (.val (.int 0)) s6) S = .fl (.nx (sR n (made a b ++ made2) a b (.val (.int 10)) (.val (.int 0)) s6)) S := s_ifF (e_bin (e_call (e_cons (e_sub (e_var (i := 1) rfl) (e_var (i := 4) rfl) rfl) e_nil) (ba10 D a b S)) (e_lc (own := [7]) (vs := (List.range 3).map fun i => PV.bl (decide (i = under 10))) (xs := rangeL 0 3) (S1 := S) (by kernel_rfl) (by kernel_rfl)) (by kernel_rfl)) rfl
  have q4 : (asgS (tgN 6) (iteE (bin pyEq (bin pyMod (un pyInt (varE 4)) (cstE (.int 2))) (cstE (.int 0))) (varE 2) (varE 3))) (fenv T (D + 1)) (sR n (made a b ++ made2) a b (.val (.int 10)) (.val (.int 0)) s6) S = .fl (.nx (sR n (made a b ++ made2) a b (.val (.int 10)) (.val (.int 0)) (.val a))) S := by kernel_rfl
  have q5 : (ifS (andE (bin pyLt (varE 4) (cstE (.int 18))) (bin pyNeR (un pyReprS (callE n_f__law_kept (consA (subE (varE 1) (varE 4)) (consA (varE 4) nilA)))) (un pyReprS (varE 6)))) (retS (cstE (.bl false))) nextS) (fenv T (D + 1)) (sR n (made a b ++ made2) a b (.val (.int 10)) (.val (.int 0)) (.val a)) S = .fl (.nx (sR n (made a b ++ made2) a b (.val (.int 10)) (.val (.int 0)) (.val a))) S := s_ifF (e_andT (by kernel_rfl) (e_bin (e_un (e_call (e_cons (e_sub (e_var (i := 1) rfl) (e_var (i := 4) rfl) rfl) (e_cons (e_var (i := 4) rfl) e_nil)) (ke10 D a b S)) ha.repr) (e_un (e_var (i := 6) rfl) ha.repr) (neR_refl _))) rfl
  exact s_seq q1 (s_seq q2 (s_seq q3 (s_seq q4 q5)))
theorem turn11 (ha : Od a) (hb : Od b) : (seqS (ifS (bin pyNe (callE n_f__law_sorts (consA (subE (varE 1) (varE 4)) nilA)) (lcE [7] (rng1 (cstE (.int 20))) (tgN 7) yesE (bin pyEq (varE 7) (varE 4)))) (retS (cstE (.bl false))) nextS) (seqS (asgS (tgN 5) (iteE (bin pyLt (varE 4) (cstE (.int 14))) (cstE (.int 0)) (iteE (bin pyLt (varE 4) (cstE (.int 16))) (cstE (.int 1)) (cstE (.int 2))))) (seqS (ifS (bin pyNe (callE n_f__law_bases (consA (subE (varE 1) (varE 4)) nilA)) (lcE [7] (rng1 (cstE (.int 3))) (tgN 7) yesE (bin pyEq (varE 7) (varE 5)))) (retS (cstE (.bl false))) nextS) (seqS (asgS (tgN 6) (iteE (bin pyEq (bin pyMod (un pyInt (varE 4)) (cstE (.int 2))) (cstE (.int 0))) (varE 2) (varE 3))) (ifS (andE (bin pyLt (varE 4) (cstE (.int 18))) (bin pyNeR (un pyReprS (callE n_f__law_kept (consA (subE (varE 1) (varE 4)) (consA (varE 4) nilA)))) (un pyReprS (varE 6)))) (retS (cstE (.bl false))) nextS))))) (fenv T (D + 1)) (sR n (made a b ++ made2) a b (.val (.int 11)) s5 s6) S = .fl (.nx (sR n (made a b ++ made2) a b (.val (.int 11)) (.val (.int 0)) (.val b))) S := by
  have q1 : (ifS (bin pyNe (callE n_f__law_sorts (consA (subE (varE 1) (varE 4)) nilA)) (lcE [7] (rng1 (cstE (.int 20))) (tgN 7) yesE (bin pyEq (varE 7) (varE 4)))) (retS (cstE (.bl false))) nextS) (fenv T (D + 1)) (sR n (made a b ++ made2) a b (.val (.int 11)) s5 s6) S = .fl (.nx (sR n (made a b ++ made2) a b (.val (.int 11)) s5 s6)) S := s_ifF (e_bin (e_call (e_cons (e_sub (e_var (i := 1) rfl) (e_var (i := 4) rfl) rfl) e_nil) (so11 D a b S)) (e_lc (own := [7]) (vs := (List.range 20).map fun i => PV.bl (decide (i = 11))) (xs := rangeL 0 20) (S1 := S) (by kernel_rfl) (by kernel_rfl)) (by kernel_rfl)) rfl
  have q2 : (asgS (tgN 5) (iteE (bin pyLt (varE 4) (cstE (.int 14))) (cstE (.int 0)) (iteE (bin pyLt (varE 4) (cstE (.int 16))) (cstE (.int 1)) (cstE (.int 2))))) (fenv T (D + 1)) (sR n (made a b ++ made2) a b (.val (.int 11)) s5 s6) S = .fl (.nx (sR n (made a b ++ made2) a b (.val (.int 11)) (.val (.int 0)) s6)) S := by kernel_rfl
  have q3 : (ifS (bin pyNe (callE n_f__law_bases (consA (subE (varE 1) (varE 4)) nilA)) (lcE [7] (rng1 (cstE (.int 3))) (tgN 7) yesE (bin pyEq (varE 7) (varE 5)))) (retS (cstE (.bl false))) nextS) (fenv T (D + 1)) (sR n (made a b ++ made2) a b (.val (.int 11)) (.val (.int 0)) s6) S = .fl (.nx (sR n (made a b ++ made2) a b (.val (.int 11)) (.val (.int 0)) s6)) S := s_ifF (e_bin (e_call (e_cons (e_sub (e_var (i := 1) rfl) (e_var (i := 4) rfl) rfl) e_nil) (ba11 D a b S)) (e_lc (own := [7]) (vs := (List.range 3).map fun i => PV.bl (decide (i = under 11))) (xs := rangeL 0 3) (S1 := S) (by kernel_rfl) (by kernel_rfl)) (by kernel_rfl)) rfl
  have q4 : (asgS (tgN 6) (iteE (bin pyEq (bin pyMod (un pyInt (varE 4)) (cstE (.int 2))) (cstE (.int 0))) (varE 2) (varE 3))) (fenv T (D + 1)) (sR n (made a b ++ made2) a b (.val (.int 11)) (.val (.int 0)) s6) S = .fl (.nx (sR n (made a b ++ made2) a b (.val (.int 11)) (.val (.int 0)) (.val b))) S := by kernel_rfl
  have q5 : (ifS (andE (bin pyLt (varE 4) (cstE (.int 18))) (bin pyNeR (un pyReprS (callE n_f__law_kept (consA (subE (varE 1) (varE 4)) (consA (varE 4) nilA)))) (un pyReprS (varE 6)))) (retS (cstE (.bl false))) nextS) (fenv T (D + 1)) (sR n (made a b ++ made2) a b (.val (.int 11)) (.val (.int 0)) (.val b)) S = .fl (.nx (sR n (made a b ++ made2) a b (.val (.int 11)) (.val (.int 0)) (.val b))) S := s_ifF (e_andT (by kernel_rfl) (e_bin (e_un (e_call (e_cons (e_sub (e_var (i := 1) rfl) (e_var (i := 4) rfl) rfl) (e_cons (e_var (i := 4) rfl) e_nil)) (ke11 D a b S)) hb.repr) (e_un (e_var (i := 6) rfl) hb.repr) (neR_refl _))) rfl
  exact s_seq q1 (s_seq q2 (s_seq q3 (s_seq q4 q5)))
theorem turn12 (ha : Od a) (hb : Od b) : (seqS (ifS (bin pyNe (callE n_f__law_sorts (consA (subE (varE 1) (varE 4)) nilA)) (lcE [7] (rng1 (cstE (.int 20))) (tgN 7) yesE (bin pyEq (varE 7) (varE 4)))) (retS (cstE (.bl false))) nextS) (seqS (asgS (tgN 5) (iteE (bin pyLt (varE 4) (cstE (.int 14))) (cstE (.int 0)) (iteE (bin pyLt (varE 4) (cstE (.int 16))) (cstE (.int 1)) (cstE (.int 2))))) (seqS (ifS (bin pyNe (callE n_f__law_bases (consA (subE (varE 1) (varE 4)) nilA)) (lcE [7] (rng1 (cstE (.int 3))) (tgN 7) yesE (bin pyEq (varE 7) (varE 5)))) (retS (cstE (.bl false))) nextS) (seqS (asgS (tgN 6) (iteE (bin pyEq (bin pyMod (un pyInt (varE 4)) (cstE (.int 2))) (cstE (.int 0))) (varE 2) (varE 3))) (ifS (andE (bin pyLt (varE 4) (cstE (.int 18))) (bin pyNeR (un pyReprS (callE n_f__law_kept (consA (subE (varE 1) (varE 4)) (consA (varE 4) nilA)))) (un pyReprS (varE 6)))) (retS (cstE (.bl false))) nextS))))) (fenv T (D + 1)) (sR n (made a b ++ made2) a b (.val (.int 12)) s5 s6) S = .fl (.nx (sR n (made a b ++ made2) a b (.val (.int 12)) (.val (.int 0)) (.val a))) S := by
  have q1 : (ifS (bin pyNe (callE n_f__law_sorts (consA (subE (varE 1) (varE 4)) nilA)) (lcE [7] (rng1 (cstE (.int 20))) (tgN 7) yesE (bin pyEq (varE 7) (varE 4)))) (retS (cstE (.bl false))) nextS) (fenv T (D + 1)) (sR n (made a b ++ made2) a b (.val (.int 12)) s5 s6) S = .fl (.nx (sR n (made a b ++ made2) a b (.val (.int 12)) s5 s6)) S := s_ifF (e_bin (e_call (e_cons (e_sub (e_var (i := 1) rfl) (e_var (i := 4) rfl) rfl) e_nil) (so12 D a b S)) (e_lc (own := [7]) (vs := (List.range 20).map fun i => PV.bl (decide (i = 12))) (xs := rangeL 0 20) (S1 := S) (by kernel_rfl) (by kernel_rfl)) (by kernel_rfl)) rfl
  have q2 : (asgS (tgN 5) (iteE (bin pyLt (varE 4) (cstE (.int 14))) (cstE (.int 0)) (iteE (bin pyLt (varE 4) (cstE (.int 16))) (cstE (.int 1)) (cstE (.int 2))))) (fenv T (D + 1)) (sR n (made a b ++ made2) a b (.val (.int 12)) s5 s6) S = .fl (.nx (sR n (made a b ++ made2) a b (.val (.int 12)) (.val (.int 0)) s6)) S := by kernel_rfl
  have q3 : (ifS (bin pyNe (callE n_f__law_bases (consA (subE (varE 1) (varE 4)) nilA)) (lcE [7] (rng1 (cstE (.int 3))) (tgN 7) yesE (bin pyEq (varE 7) (varE 5)))) (retS (cstE (.bl false))) nextS) (fenv T (D + 1)) (sR n (made a b ++ made2) a b (.val (.int 12)) (.val (.int 0)) s6) S = .fl (.nx (sR n (made a b ++ made2) a b (.val (.int 12)) (.val (.int 0)) s6)) S := s_ifF (e_bin (e_call (e_cons (e_sub (e_var (i := 1) rfl) (e_var (i := 4) rfl) rfl) e_nil) (ba12 D a b S)) (e_lc (own := [7]) (vs := (List.range 3).map fun i => PV.bl (decide (i = under 12))) (xs := rangeL 0 3) (S1 := S) (by kernel_rfl) (by kernel_rfl)) (by kernel_rfl)) rfl
  have q4 : (asgS (tgN 6) (iteE (bin pyEq (bin pyMod (un pyInt (varE 4)) (cstE (.int 2))) (cstE (.int 0))) (varE 2) (varE 3))) (fenv T (D + 1)) (sR n (made a b ++ made2) a b (.val (.int 12)) (.val (.int 0)) s6) S = .fl (.nx (sR n (made a b ++ made2) a b (.val (.int 12)) (.val (.int 0)) (.val a))) S := by kernel_rfl
  have q5 : (ifS (andE (bin pyLt (varE 4) (cstE (.int 18))) (bin pyNeR (un pyReprS (callE n_f__law_kept (consA (subE (varE 1) (varE 4)) (consA (varE 4) nilA)))) (un pyReprS (varE 6)))) (retS (cstE (.bl false))) nextS) (fenv T (D + 1)) (sR n (made a b ++ made2) a b (.val (.int 12)) (.val (.int 0)) (.val a)) S = .fl (.nx (sR n (made a b ++ made2) a b (.val (.int 12)) (.val (.int 0)) (.val a))) S := s_ifF (e_andT (by kernel_rfl) (e_bin (e_un (e_call (e_cons (e_sub (e_var (i := 1) rfl) (e_var (i := 4) rfl) rfl) (e_cons (e_var (i := 4) rfl) e_nil)) (ke12 D a b S)) ha.repr) (e_un (e_var (i := 6) rfl) ha.repr) (neR_refl _))) rfl
  exact s_seq q1 (s_seq q2 (s_seq q3 (s_seq q4 q5)))
theorem turn13 (ha : Od a) (hb : Od b) : (seqS (ifS (bin pyNe (callE n_f__law_sorts (consA (subE (varE 1) (varE 4)) nilA)) (lcE [7] (rng1 (cstE (.int 20))) (tgN 7) yesE (bin pyEq (varE 7) (varE 4)))) (retS (cstE (.bl false))) nextS) (seqS (asgS (tgN 5) (iteE (bin pyLt (varE 4) (cstE (.int 14))) (cstE (.int 0)) (iteE (bin pyLt (varE 4) (cstE (.int 16))) (cstE (.int 1)) (cstE (.int 2))))) (seqS (ifS (bin pyNe (callE n_f__law_bases (consA (subE (varE 1) (varE 4)) nilA)) (lcE [7] (rng1 (cstE (.int 3))) (tgN 7) yesE (bin pyEq (varE 7) (varE 5)))) (retS (cstE (.bl false))) nextS) (seqS (asgS (tgN 6) (iteE (bin pyEq (bin pyMod (un pyInt (varE 4)) (cstE (.int 2))) (cstE (.int 0))) (varE 2) (varE 3))) (ifS (andE (bin pyLt (varE 4) (cstE (.int 18))) (bin pyNeR (un pyReprS (callE n_f__law_kept (consA (subE (varE 1) (varE 4)) (consA (varE 4) nilA)))) (un pyReprS (varE 6)))) (retS (cstE (.bl false))) nextS))))) (fenv T (D + 1)) (sR n (made a b ++ made2) a b (.val (.int 13)) s5 s6) S = .fl (.nx (sR n (made a b ++ made2) a b (.val (.int 13)) (.val (.int 0)) (.val b))) S := by
  have q1 : (ifS (bin pyNe (callE n_f__law_sorts (consA (subE (varE 1) (varE 4)) nilA)) (lcE [7] (rng1 (cstE (.int 20))) (tgN 7) yesE (bin pyEq (varE 7) (varE 4)))) (retS (cstE (.bl false))) nextS) (fenv T (D + 1)) (sR n (made a b ++ made2) a b (.val (.int 13)) s5 s6) S = .fl (.nx (sR n (made a b ++ made2) a b (.val (.int 13)) s5 s6)) S := s_ifF (e_bin (e_call (e_cons (e_sub (e_var (i := 1) rfl) (e_var (i := 4) rfl) rfl) e_nil) (so13 D a b S)) (e_lc (own := [7]) (vs := (List.range 20).map fun i => PV.bl (decide (i = 13))) (xs := rangeL 0 20) (S1 := S) (by kernel_rfl) (by kernel_rfl)) (by kernel_rfl)) rfl
  have q2 : (asgS (tgN 5) (iteE (bin pyLt (varE 4) (cstE (.int 14))) (cstE (.int 0)) (iteE (bin pyLt (varE 4) (cstE (.int 16))) (cstE (.int 1)) (cstE (.int 2))))) (fenv T (D + 1)) (sR n (made a b ++ made2) a b (.val (.int 13)) s5 s6) S = .fl (.nx (sR n (made a b ++ made2) a b (.val (.int 13)) (.val (.int 0)) s6)) S := by kernel_rfl
  have q3 : (ifS (bin pyNe (callE n_f__law_bases (consA (subE (varE 1) (varE 4)) nilA)) (lcE [7] (rng1 (cstE (.int 3))) (tgN 7) yesE (bin pyEq (varE 7) (varE 5)))) (retS (cstE (.bl false))) nextS) (fenv T (D + 1)) (sR n (made a b ++ made2) a b (.val (.int 13)) (.val (.int 0)) s6) S = .fl (.nx (sR n (made a b ++ made2) a b (.val (.int 13)) (.val (.int 0)) s6)) S := s_ifF (e_bin (e_call (e_cons (e_sub (e_var (i := 1) rfl) (e_var (i := 4) rfl) rfl) e_nil) (ba13 D a b S)) (e_lc (own := [7]) (vs := (List.range 3).map fun i => PV.bl (decide (i = under 13))) (xs := rangeL 0 3) (S1 := S) (by kernel_rfl) (by kernel_rfl)) (by kernel_rfl)) rfl
  have q4 : (asgS (tgN 6) (iteE (bin pyEq (bin pyMod (un pyInt (varE 4)) (cstE (.int 2))) (cstE (.int 0))) (varE 2) (varE 3))) (fenv T (D + 1)) (sR n (made a b ++ made2) a b (.val (.int 13)) (.val (.int 0)) s6) S = .fl (.nx (sR n (made a b ++ made2) a b (.val (.int 13)) (.val (.int 0)) (.val b))) S := by kernel_rfl
  have q5 : (ifS (andE (bin pyLt (varE 4) (cstE (.int 18))) (bin pyNeR (un pyReprS (callE n_f__law_kept (consA (subE (varE 1) (varE 4)) (consA (varE 4) nilA)))) (un pyReprS (varE 6)))) (retS (cstE (.bl false))) nextS) (fenv T (D + 1)) (sR n (made a b ++ made2) a b (.val (.int 13)) (.val (.int 0)) (.val b)) S = .fl (.nx (sR n (made a b ++ made2) a b (.val (.int 13)) (.val (.int 0)) (.val b))) S := s_ifF (e_andT (by kernel_rfl) (e_bin (e_un (e_call (e_cons (e_sub (e_var (i := 1) rfl) (e_var (i := 4) rfl) rfl) (e_cons (e_var (i := 4) rfl) e_nil)) (ke13 D a b S)) hb.repr) (e_un (e_var (i := 6) rfl) hb.repr) (neR_refl _))) rfl
  exact s_seq q1 (s_seq q2 (s_seq q3 (s_seq q4 q5)))
theorem turn14 (ha : Od a) (hb : Od b) : (seqS (ifS (bin pyNe (callE n_f__law_sorts (consA (subE (varE 1) (varE 4)) nilA)) (lcE [7] (rng1 (cstE (.int 20))) (tgN 7) yesE (bin pyEq (varE 7) (varE 4)))) (retS (cstE (.bl false))) nextS) (seqS (asgS (tgN 5) (iteE (bin pyLt (varE 4) (cstE (.int 14))) (cstE (.int 0)) (iteE (bin pyLt (varE 4) (cstE (.int 16))) (cstE (.int 1)) (cstE (.int 2))))) (seqS (ifS (bin pyNe (callE n_f__law_bases (consA (subE (varE 1) (varE 4)) nilA)) (lcE [7] (rng1 (cstE (.int 3))) (tgN 7) yesE (bin pyEq (varE 7) (varE 5)))) (retS (cstE (.bl false))) nextS) (seqS (asgS (tgN 6) (iteE (bin pyEq (bin pyMod (un pyInt (varE 4)) (cstE (.int 2))) (cstE (.int 0))) (varE 2) (varE 3))) (ifS (andE (bin pyLt (varE 4) (cstE (.int 18))) (bin pyNeR (un pyReprS (callE n_f__law_kept (consA (subE (varE 1) (varE 4)) (consA (varE 4) nilA)))) (un pyReprS (varE 6)))) (retS (cstE (.bl false))) nextS))))) (fenv T (D + 1)) (sR n (made a b ++ made2) a b (.val (.int 14)) s5 s6) S = .fl (.nx (sR n (made a b ++ made2) a b (.val (.int 14)) (.val (.int 1)) (.val a))) S := by
  have q1 : (ifS (bin pyNe (callE n_f__law_sorts (consA (subE (varE 1) (varE 4)) nilA)) (lcE [7] (rng1 (cstE (.int 20))) (tgN 7) yesE (bin pyEq (varE 7) (varE 4)))) (retS (cstE (.bl false))) nextS) (fenv T (D + 1)) (sR n (made a b ++ made2) a b (.val (.int 14)) s5 s6) S = .fl (.nx (sR n (made a b ++ made2) a b (.val (.int 14)) s5 s6)) S := s_ifF (e_bin (e_call (e_cons (e_sub (e_var (i := 1) rfl) (e_var (i := 4) rfl) rfl) e_nil) (so14 D a b S)) (e_lc (own := [7]) (vs := (List.range 20).map fun i => PV.bl (decide (i = 14))) (xs := rangeL 0 20) (S1 := S) (by kernel_rfl) (by kernel_rfl)) (by kernel_rfl)) rfl
  have q2 : (asgS (tgN 5) (iteE (bin pyLt (varE 4) (cstE (.int 14))) (cstE (.int 0)) (iteE (bin pyLt (varE 4) (cstE (.int 16))) (cstE (.int 1)) (cstE (.int 2))))) (fenv T (D + 1)) (sR n (made a b ++ made2) a b (.val (.int 14)) s5 s6) S = .fl (.nx (sR n (made a b ++ made2) a b (.val (.int 14)) (.val (.int 1)) s6)) S := by kernel_rfl
  have q3 : (ifS (bin pyNe (callE n_f__law_bases (consA (subE (varE 1) (varE 4)) nilA)) (lcE [7] (rng1 (cstE (.int 3))) (tgN 7) yesE (bin pyEq (varE 7) (varE 5)))) (retS (cstE (.bl false))) nextS) (fenv T (D + 1)) (sR n (made a b ++ made2) a b (.val (.int 14)) (.val (.int 1)) s6) S = .fl (.nx (sR n (made a b ++ made2) a b (.val (.int 14)) (.val (.int 1)) s6)) S := s_ifF (e_bin (e_call (e_cons (e_sub (e_var (i := 1) rfl) (e_var (i := 4) rfl) rfl) e_nil) (ba14 D a b S)) (e_lc (own := [7]) (vs := (List.range 3).map fun i => PV.bl (decide (i = under 14))) (xs := rangeL 0 3) (S1 := S) (by kernel_rfl) (by kernel_rfl)) (by kernel_rfl)) rfl
  have q4 : (asgS (tgN 6) (iteE (bin pyEq (bin pyMod (un pyInt (varE 4)) (cstE (.int 2))) (cstE (.int 0))) (varE 2) (varE 3))) (fenv T (D + 1)) (sR n (made a b ++ made2) a b (.val (.int 14)) (.val (.int 1)) s6) S = .fl (.nx (sR n (made a b ++ made2) a b (.val (.int 14)) (.val (.int 1)) (.val a))) S := by kernel_rfl
  have q5 : (ifS (andE (bin pyLt (varE 4) (cstE (.int 18))) (bin pyNeR (un pyReprS (callE n_f__law_kept (consA (subE (varE 1) (varE 4)) (consA (varE 4) nilA)))) (un pyReprS (varE 6)))) (retS (cstE (.bl false))) nextS) (fenv T (D + 1)) (sR n (made a b ++ made2) a b (.val (.int 14)) (.val (.int 1)) (.val a)) S = .fl (.nx (sR n (made a b ++ made2) a b (.val (.int 14)) (.val (.int 1)) (.val a))) S := s_ifF (e_andT (by kernel_rfl) (e_bin (e_un (e_call (e_cons (e_sub (e_var (i := 1) rfl) (e_var (i := 4) rfl) rfl) (e_cons (e_var (i := 4) rfl) e_nil)) (ke14 D a b S)) ha.repr) (e_un (e_var (i := 6) rfl) ha.repr) (neR_refl _))) rfl
  exact s_seq q1 (s_seq q2 (s_seq q3 (s_seq q4 q5)))
theorem turn15 (ha : Od a) (hb : Od b) : (seqS (ifS (bin pyNe (callE n_f__law_sorts (consA (subE (varE 1) (varE 4)) nilA)) (lcE [7] (rng1 (cstE (.int 20))) (tgN 7) yesE (bin pyEq (varE 7) (varE 4)))) (retS (cstE (.bl false))) nextS) (seqS (asgS (tgN 5) (iteE (bin pyLt (varE 4) (cstE (.int 14))) (cstE (.int 0)) (iteE (bin pyLt (varE 4) (cstE (.int 16))) (cstE (.int 1)) (cstE (.int 2))))) (seqS (ifS (bin pyNe (callE n_f__law_bases (consA (subE (varE 1) (varE 4)) nilA)) (lcE [7] (rng1 (cstE (.int 3))) (tgN 7) yesE (bin pyEq (varE 7) (varE 5)))) (retS (cstE (.bl false))) nextS) (seqS (asgS (tgN 6) (iteE (bin pyEq (bin pyMod (un pyInt (varE 4)) (cstE (.int 2))) (cstE (.int 0))) (varE 2) (varE 3))) (ifS (andE (bin pyLt (varE 4) (cstE (.int 18))) (bin pyNeR (un pyReprS (callE n_f__law_kept (consA (subE (varE 1) (varE 4)) (consA (varE 4) nilA)))) (un pyReprS (varE 6)))) (retS (cstE (.bl false))) nextS))))) (fenv T (D + 1)) (sR n (made a b ++ made2) a b (.val (.int 15)) s5 s6) S = .fl (.nx (sR n (made a b ++ made2) a b (.val (.int 15)) (.val (.int 1)) (.val b))) S := by
  have q1 : (ifS (bin pyNe (callE n_f__law_sorts (consA (subE (varE 1) (varE 4)) nilA)) (lcE [7] (rng1 (cstE (.int 20))) (tgN 7) yesE (bin pyEq (varE 7) (varE 4)))) (retS (cstE (.bl false))) nextS) (fenv T (D + 1)) (sR n (made a b ++ made2) a b (.val (.int 15)) s5 s6) S = .fl (.nx (sR n (made a b ++ made2) a b (.val (.int 15)) s5 s6)) S := s_ifF (e_bin (e_call (e_cons (e_sub (e_var (i := 1) rfl) (e_var (i := 4) rfl) rfl) e_nil) (so15 D a b S)) (e_lc (own := [7]) (vs := (List.range 20).map fun i => PV.bl (decide (i = 15))) (xs := rangeL 0 20) (S1 := S) (by kernel_rfl) (by kernel_rfl)) (by kernel_rfl)) rfl
  have q2 : (asgS (tgN 5) (iteE (bin pyLt (varE 4) (cstE (.int 14))) (cstE (.int 0)) (iteE (bin pyLt (varE 4) (cstE (.int 16))) (cstE (.int 1)) (cstE (.int 2))))) (fenv T (D + 1)) (sR n (made a b ++ made2) a b (.val (.int 15)) s5 s6) S = .fl (.nx (sR n (made a b ++ made2) a b (.val (.int 15)) (.val (.int 1)) s6)) S := by kernel_rfl
  have q3 : (ifS (bin pyNe (callE n_f__law_bases (consA (subE (varE 1) (varE 4)) nilA)) (lcE [7] (rng1 (cstE (.int 3))) (tgN 7) yesE (bin pyEq (varE 7) (varE 5)))) (retS (cstE (.bl false))) nextS) (fenv T (D + 1)) (sR n (made a b ++ made2) a b (.val (.int 15)) (.val (.int 1)) s6) S = .fl (.nx (sR n (made a b ++ made2) a b (.val (.int 15)) (.val (.int 1)) s6)) S := s_ifF (e_bin (e_call (e_cons (e_sub (e_var (i := 1) rfl) (e_var (i := 4) rfl) rfl) e_nil) (ba15 D a b S)) (e_lc (own := [7]) (vs := (List.range 3).map fun i => PV.bl (decide (i = under 15))) (xs := rangeL 0 3) (S1 := S) (by kernel_rfl) (by kernel_rfl)) (by kernel_rfl)) rfl
  have q4 : (asgS (tgN 6) (iteE (bin pyEq (bin pyMod (un pyInt (varE 4)) (cstE (.int 2))) (cstE (.int 0))) (varE 2) (varE 3))) (fenv T (D + 1)) (sR n (made a b ++ made2) a b (.val (.int 15)) (.val (.int 1)) s6) S = .fl (.nx (sR n (made a b ++ made2) a b (.val (.int 15)) (.val (.int 1)) (.val b))) S := by kernel_rfl
  have q5 : (ifS (andE (bin pyLt (varE 4) (cstE (.int 18))) (bin pyNeR (un pyReprS (callE n_f__law_kept (consA (subE (varE 1) (varE 4)) (consA (varE 4) nilA)))) (un pyReprS (varE 6)))) (retS (cstE (.bl false))) nextS) (fenv T (D + 1)) (sR n (made a b ++ made2) a b (.val (.int 15)) (.val (.int 1)) (.val b)) S = .fl (.nx (sR n (made a b ++ made2) a b (.val (.int 15)) (.val (.int 1)) (.val b))) S := s_ifF (e_andT (by kernel_rfl) (e_bin (e_un (e_call (e_cons (e_sub (e_var (i := 1) rfl) (e_var (i := 4) rfl) rfl) (e_cons (e_var (i := 4) rfl) e_nil)) (ke15 D a b S)) hb.repr) (e_un (e_var (i := 6) rfl) hb.repr) (neR_refl _))) rfl
  exact s_seq q1 (s_seq q2 (s_seq q3 (s_seq q4 q5)))
theorem turn16 (ha : Od a) (hb : Od b) : (seqS (ifS (bin pyNe (callE n_f__law_sorts (consA (subE (varE 1) (varE 4)) nilA)) (lcE [7] (rng1 (cstE (.int 20))) (tgN 7) yesE (bin pyEq (varE 7) (varE 4)))) (retS (cstE (.bl false))) nextS) (seqS (asgS (tgN 5) (iteE (bin pyLt (varE 4) (cstE (.int 14))) (cstE (.int 0)) (iteE (bin pyLt (varE 4) (cstE (.int 16))) (cstE (.int 1)) (cstE (.int 2))))) (seqS (ifS (bin pyNe (callE n_f__law_bases (consA (subE (varE 1) (varE 4)) nilA)) (lcE [7] (rng1 (cstE (.int 3))) (tgN 7) yesE (bin pyEq (varE 7) (varE 5)))) (retS (cstE (.bl false))) nextS) (seqS (asgS (tgN 6) (iteE (bin pyEq (bin pyMod (un pyInt (varE 4)) (cstE (.int 2))) (cstE (.int 0))) (varE 2) (varE 3))) (ifS (andE (bin pyLt (varE 4) (cstE (.int 18))) (bin pyNeR (un pyReprS (callE n_f__law_kept (consA (subE (varE 1) (varE 4)) (consA (varE 4) nilA)))) (un pyReprS (varE 6)))) (retS (cstE (.bl false))) nextS))))) (fenv T (D + 1)) (sR n (made a b ++ made2) a b (.val (.int 16)) s5 s6) S = .fl (.nx (sR n (made a b ++ made2) a b (.val (.int 16)) (.val (.int 2)) (.val a))) S := by
  have q1 : (ifS (bin pyNe (callE n_f__law_sorts (consA (subE (varE 1) (varE 4)) nilA)) (lcE [7] (rng1 (cstE (.int 20))) (tgN 7) yesE (bin pyEq (varE 7) (varE 4)))) (retS (cstE (.bl false))) nextS) (fenv T (D + 1)) (sR n (made a b ++ made2) a b (.val (.int 16)) s5 s6) S = .fl (.nx (sR n (made a b ++ made2) a b (.val (.int 16)) s5 s6)) S := s_ifF (e_bin (e_call (e_cons (e_sub (e_var (i := 1) rfl) (e_var (i := 4) rfl) rfl) e_nil) (so16 D a b S)) (e_lc (own := [7]) (vs := (List.range 20).map fun i => PV.bl (decide (i = 16))) (xs := rangeL 0 20) (S1 := S) (by kernel_rfl) (by kernel_rfl)) (by kernel_rfl)) rfl
  have q2 : (asgS (tgN 5) (iteE (bin pyLt (varE 4) (cstE (.int 14))) (cstE (.int 0)) (iteE (bin pyLt (varE 4) (cstE (.int 16))) (cstE (.int 1)) (cstE (.int 2))))) (fenv T (D + 1)) (sR n (made a b ++ made2) a b (.val (.int 16)) s5 s6) S = .fl (.nx (sR n (made a b ++ made2) a b (.val (.int 16)) (.val (.int 2)) s6)) S := by kernel_rfl
  have q3 : (ifS (bin pyNe (callE n_f__law_bases (consA (subE (varE 1) (varE 4)) nilA)) (lcE [7] (rng1 (cstE (.int 3))) (tgN 7) yesE (bin pyEq (varE 7) (varE 5)))) (retS (cstE (.bl false))) nextS) (fenv T (D + 1)) (sR n (made a b ++ made2) a b (.val (.int 16)) (.val (.int 2)) s6) S = .fl (.nx (sR n (made a b ++ made2) a b (.val (.int 16)) (.val (.int 2)) s6)) S := s_ifF (e_bin (e_call (e_cons (e_sub (e_var (i := 1) rfl) (e_var (i := 4) rfl) rfl) e_nil) (ba16 D a b S)) (e_lc (own := [7]) (vs := (List.range 3).map fun i => PV.bl (decide (i = under 16))) (xs := rangeL 0 3) (S1 := S) (by kernel_rfl) (by kernel_rfl)) (by kernel_rfl)) rfl
  have q4 : (asgS (tgN 6) (iteE (bin pyEq (bin pyMod (un pyInt (varE 4)) (cstE (.int 2))) (cstE (.int 0))) (varE 2) (varE 3))) (fenv T (D + 1)) (sR n (made a b ++ made2) a b (.val (.int 16)) (.val (.int 2)) s6) S = .fl (.nx (sR n (made a b ++ made2) a b (.val (.int 16)) (.val (.int 2)) (.val a))) S := by kernel_rfl
  have q5 : (ifS (andE (bin pyLt (varE 4) (cstE (.int 18))) (bin pyNeR (un pyReprS (callE n_f__law_kept (consA (subE (varE 1) (varE 4)) (consA (varE 4) nilA)))) (un pyReprS (varE 6)))) (retS (cstE (.bl false))) nextS) (fenv T (D + 1)) (sR n (made a b ++ made2) a b (.val (.int 16)) (.val (.int 2)) (.val a)) S = .fl (.nx (sR n (made a b ++ made2) a b (.val (.int 16)) (.val (.int 2)) (.val a))) S := s_ifF (e_andT (by kernel_rfl) (e_bin (e_un (e_call (e_cons (e_sub (e_var (i := 1) rfl) (e_var (i := 4) rfl) rfl) (e_cons (e_var (i := 4) rfl) e_nil)) (ke16 D a b S)) ha.repr) (e_un (e_var (i := 6) rfl) ha.repr) (neR_refl _))) rfl
  exact s_seq q1 (s_seq q2 (s_seq q3 (s_seq q4 q5)))
theorem turn17 (ha : Od a) (hb : Od b) : (seqS (ifS (bin pyNe (callE n_f__law_sorts (consA (subE (varE 1) (varE 4)) nilA)) (lcE [7] (rng1 (cstE (.int 20))) (tgN 7) yesE (bin pyEq (varE 7) (varE 4)))) (retS (cstE (.bl false))) nextS) (seqS (asgS (tgN 5) (iteE (bin pyLt (varE 4) (cstE (.int 14))) (cstE (.int 0)) (iteE (bin pyLt (varE 4) (cstE (.int 16))) (cstE (.int 1)) (cstE (.int 2))))) (seqS (ifS (bin pyNe (callE n_f__law_bases (consA (subE (varE 1) (varE 4)) nilA)) (lcE [7] (rng1 (cstE (.int 3))) (tgN 7) yesE (bin pyEq (varE 7) (varE 5)))) (retS (cstE (.bl false))) nextS) (seqS (asgS (tgN 6) (iteE (bin pyEq (bin pyMod (un pyInt (varE 4)) (cstE (.int 2))) (cstE (.int 0))) (varE 2) (varE 3))) (ifS (andE (bin pyLt (varE 4) (cstE (.int 18))) (bin pyNeR (un pyReprS (callE n_f__law_kept (consA (subE (varE 1) (varE 4)) (consA (varE 4) nilA)))) (un pyReprS (varE 6)))) (retS (cstE (.bl false))) nextS))))) (fenv T (D + 1)) (sR n (made a b ++ made2) a b (.val (.int 17)) s5 s6) S = .fl (.nx (sR n (made a b ++ made2) a b (.val (.int 17)) (.val (.int 2)) (.val b))) S := by
  have q1 : (ifS (bin pyNe (callE n_f__law_sorts (consA (subE (varE 1) (varE 4)) nilA)) (lcE [7] (rng1 (cstE (.int 20))) (tgN 7) yesE (bin pyEq (varE 7) (varE 4)))) (retS (cstE (.bl false))) nextS) (fenv T (D + 1)) (sR n (made a b ++ made2) a b (.val (.int 17)) s5 s6) S = .fl (.nx (sR n (made a b ++ made2) a b (.val (.int 17)) s5 s6)) S := s_ifF (e_bin (e_call (e_cons (e_sub (e_var (i := 1) rfl) (e_var (i := 4) rfl) rfl) e_nil) (so17 D a b S)) (e_lc (own := [7]) (vs := (List.range 20).map fun i => PV.bl (decide (i = 17))) (xs := rangeL 0 20) (S1 := S) (by kernel_rfl) (by kernel_rfl)) (by kernel_rfl)) rfl
  have q2 : (asgS (tgN 5) (iteE (bin pyLt (varE 4) (cstE (.int 14))) (cstE (.int 0)) (iteE (bin pyLt (varE 4) (cstE (.int 16))) (cstE (.int 1)) (cstE (.int 2))))) (fenv T (D + 1)) (sR n (made a b ++ made2) a b (.val (.int 17)) s5 s6) S = .fl (.nx (sR n (made a b ++ made2) a b (.val (.int 17)) (.val (.int 2)) s6)) S := by kernel_rfl
  have q3 : (ifS (bin pyNe (callE n_f__law_bases (consA (subE (varE 1) (varE 4)) nilA)) (lcE [7] (rng1 (cstE (.int 3))) (tgN 7) yesE (bin pyEq (varE 7) (varE 5)))) (retS (cstE (.bl false))) nextS) (fenv T (D + 1)) (sR n (made a b ++ made2) a b (.val (.int 17)) (.val (.int 2)) s6) S = .fl (.nx (sR n (made a b ++ made2) a b (.val (.int 17)) (.val (.int 2)) s6)) S := s_ifF (e_bin (e_call (e_cons (e_sub (e_var (i := 1) rfl) (e_var (i := 4) rfl) rfl) e_nil) (ba17 D a b S)) (e_lc (own := [7]) (vs := (List.range 3).map fun i => PV.bl (decide (i = under 17))) (xs := rangeL 0 3) (S1 := S) (by kernel_rfl) (by kernel_rfl)) (by kernel_rfl)) rfl
  have q4 : (asgS (tgN 6) (iteE (bin pyEq (bin pyMod (un pyInt (varE 4)) (cstE (.int 2))) (cstE (.int 0))) (varE 2) (varE 3))) (fenv T (D + 1)) (sR n (made a b ++ made2) a b (.val (.int 17)) (.val (.int 2)) s6) S = .fl (.nx (sR n (made a b ++ made2) a b (.val (.int 17)) (.val (.int 2)) (.val b))) S := by kernel_rfl
  have q5 : (ifS (andE (bin pyLt (varE 4) (cstE (.int 18))) (bin pyNeR (un pyReprS (callE n_f__law_kept (consA (subE (varE 1) (varE 4)) (consA (varE 4) nilA)))) (un pyReprS (varE 6)))) (retS (cstE (.bl false))) nextS) (fenv T (D + 1)) (sR n (made a b ++ made2) a b (.val (.int 17)) (.val (.int 2)) (.val b)) S = .fl (.nx (sR n (made a b ++ made2) a b (.val (.int 17)) (.val (.int 2)) (.val b))) S := s_ifF (e_andT (by kernel_rfl) (e_bin (e_un (e_call (e_cons (e_sub (e_var (i := 1) rfl) (e_var (i := 4) rfl) rfl) (e_cons (e_var (i := 4) rfl) e_nil)) (ke17 D a b S)) hb.repr) (e_un (e_var (i := 6) rfl) hb.repr) (neR_refl _))) rfl
  exact s_seq q1 (s_seq q2 (s_seq q3 (s_seq q4 q5)))
theorem turn18 (ha : Od a) (hb : Od b) : (seqS (ifS (bin pyNe (callE n_f__law_sorts (consA (subE (varE 1) (varE 4)) nilA)) (lcE [7] (rng1 (cstE (.int 20))) (tgN 7) yesE (bin pyEq (varE 7) (varE 4)))) (retS (cstE (.bl false))) nextS) (seqS (asgS (tgN 5) (iteE (bin pyLt (varE 4) (cstE (.int 14))) (cstE (.int 0)) (iteE (bin pyLt (varE 4) (cstE (.int 16))) (cstE (.int 1)) (cstE (.int 2))))) (seqS (ifS (bin pyNe (callE n_f__law_bases (consA (subE (varE 1) (varE 4)) nilA)) (lcE [7] (rng1 (cstE (.int 3))) (tgN 7) yesE (bin pyEq (varE 7) (varE 5)))) (retS (cstE (.bl false))) nextS) (seqS (asgS (tgN 6) (iteE (bin pyEq (bin pyMod (un pyInt (varE 4)) (cstE (.int 2))) (cstE (.int 0))) (varE 2) (varE 3))) (ifS (andE (bin pyLt (varE 4) (cstE (.int 18))) (bin pyNeR (un pyReprS (callE n_f__law_kept (consA (subE (varE 1) (varE 4)) (consA (varE 4) nilA)))) (un pyReprS (varE 6)))) (retS (cstE (.bl false))) nextS))))) (fenv T (D + 1)) (sR n (made a b ++ made2) a b (.val (.int 18)) s5 s6) S = .fl (.nx (sR n (made a b ++ made2) a b (.val (.int 18)) (.val (.int 2)) (.val a))) S := by
  have q1 : (ifS (bin pyNe (callE n_f__law_sorts (consA (subE (varE 1) (varE 4)) nilA)) (lcE [7] (rng1 (cstE (.int 20))) (tgN 7) yesE (bin pyEq (varE 7) (varE 4)))) (retS (cstE (.bl false))) nextS) (fenv T (D + 1)) (sR n (made a b ++ made2) a b (.val (.int 18)) s5 s6) S = .fl (.nx (sR n (made a b ++ made2) a b (.val (.int 18)) s5 s6)) S := s_ifF (e_bin (e_call (e_cons (e_sub (e_var (i := 1) rfl) (e_var (i := 4) rfl) rfl) e_nil) (so18 D a b S)) (e_lc (own := [7]) (vs := (List.range 20).map fun i => PV.bl (decide (i = 18))) (xs := rangeL 0 20) (S1 := S) (by kernel_rfl) (by kernel_rfl)) (by kernel_rfl)) rfl
  have q2 : (asgS (tgN 5) (iteE (bin pyLt (varE 4) (cstE (.int 14))) (cstE (.int 0)) (iteE (bin pyLt (varE 4) (cstE (.int 16))) (cstE (.int 1)) (cstE (.int 2))))) (fenv T (D + 1)) (sR n (made a b ++ made2) a b (.val (.int 18)) s5 s6) S = .fl (.nx (sR n (made a b ++ made2) a b (.val (.int 18)) (.val (.int 2)) s6)) S := by kernel_rfl
  have q3 : (ifS (bin pyNe (callE n_f__law_bases (consA (subE (varE 1) (varE 4)) nilA)) (lcE [7] (rng1 (cstE (.int 3))) (tgN 7) yesE (bin pyEq (varE 7) (varE 5)))) (retS (cstE (.bl false))) nextS) (fenv T (D + 1)) (sR n (made a b ++ made2) a b (.val (.int 18)) (.val (.int 2)) s6) S = .fl (.nx (sR n (made a b ++ made2) a b (.val (.int 18)) (.val (.int 2)) s6)) S := s_ifF (e_bin (e_call (e_cons (e_sub (e_var (i := 1) rfl) (e_var (i := 4) rfl) rfl) e_nil) (ba18 D a b S)) (e_lc (own := [7]) (vs := (List.range 3).map fun i => PV.bl (decide (i = under 18))) (xs := rangeL 0 3) (S1 := S) (by kernel_rfl) (by kernel_rfl)) (by kernel_rfl)) rfl
  have q4 : (asgS (tgN 6) (iteE (bin pyEq (bin pyMod (un pyInt (varE 4)) (cstE (.int 2))) (cstE (.int 0))) (varE 2) (varE 3))) (fenv T (D + 1)) (sR n (made a b ++ made2) a b (.val (.int 18)) (.val (.int 2)) s6) S = .fl (.nx (sR n (made a b ++ made2) a b (.val (.int 18)) (.val (.int 2)) (.val a))) S := by kernel_rfl
  have q5 : (ifS (andE (bin pyLt (varE 4) (cstE (.int 18))) (bin pyNeR (un pyReprS (callE n_f__law_kept (consA (subE (varE 1) (varE 4)) (consA (varE 4) nilA)))) (un pyReprS (varE 6)))) (retS (cstE (.bl false))) nextS) (fenv T (D + 1)) (sR n (made a b ++ made2) a b (.val (.int 18)) (.val (.int 2)) (.val a)) S = .fl (.nx (sR n (made a b ++ made2) a b (.val (.int 18)) (.val (.int 2)) (.val a))) S := s_ifF (e_andF (by kernel_rfl)) rfl
  exact s_seq q1 (s_seq q2 (s_seq q3 (s_seq q4 q5)))
theorem turn19 (ha : Od a) (hb : Od b) : (seqS (ifS (bin pyNe (callE n_f__law_sorts (consA (subE (varE 1) (varE 4)) nilA)) (lcE [7] (rng1 (cstE (.int 20))) (tgN 7) yesE (bin pyEq (varE 7) (varE 4)))) (retS (cstE (.bl false))) nextS) (seqS (asgS (tgN 5) (iteE (bin pyLt (varE 4) (cstE (.int 14))) (cstE (.int 0)) (iteE (bin pyLt (varE 4) (cstE (.int 16))) (cstE (.int 1)) (cstE (.int 2))))) (seqS (ifS (bin pyNe (callE n_f__law_bases (consA (subE (varE 1) (varE 4)) nilA)) (lcE [7] (rng1 (cstE (.int 3))) (tgN 7) yesE (bin pyEq (varE 7) (varE 5)))) (retS (cstE (.bl false))) nextS) (seqS (asgS (tgN 6) (iteE (bin pyEq (bin pyMod (un pyInt (varE 4)) (cstE (.int 2))) (cstE (.int 0))) (varE 2) (varE 3))) (ifS (andE (bin pyLt (varE 4) (cstE (.int 18))) (bin pyNeR (un pyReprS (callE n_f__law_kept (consA (subE (varE 1) (varE 4)) (consA (varE 4) nilA)))) (un pyReprS (varE 6)))) (retS (cstE (.bl false))) nextS))))) (fenv T (D + 1)) (sR n (made a b ++ made2) a b (.val (.int 19)) s5 s6) S = .fl (.nx (sR n (made a b ++ made2) a b (.val (.int 19)) (.val (.int 2)) (.val b))) S := by
  have q1 : (ifS (bin pyNe (callE n_f__law_sorts (consA (subE (varE 1) (varE 4)) nilA)) (lcE [7] (rng1 (cstE (.int 20))) (tgN 7) yesE (bin pyEq (varE 7) (varE 4)))) (retS (cstE (.bl false))) nextS) (fenv T (D + 1)) (sR n (made a b ++ made2) a b (.val (.int 19)) s5 s6) S = .fl (.nx (sR n (made a b ++ made2) a b (.val (.int 19)) s5 s6)) S := s_ifF (e_bin (e_call (e_cons (e_sub (e_var (i := 1) rfl) (e_var (i := 4) rfl) rfl) e_nil) (so19 D a b S)) (e_lc (own := [7]) (vs := (List.range 20).map fun i => PV.bl (decide (i = 19))) (xs := rangeL 0 20) (S1 := S) (by kernel_rfl) (by kernel_rfl)) (by kernel_rfl)) rfl
  have q2 : (asgS (tgN 5) (iteE (bin pyLt (varE 4) (cstE (.int 14))) (cstE (.int 0)) (iteE (bin pyLt (varE 4) (cstE (.int 16))) (cstE (.int 1)) (cstE (.int 2))))) (fenv T (D + 1)) (sR n (made a b ++ made2) a b (.val (.int 19)) s5 s6) S = .fl (.nx (sR n (made a b ++ made2) a b (.val (.int 19)) (.val (.int 2)) s6)) S := by kernel_rfl
  have q3 : (ifS (bin pyNe (callE n_f__law_bases (consA (subE (varE 1) (varE 4)) nilA)) (lcE [7] (rng1 (cstE (.int 3))) (tgN 7) yesE (bin pyEq (varE 7) (varE 5)))) (retS (cstE (.bl false))) nextS) (fenv T (D + 1)) (sR n (made a b ++ made2) a b (.val (.int 19)) (.val (.int 2)) s6) S = .fl (.nx (sR n (made a b ++ made2) a b (.val (.int 19)) (.val (.int 2)) s6)) S := s_ifF (e_bin (e_call (e_cons (e_sub (e_var (i := 1) rfl) (e_var (i := 4) rfl) rfl) e_nil) (ba19 D a b S)) (e_lc (own := [7]) (vs := (List.range 3).map fun i => PV.bl (decide (i = under 19))) (xs := rangeL 0 3) (S1 := S) (by kernel_rfl) (by kernel_rfl)) (by kernel_rfl)) rfl
  have q4 : (asgS (tgN 6) (iteE (bin pyEq (bin pyMod (un pyInt (varE 4)) (cstE (.int 2))) (cstE (.int 0))) (varE 2) (varE 3))) (fenv T (D + 1)) (sR n (made a b ++ made2) a b (.val (.int 19)) (.val (.int 2)) s6) S = .fl (.nx (sR n (made a b ++ made2) a b (.val (.int 19)) (.val (.int 2)) (.val b))) S := by kernel_rfl
  have q5 : (ifS (andE (bin pyLt (varE 4) (cstE (.int 18))) (bin pyNeR (un pyReprS (callE n_f__law_kept (consA (subE (varE 1) (varE 4)) (consA (varE 4) nilA)))) (un pyReprS (varE 6)))) (retS (cstE (.bl false))) nextS) (fenv T (D + 1)) (sR n (made a b ++ made2) a b (.val (.int 19)) (.val (.int 2)) (.val b)) S = .fl (.nx (sR n (made a b ++ made2) a b (.val (.int 19)) (.val (.int 2)) (.val b))) S := s_ifF (e_andF (by kernel_rfl)) rfl
  exact s_seq q1 (s_seq q2 (s_seq q3 (s_seq q4 q5)))
theorem turn_ok (ha : Od a) (hb : Od b) (k : Nat) (hk : k < 20) : ∃ t5 t6, (seqS (ifS (bin pyNe (callE n_f__law_sorts (consA (subE (varE 1) (varE 4)) nilA)) (lcE [7] (rng1 (cstE (.int 20))) (tgN 7) yesE (bin pyEq (varE 7) (varE 4)))) (retS (cstE (.bl false))) nextS) (seqS (asgS (tgN 5) (iteE (bin pyLt (varE 4) (cstE (.int 14))) (cstE (.int 0)) (iteE (bin pyLt (varE 4) (cstE (.int 16))) (cstE (.int 1)) (cstE (.int 2))))) (seqS (ifS (bin pyNe (callE n_f__law_bases (consA (subE (varE 1) (varE 4)) nilA)) (lcE [7] (rng1 (cstE (.int 3))) (tgN 7) yesE (bin pyEq (varE 7) (varE 5)))) (retS (cstE (.bl false))) nextS) (seqS (asgS (tgN 6) (iteE (bin pyEq (bin pyMod (un pyInt (varE 4)) (cstE (.int 2))) (cstE (.int 0))) (varE 2) (varE 3))) (ifS (andE (bin pyLt (varE 4) (cstE (.int 18))) (bin pyNeR (un pyReprS (callE n_f__law_kept (consA (subE (varE 1) (varE 4)) (consA (varE 4) nilA)))) (un pyReprS (varE 6)))) (retS (cstE (.bl false))) nextS))))) (fenv T (D + 1)) (sR n (made a b ++ made2) a b (.val (.int (0 + (k : Int)))) s5 s6) S = .fl (.nx (sR n (made a b ++ made2) a b (.val (.int (0 + (k : Int)))) t5 t6)) S := by
  rw [Int.zero_add]
  match k, hk with
  | 0, _ => exact ⟨_, _, turn0 D n a b S s5 s6 ha hb⟩
  | 1, _ => exact ⟨_, _, turn1 D n a b S s5 s6 ha hb⟩
  | 2, _ => exact ⟨_, _, turn2 D n a b S s5 s6 ha hb⟩
  | 3, _ => exact ⟨_, _, turn3 D n a b S s5 s6 ha hb⟩
  | 4, _ => exact ⟨_, _, turn4 D n a b S s5 s6 ha hb⟩
  | 5, _ => exact ⟨_, _, turn5 D n a b S s5 s6 ha hb⟩
  | 6, _ => exact ⟨_, _, turn6 D n a b S s5 s6 ha hb⟩
  | 7, _ => exact ⟨_, _, turn7 D n a b S s5 s6 ha hb⟩
  | 8, _ => exact ⟨_, _, turn8 D n a b S s5 s6 ha hb⟩
  | 9, _ => exact ⟨_, _, turn9 D n a b S s5 s6 ha hb⟩
  | 10, _ => exact ⟨_, _, turn10 D n a b S s5 s6 ha hb⟩
  | 11, _ => exact ⟨_, _, turn11 D n a b S s5 s6 ha hb⟩
  | 12, _ => exact ⟨_, _, turn12 D n a b S s5 s6 ha hb⟩
  | 13, _ => exact ⟨_, _, turn13 D n a b S s5 s6 ha hb⟩
  | 14, _ => exact ⟨_, _, turn14 D n a b S s5 s6 ha hb⟩
  | 15, _ => exact ⟨_, _, turn15 D n a b S s5 s6 ha hb⟩
  | 16, _ => exact ⟨_, _, turn16 D n a b S s5 s6 ha hb⟩
  | 17, _ => exact ⟨_, _, turn17 D n a b S s5 s6 ha hb⟩
  | 18, _ => exact ⟨_, _, turn18 D n a b S s5 s6 ha hb⟩
  | 19, _ => exact ⟨_, _, turn19 D n a b S s5 s6 ha hb⟩
  | k + 20, h => exact absurd h (by omega)
end
theorem right_ok (D : Nat) {n : Nat} {S : IS} (h : J n S) : ∃ S', fenv T (D + 5) n_f__law_right [.obj n] S = .ok (.bl true) S' := by
  obtain ⟨a, S1, e1, ha, J1⟩ := odd_ok (D + 1) h
  obtain ⟨b, S2, e2, hb, J2⟩ := odd_ok (D + 1) J1
  obtain ⟨ρ', S', h1, rfl, s1, s4, s5, s6, rfl, _⟩ := f_inv (fe := fenv T (D + 4)) (t := tgN 1) (p := (seqS (asgS (tgN 1) (bin pyAdd (varE 1) (lstE (consA (makeX0E [78, 111, 67, 114, 111, 119, 100]) (consA (makeX0E [78, 111, 116, 104, 105, 110, 103, 84, 111, 85, 110, 100, 111]) nilA))))) (forS (rng1 (cstE (.int 20))) (tgN 4) (seqS (ifS (bin pyNe (callE n_f__law_sorts (consA (subE (varE 1) (varE 4)) nilA)) (lcE [7] (rng1 (cstE (.int 20))) (tgN 7) yesE (bin pyEq (varE 7) (varE 4)))) (retS (cstE (.bl false))) nextS) (seqS (asgS (tgN 5) (iteE (bin pyLt (varE 4) (cstE (.int 14))) (cstE (.int 0)) (iteE (bin pyLt (varE 4) (cstE (.int 16))) (cstE (.int 1)) (cstE (.int 2))))) (seqS (ifS (bin pyNe (callE n_f__law_bases (consA (subE (varE 1) (varE 4)) nilA)) (lcE [7] (rng1 (cstE (.int 3))) (tgN 7) yesE (bin pyEq (varE 7) (varE 5)))) (retS (cstE (.bl false))) nextS) (seqS (asgS (tgN 6) (iteE (bin pyEq (bin pyMod (un pyInt (varE 4)) (cstE (.int 2))) (cstE (.int 0))) (varE 2) (varE 3))) (ifS (andE (bin pyLt (varE 4) (cstE (.int 18))) (bin pyNeR (un pyReprS (callE n_f__law_kept (consA (subE (varE 1) (varE 4)) (consA (varE 4) nilA)))) (un pyReprS (varE 6)))) (retS (cstE (.bl false))) nextS))))))))
    (fun rest ρ S => S = S2 ∧ ∃ s1 s4 s5 s6, ρ = [.val (.obj n), s1, .val a, .val b, s4, s5, s6, .no] ∧ ∀ z ∈ rest, z = .lst (made a b)) (xs := [.lst (made a b), .lst (made a b)]) (ρ := [.val (.obj n), .no, .val a, .val b, .no, .no, .no, .no]) (S := S2)
    (fun z rest ρ S ⟨e8, s1, s4, s5, s6, e9, hz⟩ => by
      subst e9
      subst e8
      obtain rfl := hz z List.mem_cons_self
      obtain ⟨ρ1, S3, k1, rfl, t4, t5, t6, rfl, _⟩ := f_inv (fe := fenv T (D + 4)) (t := tgN 4) (p := (seqS (ifS (bin pyNe (callE n_f__law_sorts (consA (subE (varE 1) (varE 4)) nilA)) (lcE [7] (rng1 (cstE (.int 20))) (tgN 7) yesE (bin pyEq (varE 7) (varE 4)))) (retS (cstE (.bl false))) nextS) (seqS (asgS (tgN 5) (iteE (bin pyLt (varE 4) (cstE (.int 14))) (cstE (.int 0)) (iteE (bin pyLt (varE 4) (cstE (.int 16))) (cstE (.int 1)) (cstE (.int 2))))) (seqS (ifS (bin pyNe (callE n_f__law_bases (consA (subE (varE 1) (varE 4)) nilA)) (lcE [7] (rng1 (cstE (.int 3))) (tgN 7) yesE (bin pyEq (varE 7) (varE 5)))) (retS (cstE (.bl false))) nextS) (seqS (asgS (tgN 6) (iteE (bin pyEq (bin pyMod (un pyInt (varE 4)) (cstE (.int 2))) (cstE (.int 0))) (varE 2) (varE 3))) (ifS (andE (bin pyLt (varE 4) (cstE (.int 18))) (bin pyNeR (un pyReprS (callE n_f__law_kept (consA (subE (varE 1) (varE 4)) (consA (varE 4) nilA)))) (un pyReprS (varE 6)))) (retS (cstE (.bl false))) nextS))))))
        (fun rest ρ S3 => S3 = S ∧ ∃ t4 t5 t6, ρ = sR n (made a b ++ made2) a b t4 t5 t6 ∧ ∀ z ∈ rest, ∃ k : Nat, k < 20 ∧ z = .int (0 + k)) (xs := rangeL 0 20) (ρ := sR n (made a b ++ made2) a b s4 s5 s6) (S := S)
        (fun z rest ρ S3 ⟨e3, t4, t5, t6, e4, hz⟩ => by
          subst e3 e4
          obtain ⟨k, hk, rfl⟩ := hz z List.mem_cons_self
          obtain ⟨u5, u6, w⟩ := turn_ok (D + 3) n a b S3 t5 t6 ha hb k hk
          exact ⟨_, _, _, rfl, w, rfl, _, _, _, rfl, fun z hz' => hz z (List.mem_cons_of_mem _ hz')⟩)
        ⟨rfl, _, _, _, rfl, fun z hz => mem_range hz⟩
      have c0 : (asgS (tgN 1) (bin pyAdd (varE 1) (lstE (consA (makeX0E [78, 111, 67, 114, 111, 119, 100]) (consA (makeX0E [78, 111, 116, 104, 105, 110, 103, 84, 111, 85, 110, 100, 111]) nilA))))) (fenv T (D + 4)) [.val (.obj n), .val (.lst (made a b)), .val a, .val b, s4, s5, s6, .no] S3 = .fl (.nx (sR n (made a b ++ made2) a b s4 s5 s6)) S3 := by kernel_rfl
      exact ⟨_, _, S3, rfl, s_seq c0 (s_for (i_rng1 (k := 20) rfl (by decide)) k1), rfl, _, _, _, _, rfl, fun z hz' => hz z (List.mem_cons_of_mem _ hz')⟩)
    ⟨rfl, _, _, _, _, rfl, fun z hz => by simpa using hz⟩
  refine ⟨S', ret_s t_f__law_right (s_seq (s_par (e_cons (e_call (e_cons e_var e_nil) e1) (e_cons (e_call (e_cons e_var e_nil) e2) e_nil)) rfl) (s_seq (s_for (i_it (e_lst (e_cons (e_call (e_cons e_var (e_cons e_var e_nil)) (place_ok (D + 3) a b S')) (e_cons (e_call (e_cons e_var (e_cons e_var e_nil)) (word_ok (D + 3) a b S')) e_nil)) (show 2 ≤ lim by decide)) rfl) h1) (s_ret rfl)))⟩
theorem pure_law : ∀ ns : List Int, ns.length ≤ 63 → ∃ S', fenv T 14 n_f_law [.scr ns] [] = .ok (.bl true) S' := by
  intro ns hns
  obtain ⟨ps, S', h1, _, h3, h4⟩ := lc_each (fe := fenv T 13) (t := tgN 3) (e := callE n_f__law_right (consA (callE n_f__law_jar (consA (varE 0) (consA (varE 3) nilA))) nilA)) (ρ := [.val (.scr ns), .val (.lst plains), .no, .no]) (f := fun k : Nat => PV.int (0 + (k : Int))) (P := fun _ => True) (Q := fun _ v => v = .bl true) (xs := List.range (max 2 (min ns.length 4))) (acc := []) (S := [])
    (fun k hk S _ => by
      have hk := List.mem_range.mp hk
      obtain ⟨S1, j1, j2⟩ := jar_ok 12 ns k (by omega) S
      obtain ⟨S2, r1⟩ := right_ok 8 j2
      refine ⟨_, _, S2, rfl, e_call (e_cons (e_call (e_cons e_var (e_cons e_var e_nil)) ?_) e_nil) r1, rfl, trivial⟩
      rw [Int.zero_add]
      exact j1) trivial
  have hv : ps.map (·.2) = ps.map fun _ => PV.bl true := List.map_congr_left fun p hp => h4 p hp
  rw [List.nil_append, hv] at h1
  have c0 : (ifS (bin pyNe (lstE (consA (cstE (.int 2)) (consA (cstE (.int 6)) (consA (cstE (.int 1000)) (consA (cstE (.int 5)) (consA (cstE (.int 10)) nilA)))))) (lstE (consA (cstE (.int 2)) (consA (cstE (.int 6)) (consA (cstE (.int 1000)) (consA (cstE (.int 5)) (consA (cstE (.int 10)) nilA))))))) (retS (cstE (.bl false))) nextS) (fenv T 13) (startR 4 [.scr ns]) [] = .fl (.nx (startR 4 [.scr ns])) [] := by kernel_rfl
  have c1 : (asgS (tgN 1) (lstE (consA (makeX0E [87, 114, 111, 110, 103, 86, 97, 108, 117, 101]) (consA (makeX0E [87, 114, 111, 110, 103, 78, 97, 109, 101]) (consA (makeX0E [78, 111, 116, 80, 111, 115, 115, 105, 98, 108, 101]) nilA))))) (fenv T 13) (startR 4 [.scr ns]) [] = .fl (.nx [.val (.scr ns), .val (.lst plains), .no, .no]) [] := by kernel_rfl
  have c2 : (ifS (bin pyNe (lcE [2] (itE (varE 1)) (tgN 2) yesE (callE n_f__law_bases (consA (varE 2) nilA))) (lstE (consA (lstE (consA (cstE (.bl true)) (consA (cstE (.bl false)) (consA (cstE (.bl false)) nilA)))) (consA (lstE (consA (cstE (.bl false)) (consA (cstE (.bl true)) (consA (cstE (.bl false)) nilA)))) (consA (lstE (consA (cstE (.bl false)) (consA (cstE (.bl false)) (consA (cstE (.bl true)) nilA)))) nilA))))) (retS (cstE (.bl false))) nextS) (fenv T 13) [.val (.scr ns), .val (.lst plains), .no, .no] [] = .fl (.nx [.val (.scr ns), .val (.lst plains), .no, .no]) [] := by kernel_rfl
  refine ⟨S', ret_s t_f_law (s_seq c0 (s_seq c1 (s_seq c2 (s_ret (e_un (e_lc (own := [3]) (xs := rangeL 0 (max 2 (min ns.length 4))) (S1 := []) ?_ (by rw [show rangeL 0 (max 2 (min ns.length 4)) = (List.range (max 2 (min ns.length 4))).map (fun k : Nat => PV.int (0 + (k : Int))) from rfl]; exact h1)) (all_true ps))))))⟩
  have hi := i_rng1 (fe := fenv T 13) (ρ := [.val (.scr ns), .val (.lst plains), .no, .no]) (S := []) (S1 := []) (a := bin pyMax2 (cstE (.int 2)) (bin pyMin2 (un pyLen (varE 0)) (cstE (.int 4)))) (k := ((max 2 (min ns.length 4) : Nat) : Int)) (e_bin rfl (e_bin (e_un e_var rfl) rfl rfl) ?_) (by omega)
  · rw [Int.toNat_natCast] at hi
    exact hi
  · show some (PV.int (if (if (4 : Int) < (ns.length : Int) then (4 : Int) else ns.length) > 2 then (if (4 : Int) < (ns.length : Int) then (4 : Int) else ns.length) else 2)) = _
    congr 2
    by_cases h1 : (4 : Int) < (ns.length : Int)
    · simp only [h1, if_true]
      omega
    · simp only [h1, if_false]
      split <;> omega
end My
namespace My
open PySem PySem.Spec PyProof.Rows L2
section
variable {P : Program} {w : World} {K : PySem.W.Frag} {mg : Str → Option Value} {base : Heap}
theorem x0_NoCrowd (F : Fx K mg) : XN0 K [78, 111, 67, 114, 111, 119, 100] := xn0_of PySem.F.excBase_ArithmeticError F.x0_NoCrowd
theorem x0_NotPossible (F : Fx K mg) : XN0 K [78, 111, 116, 80, 111, 115, 115, 105, 98, 108, 101] := xn0_of PySem.F.excBase_ArithmeticError F.x0_NotPossible
theorem x0_NothingToUndo (F : Fx K mg) : XN0 K [78, 111, 116, 104, 105, 110, 103, 84, 111, 85, 110, 100, 111] := xn0_of PySem.F.excBase_ArithmeticError F.x0_NothingToUndo
theorem x0_WrongName (F : Fx K mg) : XN0 K [87, 114, 111, 110, 103, 78, 97, 109, 101] := xn0_of PySem.F.excBase_LookupError F.x0_WrongName
theorem x0_WrongValue (F : Fx K mg) : XN0 K [87, 114, 111, 110, 103, 86, 97, 108, 117, 101] := xn0_of PySem.F.excBase_ValueError F.x0_WrongValue
theorem kwx_InvalidText : KwP D_x_InvalidText ["self", "given"] ["given"] [0] 1 := fun _ _ _ _ _ _ first ws h1 h2 => match first, ws, h1, h2 with | [_], [_], _, _ => rfl
theorem xk_InvalidText (F : Fx K mg) (X : Dk K) : XMk P w K mg base [73, 110, 118, 97, 108, 105, 100, 84, 101, 120, 116] [103, 105, 118, 101, 110] "given" := xmk_of PySem.F.excBase_ValueError PySem.F.store_ValueError F.ox_InvalidText X.x_InvalidText sc_x_InvalidText (by decide +kernel) kwx_InvalidText
theorem kwx_InvalidQuestions : KwP D_x_InvalidQuestions ["self", "given"] ["given"] [0] 1 := fun _ _ _ _ _ _ first ws h1 h2 => match first, ws, h1, h2 with | [_], [_], _, _ => rfl
theorem xk_InvalidQuestions (F : Fx K mg) (X : Dk K) : XMk P w K mg base [73, 110, 118, 97, 108, 105, 100, 81, 117, 101, 115, 116, 105, 111, 110, 115] [103, 105, 118, 101, 110] "given" := xmk_of PySem.F.excBase_ValueError PySem.F.store_ValueError F.ox_InvalidQuestions X.x_InvalidQuestions sc_x_InvalidQuestions (by decide +kernel) kwx_InvalidQuestions
theorem kwx_InvalidPair : KwP D_x_InvalidPair ["self", "given"] ["given"] [0] 1 := fun _ _ _ _ _ _ first ws h1 h2 => match first, ws, h1, h2 with | [_], [_], _, _ => rfl
theorem xk_InvalidPair (F : Fx K mg) (X : Dk K) : XMk P w K mg base [73, 110, 118, 97, 108, 105, 100, 80, 97, 105, 114] [103, 105, 118, 101, 110] "given" := xmk_of PySem.F.excBase_ValueError PySem.F.store_ValueError F.ox_InvalidPair X.x_InvalidPair sc_x_InvalidPair (by decide +kernel) kwx_InvalidPair
theorem kwx_InvalidShare : KwP D_x_InvalidShare ["self", "given"] ["given"] [0] 1 := fun _ _ _ _ _ _ first ws h1 h2 => match first, ws, h1, h2 with | [_], [_], _, _ => rfl
theorem xk_InvalidShare (F : Fx K mg) (X : Dk K) : XMk P w K mg base [73, 110, 118, 97, 108, 105, 100, 83, 104, 97, 114, 101] [103, 105, 118, 101, 110] "given" := xmk_of PySem.F.excBase_ValueError PySem.F.store_ValueError F.ox_InvalidShare X.x_InvalidShare sc_x_InvalidShare (by decide +kernel) kwx_InvalidShare
theorem kwx_InvalidSplit : KwP D_x_InvalidSplit ["self", "given"] ["given"] [0] 1 := fun _ _ _ _ _ _ first ws h1 h2 => match first, ws, h1, h2 with | [_], [_], _, _ => rfl
theorem xk_InvalidSplit (F : Fx K mg) (X : Dk K) : XMk P w K mg base [73, 110, 118, 97, 108, 105, 100, 83, 112, 108, 105, 116] [103, 105, 118, 101, 110] "given" := xmk_of PySem.F.excBase_ValueError PySem.F.store_ValueError F.ox_InvalidSplit X.x_InvalidSplit sc_x_InvalidSplit (by decide +kernel) kwx_InvalidSplit
theorem kwx_InvalidRing : KwP D_x_InvalidRing ["self", "given"] ["given"] [0] 1 := fun _ _ _ _ _ _ first ws h1 h2 => match first, ws, h1, h2 with | [_], [_], _, _ => rfl
theorem xk_InvalidRing (F : Fx K mg) (X : Dk K) : XMk P w K mg base [73, 110, 118, 97, 108, 105, 100, 82, 105, 110, 103] [103, 105, 118, 101, 110] "given" := xmk_of PySem.F.excBase_ValueError PySem.F.store_ValueError F.ox_InvalidRing X.x_InvalidRing sc_x_InvalidRing (by decide +kernel) kwx_InvalidRing
theorem kwx_InvalidLot : KwP D_x_InvalidLot ["self", "given"] ["given"] [0] 1 := fun _ _ _ _ _ _ first ws h1 h2 => match first, ws, h1, h2 with | [_], [_], _, _ => rfl
theorem xk_InvalidLot (F : Fx K mg) (X : Dk K) : XMk P w K mg base [73, 110, 118, 97, 108, 105, 100, 76, 111, 116] [103, 105, 118, 101, 110] "given" := xmk_of PySem.F.excBase_ValueError PySem.F.store_ValueError F.ox_InvalidLot X.x_InvalidLot sc_x_InvalidLot (by decide +kernel) kwx_InvalidLot
theorem kwx_InvalidBet : KwP D_x_InvalidBet ["self", "given"] ["given"] [0] 1 := fun _ _ _ _ _ _ first ws h1 h2 => match first, ws, h1, h2 with | [_], [_], _, _ => rfl
theorem xk_InvalidBet (F : Fx K mg) (X : Dk K) : XMk P w K mg base [73, 110, 118, 97, 108, 105, 100, 66, 101, 116] [103, 105, 118, 101, 110] "given" := xmk_of PySem.F.excBase_ValueError PySem.F.store_ValueError F.ox_InvalidBet X.x_InvalidBet sc_x_InvalidBet (by decide +kernel) kwx_InvalidBet
theorem kwx_InvalidNumber : KwP D_x_InvalidNumber ["self", "given"] ["given"] [0] 1 := fun _ _ _ _ _ _ first ws h1 h2 => match first, ws, h1, h2 with | [_], [_], _, _ => rfl
theorem xk_InvalidNumber (F : Fx K mg) (X : Dk K) : XMk P w K mg base [73, 110, 118, 97, 108, 105, 100, 78, 117, 109, 98, 101, 114] [103, 105, 118, 101, 110] "given" := xmk_of PySem.F.excBase_ValueError PySem.F.store_ValueError F.ox_InvalidNumber X.x_InvalidNumber sc_x_InvalidNumber (by decide +kernel) kwx_InvalidNumber
theorem kwx_InvalidWish : KwP D_x_InvalidWish ["self", "given"] ["given"] [0] 1 := fun _ _ _ _ _ _ first ws h1 h2 => match first, ws, h1, h2 with | [_], [_], _, _ => rfl
theorem xk_InvalidWish (F : Fx K mg) (X : Dk K) : XMk P w K mg base [73, 110, 118, 97, 108, 105, 100, 87, 105, 115, 104] [103, 105, 118, 101, 110] "given" := xmk_of PySem.F.excBase_ValueError PySem.F.store_ValueError F.ox_InvalidWish X.x_InvalidWish sc_x_InvalidWish (by decide +kernel) kwx_InvalidWish
theorem kwx_InvalidCommand : KwP D_x_InvalidCommand ["self", "given"] ["given"] [0] 1 := fun _ _ _ _ _ _ first ws h1 h2 => match first, ws, h1, h2 with | [_], [_], _, _ => rfl
theorem xk_InvalidCommand (F : Fx K mg) (X : Dk K) : XMk P w K mg base [73, 110, 118, 97, 108, 105, 100, 67, 111, 109, 109, 97, 110, 100] [103, 105, 118, 101, 110] "given" := xmk_of PySem.F.excBase_ValueError PySem.F.store_ValueError F.ox_InvalidCommand X.x_InvalidCommand sc_x_InvalidCommand (by decide +kernel) kwx_InvalidCommand
theorem kwx_NotAWeb : KwP D_x_NotAWeb ["self", "given"] ["given"] [0] 1 := fun _ _ _ _ _ _ first ws h1 h2 => match first, ws, h1, h2 with | [_], [_], _, _ => rfl
theorem xk_NotAWeb (F : Fx K mg) (X : Dk K) : XMk P w K mg base [78, 111, 116, 65, 87, 101, 98] [103, 105, 118, 101, 110] "given" := xmk_of PySem.F.excBase_ValueError PySem.F.store_ValueError F.ox_NotAWeb X.x_NotAWeb sc_x_NotAWeb (by decide +kernel) kwx_NotAWeb
theorem kwx_InvalidShares : KwP D_x_InvalidShares ["self", "index"] ["index"] [0] 1 := fun _ _ _ _ _ _ first ws h1 h2 => match first, ws, h1, h2 with | [_], [_], _, _ => rfl
theorem xk_InvalidShares (F : Fx K mg) (X : Dk K) : XMk P w K mg base [73, 110, 118, 97, 108, 105, 100, 83, 104, 97, 114, 101, 115] [105, 110, 100, 101, 120] "index" := xmk_of PySem.F.excBase_ValueError PySem.F.store_ValueError F.ox_InvalidShares X.x_InvalidShares sc_x_InvalidShares (by decide +kernel) kwx_InvalidShares
theorem kwx_InvalidCrowd : KwP D_x_InvalidCrowd ["self", "index"] ["index"] [0] 1 := fun _ _ _ _ _ _ first ws h1 h2 => match first, ws, h1, h2 with | [_], [_], _, _ => rfl
theorem xk_InvalidCrowd (F : Fx K mg) (X : Dk K) : XMk P w K mg base [73, 110, 118, 97, 108, 105, 100, 67, 114, 111, 119, 100] [105, 110, 100, 101, 120] "index" := xmk_of PySem.F.excBase_ValueError PySem.F.store_ValueError F.ox_InvalidCrowd X.x_InvalidCrowd sc_x_InvalidCrowd (by decide +kernel) kwx_InvalidCrowd
theorem kwx_UnknownQuestion : KwP D_x_UnknownQuestion ["self", "given"] ["given"] [0] 1 := fun _ _ _ _ _ _ first ws h1 h2 => match first, ws, h1, h2 with | [_], [_], _, _ => rfl
theorem xk_UnknownQuestion (F : Fx K mg) (X : Dk K) : XMk P w K mg base [85, 110, 107, 110, 111, 119, 110, 81, 117, 101, 115, 116, 105, 111, 110] [103, 105, 118, 101, 110] "given" := xmk_of PySem.F.excBase_LookupError PySem.F.store_LookupError F.ox_UnknownQuestion X.x_UnknownQuestion sc_x_UnknownQuestion (by decide +kernel) kwx_UnknownQuestion
theorem kwx_UnknownTie : KwP D_x_UnknownTie ["self", "given"] ["given"] [0] 1 := fun _ _ _ _ _ _ first ws h1 h2 => match first, ws, h1, h2 with | [_], [_], _, _ => rfl
theorem xk_UnknownTie (F : Fx K mg) (X : Dk K) : XMk P w K mg base [85, 110, 107, 110, 111, 119, 110, 84, 105, 101] [103, 105, 118, 101, 110] "given" := xmk_of PySem.F.excBase_LookupError PySem.F.store_LookupError F.ox_UnknownTie X.x_UnknownTie sc_x_UnknownTie (by decide +kernel) kwx_UnknownTie
theorem kwx_TooMany : KwP D_x_TooMany ["self", "given"] ["given"] [0] 1 := fun _ _ _ _ _ _ first ws h1 h2 => match first, ws, h1, h2 with | [_], [_], _, _ => rfl
theorem xk_TooMany (F : Fx K mg) (X : Dk K) : XMk P w K mg base [84, 111, 111, 77, 97, 110, 121] [103, 105, 118, 101, 110] "given" := xmk_of PySem.F.excBase_ArithmeticError PySem.F.store_ArithmeticError F.ox_TooMany X.x_TooMany sc_x_TooMany (by decide +kernel) kwx_TooMany
theorem kwx_Broken : KwP D_x_Broken ["self", "index"] ["index"] [0] 1 := fun _ _ _ _ _ _ first ws h1 h2 => match first, ws, h1, h2 with | [_], [_], _, _ => rfl
theorem xk_Broken (F : Fx K mg) (X : Dk K) : XMk P w K mg base [66, 114, 111, 107, 101, 110] [105, 110, 100, 101, 120] "index" := xmk_of PySem.F.excBase_ArithmeticError PySem.F.store_ArithmeticError F.ox_Broken X.x_Broken sc_x_Broken (by decide +kernel) kwx_Broken
end
section
variable [LT] {P : Program} {w : World} {K : PySem.W.Frag} {mg : Str → Option Value} {base : Heap} {D : Nat}
theorem b_f__law_bases (F : Fx K mg) (X : Dk K) (Z : Lx K mg base) (O : Ok P w K mg base D) : BodyOk P w K mg base T D N_f__law_bases "_law_bases" (defScope s_f__law_bases) (D_f__law_bases.at_.ad K) (defBody s_f__law_bases) d_f__law_bases := by
  intro cdv A outer s H E M hcv hn hr
  have h0 : LT.hot = none := Z.h0
  have r0 : RG (lev D) (Cxd P w K mg base N_f__law_bases "_law_bases" (defScope s_f__law_bases) (D_f__law_bases.at_.ad K) cdv A outer s H E).A := hr.mono (by omega)
  have r1 : RG (lev D + 1) (Cxd P w K mg base N_f__law_bases "_law_bases" (defScope s_f__law_bases) (D_f__law_bases.at_.ad K) cdv A outer s H E).A := hr.mono (by omega)
  have r2 : RG (lev D + 2) (Cxd P w K mg base N_f__law_bases "_law_bases" (defScope s_f__law_bases) (D_f__law_bases.at_.ad K) cdv A outer s H E).A := hr.mono (by omega)
  have u0 : (Cxd P w K mg base N_f__law_bases "_law_bases" (defScope s_f__law_bases) (D_f__law_bases.at_.ad K) cdv A outer s H E).A.units + 1 < cLine := by have := r0.units; omega
  have u1 : (Cxd P w K mg base N_f__law_bases "_law_bases" (defScope s_f__law_bases) (D_f__law_bases.at_.ad K) cdv A outer s H E).A.units + 64 < cLine := r0.units
  have u2 : (Cxd P w K mg base N_f__law_bases "_law_bases" (defScope s_f__law_bases) (D_f__law_bases.at_.ad K) cdv A outer s H E).A.units + 65 < cLine := by have := r0.room.un; omega
  have tk : Takes (Cxd P w K mg base N_f__law_bases "_law_bases" (defScope s_f__law_bases) (D_f__law_bases.at_.ad K) cdv A outer s H E) (WEx E) := takes_of rfl rfl rfl rfl
  have hp : PassesOwn (model (Cxd P w K mg base N_f__law_bases "_law_bases" (defScope s_f__law_bases) (D_f__law_bases.at_.ad K) cdv A outer s H E).prog (Cxd P w K mg base N_f__law_bases "_law_bases" (defScope s_f__law_bases) (D_f__law_bases.at_.ad K) cdv A outer s H E).w) (Cxd P w K mg base N_f__law_bases "_law_bases" (defScope s_f__law_bases) (D_f__law_bases.at_.ad K) cdv A outer s H E).A (Cxd P w K mg base N_f__law_bases "_law_bases" (defScope s_f__law_bases) (D_f__law_bases.at_.ad K) cdv A outer s H E).env (Cxd P w K mg base N_f__law_bases "_law_bases" (defScope s_f__law_bases) (D_f__law_bases.at_.ad K) cdv A outer s H E).xe := passes_of rfl
  unfold d_f__law_bases
  exact (b_cons (st_oset (i := 1) (.inl hn) sc_f__law_bases.nd rfl (by first | exact .inl rfl | exact .inr rfl) (sim_lstN (sim_cons (sim_and (k_ixO F.g_WrongValue F.xi_WrongValue F.n_isinstance (kv 0)) (sim_one (k_ixB F.n_ValueError bt_ValueError F.xi_ValueError F.n_isinstance (kv 0)))) sim_nil))) (b_cons (st_app (i := 1) rfl (by first | exact .inl rfl | exact .inr (.inl rfl)) (sim_and (k_ixO F.g_WrongName F.xi_WrongName F.n_isinstance (kv 0)) (sim_one (k_ixB F.n_LookupError bt_LookupError F.xi_LookupError F.n_isinstance (kv 0))))) (b_one (st_ret (sim_bin s_add (ko 1) (PE.o (sim_lst (sim_cons (sim_and (k_ixO F.g_NotPossible F.xi_NotPossible F.n_isinstance (kv 0)) (sim_one (k_ixB F.n_ArithmeticError bt_ArithmeticError F.xi_ArithmeticError F.n_isinstance (kv 0)))) sim_nil))))))))
theorem b_f__law_dip (F : Fx K mg) (X : Dk K) (Z : Lx K mg base) (O : Ok P w K mg base D) : BodyOk P w K mg base T D N_f__law_dip "_law_dip" (defScope s_f__law_dip) (D_f__law_dip.at_.ad K) (defBody s_f__law_dip) d_f__law_dip := by
  intro cdv A outer s H E M hcv hn hr
  have h0 : LT.hot = none := Z.h0
  have r0 : RG (lev D) (Cxd P w K mg base N_f__law_dip "_law_dip" (defScope s_f__law_dip) (D_f__law_dip.at_.ad K) cdv A outer s H E).A := hr.mono (by omega)
  have r1 : RG (lev D + 1) (Cxd P w K mg base N_f__law_dip "_law_dip" (defScope s_f__law_dip) (D_f__law_dip.at_.ad K) cdv A outer s H E).A := hr.mono (by omega)
  have r2 : RG (lev D + 2) (Cxd P w K mg base N_f__law_dip "_law_dip" (defScope s_f__law_dip) (D_f__law_dip.at_.ad K) cdv A outer s H E).A := hr.mono (by omega)
  have u0 : (Cxd P w K mg base N_f__law_dip "_law_dip" (defScope s_f__law_dip) (D_f__law_dip.at_.ad K) cdv A outer s H E).A.units + 1 < cLine := by have := r0.units; omega
  have u1 : (Cxd P w K mg base N_f__law_dip "_law_dip" (defScope s_f__law_dip) (D_f__law_dip.at_.ad K) cdv A outer s H E).A.units + 64 < cLine := r0.units
  have u2 : (Cxd P w K mg base N_f__law_dip "_law_dip" (defScope s_f__law_dip) (D_f__law_dip.at_.ad K) cdv A outer s H E).A.units + 65 < cLine := by have := r0.room.un; omega
  have tk : Takes (Cxd P w K mg base N_f__law_dip "_law_dip" (defScope s_f__law_dip) (D_f__law_dip.at_.ad K) cdv A outer s H E) (WEx E) := takes_of rfl rfl rfl rfl
  have hp : PassesOwn (model (Cxd P w K mg base N_f__law_dip "_law_dip" (defScope s_f__law_dip) (D_f__law_dip.at_.ad K) cdv A outer s H E).prog (Cxd P w K mg base N_f__law_dip "_law_dip" (defScope s_f__law_dip) (D_f__law_dip.at_.ad K) cdv A outer s H E).w) (Cxd P w K mg base N_f__law_dip "_law_dip" (defScope s_f__law_dip) (D_f__law_dip.at_.ad K) cdv A outer s H E).A (Cxd P w K mg base N_f__law_dip "_law_dip" (defScope s_f__law_dip) (D_f__law_dip.at_.ad K) cdv A outer s H E).env (Cxd P w K mg base N_f__law_dip "_law_dip" (defScope s_f__law_dip) (D_f__law_dip.at_.ad K) cdv A outer s H E).xe := passes_of rfl
  unfold d_f__law_dip
  exact (b_cons (st_iset (kv 0) sim_int (sim_bin s_add (PE.o (sim_sub u0 (PE.o (kv 0)) sim_int)) (PE.o sim_int))) (b_cons (st_if (t_cmp s_gt (PE.o (sim_sub u0 (PE.o (kv 0)) sim_int)) (PE.o sim_int)) (b_cons (st_set (i := 3) (.inl hn) sc_f__law_dip.nd rfl (by first | exact .inl rfl | exact .inr rfl) (sim_bin s_mod (PE.o (k_int F.n_int (PE.o (sim_sub u0 (PE.o (kv 0)) sim_int)))) (PE.o (kv 1)))) (b_cons (st_iset (kv 0) sim_int (sim_bin s_div (PE.o (k_int F.n_int (PE.o (sim_sub u0 (PE.o (kv 0)) sim_int)))) (PE.o (kv 1)))) (b_one (st_ret (kv 3))))) b_nil) (b_cons (st_set (i := 2) (.inl hn) sc_f__law_dip.nd rfl (by first | exact .inl rfl | exact .inr rfl) (k_int F.n_int (PE.o (sim_sub u0 (PE.o (kv 0)) sim_int)))) (b_cons (st_iset (kv 0) sim_int (sim_bin s_mod (PE.o (k_int F.n_int (PE.o (sim_bin s_add (PE.o (sim_bin s_add (PE.o (sim_bin s_mul (PE.o (kv 2)) (PE.o sim_int))) (PE.o (sim_bin s_mul (PE.o (sim_sub u0 (PE.o (kv 0)) sim_int)) (PE.o sim_int))))) (PE.o sim_int))))) (PE.o sim_int))) (b_one (st_ret (sim_bin s_mod (PE.o (k_int F.n_int (PE.o (sim_bin s_div (PE.o (sim_sub u0 (PE.o (kv 0)) sim_int)) (PE.o sim_int))))) (PE.o (kv 1)))))))))
theorem b_f__law_pick (F : Fx K mg) (X : Dk K) (Z : Lx K mg base) (O : Ok P w K mg base D) : BodyOk P w K mg base T D N_f__law_pick "_law_pick" (defScope s_f__law_pick) (D_f__law_pick.at_.ad K) (defBody s_f__law_pick) d_f__law_pick := by
  intro cdv A outer s H E M hcv hn hr
  have h0 : LT.hot = none := Z.h0
  have r0 : RG (lev D) (Cxd P w K mg base N_f__law_pick "_law_pick" (defScope s_f__law_pick) (D_f__law_pick.at_.ad K) cdv A outer s H E).A := hr.mono (by omega)
  have r1 : RG (lev D + 1) (Cxd P w K mg base N_f__law_pick "_law_pick" (defScope s_f__law_pick) (D_f__law_pick.at_.ad K) cdv A outer s H E).A := hr.mono (by omega)
  have r2 : RG (lev D + 2) (Cxd P w K mg base N_f__law_pick "_law_pick" (defScope s_f__law_pick) (D_f__law_pick.at_.ad K) cdv A outer s H E).A := hr.mono (by omega)
  have u0 : (Cxd P w K mg base N_f__law_pick "_law_pick" (defScope s_f__law_pick) (D_f__law_pick.at_.ad K) cdv A outer s H E).A.units + 1 < cLine := by have := r0.units; omega
  have u1 : (Cxd P w K mg base N_f__law_pick "_law_pick" (defScope s_f__law_pick) (D_f__law_pick.at_.ad K) cdv A outer s H E).A.units + 64 < cLine := r0.units
  have u2 : (Cxd P w K mg base N_f__law_pick "_law_pick" (defScope s_f__law_pick) (D_f__law_pick.at_.ad K) cdv A outer s H E).A.units + 65 < cLine := by have := r0.room.un; omega
  have tk : Takes (Cxd P w K mg base N_f__law_pick "_law_pick" (defScope s_f__law_pick) (D_f__law_pick.at_.ad K) cdv A outer s H E) (WEx E) := takes_of rfl rfl rfl rfl
  have hp : PassesOwn (model (Cxd P w K mg base N_f__law_pick "_law_pick" (defScope s_f__law_pick) (D_f__law_pick.at_.ad K) cdv A outer s H E).prog (Cxd P w K mg base N_f__law_pick "_law_pick" (defScope s_f__law_pick) (D_f__law_pick.at_.ad K) cdv A outer s H E).w) (Cxd P w K mg base N_f__law_pick "_law_pick" (defScope s_f__law_pick) (D_f__law_pick.at_.ad K) cdv A outer s H E).A (Cxd P w K mg base N_f__law_pick "_law_pick" (defScope s_f__law_pick) (D_f__law_pick.at_.ad K) cdv A outer s H E).env (Cxd P w K mg base N_f__law_pick "_law_pick" (defScope s_f__law_pick) (D_f__law_pick.at_.ad K) cdv A outer s H E).xe := passes_of rfl
  unfold d_f__law_pick
  exact (b_cons (st_set (i := 2) (.inl hn) sc_f__law_pick.nd rfl (by first | exact .inl rfl | exact .inr rfl) (k_call O.f__law_dip F.g__law_dip r0 tk (by rfl) (sim_cons (kv 0) (sim_cons (k_len F.n_len (PE.o (kv 1))) sim_nil)) (ln_cons (ln_cons ln_nil)))) (b_one (st_ret (sim_sub u0 (PE.o (kv 1)) (kv 2)))))
theorem b_f__law_odd (F : Fx K mg) (X : Dk K) (Z : Lx K mg base) (O : Ok P w K mg base D) : BodyOk P w K mg base T D N_f__law_odd "_law_odd" (defScope s_f__law_odd) (D_f__law_odd.at_.ad K) (defBody s_f__law_odd) d_f__law_odd := by
  intro cdv A outer s H E M hcv hn hr
  have h0 : LT.hot = none := Z.h0
  have r0 : RG (lev D) (Cxd P w K mg base N_f__law_odd "_law_odd" (defScope s_f__law_odd) (D_f__law_odd.at_.ad K) cdv A outer s H E).A := hr.mono (by omega)
  have r1 : RG (lev D + 1) (Cxd P w K mg base N_f__law_odd "_law_odd" (defScope s_f__law_odd) (D_f__law_odd.at_.ad K) cdv A outer s H E).A := hr.mono (by omega)
  have r2 : RG (lev D + 2) (Cxd P w K mg base N_f__law_odd "_law_odd" (defScope s_f__law_odd) (D_f__law_odd.at_.ad K) cdv A outer s H E).A := hr.mono (by omega)
  have u0 : (Cxd P w K mg base N_f__law_odd "_law_odd" (defScope s_f__law_odd) (D_f__law_odd.at_.ad K) cdv A outer s H E).A.units + 1 < cLine := by have := r0.units; omega
  have u1 : (Cxd P w K mg base N_f__law_odd "_law_odd" (defScope s_f__law_odd) (D_f__law_odd.at_.ad K) cdv A outer s H E).A.units + 64 < cLine := r0.units
  have u2 : (Cxd P w K mg base N_f__law_odd "_law_odd" (defScope s_f__law_odd) (D_f__law_odd.at_.ad K) cdv A outer s H E).A.units + 65 < cLine := by have := r0.room.un; omega
  have tk : Takes (Cxd P w K mg base N_f__law_odd "_law_odd" (defScope s_f__law_odd) (D_f__law_odd.at_.ad K) cdv A outer s H E) (WEx E) := takes_of rfl rfl rfl rfl
  have hp : PassesOwn (model (Cxd P w K mg base N_f__law_odd "_law_odd" (defScope s_f__law_odd) (D_f__law_odd.at_.ad K) cdv A outer s H E).prog (Cxd P w K mg base N_f__law_odd "_law_odd" (defScope s_f__law_odd) (D_f__law_odd.at_.ad K) cdv A outer s H E).w) (Cxd P w K mg base N_f__law_odd "_law_odd" (defScope s_f__law_odd) (D_f__law_odd.at_.ad K) cdv A outer s H E).A (Cxd P w K mg base N_f__law_odd "_law_odd" (defScope s_f__law_odd) (D_f__law_odd.at_.ad K) cdv A outer s H E).env (Cxd P w K mg base N_f__law_odd "_law_odd" (defScope s_f__law_odd) (D_f__law_odd.at_.ad K) cdv A outer s H E).xe := passes_of rfl
  unfold d_f__law_odd
  exact (b_cons (st_set (i := 1) (.inl hn) sc_f__law_odd.nd rfl (by first | exact .inl rfl | exact .inr rfl) (sim_lst (sim_cons sim_non (sim_cons sim_bl (sim_cons sim_bl (sim_cons sim_int (sim_cons sim_int (sim_cons (sim_un s_neg (PE.o sim_int)) (sim_cons sim_int (sim_cons (sim_bin s_pow (PE.o sim_int) (PE.o sim_int)) (sim_cons sim_str sim_nil))))))))))) (b_cons (st_set (i := 1) (.inl hn) sc_f__law_odd.nd rfl (by first | exact .inl rfl | exact .inr rfl) (sim_bin s_add (PE.o (kv 1)) (PE.o (sim_lst (sim_cons sim_str (sim_cons sim_str (sim_cons sim_str (sim_cons sim_str (sim_cons (sim_tup sim_nil) (sim_cons (sim_tup (sim_cons sim_str sim_nil)) (sim_cons (sim_tup (sim_cons sim_str (sim_cons sim_int (sim_cons sim_int sim_nil)))) (sim_cons (sim_lst (sim_cons sim_str sim_nil)) (sim_cons (sim_lst sim_nil) sim_nil))))))))))))) (b_one (st_ret (k_call O.f__law_pick F.g__law_pick r0 tk (by rfl) (sim_cons (kv 0) (sim_cons (sim_bin s_add (PE.o (kv 1)) (PE.o (sim_lst (sim_cons sim_dnewE (sim_cons sim_disp1E (sim_cons (sim_tup (sim_cons sim_non (sim_cons sim_int sim_nil))) (sim_cons sim_str (sim_cons (sim_tup (sim_cons (sim_tup (sim_cons sim_str (sim_cons sim_int (sim_cons sim_int sim_nil)))) sim_nil)) (sim_cons (sim_tup (sim_cons sim_int (sim_cons sim_int sim_nil))) (sim_cons (sim_lst (sim_cons (sim_lst sim_nil) sim_nil)) (sim_cons (sim_tup (sim_cons (sim_tup sim_nil) sim_nil)) (sim_cons sim_str sim_nil)))))))))))) sim_nil)) (ln_cons (ln_cons ln_nil)))))))
theorem b_f__law_by_place (F : Fx K mg) (X : Dk K) (Z : Lx K mg base) (O : Ok P w K mg base D) : BodyOk P w K mg base T D N_f__law_by_place "_law_by_place" (defScope s_f__law_by_place) (D_f__law_by_place.at_.ad K) (defBody s_f__law_by_place) d_f__law_by_place := by
  intro cdv A outer s H E M hcv hn hr
  have h0 : LT.hot = none := Z.h0
  have r0 : RG (lev D) (Cxd P w K mg base N_f__law_by_place "_law_by_place" (defScope s_f__law_by_place) (D_f__law_by_place.at_.ad K) cdv A outer s H E).A := hr.mono (by omega)
  have r1 : RG (lev D + 1) (Cxd P w K mg base N_f__law_by_place "_law_by_place" (defScope s_f__law_by_place) (D_f__law_by_place.at_.ad K) cdv A outer s H E).A := hr.mono (by omega)
  have r2 : RG (lev D + 2) (Cxd P w K mg base N_f__law_by_place "_law_by_place" (defScope s_f__law_by_place) (D_f__law_by_place.at_.ad K) cdv A outer s H E).A := hr.mono (by omega)
  have u0 : (Cxd P w K mg base N_f__law_by_place "_law_by_place" (defScope s_f__law_by_place) (D_f__law_by_place.at_.ad K) cdv A outer s H E).A.units + 1 < cLine := by have := r0.units; omega
  have u1 : (Cxd P w K mg base N_f__law_by_place "_law_by_place" (defScope s_f__law_by_place) (D_f__law_by_place.at_.ad K) cdv A outer s H E).A.units + 64 < cLine := r0.units
  have u2 : (Cxd P w K mg base N_f__law_by_place "_law_by_place" (defScope s_f__law_by_place) (D_f__law_by_place.at_.ad K) cdv A outer s H E).A.units + 65 < cLine := by have := r0.room.un; omega
  have tk : Takes (Cxd P w K mg base N_f__law_by_place "_law_by_place" (defScope s_f__law_by_place) (D_f__law_by_place.at_.ad K) cdv A outer s H E) (WEx E) := takes_of rfl rfl rfl rfl
  have hp : PassesOwn (model (Cxd P w K mg base N_f__law_by_place "_law_by_place" (defScope s_f__law_by_place) (D_f__law_by_place.at_.ad K) cdv A outer s H E).prog (Cxd P w K mg base N_f__law_by_place "_law_by_place" (defScope s_f__law_by_place) (D_f__law_by_place.at_.ad K) cdv A outer s H E).w) (Cxd P w K mg base N_f__law_by_place "_law_by_place" (defScope s_f__law_by_place) (D_f__law_by_place.at_.ad K) cdv A outer s H E).A (Cxd P w K mg base N_f__law_by_place "_law_by_place" (defScope s_f__law_by_place) (D_f__law_by_place.at_.ad K) cdv A outer s H E).env (Cxd P w K mg base N_f__law_by_place "_law_by_place" (defScope s_f__law_by_place) (D_f__law_by_place.at_.ad K) cdv A outer s H E).xe := passes_of rfl
  unfold d_f__law_by_place
  exact (b_cons (st_set (i := 2) (.inl hn) sc_f__law_by_place.nd rfl (by first | exact .inl rfl | exact .inr rfl) (sim_lst (sim_cons (k_mkX (xk_InvalidText F X) F.g_InvalidText tk r0 (by rfl) (kv 0)) (sim_cons (k_mkX (xk_InvalidQuestions F X) F.g_InvalidQuestions tk r0 (by rfl) (kv 1)) (sim_cons (k_mkX (xk_InvalidPair F X) F.g_InvalidPair tk r0 (by rfl) (kv 0)) (sim_cons (k_mkX (xk_InvalidShare F X) F.g_InvalidShare tk r0 (by rfl) (kv 1)) sim_nil)))))) (b_cons (st_set (i := 2) (.inl hn) sc_f__law_by_place.nd rfl (by first | exact .inl rfl | exact .inr rfl) (sim_bin s_add (PE.o (kv 2)) (PE.o (sim_lst (sim_cons (k_mkX (xk_InvalidSplit F X) F.g_InvalidSplit tk r0 (by rfl) (kv 0)) (sim_cons (k_mkX (xk_InvalidRing F X) F.g_InvalidRing tk r0 (by rfl) (kv 1)) (sim_cons (k_mkX (xk_InvalidLot F X) F.g_InvalidLot tk r0 (by rfl) (kv 0)) (sim_cons (k_mkX (xk_InvalidBet F X) F.g_InvalidBet tk r0 (by rfl) (kv 1)) sim_nil)))))))) (b_cons (st_set (i := 2) (.inl hn) sc_f__law_by_place.nd rfl (by first | exact .inl rfl | exact .inr rfl) (sim_bin s_add (PE.o (kv 2)) (PE.o (sim_lst (sim_cons (k_mkX (xk_InvalidNumber F X) F.g_InvalidNumber tk r0 (by rfl) (kv 0)) (sim_cons (k_mkX (xk_InvalidWish F X) F.g_InvalidWish tk r0 (by rfl) (kv 1)) (sim_cons (k_mkX (xk_InvalidCommand F X) F.g_InvalidCommand tk r0 (by rfl) (kv 0)) (sim_cons (k_mkX (xk_NotAWeb F X) F.g_NotAWeb tk r0 (by rfl) (kv 1)) sim_nil)))))))) (b_cons (st_set (i := 2) (.inl hn) sc_f__law_by_place.nd rfl (by first | exact .inl rfl | exact .inr rfl) (sim_bin s_add (PE.o (kv 2)) (PE.o (sim_lst (sim_cons (k_mkX (xk_InvalidShares F X) F.g_InvalidShares tk r0 (by rfl) (kv 0)) (sim_cons (k_mkX (xk_InvalidCrowd F X) F.g_InvalidCrowd tk r0 (by rfl) (kv 1)) (sim_cons (k_mkX (xk_UnknownQuestion F X) F.g_UnknownQuestion tk r0 (by rfl) (kv 0)) (sim_cons (k_mkX (xk_UnknownTie F X) F.g_UnknownTie tk r0 (by rfl) (kv 1)) sim_nil)))))))) (b_cons (st_set (i := 2) (.inl hn) sc_f__law_by_place.nd rfl (by first | exact .inl rfl | exact .inr rfl) (sim_bin s_add (PE.o (kv 2)) (PE.o (sim_lst (sim_cons (k_mkX (xk_TooMany F X) F.g_TooMany tk r0 (by rfl) (kv 0)) (sim_cons (k_mkX (xk_Broken F X) F.g_Broken tk r0 (by rfl) (kv 1)) sim_nil)))))) (b_one (st_ret (kv 2))))))))
theorem b_f__law_by_word (F : Fx K mg) (X : Dk K) (Z : Lx K mg base) (O : Ok P w K mg base D) : BodyOk P w K mg base T D N_f__law_by_word "_law_by_word" (defScope s_f__law_by_word) (D_f__law_by_word.at_.ad K) (defBody s_f__law_by_word) d_f__law_by_word := by
  intro cdv A outer s H E M hcv hn hr
  have h0 : LT.hot = none := Z.h0
  have r0 : RG (lev D) (Cxd P w K mg base N_f__law_by_word "_law_by_word" (defScope s_f__law_by_word) (D_f__law_by_word.at_.ad K) cdv A outer s H E).A := hr.mono (by omega)
  have r1 : RG (lev D + 1) (Cxd P w K mg base N_f__law_by_word "_law_by_word" (defScope s_f__law_by_word) (D_f__law_by_word.at_.ad K) cdv A outer s H E).A := hr.mono (by omega)
  have r2 : RG (lev D + 2) (Cxd P w K mg base N_f__law_by_word "_law_by_word" (defScope s_f__law_by_word) (D_f__law_by_word.at_.ad K) cdv A outer s H E).A := hr.mono (by omega)
  have u0 : (Cxd P w K mg base N_f__law_by_word "_law_by_word" (defScope s_f__law_by_word) (D_f__law_by_word.at_.ad K) cdv A outer s H E).A.units + 1 < cLine := by have := r0.units; omega
  have u1 : (Cxd P w K mg base N_f__law_by_word "_law_by_word" (defScope s_f__law_by_word) (D_f__law_by_word.at_.ad K) cdv A outer s H E).A.units + 64 < cLine := r0.units
  have u2 : (Cxd P w K mg base N_f__law_by_word "_law_by_word" (defScope s_f__law_by_word) (D_f__law_by_word.at_.ad K) cdv A outer s H E).A.units + 65 < cLine := by have := r0.room.un; omega
  have tk : Takes (Cxd P w K mg base N_f__law_by_word "_law_by_word" (defScope s_f__law_by_word) (D_f__law_by_word.at_.ad K) cdv A outer s H E) (WEx E) := takes_of rfl rfl rfl rfl
  have hp : PassesOwn (model (Cxd P w K mg base N_f__law_by_word "_law_by_word" (defScope s_f__law_by_word) (D_f__law_by_word.at_.ad K) cdv A outer s H E).prog (Cxd P w K mg base N_f__law_by_word "_law_by_word" (defScope s_f__law_by_word) (D_f__law_by_word.at_.ad K) cdv A outer s H E).w) (Cxd P w K mg base N_f__law_by_word "_law_by_word" (defScope s_f__law_by_word) (D_f__law_by_word.at_.ad K) cdv A outer s H E).A (Cxd P w K mg base N_f__law_by_word "_law_by_word" (defScope s_f__law_by_word) (D_f__law_by_word.at_.ad K) cdv A outer s H E).env (Cxd P w K mg base N_f__law_by_word "_law_by_word" (defScope s_f__law_by_word) (D_f__law_by_word.at_.ad K) cdv A outer s H E).xe := passes_of rfl
  unfold d_f__law_by_word
  exact (b_cons (st_set (i := 2) (.inl hn) sc_f__law_by_word.nd rfl (by first | exact .inl rfl | exact .inr rfl) (sim_lst (sim_cons (k_mkXK (xk_InvalidText F X) F.g_InvalidText tk r0 (by rfl) (kv 0)) (sim_cons (k_mkXK (xk_InvalidQuestions F X) F.g_InvalidQuestions tk r0 (by rfl) (kv 1)) (sim_cons (k_mkXK (xk_InvalidPair F X) F.g_InvalidPair tk r0 (by rfl) (kv 0)) sim_nil))))) (b_cons (st_set (i := 2) (.inl hn) sc_f__law_by_word.nd rfl (by first | exact .inl rfl | exact .inr rfl) (sim_bin s_add (PE.o (kv 2)) (PE.o (sim_lst (sim_cons (k_mkXK (xk_InvalidShare F X) F.g_InvalidShare tk r0 (by rfl) (kv 1)) (sim_cons (k_mkXK (xk_InvalidSplit F X) F.g_InvalidSplit tk r0 (by rfl) (kv 0)) (sim_cons (k_mkXK (xk_InvalidRing F X) F.g_InvalidRing tk r0 (by rfl) (kv 1)) sim_nil))))))) (b_cons (st_set (i := 2) (.inl hn) sc_f__law_by_word.nd rfl (by first | exact .inl rfl | exact .inr rfl) (sim_bin s_add (PE.o (kv 2)) (PE.o (sim_lst (sim_cons (k_mkXK (xk_InvalidLot F X) F.g_InvalidLot tk r0 (by rfl) (kv 0)) (sim_cons (k_mkXK (xk_InvalidBet F X) F.g_InvalidBet tk r0 (by rfl) (kv 1)) (sim_cons (k_mkXK (xk_InvalidNumber F X) F.g_InvalidNumber tk r0 (by rfl) (kv 0)) sim_nil))))))) (b_cons (st_set (i := 2) (.inl hn) sc_f__law_by_word.nd rfl (by first | exact .inl rfl | exact .inr rfl) (sim_bin s_add (PE.o (kv 2)) (PE.o (sim_lst (sim_cons (k_mkXK (xk_InvalidWish F X) F.g_InvalidWish tk r0 (by rfl) (kv 1)) (sim_cons (k_mkXK (xk_InvalidCommand F X) F.g_InvalidCommand tk r0 (by rfl) (kv 0)) (sim_cons (k_mkXK (xk_NotAWeb F X) F.g_NotAWeb tk r0 (by rfl) (kv 1)) sim_nil))))))) (b_cons (st_set (i := 2) (.inl hn) sc_f__law_by_word.nd rfl (by first | exact .inl rfl | exact .inr rfl) (sim_bin s_add (PE.o (kv 2)) (PE.o (sim_lst (sim_cons (k_mkXK (xk_InvalidShares F X) F.g_InvalidShares tk r0 (by rfl) (kv 0)) (sim_cons (k_mkXK (xk_InvalidCrowd F X) F.g_InvalidCrowd tk r0 (by rfl) (kv 1)) (sim_cons (k_mkXK (xk_UnknownQuestion F X) F.g_UnknownQuestion tk r0 (by rfl) (kv 0)) sim_nil))))))) (b_cons (st_set (i := 2) (.inl hn) sc_f__law_by_word.nd rfl (by first | exact .inl rfl | exact .inr rfl) (sim_bin s_add (PE.o (kv 2)) (PE.o (sim_lst (sim_cons (k_mkXK (xk_UnknownTie F X) F.g_UnknownTie tk r0 (by rfl) (kv 1)) (sim_cons (k_mkXK (xk_TooMany F X) F.g_TooMany tk r0 (by rfl) (kv 0)) (sim_cons (k_mkXK (xk_Broken F X) F.g_Broken tk r0 (by rfl) (kv 1)) sim_nil))))))) (b_one (st_ret (kv 2)))))))))
theorem b_f__law_sorts (F : Fx K mg) (X : Dk K) (Z : Lx K mg base) (O : Ok P w K mg base D) : BodyOk P w K mg base T D N_f__law_sorts "_law_sorts" (defScope s_f__law_sorts) (D_f__law_sorts.at_.ad K) (defBody s_f__law_sorts) d_f__law_sorts := by
  intro cdv A outer s H E M hcv hn hr
  have h0 : LT.hot = none := Z.h0
  have r0 : RG (lev D) (Cxd P w K mg base N_f__law_sorts "_law_sorts" (defScope s_f__law_sorts) (D_f__law_sorts.at_.ad K) cdv A outer s H E).A := hr.mono (by omega)
  have r1 : RG (lev D + 1) (Cxd P w K mg base N_f__law_sorts "_law_sorts" (defScope s_f__law_sorts) (D_f__law_sorts.at_.ad K) cdv A outer s H E).A := hr.mono (by omega)
  have r2 : RG (lev D + 2) (Cxd P w K mg base N_f__law_sorts "_law_sorts" (defScope s_f__law_sorts) (D_f__law_sorts.at_.ad K) cdv A outer s H E).A := hr.mono (by omega)
  have u0 : (Cxd P w K mg base N_f__law_sorts "_law_sorts" (defScope s_f__law_sorts) (D_f__law_sorts.at_.ad K) cdv A outer s H E).A.units + 1 < cLine := by have := r0.units; omega
  have u1 : (Cxd P w K mg base N_f__law_sorts "_law_sorts" (defScope s_f__law_sorts) (D_f__law_sorts.at_.ad K) cdv A outer s H E).A.units + 64 < cLine := r0.units
  have u2 : (Cxd P w K mg base N_f__law_sorts "_law_sorts" (defScope s_f__law_sorts) (D_f__law_sorts.at_.ad K) cdv A outer s H E).A.units + 65 < cLine := by have := r0.room.un; omega
  have tk : Takes (Cxd P w K mg base N_f__law_sorts "_law_sorts" (defScope s_f__law_sorts) (D_f__law_sorts.at_.ad K) cdv A outer s H E) (WEx E) := takes_of rfl rfl rfl rfl
  have hp : PassesOwn (model (Cxd P w K mg base N_f__law_sorts "_law_sorts" (defScope s_f__law_sorts) (D_f__law_sorts.at_.ad K) cdv A outer s H E).prog (Cxd P w K mg base N_f__law_sorts "_law_sorts" (defScope s_f__law_sorts) (D_f__law_sorts.at_.ad K) cdv A outer s H E).w) (Cxd P w K mg base N_f__law_sorts "_law_sorts" (defScope s_f__law_sorts) (D_f__law_sorts.at_.ad K) cdv A outer s H E).A (Cxd P w K mg base N_f__law_sorts "_law_sorts" (defScope s_f__law_sorts) (D_f__law_sorts.at_.ad K) cdv A outer s H E).env (Cxd P w K mg base N_f__law_sorts "_law_sorts" (defScope s_f__law_sorts) (D_f__law_sorts.at_.ad K) cdv A outer s H E).xe := passes_of rfl
  unfold d_f__law_sorts
  exact (b_cons (st_set (i := 1) (.inl hn) sc_f__law_sorts.nd rfl (by first | exact .inl rfl | exact .inr rfl) (sim_lst (sim_cons (k_ixO F.g_InvalidText F.xi_InvalidText F.n_isinstance (kv 0)) (sim_cons (k_ixO F.g_InvalidQuestions F.xi_InvalidQuestions F.n_isinstance (kv 0)) (sim_cons (k_ixO F.g_InvalidPair F.xi_InvalidPair F.n_isinstance (kv 0)) sim_nil))))) (b_cons (st_set (i := 1) (.inl hn) sc_f__law_sorts.nd rfl (by first | exact .inl rfl | exact .inr rfl) (sim_bin s_add (PE.o (kv 1)) (PE.o (sim_lst (sim_cons (k_ixO F.g_InvalidShare F.xi_InvalidShare F.n_isinstance (kv 0)) (sim_cons (k_ixO F.g_InvalidSplit F.xi_InvalidSplit F.n_isinstance (kv 0)) (sim_cons (k_ixO F.g_InvalidRing F.xi_InvalidRing F.n_isinstance (kv 0)) sim_nil))))))) (b_cons (st_set (i := 1) (.inl hn) sc_f__law_sorts.nd rfl (by first | exact .inl rfl | exact .inr rfl) (sim_bin s_add (PE.o (kv 1)) (PE.o (sim_lst (sim_cons (k_ixO F.g_InvalidLot F.xi_InvalidLot F.n_isinstance (kv 0)) (sim_cons (k_ixO F.g_InvalidBet F.xi_InvalidBet F.n_isinstance (kv 0)) (sim_cons (k_ixO F.g_InvalidNumber F.xi_InvalidNumber F.n_isinstance (kv 0)) sim_nil))))))) (b_cons (st_set (i := 1) (.inl hn) sc_f__law_sorts.nd rfl (by first | exact .inl rfl | exact .inr rfl) (sim_bin s_add (PE.o (kv 1)) (PE.o (sim_lst (sim_cons (k_ixO F.g_InvalidWish F.xi_InvalidWish F.n_isinstance (kv 0)) (sim_cons (k_ixO F.g_InvalidCommand F.xi_InvalidCommand F.n_isinstance (kv 0)) (sim_cons (k_ixO F.g_NotAWeb F.xi_NotAWeb F.n_isinstance (kv 0)) sim_nil))))))) (b_cons (st_set (i := 1) (.inl hn) sc_f__law_sorts.nd rfl (by first | exact .inl rfl | exact .inr rfl) (sim_bin s_add (PE.o (kv 1)) (PE.o (sim_lst (sim_cons (k_ixO F.g_InvalidShares F.xi_InvalidShares F.n_isinstance (kv 0)) (sim_cons (k_ixO F.g_InvalidCrowd F.xi_InvalidCrowd F.n_isinstance (kv 0)) sim_nil)))))) (b_cons (st_set (i := 1) (.inl hn) sc_f__law_sorts.nd rfl (by first | exact .inl rfl | exact .inr rfl) (sim_bin s_add (PE.o (kv 1)) (PE.o (sim_lst (sim_cons (k_ixO F.g_UnknownQuestion F.xi_UnknownQuestion F.n_isinstance (kv 0)) sim_nil))))) (b_cons (st_set (i := 1) (.inl hn) sc_f__law_sorts.nd rfl (by first | exact .inl rfl | exact .inr rfl) (sim_bin s_add (PE.o (kv 1)) (PE.o (sim_lst (sim_cons (k_ixO F.g_UnknownTie F.xi_UnknownTie F.n_isinstance (kv 0)) (sim_cons (k_ixO F.g_TooMany F.xi_TooMany F.n_isinstance (kv 0)) (sim_cons (k_ixO F.g_Broken F.xi_Broken F.n_isinstance (kv 0)) sim_nil))))))) (b_cons (st_set (i := 1) (.inl hn) sc_f__law_sorts.nd rfl (by first | exact .inl rfl | exact .inr rfl) (sim_bin s_add (PE.o (kv 1)) (PE.o (sim_lst (sim_cons (k_ixO F.g_NoCrowd F.xi_NoCrowd F.n_isinstance (kv 0)) (sim_cons (k_ixO F.g_NothingToUndo F.xi_NothingToUndo F.n_isinstance (kv 0)) sim_nil)))))) (b_one (st_ret (kv 1)))))))))))
theorem b_f__law_kept (F : Fx K mg) (X : Dk K) (Z : Lx K mg base) (O : Ok P w K mg base D) : BodyOk P w K mg base T D N_f__law_kept "_law_kept" (defScope s_f__law_kept) (D_f__law_kept.at_.ad K) (defBody s_f__law_kept) d_f__law_kept := by
  intro cdv A outer s H E M hcv hn hr
  have h0 : LT.hot = none := Z.h0
  have r0 : RG (lev D) (Cxd P w K mg base N_f__law_kept "_law_kept" (defScope s_f__law_kept) (D_f__law_kept.at_.ad K) cdv A outer s H E).A := hr.mono (by omega)
  have r1 : RG (lev D + 1) (Cxd P w K mg base N_f__law_kept "_law_kept" (defScope s_f__law_kept) (D_f__law_kept.at_.ad K) cdv A outer s H E).A := hr.mono (by omega)
  have r2 : RG (lev D + 2) (Cxd P w K mg base N_f__law_kept "_law_kept" (defScope s_f__law_kept) (D_f__law_kept.at_.ad K) cdv A outer s H E).A := hr.mono (by omega)
  have u0 : (Cxd P w K mg base N_f__law_kept "_law_kept" (defScope s_f__law_kept) (D_f__law_kept.at_.ad K) cdv A outer s H E).A.units + 1 < cLine := by have := r0.units; omega
  have u1 : (Cxd P w K mg base N_f__law_kept "_law_kept" (defScope s_f__law_kept) (D_f__law_kept.at_.ad K) cdv A outer s H E).A.units + 64 < cLine := r0.units
  have u2 : (Cxd P w K mg base N_f__law_kept "_law_kept" (defScope s_f__law_kept) (D_f__law_kept.at_.ad K) cdv A outer s H E).A.units + 65 < cLine := by have := r0.room.un; omega
  have tk : Takes (Cxd P w K mg base N_f__law_kept "_law_kept" (defScope s_f__law_kept) (D_f__law_kept.at_.ad K) cdv A outer s H E) (WEx E) := takes_of rfl rfl rfl rfl
  have hp : PassesOwn (model (Cxd P w K mg base N_f__law_kept "_law_kept" (defScope s_f__law_kept) (D_f__law_kept.at_.ad K) cdv A outer s H E).prog (Cxd P w K mg base N_f__law_kept "_law_kept" (defScope s_f__law_kept) (D_f__law_kept.at_.ad K) cdv A outer s H E).w) (Cxd P w K mg base N_f__law_kept "_law_kept" (defScope s_f__law_kept) (D_f__law_kept.at_.ad K) cdv A outer s H E).A (Cxd P w K mg base N_f__law_kept "_law_kept" (defScope s_f__law_kept) (D_f__law_kept.at_.ad K) cdv A outer s H E).env (Cxd P w K mg base N_f__law_kept "_law_kept" (defScope s_f__law_kept) (D_f__law_kept.at_.ad K) cdv A outer s H E).xe := passes_of rfl
  unfold d_f__law_kept
  exact (b_one (st_ret (sim_ite (t_cmp (s_in u2) (PE.o (kv 1)) (PE.o (sim_lst (sim_cons sim_int (sim_cons sim_int (sim_cons sim_int sim_nil)))))) (k_xv F.xf_index (kv 0)) (k_xv F.xf_given (kv 0)))))
theorem b_f__law_right (F : Fx K mg) (X : Dk K) (Z : Lx K mg base) (O : Ok P w K mg base D) : BodyOk P w K mg base T D N_f__law_right "_law_right" (defScope s_f__law_right) (D_f__law_right.at_.ad K) (defBody s_f__law_right) d_f__law_right := by
  intro cdv A outer s H E M hcv hn hr
  have h0 : LT.hot = none := Z.h0
  have r0 : RG (lev D) (Cxd P w K mg base N_f__law_right "_law_right" (defScope s_f__law_right) (D_f__law_right.at_.ad K) cdv A outer s H E).A := hr.mono (by omega)
  have r1 : RG (lev D + 1) (Cxd P w K mg base N_f__law_right "_law_right" (defScope s_f__law_right) (D_f__law_right.at_.ad K) cdv A outer s H E).A := hr.mono (by omega)
  have r2 : RG (lev D + 2) (Cxd P w K mg base N_f__law_right "_law_right" (defScope s_f__law_right) (D_f__law_right.at_.ad K) cdv A outer s H E).A := hr.mono (by omega)
  have u0 : (Cxd P w K mg base N_f__law_right "_law_right" (defScope s_f__law_right) (D_f__law_right.at_.ad K) cdv A outer s H E).A.units + 1 < cLine := by have := r0.units; omega
  have u1 : (Cxd P w K mg base N_f__law_right "_law_right" (defScope s_f__law_right) (D_f__law_right.at_.ad K) cdv A outer s H E).A.units + 64 < cLine := r0.units
  have u2 : (Cxd P w K mg base N_f__law_right "_law_right" (defScope s_f__law_right) (D_f__law_right.at_.ad K) cdv A outer s H E).A.units + 65 < cLine := by have := r0.room.un; omega
  have tk : Takes (Cxd P w K mg base N_f__law_right "_law_right" (defScope s_f__law_right) (D_f__law_right.at_.ad K) cdv A outer s H E) (WEx E) := takes_of rfl rfl rfl rfl
  have hp : PassesOwn (model (Cxd P w K mg base N_f__law_right "_law_right" (defScope s_f__law_right) (D_f__law_right.at_.ad K) cdv A outer s H E).prog (Cxd P w K mg base N_f__law_right "_law_right" (defScope s_f__law_right) (D_f__law_right.at_.ad K) cdv A outer s H E).w) (Cxd P w K mg base N_f__law_right "_law_right" (defScope s_f__law_right) (D_f__law_right.at_.ad K) cdv A outer s H E).A (Cxd P w K mg base N_f__law_right "_law_right" (defScope s_f__law_right) (D_f__law_right.at_.ad K) cdv A outer s H E).env (Cxd P w K mg base N_f__law_right "_law_right" (defScope s_f__law_right) (D_f__law_right.at_.ad K) cdv A outer s H E).xe := passes_of rfl
  unfold d_f__law_right
  exact (b_cons (st_par2 (i := 2) (j := 3) (.inl hn) rfl sc_f__law_right.nd rfl rfl (by decide) rfl rfl (m_val (k_call O.f__law_odd F.g__law_odd r0 tk (by rfl) (sim_cons (kv 0) sim_nil) (ln_cons ln_nil)) (m_val (k_call O.f__law_odd F.g__law_odd r0 tk (by rfl) (sim_cons (kv 0) sim_nil) (ln_cons ln_nil)) m_nil)) rfl) (b_cons (st_for (is := [1]) (.inl hn) hp rfl (sim_it (sim_lst (sim_cons (k_call O.f__law_by_place F.g__law_by_place r0 tk (by rfl) (sim_cons (kv 2) (sim_cons (kv 3) sim_nil)) (ln_cons (ln_cons ln_nil))) (sim_cons (k_call O.f__law_by_word F.g__law_by_word r0 tk (by rfl) (sim_cons (kv 2) (sim_cons (kv 3) sim_nil)) (ln_cons (ln_cons ln_nil))) sim_nil)))) (g_name sc_f__law_right.nd rfl (by first | exact .inl rfl | exact .inr rfl)) (b_cons (st_set (i := 1) (.inl hn) sc_f__law_right.nd rfl (by first | exact .inl rfl | exact .inr rfl) (sim_bin s_add (PE.o (kv 1)) (PE.o (sim_lst (sim_cons (k_mkX0 (x0_NoCrowd F) F.g_NoCrowd (by rfl)) (sim_cons (k_mkX0 (x0_NothingToUndo F) F.g_NothingToUndo (by rfl)) sim_nil)))))) (b_one (st_for (is := [4]) (.inl hn) hp rfl (sim_rng1 (by rfl) F.n_range sim_int) (g_name sc_f__law_right.nd rfl (by first | exact .inl rfl | exact .inr rfl)) (b_cons (st_if (t_cmp (s_ne u1) (PE.o (k_call O.f__law_sorts F.g__law_sorts r0 tk (by rfl) (sim_cons (sim_sub u0 (PE.o (kv 1)) (kv 4)) sim_nil) (ln_cons ln_nil))) (PE.o (sim_lc (own := [("_law_k", 7)]) (is := [7]) rfl sc_f__law_right.nd (sim_rng1 (by rfl) F.n_range sim_int) (blk_ok (N := N_f__law_right) (sc := defScope s_f__law_right) (by decide +kernel)) (by decide) (fun _ _ _ _ _ => (g_name sc_f__law_right.nd rfl (by first | exact .inl rfl | exact .inr rfl))) (fun _ _ _ _ _ => ts_nil) (fun _ _ _ _ _ => (sim_cmp (s_eq u1) (PE.o (kv 7)) (PE.o (kv 4))))))) (b_one (st_ret sim_bl)) b_nil) (b_cons (st_set (i := 5) (.inl hn) sc_f__law_right.nd rfl (by first | exact .inl rfl | exact .inr rfl) (sim_ite (t_cmp s_lt (PE.o (kv 4)) (PE.o sim_int)) sim_int (sim_ite (t_cmp s_lt (PE.o (kv 4)) (PE.o sim_int)) sim_int sim_int))) (b_cons (st_if (t_cmp (s_ne u1) (PE.o (k_call O.f__law_bases F.g__law_bases r0 tk (by rfl) (sim_cons (sim_sub u0 (PE.o (kv 1)) (kv 4)) sim_nil) (ln_cons ln_nil))) (PE.o (sim_lc (own := [("_law_k", 7)]) (is := [7]) rfl sc_f__law_right.nd (sim_rng1 (by rfl) F.n_range sim_int) (blk_ok (N := N_f__law_right) (sc := defScope s_f__law_right) (by decide +kernel)) (by decide) (fun _ _ _ _ _ => (g_name sc_f__law_right.nd rfl (by first | exact .inl rfl | exact .inr rfl))) (fun _ _ _ _ _ => ts_nil) (fun _ _ _ _ _ => (sim_cmp (s_eq u1) (PE.o (kv 7)) (PE.o (kv 5))))))) (b_one (st_ret sim_bl)) b_nil) (b_cons (st_set (i := 6) (.inl hn) sc_f__law_right.nd rfl (by first | exact .inl rfl | exact .inr rfl) (sim_ite (t_cmp (s_eq u1) (PE.o (sim_bin s_mod (PE.o (k_int F.n_int (PE.o (kv 4)))) (PE.o sim_int))) (PE.o sim_int)) (kv 2) (kv 3))) (b_one (st_if (t_w (w_and (t_cmp s_lt (PE.o (kv 4)) (PE.o sim_int)) (w_and1 (t_cmp s_neR (PE.o (k_reprS r0.gd u1 F.n_repr (PE.o (k_call O.f__law_kept F.g__law_kept r0 tk (by rfl) (sim_cons (sim_sub u0 (PE.o (kv 1)) (kv 4)) (sim_cons (kv 4) sim_nil)) (ln_cons (ln_cons ln_nil)))))) (PE.o (k_reprS r0.gd u1 F.n_repr (PE.o (kv 6)))))))) (b_one (st_ret sim_bl)) b_nil)))))))))) (b_one (st_ret sim_bl))))
theorem b_f__law_jar (F : Fx K mg) (X : Dk K) (Z : Lx K mg base) (O : Ok P w K mg base D) : BodyOk P w K mg base T D N_f__law_jar "_law_jar" (defScope s_f__law_jar) (D_f__law_jar.at_.ad K) (defBody s_f__law_jar) d_f__law_jar := by
  intro cdv A outer s H E M hcv hn hr
  have h0 : LT.hot = none := Z.h0
  have r0 : RG (lev D) (Cxd P w K mg base N_f__law_jar "_law_jar" (defScope s_f__law_jar) (D_f__law_jar.at_.ad K) cdv A outer s H E).A := hr.mono (by omega)
  have r1 : RG (lev D + 1) (Cxd P w K mg base N_f__law_jar "_law_jar" (defScope s_f__law_jar) (D_f__law_jar.at_.ad K) cdv A outer s H E).A := hr.mono (by omega)
  have r2 : RG (lev D + 2) (Cxd P w K mg base N_f__law_jar "_law_jar" (defScope s_f__law_jar) (D_f__law_jar.at_.ad K) cdv A outer s H E).A := hr.mono (by omega)
  have u0 : (Cxd P w K mg base N_f__law_jar "_law_jar" (defScope s_f__law_jar) (D_f__law_jar.at_.ad K) cdv A outer s H E).A.units + 1 < cLine := by have := r0.units; omega
  have u1 : (Cxd P w K mg base N_f__law_jar "_law_jar" (defScope s_f__law_jar) (D_f__law_jar.at_.ad K) cdv A outer s H E).A.units + 64 < cLine := r0.units
  have u2 : (Cxd P w K mg base N_f__law_jar "_law_jar" (defScope s_f__law_jar) (D_f__law_jar.at_.ad K) cdv A outer s H E).A.units + 65 < cLine := by have := r0.room.un; omega
  have tk : Takes (Cxd P w K mg base N_f__law_jar "_law_jar" (defScope s_f__law_jar) (D_f__law_jar.at_.ad K) cdv A outer s H E) (WEx E) := takes_of rfl rfl rfl rfl
  have hp : PassesOwn (model (Cxd P w K mg base N_f__law_jar "_law_jar" (defScope s_f__law_jar) (D_f__law_jar.at_.ad K) cdv A outer s H E).prog (Cxd P w K mg base N_f__law_jar "_law_jar" (defScope s_f__law_jar) (D_f__law_jar.at_.ad K) cdv A outer s H E).w) (Cxd P w K mg base N_f__law_jar "_law_jar" (defScope s_f__law_jar) (D_f__law_jar.at_.ad K) cdv A outer s H E).A (Cxd P w K mg base N_f__law_jar "_law_jar" (defScope s_f__law_jar) (D_f__law_jar.at_.ad K) cdv A outer s H E).env (Cxd P w K mg base N_f__law_jar "_law_jar" (defScope s_f__law_jar) (D_f__law_jar.at_.ad K) cdv A outer s H E).xe := passes_of rfl
  unfold d_f__law_jar
  exact (b_cons (st_set (i := 2) (.inl hn) sc_f__law_jar.nd rfl (by first | exact .inl rfl | exact .inr rfl) (sim_bin s_add (PE.o (sim_bin s_mul (PE.o (sim_bin s_mul (PE.o sim_int) (PE.o (sim_bin s_add (PE.o (kv 1)) (PE.o sim_int))))) (PE.o (sim_bin s_add (PE.o (kv 1)) (PE.o sim_int))))) (PE.o (sim_bin s_mul (PE.o sim_int) (PE.o (k_len F.n_len (PE.o (kv 0)))))))) (b_cons (st_for (is := [3]) (.inl hn) hp rfl (sim_it (sim_sl01 (PE.o (kv 0)) sim_int)) (g_name sc_f__law_jar.nd rfl (by first | exact .inl rfl | exact .inr rfl)) (b_one (st_set (i := 2) (.inl hn) sc_f__law_jar.nd rfl (by first | exact .inl rfl | exact .inr rfl) (sim_bin s_mod (PE.o (k_int F.n_int (PE.o (sim_bin s_add (PE.o (sim_bin s_mul (PE.o (kv 2)) (PE.o sim_int))) (PE.o (kv 3)))))) (PE.o sim_int))))) (b_cons (st_set (i := 4) (.inl hn) sc_f__law_jar.nd rfl (by first | exact .inl rfl | exact .inr rfl) (sim_ite (t_cmp s_lt (PE.o (kv 1)) (PE.o (k_len F.n_len (PE.o (kv 0))))) (sim_sub u0 (PE.o (kv 0)) (kv 1)) sim_int)) (b_cons (st_set (i := 5) (.inl hn) sc_f__law_jar.nd rfl (by first | exact .inl rfl | exact .inr rfl) (sim_ite (t_w (w_or (t_cmp s_lt (PE.o (kv 4)) (PE.o sim_int)) (w_or1 (t_cmp s_ge (PE.o (kv 4)) (PE.o (sim_bin s_pow (PE.o sim_int) (PE.o sim_int))))))) (k_abs F.n_abs (PE.o (kv 4))) sim_int)) (b_one (st_ret (sim_new (sim_cons (kv 5) (sim_cons (sim_bin s_mod (PE.o (k_int F.n_int (PE.o (sim_bin s_add (PE.o (sim_bin s_add (PE.o (sim_bin s_mul (PE.o (kv 2)) (PE.o sim_int))) (PE.o (sim_bin s_mul (PE.o (kv 4)) (PE.o sim_int))))) (PE.o (sim_bin s_mul (PE.o sim_int) (PE.o (sim_bin s_add (PE.o (kv 1)) (PE.o sim_int))))))))) (PE.o sim_int)) (sim_cons sim_int sim_nil))))))))))
theorem b_f_law (F : Fx K mg) (X : Dk K) (Z : Lx K mg base) (O : Ok P w K mg base D) : BodyOk P w K mg base T D N_f_law "law" (defScope s_f_law) (D_f_law.at_.ad K) (defBody s_f_law) d_f_law := by
  intro cdv A outer s H E M hcv hn hr
  have h0 : LT.hot = none := Z.h0
  have r0 : RG (lev D) (Cxd P w K mg base N_f_law "law" (defScope s_f_law) (D_f_law.at_.ad K) cdv A outer s H E).A := hr.mono (by omega)
  have r1 : RG (lev D + 1) (Cxd P w K mg base N_f_law "law" (defScope s_f_law) (D_f_law.at_.ad K) cdv A outer s H E).A := hr.mono (by omega)
  have r2 : RG (lev D + 2) (Cxd P w K mg base N_f_law "law" (defScope s_f_law) (D_f_law.at_.ad K) cdv A outer s H E).A := hr.mono (by omega)
  have u0 : (Cxd P w K mg base N_f_law "law" (defScope s_f_law) (D_f_law.at_.ad K) cdv A outer s H E).A.units + 1 < cLine := by have := r0.units; omega
  have u1 : (Cxd P w K mg base N_f_law "law" (defScope s_f_law) (D_f_law.at_.ad K) cdv A outer s H E).A.units + 64 < cLine := r0.units
  have u2 : (Cxd P w K mg base N_f_law "law" (defScope s_f_law) (D_f_law.at_.ad K) cdv A outer s H E).A.units + 65 < cLine := by have := r0.room.un; omega
  have tk : Takes (Cxd P w K mg base N_f_law "law" (defScope s_f_law) (D_f_law.at_.ad K) cdv A outer s H E) (WEx E) := takes_of rfl rfl rfl rfl
  have hp : PassesOwn (model (Cxd P w K mg base N_f_law "law" (defScope s_f_law) (D_f_law.at_.ad K) cdv A outer s H E).prog (Cxd P w K mg base N_f_law "law" (defScope s_f_law) (D_f_law.at_.ad K) cdv A outer s H E).w) (Cxd P w K mg base N_f_law "law" (defScope s_f_law) (D_f_law.at_.ad K) cdv A outer s H E).A (Cxd P w K mg base N_f_law "law" (defScope s_f_law) (D_f_law.at_.ad K) cdv A outer s H E).env (Cxd P w K mg base N_f_law "law" (defScope s_f_law) (D_f_law.at_.ad K) cdv A outer s H E).xe := passes_of rfl
  unfold d_f_law
  exact (b_cons (st_if (t_cmp (s_ne u1) (PE.o (sim_lst (sim_cons (k_gint F.k_LEAST_QUESTIONS) (sim_cons (k_gint F.k_MOST_QUESTIONS) (sim_cons (k_gint F.k_MOST_OF) (sim_cons (k_gint F.k_LOTS) (sim_cons (k_gint F.k_MOST_TIES) sim_nil))))))) (PE.o (sim_lst (sim_cons sim_int (sim_cons sim_int (sim_cons sim_int (sim_cons sim_int (sim_cons sim_int sim_nil)))))))) (b_one (st_ret sim_bl)) b_nil) (b_cons (st_set (i := 1) (.inl hn) sc_f_law.nd rfl (by first | exact .inl rfl | exact .inr rfl) (sim_lst (sim_cons (k_mkX0 (x0_WrongValue F) F.g_WrongValue (by rfl)) (sim_cons (k_mkX0 (x0_WrongName F) F.g_WrongName (by rfl)) (sim_cons (k_mkX0 (x0_NotPossible F) F.g_NotPossible (by rfl)) sim_nil))))) (b_cons (st_if (t_cmp (s_ne u1) (PE.o (sim_lc (own := [("_law_e", 2)]) (is := [2]) rfl sc_f_law.nd (sim_it (kv 1)) (blk_ok (N := N_f_law) (sc := defScope s_f_law) (by decide +kernel)) (by decide) (fun _ _ _ _ _ => (g_name sc_f_law.nd rfl (by first | exact .inl rfl | exact .inr rfl))) (fun _ _ _ _ _ => ts_nil) (fun _ _ _ _ _ => (k_call O.f__law_bases F.g__law_bases r0 takes0 (by rfl) (sim_cons (kv 2) sim_nil) (ln_cons ln_nil))))) (PE.o (sim_lst (sim_cons (sim_lst (sim_cons sim_bl (sim_cons sim_bl (sim_cons sim_bl sim_nil)))) (sim_cons (sim_lst (sim_cons sim_bl (sim_cons sim_bl (sim_cons sim_bl sim_nil)))) (sim_cons (sim_lst (sim_cons sim_bl (sim_cons sim_bl (sim_cons sim_bl sim_nil)))) sim_nil)))))) (b_one (st_ret sim_bl)) b_nil) (b_one (st_ret (k_all rfl F.n_all (PE.o (sim_lc (own := [("_law_k", 3)]) (is := [3]) rfl sc_f_law.nd (sim_rng1 (by rfl) F.n_range (k_max2 rfl F.n_max (PE.o sim_int) (PE.o (k_min2 rfl F.n_min (PE.o (k_len F.n_len (PE.o (kv 0)))) (PE.o sim_int))))) (blk_ok (N := N_f_law) (sc := defScope s_f_law) (by decide +kernel)) (by decide) (fun _ _ _ _ _ => (g_name sc_f_law.nd rfl (by first | exact .inl rfl | exact .inr rfl))) (fun _ _ _ _ _ => ts_nil) (fun _ _ _ _ _ => (k_call O.f__law_right F.g__law_right r0 takes0 (by rfl) (sim_cons (k_call O.f__law_jar F.g__law_jar r0 takes0 (by rfl) (sim_cons (kv 0) (sim_cons (kv 3) sim_nil)) (ln_cons (ln_cons ln_nil))) sim_nil) (ln_cons ln_nil)))))))))))
theorem ok_zero (X : Dk K) : Ok P w K mg base 0 := ⟨Cal.zero X.f__law_bases, Cal.zero X.f__law_dip, Cal.zero X.f__law_pick, Cal.zero X.f__law_odd, Cal.zero X.f__law_by_place, Cal.zero X.f__law_by_word, Cal.zero X.f__law_sorts, Cal.zero X.f__law_kept, Cal.zero X.f__law_right, Cal.zero X.f__law_jar, Cal.zero X.f_law⟩
theorem ok_succ (X : Dk K) (F : Fx K mg) (Z : Lx K mg base) (O : Ok P w K mg base D) : Ok P w K mg base (D + 1) := ⟨Cal.succ X.f__law_bases sc_f__law_bases t_f__law_bases (b_f__law_bases F X Z O), Cal.succ X.f__law_dip sc_f__law_dip t_f__law_dip (b_f__law_dip F X Z O), Cal.succ X.f__law_pick sc_f__law_pick t_f__law_pick (b_f__law_pick F X Z O), Cal.succ X.f__law_odd sc_f__law_odd t_f__law_odd (b_f__law_odd F X Z O), Cal.succ X.f__law_by_place sc_f__law_by_place t_f__law_by_place (b_f__law_by_place F X Z O), Cal.succ X.f__law_by_word sc_f__law_by_word t_f__law_by_word (b_f__law_by_word F X Z O), Cal.succ X.f__law_sorts sc_f__law_sorts t_f__law_sorts (b_f__law_sorts F X Z O), Cal.succ X.f__law_kept sc_f__law_kept t_f__law_kept (b_f__law_kept F X Z O), Cal.succ X.f__law_right sc_f__law_right t_f__law_right (b_f__law_right F X Z O), Cal.succ X.f__law_jar sc_f__law_jar t_f__law_jar (b_f__law_jar F X Z O), Cal.succ X.f_law sc_f_law t_f_law (b_f_law F X Z O)⟩
theorem ok_all (X : Dk K) (F : Fx K mg) (Z : Lx K mg base) : ∀ D, Ok P w K mg base D
  | 0 => ok_zero X
  | D + 1 => ok_succ X F Z (ok_all X F Z D)
end
end My
namespace My
open PySem PySem.Spec PyProof.Rows L2
theorem facts {P : Program} {w : World} {h : Heap} {K : PySem.W.Frag} {mg : Str → Option Value} {f : Addr} (hp : ∀ ns : List Int, ns.length ≤ 63 → ∃ S', fenv T 14 n_f_law [.scr ns] [] = .ok (.bl true) S') (X : K.In h) (G : h.Ns mainGlobals mg) (hfa : mg ("law" : Str) = some (.ref f)) (c : SaysT fb fn (tf.map (·.1)) h K) :
    ∀ base : Heap, K.In base → base.Ns mainGlobals mg → (∀ p ∈ tf.map fun d => ctM K d.1, LamX.TabB base mg p.1 p.2) → @EndOk (lamT K tf) P w K mg base f := by
  letI : LT := lamT K tf
  have Fx := fx_of X G c.m
  have e := hfa.symm.trans Fx.g_law
  cases e
  intro base _ _ tb
  exact law_fn (ok_all (dk_of c.m) Fx ⟨rfl, ⟩ 14).f_law ⟨rfl, by decide, by decide⟩ (fun fd F s v => FunD.bindsA (ps := ["_law_script"]) F (fun _ _ _ _ _ _ us hl => match us, hl with | [_], _ => rfl) s [v] rfl) hp
end My
open PySem PySem.W PySem.Calls PyProof.Rows
theorem PySem.Challenge.cw_twobytwos_k01_limits_and_errors_holds : PySem.Challenge.rw_twobytwos_k01_limits_and_errors.Holds := by
  w_on; o_law
  refine HandSHeadRun.head_any (r := OpenLaw.row PySem.Challenge.rw_twobytwos_k01_limits_and_errors) (q := view (OpenLaw.row PySem.Challenge.rw_twobytwos_k01_limits_and_errors).prog [40]) (H := My.hk) (ob := My.ob) (M := 12000) (loose := My.names) (d := HandSHeadRun.topDef (OpenLaw.row PySem.Challenge.rw_twobytwos_k01_limits_and_errors).prog 40) (kwd := []) My.ob_eq
    (by kernel_rfl) (fun s => by kernel_rfl) My.run (by kernel_rfl) (by kernel_rfl) (by kernel_rfl) (by rfl) (by first | assumption | decide +kernel) (by decide +kernel) ⟨rfl, rfl, rfl, rfl, rfl, by decide +kernel⟩ ?hw ?hc
  case hw => w_witness2
  case hc =>
    refine My.walk_tabs (l := PySem.Challenge.rw_twobytwos_k01_limits_and_errors) rfl (by kernel_rfl) ?F
    intro w mg fa h Y G hmg0
    obtain ⟨K, KX, c⟩ := Y
    have hmg : mg ("law" : PySem.Str) = some (.ref fa) := by
      have e : (HandSHeadRun.topDef (OpenLaw.row PySem.Challenge.rw_twobytwos_k01_limits_and_errors).prog 40).name = ("law" : PySem.Str) := by kernel_rfl
      rw [← e]
      exact hmg0
    have cm : ∀ p ∈ My.tf.map fun d => My.ctM K d.1, ∃ d ∈ My.tf.map (·.1), p = My.ctM K d := fun p hp => by
      obtain ⟨d, hd, e⟩ := List.mem_map.mp hp
      exact ⟨d.1, List.mem_map.mpr ⟨d, hd, rfl⟩, e.symm⟩
    refine ⟨K, My.tf.map fun d => My.ctM K d.1, My.lamT K My.tf, KX, fun p hp => ?_, fun p hp => ?_, fun p hp => ?_, fun p hp => ?_, My.facts (P := (PySem.Challenge.rw_twobytwos_k01_limits_and_errors).prog) (w := w) My.pure_law KX G hmg c⟩
    · obtain ⟨d, hd, rfl⟩ := cm p hp; exact c.empty d hd
    · obtain ⟨d, hd, rfl⟩ := cm p hp; exact c.out d hd
    · obtain ⟨d, hd, rfl⟩ := cm p hp; exact codeHd_of_K KX (c.hd d hd)
    · obtain ⟨d, hd, rfl⟩ := List.mem_map.mp hp; exact List.mem_map.mpr ⟨My.ctM K d.1, List.mem_map.mpr ⟨d, hd, rfl⟩, rfl⟩

