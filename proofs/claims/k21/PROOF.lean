import PyProof.Rows.All
import Wide.All
import OpenK.AllK
import Wide.FinOn
import PyProof.EqLayable
import PyProof.ReprReads
import HandS.TupSets
import HandS.Strs
import KE.SortData
import KE.DatumOrd
import PyProof.TupleOfSeq
import HandS.ForMost
import HandS.TupAny
import HandS.TryOnly
import HandS.Style
import HandS.IsInst
import HandS.TupLe
import HandS.Deep
import PyProof.Rows.InDataRows
import HandS.ExcValue
import HandS.RaiseMore
import HandS.Conv
import HandS.ExcInit
import HandS.ExcField
import HandS.TryMany
import HandS.ExcOwn
import HandS.WordsExc
import KE.KExcIs
import HandS.ExcIs
import PySem.Challenge.RW_fewtraps_k21_maps_edited
import PyProof.FitsInt
set_option autoImplicit false
set_option linter.all false
/-! Mi: a small mirror language: plain functions over a store. -/
namespace Mi
open PySem

/-- values: tuples by value, mutable things by location -/
inductive AV where
  | non | bl (b : Bool) | int (i : Int) | str (x : Str) | tup (xs : List AV) | ref (l : Nat) | adr (a : Nat) | ty (n : String)

/-- what stands at a location -/
inductive MO where
  | lst (xs : List AV)
  | rol (xs : List AV)
  | set (xs : List AV)
  | dic (kvs : List (AV × AV))
  | ins (C : Nat) (fs : List (Str × AV))

abbrev Sto := List MO
abbrev En := List (Option AV)

mutual
def AV.dec : (a b : AV) → Decidable (a = b)
  | .non, b => by cases b <;> first | exact Decidable.isTrue rfl | exact Decidable.isFalse (fun h => nomatch h)
  | .bl x, b => by
    cases b with
    | bl y => exact if h : x = y then Decidable.isTrue (by rw [h]) else Decidable.isFalse (fun e => h (AV.bl.inj e))
    | _ => exact Decidable.isFalse (fun h => nomatch h)
  | .int x, b => by
    cases b with
    | int y => exact if h : x = y then Decidable.isTrue (by rw [h]) else Decidable.isFalse (fun e => h (AV.int.inj e))
    | _ => exact Decidable.isFalse (fun h => nomatch h)
  | .str x, b => by
    cases b with
    | str y => exact if h : x = y then Decidable.isTrue (by rw [h]) else Decidable.isFalse (fun e => h (AV.str.inj e))
    | _ => exact Decidable.isFalse (fun h => nomatch h)
  | .ref x, b => by
    cases b with
    | ref y => exact if h : x = y then Decidable.isTrue (by rw [h]) else Decidable.isFalse (fun e => h (AV.ref.inj e))
    | _ => exact Decidable.isFalse (fun h => nomatch h)
  | .adr x, b => by
    cases b with
    | adr y => exact if h : x = y then Decidable.isTrue (by rw [h]) else Decidable.isFalse (fun e => h (AV.adr.inj e))
    | _ => exact Decidable.isFalse (fun h => nomatch h)
  | .ty x, b => by
    cases b with
    | ty y => exact if h : x = y then Decidable.isTrue (by rw [h]) else Decidable.isFalse (fun e => h (AV.ty.inj e))
    | _ => exact Decidable.isFalse (fun h => nomatch h)
  | .tup xs, b => by
    cases b with
    | tup ys => exact match AV.decs xs ys with
      | .isTrue h => .isTrue (by rw [h])
      | .isFalse h => .isFalse (fun e => h (AV.tup.inj e))
    | _ => exact Decidable.isFalse (fun h => nomatch h)
def AV.decs : (a b : List AV) → Decidable (a = b)
  | [], [] => .isTrue rfl
  | [], _ :: _ => .isFalse (fun h => nomatch h)
  | _ :: _, [] => .isFalse (fun h => nomatch h)
  | x :: xs, y :: ys => match AV.dec x y with
    | .isTrue h => match AV.decs xs ys with
      | .isTrue h' => .isTrue (by rw [h, h'])
      | .isFalse h' => .isFalse (fun e => h' (List.cons.inj e).2)
    | .isFalse h => .isFalse (fun e => h (List.cons.inj e).1)
end
instance : DecidableEq AV := AV.dec

inductive Res (α : Type) where
  | ok (a : α) (s : Sto)
  | err (C : Nat) (w : AV) (s : Sto)
  | bad

namespace Res
variable {α β : Type}
def bind (r : Res α) (f : α → Sto → Res β) : Res β := match r with
  | .ok a s => f a s
  | .err C w s => .err C w s
  | .bad => .bad
/-- an error is bad here (no error leaves a comprehension) -/
def ne (r : Res α) : Res α := match r with
  | .ok a s => .ok a s
  | _ => .bad
@[simp] theorem bind_ok (a : α) (s : Sto) (f : α → Sto → Res β) : (Res.ok a s).bind f = f a s := (rfl)
@[simp] theorem bind_err (C : Nat) (w : AV) (s : Sto) (f : α → Sto → Res β) : (Res.err C w s).bind f = .err C w s := (rfl)
@[simp] theorem bind_bad (f : α → Sto → Res β) : (Res.bad : Res α).bind f = .bad := (rfl)
theorem bind_assoc {γ : Type} (r : Res α) (f : α → Sto → Res β) (g : β → Sto → Res γ) : (r.bind f).bind g = r.bind fun a s => (f a s).bind g := by
  cases r <;> rfl
end Res

/-- the end of a statement -/
inductive Fl where
  | nx (e : En) (s : Sto)
  | ret (v : AV) (s : Sto)
  | brk (e : En) (s : Sto)
  | cnt (e : En) (s : Sto)
  | err (C : Nat) (w : AV) (e : En) (s : Sto)
  | bad

abbrev ME := En → Sto → Res AV
abbrev MT := En → Sto → Res Bool
abbrev MA := En → Sto → Res (List AV)
abbrev MS := En → Sto → Fl
abbrev MG := AV → En → Sto → Fl
abbrev MF := List AV → Sto → Res AV
/-- what is walked: a list at a location, or fixed items -/
inductive It where
  | lst (l : Nat)
  | fix (xs : List AV)
abbrev MI := En → Sto → Res It

/-! ### the store -/
def lineZ : Nat := 16777216
def seqAt (s : Sto) (l : Nat) : Option (List AV) := match s[l]? with
  | some (.lst xs) => some xs
  | some (.rol xs) => some xs
  | _ => none
def newLst (xs : List AV) (s : Sto) : Res AV := if xs.length ≤ lineZ then .ok (.ref s.length) (s ++ [.lst xs]) else .bad
def items? (s : Sto) : AV → Option (List AV)
  | .tup xs => some xs
  | .ref l => seqAt s l
  | _ => none

/-- data behind a value, to a depth -/
def pd (s : Sto) : Nat → AV → Option PyData
  | _, .non => some .none
  | _, .bl b => some (.bool b)
  | _, .int i => some (.int i)
  | _, .str x => some (.str x)
  | 0, _ => none
  | n + 1, .tup xs => (xs.mapM (pd s n)).map .tuple
  | n + 1, .ref l => match seqAt s l with
    | some xs => (xs.mapM (pd s n)).map .list
    | none => none
  | _ + 1, _ => none

/-! ### operations -/
abbrev O2 := AV → AV → Sto → Res AV
def okInt (i : Int) (s : Sto) : Res AV := .ok (.int i) s
def addAV : O2 := fun a b s => match a, b with
  | .int i, .int j => .ok (.int (i + j)) s
  | .str x, .str y => if x.length + y.length ≤ lineZ then .ok (.str (x ++ y)) s else .bad
  | .tup xs, .tup ys => if xs.length + ys.length ≤ lineZ then .ok (.tup (xs ++ ys)) s else .bad
  | .ref l, .ref m => match s[l]?, s[m]? with
    | some (.lst xs), some (.lst ys) => if xs.length + ys.length ≤ lineZ then newLst (xs ++ ys) s else .bad
    | _, _ => .bad
  | _, _ => .bad
def subAV : O2 := fun a b s => match a, b with
  | .int i, .int j => .ok (.int (i - j)) s
  | _, _ => .bad
def small (i : Int) : Bool := decide (-(2 ^ 64) < i ∧ i < 2 ^ 64)
def repL (xs : List AV) (k : Nat) : List AV := (List.replicate k xs).flatten
def mulAV : O2 := fun a b s => match a, b with
  | .int i, .int j => if small i || small j then .ok (.int (i * j)) s else .bad
  | .ref l, .int k => match s[l]? with
    | some (.lst xs) => if decide (-(2 ^ 63) ≤ k ∧ k < 2 ^ 63) && decide (xs.length * k.toNat ≤ lineZ) then newLst (repL xs k.toNat) s else .bad
    | _ => .bad
  | _, _ => .bad
def divAV : O2 := fun a b s => match a, b with
  | .int i, .int j => if 0 < j ∧ j < 1073741824 then .ok (.int (i / j)) s else .bad
  | _, _ => .bad
def modAV : O2 := fun a b s => match a, b with
  | .int i, .int j => if 0 < j then .ok (.int (i % j)) s else .bad
  | _, _ => .bad
def powAV : O2 := fun a b s => match a, b with
  | .int i, .int j => if 0 ≤ j ∧ j ≤ 1000000 ∧ i.natAbs < 2 ^ 64 then .ok (.int (i ^ j.toNat)) s else .bad
  | _, _ => .bad
/-- the order of data: ints, and tuples of ints -/
def leB : AV → AV → Option Bool
  | .int i, .int j => some (decide (i ≤ j))
  | _, _ => none
def ints? : List AV → Option (List Int)
  | [] => some []
  | .int i :: r => (ints? r).map (i :: ·)
  | _ => none
def lexLt : List Int → List Int → Bool
  | [], [] => false
  | [], _ :: _ => true
  | _ :: _, [] => false
  | x :: xs, y :: ys => if x = y then lexLt xs ys else decide (x < y)
def lexLe : List Int → List Int → Bool
  | [], _ => true
  | _ :: _, [] => false
  | x :: xs, y :: ys => if x = y then lexLe xs ys else decide (x ≤ y)
def cmpAV (f : Int → Int → Bool) (g : List Int → List Int → Option Bool) : O2 := fun a b s => match a, b with
  | .int i, .int j => .ok (.bl (f i j)) s
  | .tup xs, .tup ys => match ints? xs, ints? ys with
    | some ns, some ms => match g ns ms with
      | some r => .ok (.bl r) s
      | none => .bad
    | _, _ => .bad
  | _, _ => .bad
def ltAV : O2 := cmpAV (fun i j => decide (i < j)) (fun a b => some (lexLt a b))
def leAV : O2 := cmpAV (fun i j => decide (i ≤ j)) (fun a b => some (lexLe a b))
def gtAV : O2 := cmpAV (fun i j => decide (j < i)) (fun a b => some (lexLt b a))
def geAV : O2 := cmpAV (fun i j => decide (j ≤ i)) (fun _ _ => none)
def deepN : Nat := 60
def eqAV (neg : Bool) : O2 := fun a b s => match pd s deepN a, pd s deepN b with
  | some d, some e => if SeqAt.shaped d && SeqAt.shaped e then .ok (.bl (neg != PyData.eqv d e)) s else .bad
  | _, _ => .bad
def isAV (neg : Bool) : O2 := fun a b s => match b with
  | .non => .ok (.bl (neg != decide (a = .non))) s
  | .bl c => match a with
    | .bl d => .ok (.bl (neg != decide (d = c))) s
    | _ => .bad
  | _ => .bad
def flat : AV → Bool
  | .non => true
  | .bl _ => true
  | .int _ => true
  | .str _ => true
  | _ => false
def eqF : AV → AV → Bool
  | .non, .non => true
  | .bl a, .bl b => a == b
  | .bl a, .int b => (if a then 1 else 0) == b
  | .int a, .bl b => a == (if b then 1 else 0)
  | .int a, .int b => a == b
  | .str a, .str b => a == b
  | _, _ => false
def inAV (neg : Bool) : O2 := fun a b s => match items? s b with
  | some xs => if flat a && xs.all flat then .ok (.bl (neg != xs.any fun y => eqF y a)) s else (match pd s deepN a, pd s deepN b with
    | some d, some (.list ds) => if SeqAt.shaped d && SeqAt.shaped (.list ds) then .ok (.bl (neg != ds.any fun z => PyData.eqv z d)) s else .bad
    | some d, some (.tuple ds) => if SeqAt.shaped d && SeqAt.shaped (.tuple ds) then .ok (.bl (neg != ds.any fun z => PyData.eqv z d)) s else .bad
    | _, _ => .bad)
  | none => .bad
def ixN (n : Nat) (i : Int) : Option Nat := if 0 ≤ i then (if i < n then some i.toNat else none) else if -(n : Int) ≤ i then some (i + n).toNat else none
def ixAV : O2 := fun a b s => match b with
  | .int i => match items? s a with
    | some xs => match (ixN xs.length i).bind fun j => xs[j]? with
      | some v => .ok v s
      | none => .bad
    | none => .bad
  | _ => .bad
def sIx (n d : Nat) : Option Int → Nat
  | none => d
  | some v => if v < 0 then (v + (n : Int)).toNat else min v.toNat n
def cut (xs : List AV) (lo hi : Option Int) : List AV := (xs.drop (sIx xs.length 0 lo)).take (sIx xs.length xs.length hi - sIx xs.length 0 lo)
def sliceAV (a : AV) (lo hi : Option Int) (s : Sto) : Res AV := match a with
  | .tup xs => .ok (.tup (cut xs lo hi)) s
  | .ref l => match seqAt s l with
    | some xs => .ok (.ref s.length) (s ++ [.lst (cut xs lo hi)])
    | none => .bad
  | _ => .bad
def truth (a : AV) (s : Sto) : Res Bool := match a with
  | .non => .ok false s
  | .bl b => .ok b s
  | .int i => .ok (i != 0) s
  | .str x => if x.length ≤ lineZ then .ok ((x.length : Int) != 0) s else .bad
  | .tup xs => .ok (!xs.isEmpty) s
  | .ref l => match seqAt s l with
    | some xs => .ok (!xs.isEmpty) s
    | none => .bad
  | _ => .bad

def isLst (s : Sto) (x : AV) : Bool := match x with
  | .ref l => match s[l]? with
    | some (.lst _) => true
    | _ => false
  | _ => false
/-! ### expressions -/
namespace E
def var (i : Nat) : ME := fun en s => match en[i]? with
  | some (some v) => .ok v s
  | _ => .bad
def c (v : AV) : ME := fun _ s => .ok v s
def un (f : AV → Sto → Res AV) (a : ME) : ME := fun en s => (a en s).bind f
def op (f : O2) (a b : ME) : ME := fun en s => (a en s).bind fun x s => (b en s).bind fun y s => f x y s
def and (a b : ME) : ME := fun en s => (a en s).bind fun x s => match x with
  | .bl true => b en s
  | .bl false => .ok (.bl false) s
  | _ => .bad
def or (a b : ME) : ME := fun en s => (a en s).bind fun x s => match x with
  | .bl true => .ok (.bl true) s
  | .bl false => b en s
  | _ => .bad
def not (a : ME) : ME := fun en s => (a en s).bind fun x s => match x with
  | .bl b => .ok (.bl (!b)) s
  | _ => .bad
def ite (t : MT) (a b : ME) : ME := fun en s => (t en s).bind fun b' s => if b' = true then a en s else b en s
def nil : MA := fun _ s => .ok [] s
def cons (a : ME) (r : MA) : MA := fun en s => (a en s).bind fun x s => (r en s).bind fun xs s => .ok (x :: xs) s
def tup (a : MA) : ME := fun en s => (a en s).bind fun xs s => if xs.length ≤ lineZ then .ok (.tup xs) s else .bad
def lst (a : MA) : ME := fun en s => (a en s).bind newLst
def call (f : MF) (a : MA) : ME := fun en s => (a en s).bind f
def meth (f : AV → MF) (o : ME) (a : MA) : ME := fun en s => (o en s).bind fun x s => (a en s).bind fun xs s => f x xs s
/-- a call out of which no error comes -/
def calln (f : MF) (a : MA) : ME := fun en s => (a en s).bind fun xs s => (f xs s).ne
/-- a method of a list: that it is a list is looked at ahead of the arguments -/
def lmeth (f : AV → MF) (o : ME) (a : MA) : ME := fun en s => (o en s).bind fun x s => if isLst s x = true then (a en s).bind fun xs s => f x xs s else .bad
def part (a : ME) (k : Option Int → Sto → Res AV) : En → Sto → Res AV := fun en s => (a en s).bind fun x s => match x with
  | .int i => k (some i) s
  | _ => .bad
def slice (a : ME) (lo hi : Option ME) : ME := fun en s => (a en s).bind fun x s =>
  let withHi (l : Option Int) (s : Sto) : Res AV := match hi with
    | some h => part h (fun u s => sliceAV x l u s) en s
    | none => sliceAV x l none s
  match lo with
  | some l => part l withHi en s
  | none => withHi none s
def chain (f g : O2) (a b c : ME) : ME := fun en s => (a en s).bind fun x s => (b en s).bind fun y s => (f x y s).bind fun z s => match z with
  | .bl true => (c en s).bind fun w s => g y w s
  | .bl false => .ok (.bl false) s
  | _ => .bad
end E

/-! ### tests -/
namespace T
def val (a : ME) : MT := fun en s => (a en s).bind fun x s => match x with
  | .bl b => .ok b s
  | _ => .bad
def tru (a : ME) : MT := fun en s => (a en s).bind truth
def and (a b : MT) : MT := fun en s => (a en s).bind fun x s => if x = true then b en s else .ok false s
def or (a b : MT) : MT := fun en s => (a en s).bind fun x s => if x = true then .ok true s else b en s
def not (a : MT) : MT := fun en s => (a en s).bind fun x s => .ok (!x) s
def yes : MT := fun _ s => .ok true s
end T

/-! ### targets and statements -/
def Fl.next (r : Fl) (f : En → Sto → Fl) : Fl := match r with
  | .nx e s => f e s
  | r => r
def Res.fl (r : Res AV) (en : En) (f : AV → Sto → Fl) : Fl := match r with
  | .ok v s => f v s
  | .err C w s => .err C w en s
  | .bad => .bad
def Res.flT (r : Res Bool) (en : En) (f : Bool → Sto → Fl) : Fl := match r with
  | .ok v s => f v s
  | .err C w s => .err C w en s
  | .bad => .bad
namespace G
def name (i : Nat) : MG := fun v en s => .nx (en.set i (some v)) s
def all : List MG → List AV → En → Sto → Fl
  | [], [], en, s => .nx en s
  | g :: gs, v :: vs, en, s => (g v en s).next fun en s => all gs vs en s
  | _, _, _, _ => .bad
def tup (gs : List MG) : MG := fun v en s => match v with
  | .tup xs => if xs.length = gs.length then all gs xs en s else .bad
  | _ => .bad
def lst (gs : List MG) : MG := fun v en s => match v with
  | .ref l => match seqAt s l with
    | some xs => if xs.length = gs.length then all gs xs en s else .bad
    | none => .bad
  | _ => .bad
/-- a tuple or a list is taken apart -/
def unp (gs : List MG) : MG := fun v en s => match v with
  | .tup xs => if xs.length = gs.length then all gs xs en s else .bad
  | .ref l => match seqAt s l with
    | some xs => if xs.length = gs.length then all gs xs en s else .bad
    | none => .bad
  | _ => .bad
def setIx (o i v : AV) (en : En) (s : Sto) : Fl := match o, i with
  | .ref l, .int k => match s[l]? with
    | some (.lst xs) => match ixN xs.length k with
      | some j => .nx en (s.set l (.lst (xs.set j v)))
      | none => .bad
    | _ => .bad
  | _, _ => .bad
def sub (o i : ME) : MG := fun v en s => (o en s).fl en fun x s => (i en s).fl en fun y s => setIx x y v en s
end G
namespace S
def skip : MS := fun en s => .nx en s
def seq (a b : MS) : MS := fun en s => (a en s).next fun en s => b en s
/-- a target goes on, or is bad -/
def gx (r : Fl) : Fl := match r with
  | .nx en s => .nx en s
  | _ => .bad
def asg (g : MG) (e : ME) : MS := fun en s => (e en s).fl en fun v s => gx (g v en s)
def expr (e : ME) : MS := fun en s => (e en s).fl en fun _ s => .nx en s
def ret (e : ME) : MS := fun en s => (e en s).fl en fun v s => .ret v s
def retN : MS := fun _ s => .ret .non s
def ife (t : MT) (a b : MS) : MS := fun en s => (t en s).flT en fun x s => if x = true then a en s else b en s
def brk : MS := fun en s => .brk en s
def cnt : MS := fun en s => .cnt en s
def never : MS := fun _ _ => .bad
def aug (i : Nat) (f : O2) (e : ME) : MS := fun en s => match en[i]? with
  | some (some x) => (e en s).fl en fun y s => (f x y s).fl en fun z s => .nx (en.set i (some z)) s
  | _ => .bad
/-- a turn's end -/
def turn (r : Fl) (go : En → Sto → Fl) : Fl := match r with
  | .nx e s => go e s
  | .cnt e s => go e s
  | .brk e s => .nx e s
  | r => r
def forT (body : AV → MS) : List AV → MS
  | [] => fun en s => .nx en s
  | x :: xs => fun en s => turn (body x en s) fun en s => forT body xs en s
def forL (body : AV → MS) (l : Nat) : Nat → Nat → MS
  | 0, _ => fun _ _ => .bad
  | f + 1, i => fun en s => match seqAt s l with
    | none => .bad
    | some xs => match xs[i]? with
      | none => .nx en s
      | some x => turn (body x en s) fun en s => forL body l f (i + 1) en s
def fuel : Nat := 1000000000000
def forI (body : AV → MS) (j : It) : MS := match j with
  | .fix xs => forT body xs
  | .lst l => forL body l fuel 0
def for_ (src : MI) (g : MG) (b : MS) : MS := fun en s => match src en s with
  | .ok j s => forI (fun v en s => (gx (g v en s)).next fun en s => b en s) j en s
  | .err C w s => .err C w en s
  | .bad => .bad
def loop (t : MT) (b : MS) : Nat → MS
  | 0 => fun _ _ => .bad
  | f + 1 => fun en s => (t en s).flT en fun x s => if x = true then turn (b en s) fun en s => loop t b f en s else .nx en s
def while_ (t : MT) (b : MS) : MS := loop t b fuel
end S
/-- a def of np parameters and n names -/
def runDef (np n : Nat) (b : MS) : MF := fun vs s => if vs.length ≠ np then .bad else match b (vs.map some ++ List.replicate (n - vs.length) none) s with
  | .nx _ s => .ok .non s
  | .ret v s => .ok v s
  | .err C w _ s => .err C w s
  | .brk _ _ => .bad
  | .cnt _ _ => .bad
  | .bad => .bad

/-- .. out of which no error comes -/
def runDefn (np n : Nat) (b : MS) : MF := fun vs s => if vs.length ≠ np then .bad else match b (vs.map some ++ List.replicate (n - vs.length) none) s with
  | .nx _ s => .ok .non s
  | .ret v s => .ok v s
  | _ => .bad

/-! ### walked things -/
namespace I
def tup (a : ME) : MI := fun en s => (a en s).bind fun x s => match x with
  | .tup xs => .ok (.fix xs) s
  | _ => .bad
def lst (a : ME) : MI := fun en s => (a en s).bind fun x s => match x with
  | .ref l => match seqAt s l with
    | some _ => .ok (.lst l) s
    | none => .bad
  | _ => .bad
/-- a list or a tuple -/
def seq (a : ME) : MI := fun en s => match a en s with
  | .ok (.tup xs) s => .ok (.fix xs) s
  | .ok (.ref l) s => match seqAt s l with
    | some _ => .ok (.lst l) s
    | none => .bad
  | .err C w s => .err C w s
  | _ => .bad
def iot (lo : Int) (n : Nat) : List AV := (List.range n).map fun (k : Nat) => AV.int (lo + (k : Int))
@[irreducible] def inR (i : Int) : Bool := decide (-(2 ^ 62) ≤ i ∧ i < 2 ^ 62)
def range1 (a : MA) : MI := fun en s => (a en s).bind fun xs s => match xs with
  | [.int j] => if inR j then .ok (.fix (iot 0 j.toNat)) s else .bad
  | _ => .bad
def range2 (a : MA) : MI := fun en s => (a en s).bind fun xs s => match xs with
  | [.int i, .int j] => if inR i && inR j then .ok (.fix (iot i (j - i).toNat)) s else .bad
  | _ => .bad
end I

def negAV (a : AV) (s : Sto) : Res AV := match a with
  | .int i => .ok (.int (-i)) s
  | _ => .bad
namespace E
/-- list(range(n)), tuple(range(n)) -/
def lstR (a : ME) : ME := fun en s => (a en s).bind fun x s => match x with
  | .int j => if I.inR j && decide (j.toNat ≤ 16777216) then .ok (.ref s.length) (s ++ [MO.lst (I.iot 0 j.toNat)]) else .bad
  | _ => .bad
def tupR (a : ME) : ME := fun en s => (a en s).bind fun x s => match x with
  | .int j => if I.inR j && decide (j.toNat ≤ 16777216) then .ok (.tup (I.iot 0 j.toNat)) s else .bad
  | _ => .bad
end E
/-! ### comprehensions -/
def wipe (en : En) : List Nat → En
  | [] => en
  | v :: vs => (wipe en vs).set v none
namespace E
/-- the list at D gets one item more -/
def grow (D : Nat) (y : AV) (s : Sto) : Res Unit := match s[D]? with
  | some (.lst acc) => if acc.length < lineZ then .ok () (s.set D (.lst (acc ++ [y]))) else .bad
  | _ => .bad
/-- one turn: the target, the test, the element; D is the list that grows -/
def lcT (g : MG) (t : MT) (e : ME) (own : List Nat) (en : En) (D : Nat) (x : AV) (s : Sto) : Res Unit := match g x (wipe en own) s with
  | .nx en' s' => (t en' s').ne.bind fun b s => if b = true then (e en' s).ne.bind (grow D) else .ok () s
  | _ => .bad
def lcFix (turn : AV → Sto → Res Unit) : List AV → Sto → Res Unit
  | [], s => .ok () s
  | x :: xs, s => (turn x s).bind fun _ s => lcFix turn xs s
def lcLst (turn : AV → Sto → Res Unit) (l : Nat) : Nat → Nat → Sto → Res Unit
  | 0, _, _ => .bad
  | f + 1, i, s => match seqAt s l with
    | none => .bad
    | some xs => match xs[i]? with
      | none => .ok () s
      | some x => (turn x s).bind fun _ s => lcLst turn l f (i + 1) s
def lc (src : MI) (g : MG) (t : MT) (e : ME) (own : List Nat) : ME := fun en s => (src en s).bind fun j s =>
  let D := s.length
  (match j with
    | .fix xs => lcFix (lcT g t e own en D) xs (s ++ [MO.lst []])
    | .lst l => lcLst (lcT g t e own en D) l S.fuel 0 (s ++ [MO.lst []])).bind fun _ s => .ok (.ref D) s
end E

/-! ### built-ins -/
namespace B
def len : MF := fun vs s => match vs with
  | [.str x] => if x.length ≤ lineZ then .ok (.int x.length) s else .bad
  | [.ref l] => match s[l]? with
    | some (.lst xs) => .ok (.int xs.length) s
    | some (.rol xs) => .ok (.int xs.length) s
    | _ => .bad
  | [.tup xs] => .ok (.int xs.length) s
  | _ => .bad
/-- isinstance(x, T) for T int, bool, tuple, str -/
def kind (s : Sto) : AV → Option String
  | .non => some "NoneType"
  | .bl _ => some "bool"
  | .int _ => some "int"
  | .str _ => some "str"
  | .tup _ => some "tuple"
  | .ref l => match s[l]? with
    | some (.lst _) => some "list"
    | _ => none
  | _ => none
def isa : MF := fun vs s => match vs with
  | [x, .ty t] => if t = "int" ∨ t = "bool" ∨ t = "tuple" ∨ t = "str" then match kind s x with
      | some k => .ok (.bl (decide (k = t) || (decide (k = "bool") && decide (t = "int")))) s
      | none => .bad
    else .bad
  | _ => .bad
def int_ : MF := fun vs s => match vs with
  | [.int i] => .ok (.int i) s
  | [.bl b] => .ok (.int (if b then 1 else 0)) s
  | _ => .bad
def list_ : MF := fun vs s => match vs with
  | [v] => match items? s v with
    | some xs => .ok (.ref s.length) (s ++ [.lst xs])
    | none => .bad
  | _ => .bad
def tuple_ : MF := fun vs s => match vs with
  | [v] => match items? s v with
    | some xs => .ok (.tup xs) s
    | none => .bad
  | _ => .bad
def min2 : MF := fun vs s => match vs with
  | [.int i, .int j] => .ok (.int (if j < i then j else i)) s
  | _ => .bad
def max2 : MF := fun vs s => match vs with
  | [.int i, .int j] => .ok (.int (if j > i then j else i)) s
  | _ => .bad
/-- the order in which things are sorted: iot, or tuples of ints -/
def sLe : AV → AV → Bool
  | .int i, .int j => decide (i ≤ j)
  | .tup xs, .tup ys => match ints? xs, ints? ys with
    | some a, some b => lexLe a b
    | _, _ => false
  | _, _ => false
def isInt : AV → Bool
  | .int _ => true
  | _ => false
def isTupI : AV → Bool
  | .tup xs => !xs.isEmpty && xs.all isInt
  | _ => false
def sorts (xs : List AV) : Bool := xs.all isInt || xs.all isTupI
def sorted : MF := fun vs s => match vs with
  | [.ref l] => match s[l]? with
    | some (.lst xs) => if sorts xs then newLst (xs.mergeSort sLe) s else .bad
    | some (.set xs) => if sorts xs then newLst (xs.mergeSort sLe) s else .bad
    | _ => .bad
  | [.tup xs] => if sorts xs then newLst (xs.mergeSort sLe) s else .bad
  | _ => .bad
def dedup (xs : List AV) : List AV := xs.foldl (fun acc x => if x ∈ acc then acc else acc ++ [x]) []
def set_ : MF := fun vs s => match vs with
  | [.ref l] => match s[l]? with
    | some (.lst xs) => if sorts xs && decide (xs.length < 64) then .ok (.ref s.length) (s ++ [.set (dedup xs)]) else .bad
    | _ => .bad
  | _ => .bad
/-- repr, of lists and tuples without dicts -/
def repr_ : MF := fun vs s => match vs with
  | [v] => match pd s deepN v with
    | some d => if d.showable && decide (d.shown.length ≤ lineZ) then (match v with
        | .tup _ => .ok (.str d.shown) s
        | .ref _ => .ok (.str d.shown) s
        | .int _ => .ok (.str d.shown) s
        | _ => .bad) else .bad
    | none => .bad
  | _ => .bad
def append : AV → MF := fun o vs s => match o, vs with
  | .ref l, [y] => match s[l]? with
    | some (.lst xs) => if xs.length < lineZ then .ok .non (s.set l (.lst (xs ++ [y]))) else .bad
    | _ => .bad
  | _, _ => .bad
def pop : AV → MF := fun o vs s => match o with
  | .ref l => match s[l]? with
    | some (.lst xs) => match vs with
      | [] => match xs[xs.length - 1]? with
        | some y => .ok y (s.set l (.lst xs.dropLast))
        | none => .bad
      | [.int i] => if decide (-(2 ^ 63) ≤ i ∧ i < 2 ^ 63) then match ixN xs.length i with
          | some k => match xs[k]? with
            | some y => .ok y (s.set l (.lst (xs.eraseIdx k)))
            | none => .bad
          | none => .bad
        else .bad
      | _ => .bad
    | _ => .bad
  | _ => .bad
end B
end Mi
set_option maxRecDepth 100000
set_option maxHeartbeats 3200000
/-! Sets of ints out of lists; sorted sets of int tuples of any lengths. -/
namespace BrS
open PySem PySem.Spec PyProof.Rows L2
section
variable {P : Program} {w : World} {A : Around} {E : Value → Shared → Prop} {s : Shared}
/-- the new set's object -/
abbrev nu (w : World) : Obj := { cls := .type "set", dict := none, data := .set #[] 0 (.fresh 0 0 (!w.params.followText "set-order")) }
/-- what the building of the set hands on -/
abbrev Made (w : World) (s : Shared) (ns : List Int) (r : Value) (s₂ : Shared) : Prop := r = .none ∧ ∃ h' tk c, s₂ = { s with heap := h', toks := tk } ∧ SetR w h' s.heap.objs.size (fun j => decide (j ∈ ns)) c ∧ c ≤ ns.length ∧ ∀ b o, s.heap.get? b = some o → h'.get? b = some o
theorem set_of_list {l : Addr} {items : Array Value} (ns : List Int) {Q : Value → Shared → Prop} (hh : A.handled = none) (hl : s.heap.IsList l items) (hit : IntsAre items.toList ns) (hb : ns.length + 1 < scanBound)
    (h : ∀ (h' : Heap) (tk c : Nat), SetR w h' s.heap.objs.size (fun j => decide (j ∈ ns)) c → c ≤ ns.length → (∀ b o, s.heap.get? b = some o → h'.get? b = some o) → Q (.ref s.heap.objs.size) { s with heap := h', toks := tk }) :
    wpAny (model P w) A (call (.type "set") [.ref l]) Q E s := by
  have len : items.size = ns.length := by rw [← Array.length_toList]; exact IntsAre.length hit
  obtain ⟨c, tl, mro⟩ := PySem.F.called_set.mro
  have c1 := PySem.F.called_set.made
  have c2 := PySem.F.called_set.sub
  apply wpAny_call
  apply codeAny_of_tree
  show wpAny _ _ (callAny (.type "set") _) _ _ _
  apply wpAny_pure
  refine ⟨Code.quiet_builtin _ (by decide +kernel), codeAny_builtin PySem.F.entry_type_call ?_⟩
  rw [Around.under_plain (weight_type_call_type "set" [.ref l] []) rfl]
  have c3 := PySem.F.called_set.notType
  have c4 := PySem.F.called_set.canCreate
  have c5 := PySem.F.typeCall_set_1 (.ref l)
  repeat any_goals first | assumption | wp_step
  have made := code_set_led1 (P := P) (w := w) (A := A.in1) (s := s) (.ref l) (E := E) (Q₁ := fun obj s₁ => obj = .ref s.heap.objs.size ∧ s₁ = { s with heap := s.heap.push (nu w) }) ⟨rfl, rfl⟩
  apply codeAny_mono made
  intro r1 s₁ hr
  match r1, hr with
  | .error e, hr => exact hr
  | .ok (.ret obj), hr =>
    obtain ⟨rfl, rfl⟩ := hr
    have atS : (s.heap.push (nu w)).get? s.heap.objs.size = some (nu w) := Heap.get?_push_size _ rfl
    have isS : Shared.TypeIs { s with heap := s.heap.push (nu w) } (.ref s.heap.objs.size) "set" := ⟨_, atS, rfl⟩
    have i1 := PySem.F.called_set.init.lookup
    have i2 := PySem.F.called_set.init.bind (.ref s.heap.objs.size)
    repeat any_goals first | assumption | wp_step
    refine codeAny_mono (codeAny_call_builtin (R := wants (Made w s ns) E) PySem.F.called_set.init.plain PySem.F.entry_set_init (check_set_init_1 isS ?_)) ?_
    · obtain ⟨⟨ocls, odict, odata, oslots⟩, hol, hcl, nl, hdl⟩ := hl
      simp only at hcl hdl
      subst hcl hdl
      have hol' : (s.heap.push (nu w)).get? l = some { cls := .type "list", dict := odict, data := .seq items nl, slots := oslots } := Heap.get?_push_of_some _ hol
      have n1 := PySem.F.sub_list_set
      have n2 := PySem.F.sub_list_frozenset
      have n3 : (Value.type "list" == Value.type "dict") = false := by decide
      have hl1 : (s.heap.push (nu w)).IsList l items := ⟨_, hol', rfl, nl, rfl⟩
      unfold Builtin.«set.__init__» noKeywords Builtin.Frozenset.updateFrom
      generalize e0 : pyIter = PI
      wp_walk
      subst e0
      refine wpAny_pyIter_list hl1 (wpAny_bind (wpAny_runValue ?_))
      have lt : l < s.heap.objs.size := Heap.lt_size hol
      have calm : A.in1.in1.in1.handled = none := by simp [hh]
      have sz : (s.heap.push (nu w)).objs.size = s.heap.objs.size + 1 := Heap.size_push ..
      have ne1 : l ≠ (s.heap.push (nu w)).objs.size := by rw [sz]; exact Nat.ne_of_lt (Nat.lt_succ_of_lt lt)
      have ne2 : s.heap.objs.size ∉ [(s.heap.push (nu w)).objs.size, l] := by
        rw [sz]
        intro z
        rcases List.mem_cons.mp z with z | z
        · exact absurd z (Nat.ne_of_lt (Nat.lt_succ_self _))
        · exact absurd (List.mem_singleton.mp z) (Nat.ne_of_gt lt)
      have val : ∀ (i : Nat) (v : Value), items[i]? = some v → ∃ k t, ns[i]? = some k ∧ v = .int k t := by
        intro i v hv
        have hi : i < ns.length := len ▸ (Array.getElem?_eq_some_iff.mp hv).1
        obtain ⟨t, e⟩ := PyProof.Rows.IntsAre.int_at hit i v (by rw [Array.getElem?_toList]; exact hv)
        refine ⟨ns[i], t, List.getElem?_eq_getElem hi, ?_⟩
        rw [e, List.getD_eq_getElem?_getD, List.getElem?_eq_getElem hi]; rfl
      have walks := (Walks.list (prog := P) (w := w) calm _ l ne1 items).toS
      refine set_update_ints walks s.heap.objs.size ne2 ns len hb val (items.size - 0) 0 _ (by omega) (Nat.zero_le _) ⟨⟨_, Heap.get?_push_size _ rfl, rfl, rfl⟩, hl1.push _⟩ ⟨0, Nat.le_refl 0, setR_new_at (Heap.get?_push_of_some _ atS)⟩ ?_
      rintro ⟨h', g2, d', tk', os'⟩ c' hm hc' hS'
      obtain rfl : g2 = s.gens := hm.gens
      obtain rfl : d' = s.drawn := hm.drawn
      obtain rfl : os' = s.os := hm.os
      show wpAny _ _ _ _ _ _
      apply wpAny_pure
      show wpAny _ _ (ret Value.none) _ _ _
      rw [len] at hc'
      apply wpAny_pure
      refine ⟨rfl, h', tk', c', rfl, hS', hc', fun b o e => ?_⟩
      have lb : b < s.heap.objs.size := Heap.lt_size e
      refine hm.heap b o ?_ (Heap.get?_push_of_some _ (Heap.get?_push_of_some _ e))
      rw [sz]
      intro z
      rcases List.mem_cons.mp z with z | z
      · exact absurd z (Nat.ne_of_lt lb)
      · exact absurd (List.mem_singleton.mp z) (Nat.ne_of_lt (Nat.lt_succ_of_lt lb))
    · intro r2 s₂ hr₂
      match r2, hr₂ with
      | .error e, hr₂ => exact hr₂
      | .ok (.ret r), hr₂ =>
        obtain ⟨rfl, h', tk, c', rfl, hS', hc', hk'⟩ := hr₂
        repeat any_goals first | assumption | wp_step
        exact h _ _ _ hS' hc' hk'
      | .ok .next, hr₂ => exact hr₂.elim
      | .ok .brk, hr₂ => exact hr₂.elim
      | .ok .cont, hr₂ => exact hr₂.elim
  | .ok .next, hr => exact hr.elim
  | .ok .brk, hr => exact hr.elim
  | .ok .cont, hr => exact hr.elim
theorem lexLe_total : ∀ a b : List Int, (Mi.lexLe a b || Mi.lexLe b a) = true
  | [], b => by simp [Mi.lexLe]
  | _ :: _, [] => by simp [Mi.lexLe]
  | x :: xs, y :: ys => by
    show ((if x = y then Mi.lexLe xs ys else decide (x ≤ y)) || (if y = x then Mi.lexLe ys xs else decide (y ≤ x))) = true
    by_cases h : x = y
    · rw [if_pos h, if_pos h.symm]; exact lexLe_total xs ys
    · rw [if_neg h, if_neg (fun z => h z.symm)]
      rcases Int.le_total x y with z | z
      · rw [decide_eq_true z]; rfl
      · rw [decide_eq_true z, Bool.or_true]
theorem lexLe_antisymm : ∀ a b : List Int, Mi.lexLe a b = true → Mi.lexLe b a = true → a = b
  | [], [], _, _ => rfl
  | [], _ :: _, _, h => by cases h
  | _ :: _, [], h, _ => by cases h
  | x :: xs, y :: ys, h1, h2 => by
    have h1 : (if x = y then Mi.lexLe xs ys else decide (x ≤ y)) = true := h1
    have h2 : (if y = x then Mi.lexLe ys xs else decide (y ≤ x)) = true := h2
    by_cases h : x = y
    · rw [if_pos h] at h1
      rw [if_pos h.symm] at h2
      rw [h, lexLe_antisymm xs ys h1 h2]
    · rw [if_neg h] at h1
      rw [if_neg (fun z => h z.symm)] at h2
      exact absurd (Int.le_antisymm (of_decide_eq_true h1) (of_decide_eq_true h2)) h
theorem lexLe_trans : ∀ a b c : List Int, Mi.lexLe a b = true → Mi.lexLe b c = true → Mi.lexLe a c = true
  | [], _, _, _, _ => rfl
  | _ :: _, [], _, h, _ => by cases h
  | _ :: _, _ :: _, [], _, h => by cases h
  | x :: xs, y :: ys, z :: zs, h1, h2 => by
    have h1 : (if x = y then Mi.lexLe xs ys else decide (x ≤ y)) = true := h1
    have h2 : (if y = z then Mi.lexLe ys zs else decide (y ≤ z)) = true := h2
    show (if x = z then Mi.lexLe xs zs else decide (x ≤ z)) = true
    by_cases e1 : x = y
    · rw [if_pos e1] at h1
      by_cases e2 : y = z
      · rw [if_pos e2] at h2
        rw [if_pos (e1.trans e2)]
        exact lexLe_trans xs ys zs h1 h2
      · rw [if_neg e2] at h2
        rw [if_neg (by rw [e1]; exact e2), e1]
        exact h2
    · rw [if_neg e1] at h1
      by_cases e2 : y = z
      · rw [← e2, if_neg e1]; exact h1
      · rw [if_neg e2] at h2
        have a1 := of_decide_eq_true h1
        have a2 := of_decide_eq_true h2
        have : x ≠ z := by omega
        rw [if_neg this]
        exact decide_eq_true (by omega)
theorem lexD (x y : Int) (xs ys : List Int) : PySem.W.dataLt (.tuple (PyData.int x :: xs.map PyData.int)) (.tuple (PyData.int y :: ys.map PyData.int)) = if x = y then PySem.W.dataLt (.tuple (xs.map PyData.int)) (.tuple (ys.map PyData.int)) else decide (x < y) := by
  rw [PySem.W.dataLt_tuple, PySem.W.dataLt_tuple]
  have al : PySem.W.alike (.int x) (.int y) = true := by simp only [PySem.W.alike]
  by_cases h : x = y
  · rw [if_pos h, PySem.W.dataLt_all_yes al (by simpa [PyData.eqv] using h)]
  · rw [if_neg h, PySem.W.dataLt_all_no al (by simpa [PyData.eqv] using h), PySem.W.dataLt_int]
theorem dataLt_self' (d : PyData) : PySem.W.dataLt d d = false := PySem.W.dataLt_self d
theorem lexD_le : ∀ xs ys : List Int, (!PySem.W.dataLt (.tuple (ys.map PyData.int)) (.tuple (xs.map PyData.int))) = Mi.lexLe xs ys
  | [], [] => by rw [dataLt_self']; rfl
  | [], y :: ys => by
    have : PySem.W.dataLt (.tuple ((y :: ys).map PyData.int)) (.tuple (([] : List Int).map PyData.int)) = false := by
      rw [PySem.W.dataLt_tuple]; rfl
    rw [this]; rfl
  | x :: xs, [] => by
    have : PySem.W.dataLt (.tuple (([] : List Int).map PyData.int)) (.tuple ((x :: xs).map PyData.int)) = true := by
      rw [PySem.W.dataLt_tuple]; rfl
    rw [this]; rfl
  | x :: xs, y :: ys => by
    rw [List.map_cons, List.map_cons, lexD, ]
    show _ = (if x = y then Mi.lexLe xs ys else decide (x ≤ y))
    by_cases h : x = y
    · rw [if_pos h, if_pos h.symm, lexD_le xs ys]
    · rw [if_neg h, if_neg (fun z => h z.symm), PySem.W.not_lt_int]
/-! sorted of a set of int tuples, none of them empty -/
theorem readsT {h : Heap} {b : Addr} {k : List Int} (x : IsT P w h k b) : Reads h (.ref b) (.tuple (k.map PyData.int)) [] := by
  obtain ⟨o, items, n, ho, hc, hd, hi⟩ := x
  have all : ∀ {us : List Value} {k : List Int}, ItemsAre (intKind P w) k us → ReadsAll h us (k.map PyData.int) [] := by
    intro us k z
    induction z with
    | nil => exact .nil
    | @cons k0 v ks vs h1 _ ih =>
      obtain ⟨t, rfl⟩ := Value.isInt_shape h1
      exact ReadsAll.cons (.int k0 t) ih
  exact .tuple ho hc hd (all hi)
theorem depth_tup (k : List Int) : (PyData.tuple (k.map PyData.int)).depth ≤ 1 := by
  have := PySem.W.depth_ints k
  simp only [PyData.depth]
  omega
theorem eachMap {α β : Type} {R : α → β → Prop} (f : α → β) : ∀ (vs : List α), (∀ v ∈ vs, R v (f v)) → PySem.W.EachIs R vs (vs.map f)
  | [], _ => .nil
  | v :: vs, h => .cons (h v List.mem_cons_self) (eachMap f vs fun u hu => h u (List.mem_cons_of_mem _ hu))
theorem each_refs : ∀ {out : List Value} {L : List (Addr × List Int)}, PySem.W.EachIs (fun v (q : Addr × List Int) => v = Value.ref q.1) out L → out = L.map fun q => Value.ref q.1
  | _, _, .nil => rfl
  | _, _, .cons h t => by rw [h, each_refs t]; rfl
/-- the order of the keys -/
abbrev keyLe (q r : Addr × List Int) : Bool := Mi.lexLe q.2 r.2
abbrev encT (q : Addr × List Int) : PyData := .tuple (q.2.map PyData.int)
theorem dataLe_keys : PySem.W.dataLe false encT = keyLe := by
  funext q r
  exact lexD_le q.2 r.2
theorem addr_key {h : Heap} {L : List (Addr × List Int)} (ht : ∀ p ∈ L, IsT P w h p.2 p.1) : ∀ q ∈ L, ∀ r ∈ L, q.1 = r.1 → q = r := by
  intro q hq r hr e
  have a1 := ht q hq
  rw [e] at a1
  exact Prod.ext e (a1.inj (ht r hr))
/-- the pair of an address -/
def pairOf (L : List (Addr × List Int)) (v : Value) : Addr × List Int := match L.find? (fun q => v == Value.ref q.1) with
  | some q => q
  | none => (0, [])
theorem pairOf_ref {h : Heap} {L : List (Addr × List Int)} (ht : ∀ p ∈ L, IsT P w h p.2 p.1) {q : Addr × List Int} (hq : q ∈ L) : pairOf L (.ref q.1) = q := by
  unfold pairOf
  cases e : L.find? (fun r => Value.ref q.1 == Value.ref r.1) with
  | none => exact absurd (List.find?_eq_none.mp e q hq) (by simp)
  | some r =>
    have h1 := List.mem_of_find?_eq_some e
    have h2 := List.find?_some e
    have h3 : Value.ref q.1 = Value.ref r.1 := beq_iff_eq.mp h2
    injection h3 with h3
    exact (addr_key ht q hq r h1 h3).symm
theorem sorted_setV {a : Addr} {L : List (Addr × List Int)} {es : Array (Int × Value)} {ep : Nat} {t : SetTable} {Q : Value → Shared → Prop} (R : SetTR P w s.heap a L es ep t) (hh : A.handled = none) (hne : ∀ p ∈ L, p.2 ≠ []) (hu : A.units + 64 < cLine)
    (hQ : ∀ s' p (out : Array Value) (c : Nat) (L' : List (Addr × List Int)), (∀ b o, s.heap.get? b = some o → s'.heap.get? b = some o) → s'.gens = s.gens → s'.os = s.os → s.heap.objs.size ≤ p →
      s'.heap.get? p = some (seqObj "list" out c) → out.toList = L'.map (fun q => Value.ref q.1) → L'.Perm L → L'.Pairwise (fun q r => keyLe q r = true) → Q (.ref p) s') : wpAny (model P w) A (call (.builtin "sorted") [.ref a]) Q E s := by
  obtain ⟨o, ho, hex, hd⟩ := R.ob
  have size := R.size
  have few := R.few
  apply Calls.call_function_entry kind_sorted plain_sorted entry_sorted (args_sorted1 _)
  unfold Builtin.«sorted»
  apply wpAny_bind (m := checkCount "sorted" 1 1 _)
  apply wpAny_pure
  apply wpAny_bind
  refine collect_set (A := A.in1) hh ⟨o, ho, hex.1, hd⟩ R.fits (by unfold scanBound; omega) R.tab.ris R.led ?_
  intro s1 vs k1 hz g1 o1 pm
  have rows : es.toList.map (·.2) = L.map fun q => Value.ref q.1 := by
    rw [R.rows]; unfold rowsOf; rw [List.map_map]; rfl
  rw [rows] at pm
  have mem : ∀ v ∈ vs, ∃ q ∈ L, v = Value.ref q.1 := by
    intro v hv
    obtain ⟨q, hq, e⟩ := List.mem_map.mp (pm.mem_iff.mp hv)
    exact ⟨q, hq, e.symm⟩
  have perm : (vs.map (pairOf L)).Perm L := by
    have z := pm.map (pairOf L)
    rw [List.map_map] at z
    have id' : L.map (pairOf L ∘ fun q => Value.ref q.1) = L := by
      conv => rhs; rw [← List.map_id L]
      exact List.map_congr_left fun q hq => pairOf_ref R.tup hq
    rw [id'] at z
    exact z
  have back : ∀ v ∈ vs, v = Value.ref (pairOf L v).1 := by
    intro v hv
    obtain ⟨q, hq, rfl⟩ := mem v hv
    rw [pairOf_ref R.tup hq]
  have lenv : vs.length = L.length := by rw [pm.length_eq, List.length_map]
  apply wpAny_bind
  refine wpAny_newList ?_ (by rw [sizeLine_eq]; omega)
  have at0 : (s1.heap.push (seqObj "list" vs.toArray 0)).get? s1.heap.objs.size = some (seqObj "list" vs.toArray 0) := Heap.get?_push_size _ rfl
  apply wpAny_bind
  apply wpAny_holding
  refine PySem.W.list_sort_data (s := { s1 with heap := s1.heap.push (seqObj "list" vs.toArray 0) }) (enc := encT) (R := fun v q => v = Value.ref q.1) (bs := vs.map (pairOf L)) at0 (eachMap _ vs back) ?_ ?_ ?_ (by rw [List.length_map, sizeLine_eq]; omega) ?_ ?_
  · refine eachMap _ vs fun v hv => ?_
    obtain ⟨q, hq, rfl⟩ := mem v hv
    rw [pairOf_ref R.tup hq]
    exact ⟨[], readsT (P := P) (w := w) (isT_keep (R.tup q hq) fun b u e => Heap.get?_push_of_some _ (k1 b u e)), by simp⟩
  · refine PySem.W.AllAlike.of fun b b' => ?_
    have z := PySem.W.alike_ints b.2 b'.2
    simpa only [PySem.W.alike] using z
  · refine .inl fun d hd => ?_
    obtain ⟨q, hq, rfl⟩ := List.mem_map.mp hd
    have := hne q (perm.mem_iff.mp hq)
    cases e : q.2 with
    | nil => exact absurd e this
    | cons x r => exact ⟨.int x, r.map .int, by unfold encT; rw [e]; rfl⟩
  · intro b _
    have := depth_tup b.2
    show A.in1.units + 1 + (encT b).depth < cLine
    have : (encT b).depth ≤ 1 := this
    show A.units + 1 + 1 + (encT b).depth < cLine
    omega
  · intro out hlo eo
    rw [dataLe_keys] at eo
    have outs := each_refs eo
    obtain ⟨c, hc⟩ := sortedHeap_at (vs := vs) (out := out.toArray) at0
    apply wpAny_pure
    refine ⟨_, rfl, hQ { s1 with heap := sortedHeap (s1.heap.push (seqObj "list" vs.toArray 0)) s1.heap.objs.size vs out.toArray } s1.heap.objs.size out.toArray c _ (fun b u e => ?_) g1 o1 hz hc outs ((List.mergeSort_perm _ _).trans perm) ?_⟩
    · have q := k1 b u e
      have lt := Heap.lt_size q
      show (sortedHeap (s1.heap.push (seqObj "list" vs.toArray 0)) s1.heap.objs.size vs out.toArray).get? b = some u
      rw [sortedHeap_old (Nat.ne_of_lt lt) (by rw [size_push']; exact Nat.lt_succ_of_lt lt)]
      exact Heap.get?_push_of_some _ q
    · exact List.pairwise_mergeSort (fun a b c => lexLe_trans a.2 b.2 c.2) (fun a b => lexLe_total a.2 b.2) _
end
end BrS
set_option maxRecDepth 100000
set_option maxHeartbeats 3200000
/-! sorted of a tuple. -/
namespace BrS
open PySem PySem.Spec PyProof.Rows L2 PySem.W
section
variable {P : Program} {w : World} {A : Around} {E : Value → Shared → Prop} {s : Shared} {β : Type}
theorem sorted_tupD {l : Addr} {vs : List Value} {bs : List β} {enc : β → PyData} {R : Value → β → Prop} {n : Nat} {o : Obj} {Q : Value → Shared → Prop}
    (ho : s.heap.get? l = some o) (hc : o.cls = .type "tuple") (hd : o.data = .seq vs.toArray n) (e : EachIs R vs bs) (er : EachIs (fun v b => ∃ as, Reads s.heap v (enc b) as) vs bs) (hal : AllAlike (bs.map enc)) (hk : Sortable (bs.map enc)) (hL : bs.length ≤ sizeLine)
    (hu : ∀ b, b ∈ bs → A.units + 2 + (enc b).depth < cLine)
    (hQ : ∀ s' p (out : List Value) (c : Nat), (∀ b u, s.heap.get? b = some u → s'.heap.get? b = some u) → s'.gens = s.gens → s'.os = s.os → s.heap.get? p = none → s'.heap.get? p = some (seqObj "list" out.toArray c) →
      out.length = bs.length → EachIs R out (bs.mergeSort (dataLe false enc)) → Q (.ref p) s') : wpAny (model P w) A (call (.builtin "sorted") [.ref l]) Q E s := by
  have lenv : vs.length ≤ sizeLine := by rw [e.length]; exact hL
  apply Calls.call_function_entry kind_sorted plain_sorted entry_sorted (args_sorted1 _)
  unfold Builtin.«sorted»
  apply wpAny_bind (m := checkCount "sorted" 1 1 _)
  apply wpAny_pure
  apply wpAny_bind
  refine wpAny_collect_seq (A := A.in1) l (.inr rfl) ho hc hd (fun h' k1 => ?_) (by simpa using lenv)
  apply wpAny_bind
  refine wpAny_newList ?_ (by simpa using lenv)
  have at0 : (h'.push (seqObj "list" vs.toArray 0)).get? h'.objs.size = some (seqObj "list" vs.toArray 0) := Heap.get?_push_size _ rfl
  apply wpAny_bind
  apply wpAny_holding
  have old : ∀ b u, s.heap.get? b = some u → (sortingHeap (h'.push (seqObj "list" vs.toArray 0)) h'.objs.size vs).get? b = some u := fun b u q =>
    sortingHeap_old (Nat.ne_of_lt (Heap.lt_size (k1 b u q))) (Heap.get?_push_of_some _ (k1 b u q))
  have er2 : EachIs (fun v b => ∃ as, Reads (sortingHeap (h'.push (seqObj "list" vs.toArray 0)) h'.objs.size vs) v (enc b) as) vs bs :=
    er.mono fun _ _ ⟨as, r⟩ => ⟨as, PyProof.Rows.Reads.keeps old r⟩
  have srt := SortsAt.data (prog := P) (w := w) (A := A.in1.in1) (s := { s with heap := sortingHeap (h'.push (seqObj "list" vs.toArray 0)) h'.objs.size vs })
    (each_map (R := fun v d => ∃ as, Reads (sortingHeap (h'.push (seqObj "list" vs.toArray 0)) h'.objs.size vs) v d as) enc er2) hal hk (bound_map fun b hb => hu b hb)
  refine wpAny_call_entry slot_list_sort ⟨_, at0, rfl⟩ entry_list_sort (list_sort_vals (s := { s with heap := h'.push (seqObj "list" vs.toArray 0) }) at0 srt lenv ⟨.none, rfl, ?_⟩) (args_list_sort _)
  have eo := sortVals_data false e er2 hal
  have lo : (sortVals (dataKind (sortingHeap (h'.push (seqObj "list" vs.toArray 0)) h'.objs.size vs) (bs.map enc)) false vs vs).length = bs.length := by rw [sortVals_length false rfl]; exact e.length
  generalize sortVals (dataKind (sortingHeap (h'.push (seqObj "list" vs.toArray 0)) h'.objs.size vs) (bs.map enc)) false vs vs = out at eo lo
  obtain ⟨c, hc2⟩ := sortedHeap_at (vs := vs) (out := out.toArray) at0
  apply wpAny_pure
  refine ⟨_, rfl, hQ { s with heap := sortedHeap (h'.push (seqObj "list" vs.toArray 0)) h'.objs.size vs out.toArray } h'.objs.size out c (fun b u q => ?_) rfl rfl ?_ hc2 lo eo⟩
  · have lt := Heap.lt_size (k1 b u q)
    show (sortedHeap (h'.push (seqObj "list" vs.toArray 0)) h'.objs.size vs out.toArray).get? b = some u
    rw [sortedHeap_old (Nat.ne_of_lt lt) (by rw [size_push']; exact Nat.lt_succ_of_lt lt)]
    exact Heap.get?_push_of_some _ (k1 b u q)
  · cases q : s.heap.get? h'.objs.size with
    | none => rfl
    | some u => exact absurd (Heap.lt_size (k1 _ u q)) (Nat.lt_irrefl _)
end
end BrS
set_option maxRecDepth 100000
set_option maxHeartbeats 1000000
namespace Br
open PySem L2 Mi

section
variable (P : Program) (w : World) (K : PySem.W.Frag)
mutual
inductive Rep (H : Hp) (φ : List Addr) : AV → V → Prop
  | non : Rep H φ .non .non
  | bl (b : Bool) : Rep H φ (.bl b) (.bl b)
  | int (i : Int) : Rep H φ (.int i) (.int i)
  | str (x : Str) : Rep H φ (.str x) (.str x)
  | tup {a : Addr} {vs : List V} {xs : List AV} : SqT K H a vs → Reps H φ xs vs → Rep H φ (.tup xs) (.ref a)
  | ref {l : Nat} {a : Addr} : φ[l]? = some a → Rep H φ (.ref l) (.ref a)
  | adr (a : Addr) : Rep H φ (.adr a) (.ref a)
  | ty (n : String) : Rep H φ (.ty n) (.ty n)
inductive Reps (H : Hp) (φ : List Addr) : List AV → List V → Prop
  | nil : Reps H φ [] []
  | cons {x : AV} {v : V} {xs : List AV} {vs : List V} : Rep H φ x v → Reps H φ xs vs → Reps H φ (x :: xs) (v :: vs)
end
/-- an object of the store and what stands at its address -/
def RepO (H : Hp) (φ : List Addr) (o : MO) (a : Addr) : Prop := match o with
  | .lst xs => ∃ vs, H a = some (.lst vs) ∧ Reps K H φ xs vs
  | .rol xs => ∃ vs, ((∃ o, H a = some (.frz o (.lst vs))) ∨ SqL K (fun _ => none) a vs) ∧ Reps K H φ xs vs
  | .set xs => (∃ (S : Int → Bool) (n : Nat) (ns : List Int), H a = some (SetO w a S n) ∧ xs = ns.map AV.int ∧ ns.Nodup ∧ n < 64 ∧ ∀ i, S i = decide (i ∈ ns)) ∨
      (∃ (L : List (Addr × List Int)) (kss : List (List Int)), H a = some (SetTO P w a L) ∧ (∀ p ∈ L, SqT K H p.1 (p.2.map V.int)) ∧ xs = kss.map (fun k => AV.tup (k.map AV.int)) ∧ kss.Nodup ∧ ((L.map (·.2)).Perm kss))
  | .dic _ => False
  | .ins _ _ => False
def mutO : MO → Bool
  | .rol _ => false
  | _ => true
structure St0 (H : Hp) (φ : List Addr) (s : Sto) : Prop where
  len : φ.length = s.length
  nd : ∀ (l l' : Nat) (o o' : MO) (a : Addr), s[l]? = some o → s[l']? = some o' → mutO o = true → mutO o' = true → φ[l]? = some a → φ[l']? = some a → l = l'
  ob : ∀ (l : Nat) (o : MO) (a : Addr), s[l]? = some o → φ[l]? = some a → RepO P w K H φ o a
/-- the heap goes on: locations stay, tuples stay -/
structure Ext (H : Hp) (φ : List Addr) (H' : Hp) (φ' : List Addr) : Prop where
  pre : φ <+: φ'
  tup : ∀ a xs, SqT K H a xs → SqT K H' a xs
end
section
variable {P : Program} {w : World} {K : PySem.W.Frag} {H H' H1 H2 : Hp} {φ φ' φ1 φ2 : List Addr}
theorem Ext.refl : Ext K H φ H φ := ⟨List.prefix_refl _, fun _ _ h => h⟩
theorem Ext.trans (a : Ext K H φ H1 φ1) (b : Ext K H1 φ1 H2 φ2) : Ext K H φ H2 φ2 := ⟨a.pre.trans b.pre, fun x y h => b.tup x y (a.tup x y h)⟩
theorem Ext.at (a : Ext K H φ H1 φ1) {l : Nat} {x : Addr} (h : φ[l]? = some x) : φ1[l]? = some x := by
  obtain ⟨r, rfl⟩ := a.pre
  rw [List.getElem?_append_left (List.getElem?_eq_some_iff.mp h).1]; exact h
mutual
theorem Rep.mono (e : Ext K H φ H' φ') : ∀ {x : AV} {v : V}, Rep K H φ x v → Rep K H' φ' x v
  | _, _, .non => .non
  | _, _, .bl b => .bl b
  | _, _, .int i => .int i
  | _, _, .str x => .str x
  | _, _, .tup h r => .tup (e.tup _ _ h) (Reps.mono e r)
  | _, _, .ref h => .ref (e.at h)
  | _, _, .adr a => .adr a
  | _, _, .ty n => .ty n
theorem Reps.mono (e : Ext K H φ H' φ') : ∀ {xs : List AV} {vs : List V}, Reps K H φ xs vs → Reps K H' φ' xs vs
  | _, _, .nil => .nil
  | _, _, .cons r t => .cons (Rep.mono e r) (Reps.mono e t)
end
theorem Reps.length : ∀ {xs : List AV} {vs : List V}, Reps K H φ xs vs → xs.length = vs.length
  | _, _, .nil => rfl
  | _, _, .cons _ t => by rw [List.length_cons, List.length_cons, Reps.length t]
theorem Reps.get : ∀ {xs : List AV} {vs : List V} {i : Nat} {x : AV}, Reps K H φ xs vs → xs[i]? = some x → ∃ v, vs[i]? = some v ∧ Rep K H φ x v
  | _, _, _, _, .nil, h => by simp at h
  | _, _, 0, _, .cons r _, h => by simp at h; subst h; exact ⟨_, rfl, r⟩
  | _, _, i + 1, _, .cons _ t, h => by
    obtain ⟨v, h1, h2⟩ := Reps.get (i := i) t (by simpa using h)
    exact ⟨v, by simpa using h1, h2⟩
theorem Reps.get' : ∀ {xs : List AV} {vs : List V} {i : Nat} {v : V}, Reps K H φ xs vs → vs[i]? = some v → ∃ x, xs[i]? = some x ∧ Rep K H φ x v
  | _, _, _, _, .nil, h => by simp at h
  | _, _, 0, _, .cons r _, h => by simp at h; subst h; exact ⟨_, rfl, r⟩
  | _, _, i + 1, _, .cons _ t, h => by
    obtain ⟨v, h1, h2⟩ := Reps.get' (i := i) t (by simpa using h)
    exact ⟨v, by simpa using h1, h2⟩
theorem Reps.append : ∀ {xs ys : List AV} {vs us : List V}, Reps K H φ xs vs → Reps K H φ ys us → Reps K H φ (xs ++ ys) (vs ++ us)
  | _, _, _, _, .nil, s => s
  | _, _, _, _, .cons r t, s => .cons r (Reps.append t s)
theorem Reps.take : ∀ {xs : List AV} {vs : List V} (n : Nat), Reps K H φ xs vs → Reps K H φ (xs.take n) (vs.take n)
  | _, _, 0, _ => by simp; exact .nil
  | _, _, _ + 1, .nil => .nil
  | _, _, n + 1, .cons r t => .cons r (Reps.take n t)
theorem Reps.drop : ∀ {xs : List AV} {vs : List V} (n : Nat), Reps K H φ xs vs → Reps K H φ (xs.drop n) (vs.drop n)
  | _, _, 0, h => h
  | _, _, _ + 1, .nil => .nil
  | _, _, n + 1, .cons _ t => Reps.drop n t
theorem Reps.set {x : AV} {v : V} (r : Rep K H φ x v) : ∀ {xs : List AV} {vs : List V} (n : Nat), Reps K H φ xs vs → Reps K H φ (xs.set n x) (vs.set n v)
  | _, _, _, .nil => .nil
  | _, _, 0, .cons _ t => .cons r t
  | _, _, n + 1, .cons q t => .cons q (Reps.set r n t)
theorem Reps.eraseIdx : ∀ {xs : List AV} {vs : List V} (n : Nat), Reps K H φ xs vs → Reps K H φ (xs.eraseIdx n) (vs.eraseIdx n)
  | _, _, _, .nil => .nil
  | _, _, 0, .cons _ t => t
  | _, _, n + 1, .cons q t => .cons q (Reps.eraseIdx n t)
theorem Reps.rep {xs : List AV} {vs : List V} (h : Reps K H φ xs vs) : ∀ k : Nat, Reps K H φ (repL xs k) (List.replicate k vs).flatten
  | 0 => .nil
  | k + 1 => by
    unfold repL
    rw [List.replicate_succ, List.replicate_succ, List.flatten_cons, List.flatten_cons]
    exact h.append (Reps.rep h k)
/-! what the heap's changes keep -/
theorem sqT_ne {a b : Addr} {o : HO} {xs : List V} (h : SqT K H b xs) (n : H a = none ∨ ∃ u, H a = some u ∧ ∀ ys, u ≠ .tup ys ∧ ∀ ob, u ≠ .frz ob (.tup ys)) : SqT K (upd H a o) b xs := by
  rcases h with h | h
  · refine .inl ?_
    have ne : b ≠ a := by
      rintro rfl
      rcases h with h | ⟨ob, h⟩
      · rcases n with n | ⟨u, n, q⟩
        · rw [h] at n; cases n
        · rw [h] at n; cases n; exact (q xs).1 rfl
      · rcases n with n | ⟨u, n, q⟩
        · rw [h] at n; cases n
        · rw [h] at n; cases n; exact (q xs).2 ob rfl
    rcases h with h | ⟨ob, h⟩
    · exact .inl (by rw [upd_ne ne]; exact h)
    · exact .inr ⟨ob, by rw [upd_ne ne]; exact h⟩
  · exact .inr h
theorem Ext.new {a : Addr} {o : HO} (n : H a = none) : Ext K H φ (upd H a o) φ := ⟨List.prefix_refl _, fun _ _ h => sqT_ne h (.inl n)⟩
theorem Ext.newRef {a : Addr} {o : HO} (n : H a = none) : Ext K H φ (upd H a o) (φ ++ [a]) := ⟨⟨[a], rfl⟩, fun _ _ h => sqT_ne h (.inl n)⟩
theorem Ext.lst {a : Addr} {o : HO} {vs : List V} (n : H a = some (.lst vs)) : Ext K H φ (upd H a o) φ :=
  ⟨List.prefix_refl _, fun _ _ h => sqT_ne h (.inr ⟨_, n, fun _ => ⟨fun q => (by cases q), fun _ q => (by cases q)⟩⟩)⟩
theorem sqL_upd {a b : Addr} {o : HO} {xs : List V} (h : SqL K H b xs) (ne : b ≠ a) : SqL K (upd H a o) b xs := by
  rcases h with h | h
  · rcases h with h | ⟨ob, h⟩
    · exact .inl (.inl (by rw [upd_ne ne]; exact h))
    · exact .inl (.inr ⟨ob, by rw [upd_ne ne]; exact h⟩)
  · exact .inr h
/-- an object stays where another place changes -/
theorem RepO.keep {o : MO} {a b : Addr} {u : HO} (h : RepO P w K H φ o b) (ne : mutO o = true → b ≠ a) (nf : ∀ ob vs, H a ≠ some (.frz ob (.lst vs))) (e : Ext K H φ (upd H a u) φ') : RepO P w K (upd H a u) φ' o b := by
  cases o with
  | lst xs => obtain ⟨vs, h1, h2⟩ := h; exact ⟨vs, by rw [upd_ne (ne rfl)]; exact h1, h2.mono e⟩
  | rol xs =>
    obtain ⟨vs, h1, h2⟩ := h
    refine ⟨vs, ?_, h2.mono e⟩
    rcases h1 with ⟨ob, h1⟩ | h1
    · have ne' : b ≠ a := by rintro rfl; exact nf ob vs h1
      exact .inl ⟨ob, by rw [upd_ne ne']; exact h1⟩
    · exact .inr h1
  | set xs =>
    rcases h with ⟨S, n, ns, h1, h2⟩ | ⟨L, kss, h1, h2, h3⟩
    · exact .inl ⟨S, n, ns, by rw [upd_ne (ne rfl)]; exact h1, h2⟩
    · exact .inr ⟨L, kss, by rw [upd_ne (ne rfl)]; exact h1, fun p hp => e.tup _ _ (h2 p hp), h3⟩
  | dic _ => exact h.elim
  | ins _ _ => exact h.elim
theorem RepO.keepSame {o : MO} {b : Addr} (h : RepO P w K H φ o b) (e : Ext K H φ H φ') : RepO P w K H φ' o b := by
  cases o with
  | lst xs => obtain ⟨vs, h1, h2⟩ := h; exact ⟨vs, h1, h2.mono e⟩
  | rol xs => obtain ⟨vs, h1, h2⟩ := h; exact ⟨vs, h1, h2.mono e⟩
  | set xs =>
    rcases h with ⟨S, n, ns, h1, h2⟩ | ⟨L, kss, h1, h2, h3⟩
    · exact .inl ⟨S, n, ns, h1, h2⟩
    · exact .inr ⟨L, kss, h1, fun p hp => e.tup _ _ (h2 p hp), h3⟩
  | dic _ => exact h.elim
  | ins _ _ => exact h.elim
theorem RepO.there {o : MO} {a : Addr} (h : RepO P w K H φ o a) (m : mutO o = true) : ∃ u, H a = some u ∧ ∀ ob v, u ≠ .frz ob v := by
  cases o with
  | lst xs => obtain ⟨vs, h1, _⟩ := h; exact ⟨_, h1, fun _ _ q => by cases q⟩
  | rol xs => cases m
  | set xs =>
    rcases h with ⟨S, m, ns, h1, h2⟩ | ⟨L, kss, h1, h2, h3⟩
    · exact ⟨_, h1, fun _ _ q => by cases q⟩
    · exact ⟨_, h1, fun _ _ q => by cases q⟩
  | dic _ => exact h.elim
  | ins _ _ => exact h.elim
/-- a new object that is not of the store (a tuple, say) -/
theorem St0.new {s : Sto} {a : Addr} {o : HO} (st : St0 P w K H φ s) (n : H a = none) : St0 P w K (upd H a o) φ s where
  len := st.len
  nd := st.nd
  ob := fun l u b h1 h2 => (st.ob l u b h1 h2).keep (fun m => by
    obtain ⟨x, hx, _⟩ := (st.ob l u b h1 h2).there m
    rintro rfl; rw [n] at hx; cases hx) (fun _ _ q => by rw [n] at q; cases q) (Ext.new n)
/-- a new object of the store -/
theorem St0.newRef {s : Sto} {a : Addr} {o : HO} {u : MO} (st : St0 P w K H φ s) (n : H a = none) (hu : RepO P w K (upd H a o) (φ ++ [a]) u a) : St0 P w K (upd H a o) (φ ++ [a]) (s ++ [u]) where
  len := by rw [List.length_append, List.length_append, st.len]; rfl
  nd := by
    have key : ∀ (l : Nat) (x : MO) (b : Addr), (s ++ [u])[l]? = some x → mutO x = true → (φ ++ [a])[l]? = some b → (l = s.length ∧ b = a) ∨ (l < s.length ∧ s[l]? = some x ∧ φ[l]? = some b ∧ b ≠ a) := by
      intro l x b h1 hm h2
      by_cases hl : l < s.length
      · refine .inr ⟨hl, ?_⟩
        rw [List.getElem?_append_left hl] at h1
        rw [List.getElem?_append_left (by rw [st.len]; exact hl)] at h2
        refine ⟨h1, h2, ?_⟩
        obtain ⟨y, hy, _⟩ := (st.ob l x b h1 h2).there hm
        rintro rfl; rw [n] at hy; cases hy
      · have : l < (s ++ [u]).length := (List.getElem?_eq_some_iff.mp h1).1
        rw [List.length_append, List.length_singleton] at this
        have e : l = s.length := by omega
        refine .inl ⟨e, ?_⟩
        rw [e, ← st.len, List.getElem?_concat_length] at h2
        exact (Option.some.inj h2).symm
    intro l l' x x' b h1 h1' m m' h2 h2'
    rcases key l x b h1 m h2 with ⟨e, eb⟩ | ⟨e, q1, q2, nb⟩
    · rcases key l' x' b h1' m' h2' with ⟨e', _⟩ | ⟨_, _, _, nb⟩
      · rw [e, e']
      · exact absurd eb nb
    · rcases key l' x' b h1' m' h2' with ⟨_, eb⟩ | ⟨e', q1', q2', _⟩
      · exact absurd eb nb
      · exact st.nd l l' x x' b q1 q1' m m' q2 q2'
  ob := fun l x b h1 h2 => by
    by_cases hl : l < s.length
    · rw [List.getElem?_append_left hl] at h1
      rw [List.getElem?_append_left (by rw [st.len]; exact hl)] at h2
      refine (st.ob l x b h1 h2).keep (fun m => ?_) (fun _ _ q => by rw [n] at q; cases q) (Ext.newRef n)
      obtain ⟨y, hy, _⟩ := (st.ob l x b h1 h2).there m
      rintro rfl; rw [n] at hy; cases hy
    · have : l < (s ++ [u]).length := (List.getElem?_eq_some_iff.mp h1).1
      rw [List.length_append, List.length_singleton] at this
      have e : l = s.length := by omega
      rw [e, List.getElem?_concat_length] at h1
      rw [e, ← st.len, List.getElem?_concat_length] at h2
      cases h1; cases h2
      exact hu
/-- an object of the store is changed -/
theorem St0.set {s : Sto} {l : Nat} {a : Addr} {o : HO} {u x : MO} (st : St0 P w K H φ s) (hx : s[l]? = some x) (hm : mutO x = true) (ha : φ[l]? = some a) (e : Ext K H φ (upd H a o) φ) (hu : RepO P w K (upd H a o) φ u a) :
    St0 P w K (upd H a o) φ (s.set l u) where
  len := by rw [List.length_set]; exact st.len
  nd := by
    have key : ∀ (k : Nat) (y : MO), (s.set l u)[k]? = some y → mutO y = true → ∃ z, s[k]? = some z ∧ mutO z = true := by
      intro k y h m
      by_cases hk : l = k
      · subst hk; exact ⟨x, hx, hm⟩
      · rw [List.getElem?_set_ne hk] at h; exact ⟨y, h, m⟩
    intro k k' y y' b h1 h1' m m' h2 h2'
    obtain ⟨z, hz, mz⟩ := key k y h1 m
    obtain ⟨z', hz', mz'⟩ := key k' y' h1' m'
    exact st.nd k k' z z' b hz hz' mz mz' h2 h2'
  ob := fun k y b h1 h2 => by
    by_cases hk : l = k
    · subst hk
      rw [List.getElem?_set_self (List.getElem?_eq_some_iff.mp hx).1] at h1
      cases h1
      rw [ha] at h2; cases h2
      exact hu
    · rw [List.getElem?_set_ne hk] at h1
      obtain ⟨y0, hy0, nf⟩ := (st.ob l x a hx ha).there hm
      refine (st.ob k y b h1 h2).keep (fun m => ?_) (fun ob vs q => ?_) e
      · rintro rfl
        exact hk (st.nd l k x y b hx h1 hm m ha h2)
      · rw [hy0] at q; cases q; exact nf _ _ rfl
theorem St0.lt {s : Sto} {l : Nat} {o : MO} (st : St0 P w K H φ s) (h : s[l]? = some o) : ∃ a, φ[l]? = some a :=
  ⟨_, List.getElem?_eq_getElem (by rw [st.len]; exact (List.getElem?_eq_some_iff.mp h).1)⟩
/-- a list of the store, at the address of its reference -/
theorem St0.lst {s : Sto} {l : Nat} {a : Addr} {xs : List AV} (st : St0 P w K H φ s) (h : s[l]? = some (.lst xs)) (r : φ[l]? = some a) : ∃ vs, H a = some (.lst vs) ∧ Reps K H φ xs vs := st.ob l _ a h r
theorem St0.seq {s : Sto} {l : Nat} {a : Addr} {xs : List AV} (st : St0 P w K H φ s) (h : seqAt s l = some xs) (r : φ[l]? = some a) : ∃ vs, SqL K H a vs ∧ Reps K H φ xs vs := by
  unfold seqAt at h
  split at h
  · rename_i ys q
    cases h
    obtain ⟨vs, h1, h2⟩ := st.ob l _ a q r
    exact ⟨vs, SqL.of h1, h2⟩
  · rename_i ys q
    cases h
    obtain ⟨vs, h1, h2⟩ := st.ob l _ a q r
    refine ⟨vs, ?_, h2⟩
    rcases h1 with ⟨o, h1⟩ | h1 | h1
    · exact .inl (.inr ⟨o, h1⟩)
    · rcases h1 with h1 | ⟨_, h1⟩ <;> cases h1
    · exact .inr h1
  · cases h
end
end Br
set_option maxRecDepth 100000
set_option maxHeartbeats 1000000
/-! The judgements: a construct refines its mirror. -/
namespace Br
open PySem L2 Mi

section
variable (P : Program) (w : World) (K : PySem.W.Frag)
/-- what a mirror's result promises -/
def Pst {α β : Type} (R : Hp → List Addr → α → β → Prop) (W : WX) (σ : L2.St) (H : Hp) (φ : List Addr) (r : Res α) (Q : β → Hp → Prop) : Prop := match r with
  | .ok v s => ∀ v' H' φ', Ext K H φ H' φ' → St0 P w K H' φ' s → R H' φ' v v' → Q v' H'
  | .err C x s => ∀ d x' H' φ', Ext K H φ H' φ' → St0 P w K H' φ' s → Rep K H' φ' x x' → H' d = some (.xd [("what", x')]) → W (.ref C) (some d) σ H'
  | .bad => False
/-- the slots hold what the mirror's names hold -/
structure RepE (H : Hp) (φ : List Addr) (en : En) (σ : L2.St) : Prop where
  len : en.length = σ.length
  at_ : ∀ (i : Nat) (x : AV), en[i]? = some (some x) → ∃ v, σ[i]? = some (some v) ∧ Rep K H φ x v
def PstS (W : WX) (H : Hp) (φ : List Addr) (r : Fl) (D : Ends) : Prop := match r with
  | .nx en s => ∀ σ' H' φ', Ext K H φ H' φ' → St0 P w K H' φ' s → RepE K H' φ' en σ' → D.nx σ' H'
  | .brk en s => ∀ σ' H' φ', Ext K H φ H' φ' → St0 P w K H' φ' s → RepE K H' φ' en σ' → D.bk σ' H'
  | .cnt en s => ∀ σ' H' φ', Ext K H φ H' φ' → St0 P w K H' φ' s → RepE K H' φ' en σ' → D.ct σ' H'
  | .ret v s => ∀ v' H' φ', Ext K H φ H' φ' → St0 P w K H' φ' s → Rep K H' φ' v v' → D.rt v' H'
  | .err C x en s => ∀ d x' σ' H' φ', Ext K H φ H' φ' → St0 P w K H' φ' s → Rep K H' φ' x x' → RepE K H' φ' en σ' → H' d = some (.xd [("what", x')]) → W (.ref C) (some d) σ' H'
  | .bad => False
/-- .. of a target: it goes on, or nothing is promised -/
def PstG (H : Hp) (φ : List Addr) (r : Fl) (Q : L2.St → Hp → Prop) : Prop := match r with
  | .nx en s => ∀ σ' H' φ', Ext K H φ H' φ' → St0 P w K H' φ' s → RepE K H' φ' en σ' → Q σ' H'
  | _ => False
end
section
variable {P : Program} {w : World} {K : PySem.W.Frag} {H H1 : Hp} {φ φ1 : List Addr} {W : WX} {σ : L2.St}
theorem RepE.mono {en : En} (h : RepE K H φ en σ) (e : Ext K H φ H1 φ1) : RepE K H1 φ1 en σ :=
  ⟨h.len, fun i x q => let ⟨v, h1, h2⟩ := h.at_ i x q; ⟨v, h1, h2.mono e⟩⟩
theorem Pst.mono {α β : Type} {R : Hp → List Addr → α → β → Prop} {r : Res α} {Q : β → Hp → Prop} (h : Pst P w K R W σ H φ r Q) (e : Ext K H φ H1 φ1) : Pst P w K R W σ H1 φ1 r Q := by
  cases r with
  | ok v s => exact fun v' H' φ' x => h v' H' φ' (e.trans x)
  | err C y s => exact fun d x' H' φ' x => h d x' H' φ' (e.trans x)
  | bad => exact h
theorem PstS.mono {r : Fl} {D : Ends} (h : PstS P w K W H φ r D) (e : Ext K H φ H1 φ1) : PstS P w K W H1 φ1 r D := by
  cases r with
  | nx en s => exact fun a b c x => h a b c (e.trans x)
  | brk en s => exact fun a b c x => h a b c (e.trans x)
  | cnt en s => exact fun a b c x => h a b c (e.trans x)
  | ret v s => exact fun a b c x => h a b c (e.trans x)
  | err C y en s => exact fun a b c d f x => h a b c d f (e.trans x)
  | bad => exact h
theorem PstG.mono {r : Fl} {Q : L2.St → Hp → Prop} (h : PstG P w K H φ r Q) (e : Ext K H φ H1 φ1) : PstG P w K H1 φ1 r Q := by
  cases r with
  | nx en s => exact fun a b c x => h a b c (e.trans x)
  | _ => exact h
/-- in a row -/
theorem Pst.bind_of {α α' β β' : Type} {R : Hp → List Addr → α → β → Prop} {R2 : Hp → List Addr → α' → β' → Prop} {r : Res α} {f : α → Sto → Res α'} {Q : β' → Hp → Prop} {Q' : β → Hp → Prop}
    (h : Pst P w K R2 W σ H φ (r.bind f) Q)
    (k : ∀ v s v' H1 φ1, Ext K H φ H1 φ1 → St0 P w K H1 φ1 s → R H1 φ1 v v' → Pst P w K R2 W σ H1 φ1 (f v s) Q → Q' v' H1) : Pst P w K R W σ H φ r Q' := by
  cases r with
  | ok v s => exact fun v' H' φ' x st rv => k v s v' H' φ' x st rv (Pst.mono h x)
  | err C y s => exact h
  | bad => exact h
theorem PstS.fl_of {β : Type} {R : Hp → List Addr → AV → β → Prop} {r : Res AV} {en : En} {f : AV → Sto → Fl} {D : Ends} {Q' : β → Hp → Prop}
    (h : PstS P w K W H φ (r.fl en f) D) (re : RepE K H φ en σ)
    (k : ∀ v s v' H1 φ1, Ext K H φ H1 φ1 → St0 P w K H1 φ1 s → R H1 φ1 v v' → PstS P w K W H1 φ1 (f v s) D → Q' v' H1) : Pst P w K R W σ H φ r Q' := by
  cases r with
  | ok v s => exact fun v' H' φ' x st rv => k v s v' H' φ' x st rv (PstS.mono h x)
  | err C y s => exact fun d x' H' φ' x st rx hd => h d x' σ H' φ' x st rx (re.mono x) hd
  | bad => exact h
theorem PstS.flT_of {β : Type} {R : Hp → List Addr → Bool → β → Prop} {r : Res Bool} {en : En} {f : Bool → Sto → Fl} {D : Ends} {Q' : β → Hp → Prop}
    (h : PstS P w K W H φ (r.flT en f) D) (re : RepE K H φ en σ)
    (k : ∀ v s v' H1 φ1, Ext K H φ H1 φ1 → St0 P w K H1 φ1 s → R H1 φ1 v v' → PstS P w K W H1 φ1 (f v s) D → Q' v' H1) : Pst P w K R W σ H φ r Q' := by
  cases r with
  | ok v s => exact fun v' H' φ' x st rv => k v s v' H' φ' x st rv (PstS.mono h x)
  | err C y s => exact fun d x' H' φ' x st rx hd => h d x' σ H' φ' x st rx (re.mono x) hd
  | bad => exact h
theorem RepE.set {en : En} (h : RepE K H φ en σ) {x : AV} {v : V} (r : Rep K H φ x v) (i : Nat) : RepE K H φ (en.set i (some x)) (σ.set i (some v)) where
  len := by rw [List.length_set, List.length_set]; exact h.len
  at_ := fun j y q => by
    by_cases e : i = j
    · subst e
      have hl : i < (en.set i (some x)).length := (List.getElem?_eq_some_iff.mp q).1
      rw [List.length_set] at hl
      rw [List.getElem?_set_self hl] at q
      cases q
      exact ⟨v, by rw [List.getElem?_set_self (by rw [← h.len]; exact hl)], r⟩
    · rw [List.getElem?_set_ne e] at q
      obtain ⟨u, h1, h2⟩ := h.at_ j y q
      exact ⟨u, by rw [List.getElem?_set_ne e]; exact h1, h2⟩
theorem RepE.wipe {en : En} : ∀ (own : List Nat), RepE K H φ en σ → RepE K H φ (Mi.wipe en own) (L2.wipe σ own)
  | [], h => h
  | i :: r, h => by
    have ih := RepE.wipe r h
    refine ⟨by show (List.set _ i none).length = (List.set _ i none).length; rw [List.length_set, List.length_set]; exact ih.len, fun j y q => ?_⟩
    have q' : ((Mi.wipe en r).set i none)[j]? = some (some y) := q
    by_cases e : i = j
    · subst e
      by_cases hl : i < (Mi.wipe en r).length
      · rw [List.getElem?_set_self hl] at q'; cases q'
      · rw [List.getElem?_eq_none (by simpa using hl)] at q'; cases q'
    · rw [List.getElem?_set_ne e] at q'
      obtain ⟨u, h1, h2⟩ := ih.at_ j y q'
      exact ⟨u, by show ((L2.wipe σ r).set i none)[j]? = _; rw [List.getElem?_set_ne e]; exact h1, h2⟩
end
abbrev eqB : Hp → List Addr → Bool → Bool → Prop := fun _ _ a b => a = b
/-- contexts in which a construct is read alike: a def's body; a comprehension's block wherever it is made -/
structure Fam where
  ι : Type
  X : ι → Cx
  P : Program
  w : World
  K : PySem.W.Frag
  mg : Str → Option Value
  base : Heap
  hP : ∀ i, (X i).prog = P
  hw : ∀ i, (X i).w = w
  hK : ∀ i, (X i).K = K
  hmg : ∀ i, (X i).mg = mg
  hbase : ∀ i, (X i).base = base
def Fam.one (X : Cx) : Fam := ⟨Unit, fun _ => X, X.prog, X.w, X.K, X.mg, X.base, fun _ => rfl, fun _ => rfl, fun _ => rfl, fun _ => rfl, fun _ => rfl⟩
def Fam.blk (F : Fam) (scope : Scope) : Fam where
  ι := F.ι × Shared × Hp × Addr × List (Str × Addr) × List Addr
  X := fun p => (F.X p.1).blk p.2.1 p.2.2.1 scope (compEnvC scope p.2.2.2.2.1 p.2.2.2.1 (F.X p.1).env) p.2.2.2.2.2
  P := F.P
  w := F.w
  K := F.K
  mg := F.mg
  base := F.base
  hP := fun p => F.hP p.1
  hw := fun p => F.hw p.1
  hK := fun p => F.hK p.1
  hmg := fun p => F.hmg p.1
  hbase := fun p => F.hbase p.1
section
variable (F : Fam) (W : WX)
def RE (e : Expr) (m : ME) : Prop := ∃ t : TE, (∀ i, PE (F.X i) e t) ∧ ∀ en s σ H φ Q, RepE F.K H φ en σ → St0 F.P F.w F.K H φ s → Pst F.P F.w F.K (Rep F.K) W σ H φ (m en s) Q → t σ H Q
def RT (e : Expr) (m : MT) : Prop := ∃ t : TT, (∀ i, PT (F.X i) e t) ∧ ∀ en s σ H φ Q, RepE F.K H φ en σ → St0 F.P F.w F.K H φ s → Pst F.P F.w F.K eqB W σ H φ (m en s) Q → t σ H Q
def RW (e : Expr) (m : MT) : Prop := ∃ t : TT, (∀ i, PW (F.X i) e t) ∧ ∀ en s σ H φ Q, RepE F.K H φ en σ → St0 F.P F.w F.K H φ s → Pst F.P F.w F.K eqB W σ H φ (m en s) Q → t σ H Q
def RA (es : List Expr) (m : MA) : Prop := ∃ t : TA, (∀ i, PA (F.X i) es t) ∧ ∀ en s σ H φ Q, RepE F.K H φ en σ → St0 F.P F.w F.K H φ s → Pst F.P F.w F.K (Reps F.K) W σ H φ (m en s) Q → t σ H Q
def RS (st : Stmt) (m : MS) : Prop := ∃ t : TS, (∀ i, PS (F.X i) st t) ∧ ∀ en s σ H φ D, RepE F.K H φ en σ → St0 F.P F.w F.K H φ s → PstS F.P F.w F.K W H φ (m en s) D → t D σ H
def RSs (st : List Stmt) (m : MS) : Prop := ∃ t : TS, (∀ i, PSs (F.X i) st t) ∧ ∀ en s σ H φ D, RepE F.K H φ en σ → St0 F.P F.w F.K H φ s → PstS F.P F.w F.K W H φ (m en s) D → t D σ H
def RG (tg : Expr) (m : MG) : Prop := ∃ t : TG, (∀ i, PG (F.X i) tg t) ∧ ∀ v v' en s σ H φ Q, RepE F.K H φ en σ → St0 F.P F.w F.K H φ s → Rep F.K H φ v v' → PstG F.P F.w F.K H φ (m v en s) Q → t v' σ H Q
/-- how an iterator of the layer walks an It -/
def RepI (H0 : Hp) (φ0 : List Addr) (j : Mi.It) (J : L2.It) : Prop := match j with
  | .lst l => ∃ a, φ0[l]? = some a ∧ J = Itl F.K a
  | .fix xs => ∀ (i : Nat) (H : Hp) (φ : List Addr), Ext F.K H0 φ0 H φ →
      (∀ x, xs[i]? = some x → J.go i H ∧ ∀ v' H', J.yld i H v' H' → Ext F.K H φ H' φ ∧ (∀ s, St0 F.P F.w F.K H φ s → St0 F.P F.w F.K H' φ s) ∧ Rep F.K H' φ x v') ∧
      (xs[i]? = none → J.stop i H)
def RI (tg iter : Expr) (m : MI) : Prop := ∃ t : TI, (∀ i, PI (F.X i) tg iter t) ∧ ∀ en s σ H φ (Q : L2.It → Hp → Prop), RepE F.K H φ en σ → St0 F.P F.w F.K H φ s →
  Pst F.P F.w F.K (RepI F) W σ H φ (m en s) Q → t σ H Q
end
/-! ### names, constants, operators -/
section
variable {F : Fam} {W : WX} {a b c e : Expr} {es : List Expr} {ma mb mc : ME} {pos : Pos}
theorem re_var (i : Nat) {x : Str} (hN : ∀ k, (F.X k).N[i]? = some x) (hv : ∀ k, Vis (F.X k).env.scope x) (hd : (x == ("__debug__" : Str)) = false := by decide) (hcd : (x == ("__classdict__" : Str)) = false := by decide) : RE F W (.Name x pos) (E.var i) := by
  refine ⟨tVar i, fun k => pe_var (hN k) (hv k) hd hcd, fun en s σ H φ Q re st h => ?_⟩
  unfold E.var at h
  split at h
  · rename_i v q
    obtain ⟨u, h1, h2⟩ := re.at_ i v q
    exact ⟨u, h1, h u H φ .refl st h2⟩
  · exact h.elim
theorem re_c {v : AV} {v' : V} (h : ∀ i, PE (F.X i) e (tC v')) (r : ∀ H φ, Rep F.K H φ v v') : RE F W e (E.c v) :=
  ⟨_, h, fun _ _ _ H φ _ _ st q => q v' H φ .refl st (r H φ)⟩
theorem re_int {i : Int} {j} : RE F W (.Constant (.int i) j pos) (E.c (.int i)) := re_c (fun _ => pe_int) fun _ _ => .int i
theorem re_bl {k : Bool} {j} : RE F W (.Constant (.bool k) j pos) (E.c (.bl k)) := re_c (fun _ => pe_bl) fun _ _ => .bl k
theorem re_non {j} : RE F W (.Constant .none j pos) (E.c .non) := re_c (fun _ => pe_non) fun _ _ => .non
theorem re_str {x : Str} {j} : RE F W (.Constant (.str x) j pos) (E.c (.str x)) := re_c (fun _ => pe_str) fun _ _ => .str x
theorem re_glob {x : Str} {v : AV} {v' : V} {u : Value} (hg : ∀ i, Gl (F.X i) x) (hm : F.mg x = some u) (r : RelV v' u) (rr : ∀ H φ, Rep F.K H φ v v') (hd : (x == ("__debug__" : Str)) = false := by decide) : RE F W (.Name x pos) (E.c v) :=
  re_c (fun i => pe_glob (hg i) (by rw [F.hmg i]; exact hm) r hd) rr
theorem re_bltn {x : Str} {n : String} (hg : ∀ i, Gl (F.X i) x) (hm : F.mg x = none) (hv : bootBuiltins x = some (.type n)) (hn : x ≠ "__name__" := by decide) (hd : (x == ("__debug__" : Str)) = false := by decide) : RE F W (.Name x pos) (E.c (.ty n)) :=
  re_c (v' := .ty n) (fun i => pe_bltn (hg i) (by rw [F.hmg i]; exact hm) hv (show RelV (.ty n) (.type n) from rfl) hn hd) fun _ _ => .ty n
/-- an operator by values refines a mirror -/
def OpM (F : Fam) (W : WX) (f : Value → Value → Sem Value) (g : O2) : Prop := ∃ r : R2, (∀ i, OpR (F.X i) f r) ∧ ∀ x y x' y' s σ H φ Q, St0 F.P F.w F.K H φ s → Rep F.K H φ x x' → Rep F.K H φ y y' → Pst F.P F.w F.K (Rep F.K) W σ H φ (g x y s) Q → r x' y' H Q
theorem two {f : O2} {r : R2} {ta tb : TE}
    (ha : ∀ en s σ H φ Q, RepE F.K H φ en σ → St0 F.P F.w F.K H φ s → Pst F.P F.w F.K (Rep F.K) W σ H φ (ma en s) Q → ta σ H Q)
    (hb : ∀ en s σ H φ Q, RepE F.K H φ en σ → St0 F.P F.w F.K H φ s → Pst F.P F.w F.K (Rep F.K) W σ H φ (mb en s) Q → tb σ H Q)
    (ho : ∀ x y x' y' s σ H φ Q, St0 F.P F.w F.K H φ s → Rep F.K H φ x x' → Rep F.K H φ y y' → Pst F.P F.w F.K (Rep F.K) W σ H φ (f x y s) Q → r x' y' H Q) :
    ∀ en s σ H φ Q, RepE F.K H φ en σ → St0 F.P F.w F.K H φ s → Pst F.P F.w F.K (Rep F.K) W σ H φ (E.op f ma mb en s) Q → tOp r ta tb σ H Q := fun en s σ H φ Q re st h => by
  refine ha en s σ H φ _ re st (h.bind_of fun v s1 v' H1 φ1 x1 st1 r1 h1 => ?_)
  refine hb en s1 σ H1 φ1 _ (re.mono x1) st1 (h1.bind_of fun u s2 u' H2 φ2 x2 st2 r2 h2 => ?_)
  exact ho v u v' u' s2 σ H2 φ2 Q st2 (r1.mono x2) r2 h2
theorem re_op {op : Operator} {g : O2} (ho : OpM F W (binaryOp op) g) (ha : RE F W a ma) (hb : RE F W b mb) : RE F W (.BinOp a op b pos) (E.op g ma mb) := by
  obtain ⟨r, h1, h2⟩ := ho
  obtain ⟨ta, ha1, ha2⟩ := ha
  obtain ⟨tb, hb1, hb2⟩ := hb
  exact ⟨_, fun i => pe_op (h1 i) (ha1 i) (hb1 i), two ha2 hb2 h2⟩
theorem re_cmp {op : CmpOp} {g : O2} (ho : OpM F W (compareOp op) g) (ha : RE F W a ma) (hb : RE F W b mb) (hm : behindInMarks op b = false) : RE F W (.Compare a [op] [b] pos) (E.op g ma mb) := by
  obtain ⟨r, h1, h2⟩ := ho
  obtain ⟨ta, ha1, ha2⟩ := ha
  obtain ⟨tb, hb1, hb2⟩ := hb
  exact ⟨_, fun i => pe_cmpR (h1 i) (ha1 i) (hb1 i) hm, two ha2 hb2 h2⟩
theorem rt_cmp {op : CmpOp} {g : O2} (ho : OpM F W (compareOp op) g) (ha : RE F W a ma) (hb : RE F W b mb) (hm : behindInMarks op b = false) : RT F W (.Compare a [op] [b] pos) (T.val (E.op g ma mb)) := by
  obtain ⟨r, h1, h2⟩ := ho
  obtain ⟨ta, ha1, ha2⟩ := ha
  obtain ⟨tb, hb1, hb2⟩ := hb
  refine ⟨_, fun i => pt_cmpR (h1 i) (ha1 i) (hb1 i) hm, fun en s σ H φ Q re st h => ?_⟩
  refine two ha2 hb2 h2 en s σ H φ _ re st (h.bind_of fun v s1 v' H1 φ1 x1 st1 r1 q => ?_)
  cases r1 with
  | bl k => exact ⟨k, rfl, q k H1 φ1 .refl st1 rfl⟩
  | _ => exact q.elim
/-- any expression that is no test of its own, by its truth -/
theorem rt_tru (ha : RE F W a ma) (he : ∀ i whole, isTrue a (F.X i).env whole = (do let v ← whole; standAt a.pos; holding [v] (truthy v)) := by intro _ _; rfl) : RT F W a (T.tru ma) := by
  obtain ⟨ta, ha1, ha2⟩ := ha
  refine ⟨fun σ H Q => ta σ H fun x H' => ∃ k, TruV F.K x H' k ∧ Q k H', fun i => by have q := pt_truth (ha1 i) (he i); rw [F.hK i] at q; exact q, fun en s σ H φ Q re st h => ?_⟩
  refine ha2 en s σ H φ _ re st (h.bind_of fun v s1 v' H1 φ1 x1 st1 r1 q => ?_)
  cases r1 with
  | non => exact ⟨false, rfl, q _ H1 φ1 .refl st1 rfl⟩
  | bl k => exact ⟨k, rfl, q _ H1 φ1 .refl st1 rfl⟩
  | int i => exact ⟨_, rfl, q _ H1 φ1 .refl st1 rfl⟩
  | str x =>
    unfold truth at q
    dsimp only at q
    split at q
    · rename_i hz
      exact ⟨_, ⟨by rw [sizeLine_eq]; exact hz, rfl⟩, q _ H1 φ1 .refl st1 rfl⟩
    · exact q.elim
  | tup hs hr =>
    rename_i a vs xs
    refine ⟨!vs.isEmpty, .inr (.inl ⟨vs, hs, rfl⟩), q _ H1 φ1 .refl st1 ?_⟩
    have := hr.length
    cases xs <;> cases vs <;> first | rfl | simp at this
  | ref hl =>
    rename_i l a
    unfold truth at q
    dsimp only at q
    split at q
    · rename_i xs hx
      obtain ⟨vs, h1, h2⟩ := st1.seq hx hl
      refine ⟨!vs.isEmpty, .inl ⟨vs, h1, rfl⟩, q _ H1 φ1 .refl st1 ?_⟩
      have := h2.length
      cases xs <;> cases vs <;> first | rfl | simp at this
    · exact q.elim
  | adr _ => exact q.elim
  | ty _ => exact q.elim
/-! and, or, not; the conditional expression -/
variable {rest : List Expr} {ta tb : MT}
theorem re_one {op} (h : RE F W a ma) : RE F W (.BoolOp op [a] pos) ma := by
  obtain ⟨t, h1, h2⟩ := h
  exact ⟨t, fun i => pe_one (h1 i), h2⟩
theorem re_and (ha : RE F W a ma) (hb : RE F W (.BoolOp .And (b :: rest) pos) mb) : RE F W (.BoolOp .And (a :: b :: rest) pos) (E.and ma mb) := by
  obtain ⟨t, h1, h2⟩ := ha
  obtain ⟨u, g1, g2⟩ := hb
  refine ⟨_, fun i => pe_and (h1 i) (g1 i), fun en s σ H φ Q re st h => ?_⟩
  refine h2 en s σ H φ _ re st (h.bind_of fun v s1 v' H1 φ1 x1 st1 r1 q => ?_)
  cases r1 with
  | bl k =>
    cases k with
    | true => exact ⟨true, rfl, iteT (g2 en s1 σ H1 φ1 Q (re.mono x1) st1 q)⟩
    | false => exact ⟨false, rfl, iteF (q _ H1 φ1 .refl st1 (.bl _))⟩
  | _ => exact q.elim
theorem re_or (ha : RE F W a ma) (hb : RE F W (.BoolOp .Or (b :: rest) pos) mb) : RE F W (.BoolOp .Or (a :: b :: rest) pos) (E.or ma mb) := by
  obtain ⟨t, h1, h2⟩ := ha
  obtain ⟨u, g1, g2⟩ := hb
  refine ⟨_, fun i => pe_or (h1 i) (g1 i), fun en s σ H φ Q re st h => ?_⟩
  refine h2 en s σ H φ _ re st (h.bind_of fun v s1 v' H1 φ1 x1 st1 r1 q => ?_)
  cases r1 with
  | bl k =>
    cases k with
    | false => exact ⟨false, rfl, iteF (g2 en s1 σ H1 φ1 Q (re.mono x1) st1 q)⟩
    | true => exact ⟨true, rfl, iteT (q _ H1 φ1 .refl st1 (.bl _))⟩
  | _ => exact q.elim
theorem re_not (ha : RE F W a ma) : RE F W (.UnaryOp .Not a pos) (E.not ma) := by
  obtain ⟨t, h1, h2⟩ := ha
  refine ⟨_, fun i => pe_not (h1 i), fun en s σ H φ Q re st h => ?_⟩
  refine h2 en s σ H φ _ re st (h.bind_of fun v s1 v' H1 φ1 x1 st1 r1 q => ?_)
  cases r1 with
  | bl k => exact ⟨k, rfl, q _ H1 φ1 .refl st1 (.bl _)⟩
  | _ => exact q.elim
theorem RW.rt (h : RW F W a ta) : RT F W a ta := by
  obtain ⟨t, h1, h2⟩ := h
  exact ⟨t, fun i => (h1 i).pt, h2⟩
theorem rw_and1 (ha : RT F W a ta) : RW F W (.BoolOp .And [a] pos) ta := by
  obtain ⟨t, h1, h2⟩ := ha
  exact ⟨t, fun i => pw_and1 (h1 i), h2⟩
theorem rw_or1 (ha : RT F W a ta) : RW F W (.BoolOp .Or [a] pos) ta := by
  obtain ⟨t, h1, h2⟩ := ha
  exact ⟨t, fun i => pw_or1 (h1 i), h2⟩
theorem rw_and (ha : RT F W a ta) (hb : RW F W (.BoolOp .And (b :: rest) pos) tb) : RW F W (.BoolOp .And (a :: b :: rest) pos) (T.and ta tb) := by
  obtain ⟨t, h1, h2⟩ := ha
  obtain ⟨u, g1, g2⟩ := hb
  refine ⟨_, fun i => pw_and (h1 i) (g1 i), fun en s σ H φ Q re st h => ?_⟩
  refine h2 en s σ H φ _ re st (h.bind_of fun v s1 v' H1 φ1 x1 st1 r1 q => ?_)
  cases r1
  cases v with
  | true => exact iteT (g2 en s1 σ H1 φ1 Q (re.mono x1) st1 q)
  | false => exact iteF (q _ H1 φ1 .refl st1 rfl)
theorem rw_or (ha : RT F W a ta) (hb : RW F W (.BoolOp .Or (b :: rest) pos) tb) : RW F W (.BoolOp .Or (a :: b :: rest) pos) (T.or ta tb) := by
  obtain ⟨t, h1, h2⟩ := ha
  obtain ⟨u, g1, g2⟩ := hb
  refine ⟨_, fun i => pw_or (h1 i) (g1 i), fun en s σ H φ Q re st h => ?_⟩
  refine h2 en s σ H φ _ re st (h.bind_of fun v s1 v' H1 φ1 x1 st1 r1 q => ?_)
  cases r1
  cases v with
  | false => exact iteF (g2 en s1 σ H1 φ1 Q (re.mono x1) st1 q)
  | true => exact iteT (q _ H1 φ1 .refl st1 rfl)
theorem rt_not (ha : RT F W a ta) : RT F W (.UnaryOp .Not a pos) (T.not ta) := by
  obtain ⟨t, h1, h2⟩ := ha
  refine ⟨_, fun i => pt_not (h1 i), fun en s σ H φ Q re st h => ?_⟩
  refine h2 en s σ H φ _ re st (h.bind_of fun v s1 v' H1 φ1 x1 st1 r1 q => ?_)
  cases r1
  exact q _ H1 φ1 .refl st1 rfl
theorem re_ite (hc : RT F W c ta) (ha : RE F W a ma) (hb : RE F W b mb) : RE F W (.IfExp c a b pos) (E.ite ta ma mb) := by
  obtain ⟨t, h1, h2⟩ := hc
  obtain ⟨u, g1, g2⟩ := ha
  obtain ⟨z, k1, k2⟩ := hb
  refine ⟨_, fun i => pe_ifExp (h1 i) (g1 i) (k1 i), fun en s σ H φ Q re st h => ?_⟩
  refine h2 en s σ H φ _ re st (h.bind_of fun v s1 v' H1 φ1 x1 st1 r1 q => ?_)
  cases r1
  cases v with
  | true => exact iteT (g2 en s1 σ H1 φ1 Q (re.mono x1) st1 q)
  | false => exact iteF (k2 en s1 σ H1 φ1 Q (re.mono x1) st1 q)
theorem re_chain {op op' : CmpOp} {f g : O2} (ho : OpM F W (compareOp op) f) (ho' : OpM F W (compareOp op') g) (ha : RE F W a ma) (hb : RE F W b mb) (hc : RE F W c mc) (hm : lastMarks [op, op'] [b, c] = false := by rfl) :
    RE F W (.Compare a [op, op'] [b, c] pos) (E.chain f g ma mb mc) := by
  obtain ⟨r, o1, o2⟩ := ho
  obtain ⟨r', p1, p2⟩ := ho'
  obtain ⟨t, h1, h2⟩ := ha
  obtain ⟨u, g1, g2⟩ := hb
  obtain ⟨z, k1, k2⟩ := hc
  refine ⟨_, fun i => pe_chain (o1 i) (p1 i) (h1 i) (g1 i) (k1 i) hm, fun en s σ H φ Q re st h => ?_⟩
  refine h2 en s σ H φ _ re st (h.bind_of fun v s1 v' H1 φ1 x1 st1 r1 h => ?_)
  refine g2 en s1 σ H1 φ1 _ (re.mono x1) st1 (h.bind_of fun v2 s2 v2' H2 φ2 x2 st2 r2 h => ?_)
  refine o2 v v2 v' v2' s2 σ H2 φ2 _ st2 (r1.mono x2) r2 (h.bind_of fun v3 s3 v3' H3 φ3 x3 st3 r3 h => ?_)
  cases r3 with
  | bl k =>
    refine ⟨k, rfl, ?_⟩
    cases k with
    | true =>
      refine iteT (k2 en s3 σ H3 φ3 _ (((re.mono x1).mono x2).mono x3) st3 (h.bind_of fun v4 s4 v4' H4 φ4 x4 st4 r4 h => ?_))
      exact p2 v2 v4 v2' v4' s4 σ H4 φ4 Q st4 ((r2.mono x3).mono x4) r4 h
    | false => exact iteF (h _ H3 φ3 .refl st3 (.bl _))
  | _ => exact h.elim
/-! displays -/
theorem ra_nil : RA F W [] E.nil := ⟨_, fun _ => pa_nil, fun _ _ _ H φ _ _ st q => q [] H φ .refl st .nil⟩
variable {mr : MA}
theorem ra_cons (ha : RE F W a ma) (hr : RA F W es mr) (hs : ∀ i, starEach (a :: es) (F.X i).env = (false, eval a (F.X i).env) :: starEach es (F.X i).env := by intro _; rfl) : RA F W (a :: es) (E.cons ma mr) := by
  obtain ⟨t, h1, h2⟩ := ha
  obtain ⟨u, g1, g2⟩ := hr
  refine ⟨_, fun i => pa_cons (h1 i) (g1 i) (hs i), fun en s σ H φ Q re st h => ?_⟩
  refine h2 en s σ H φ _ re st (h.bind_of fun v s1 v' H1 φ1 x1 st1 r1 h => ?_)
  refine g2 en s1 σ H1 φ1 _ (re.mono x1) st1 (h.bind_of fun v2 s2 v2' H2 φ2 x2 st2 r2 h => ?_)
  exact h _ H2 φ2 .refl st2 (.cons (r1.mono x2) r2)
theorem line_eq : lineZ = sizeLine := sizeLine_eq.symm
theorem re_tup {k1} (ha : RA F W es mr) : RE F W (.Tuple es k1 pos) (E.tup mr) := by
  obtain ⟨t, h1, h2⟩ := ha
  refine ⟨_, fun i => pe_tup (h1 i), fun en s σ H φ Q re st h => ?_⟩
  refine h2 en s σ H φ _ re st (h.bind_of fun v s1 v' H1 φ1 x1 st1 r1 h => ?_)
  split at h
  · rename_i hz
    refine ⟨by rw [← r1.length, ← line_eq]; exact hz, fun p np => ?_⟩
    exact h _ _ φ1 (.new np) (st1.new np) (.tup (SqT.of upd_same) (r1.mono (.new np)))
  · exact h.elim
theorem re_lst (ha : RA F W es mr) : RE F W (.List es pos) (E.lst mr) := by
  obtain ⟨t, h1, h2⟩ := ha
  refine ⟨_, fun i => pe_lst (h1 i), fun en s σ H φ Q re st h => ?_⟩
  refine h2 en s σ H φ _ re st (h.bind_of fun v s1 v' H1 φ1 x1 st1 r1 h => ?_)
  unfold newLst at h
  split at h
  · rename_i hz
    refine ⟨by rw [← r1.length, ← line_eq]; exact hz, fun p np => ?_⟩
    exact h _ _ (φ1 ++ [p]) (.newRef np) (st1.newRef np ⟨v', upd_same, r1.mono (.newRef np)⟩) (.ref (by rw [← st1.len]; exact List.getElem?_concat_length))
  · exact h.elim
end
end Br
set_option maxRecDepth 100000
set_option maxHeartbeats 1000000
/-! Statements, targets, loops, comprehensions. -/
namespace Br
open PySem L2 Mi

section
variable {F : Fam} {W : WX} {a b c e : Expr} {es : List Expr} {ma mb mc : ME} {pos : Pos} {st : Stmt} {rest : List Stmt} {m m' : MS} {g : MG}
theorem PstS.next_of {P : Program} {w : World} {K : PySem.W.Frag} {H : Hp} {φ : List Addr} {r : Fl} {f : En → Sto → Fl} {D D' : Ends} (h : PstS P w K W H φ (r.next f) D)
    (hr : D'.rt = D.rt) (hb : D'.bk = D.bk) (hc : D'.ct = D.ct)
    (k : ∀ en s σ H1 φ1, Ext K H φ H1 φ1 → St0 P w K H1 φ1 s → RepE K H1 φ1 en σ → PstS P w K W H1 φ1 (f en s) D → D'.nx σ H1) : PstS P w K W H φ r D' := by
  cases r with
  | nx en s => exact fun σ' H' φ' x st re => k en s σ' H' φ' x st re (PstS.mono h x)
  | ret v s => show ∀ _ _ _, _; rw [hr]; exact h
  | brk en s => show ∀ _ _ _, _; rw [hb]; exact h
  | cnt en s => show ∀ _ _ _, _; rw [hc]; exact h
  | err C y en s => exact h
  | bad => exact h
theorem rss_nil : RSs F W [] S.skip := ⟨_, fun _ => pss_nil, fun en s σ H φ D re st h => h σ H φ .refl st re⟩
theorem rss_cons (h1 : RS F W st m) (h2 : RSs F W rest m') : RSs F W (st :: rest) (S.seq m m') := by
  obtain ⟨t, a1, a2⟩ := h1
  obtain ⟨u, b1, b2⟩ := h2
  refine ⟨_, fun i => pss_cons (a1 i) (b1 i), fun en s σ H φ D re st h => ?_⟩
  exact a2 en s σ H φ _ re st (h.next_of rfl rfl rfl fun en1 s1 σ1 H1 φ1 x1 st1 re1 q => b2 en1 s1 σ1 H1 φ1 D re1 st1 q)
theorem rss_one (h1 : RS F W st m) : RSs F W [st] m := by
  obtain ⟨t, a1, a2⟩ := h1
  exact ⟨_, fun i => pss_one (a1 i), a2⟩
theorem rs_pass : RS F W (.Pass pos) S.skip := ⟨_, fun _ => ps_pass, fun en s σ H φ D re st h => h σ H φ .refl st re⟩
theorem rs_break : RS F W (.Break pos) S.brk := ⟨_, fun _ => ps_break, fun en s σ H φ D re st h => h σ H φ .refl st re⟩
theorem rs_continue : RS F W (.Continue pos) S.cnt := ⟨_, fun _ => ps_continue, fun en s σ H φ D re st h => h σ H φ .refl st re⟩
theorem rs_never : RS F W st S.never := ⟨_, fun _ => ps_never, fun _ _ _ _ _ _ _ _ h => h.elim⟩
theorem rss_never : RSs F W rest S.never := ⟨_, fun _ => pss_never, fun _ _ _ _ _ _ _ _ h => h.elim⟩
theorem rs_expr (he : RE F W e ma) (hs : ∀ i, swapsWith e none pos.line (F.X i).env = pure false := by intro _; rfl) : RS F W (.Expr e pos) (S.expr ma) := by
  obtain ⟨t, h1, h2⟩ := he
  refine ⟨_, fun i => ps_expr (h1 i) (hs i), fun en s σ H φ D re st h => ?_⟩
  exact h2 en s σ H φ _ re st (h.fl_of re fun v s1 v' H1 φ1 x1 st1 r1 q => q σ H1 φ1 .refl st1 (re.mono x1))
theorem rs_ret (he : RE F W e ma) : RS F W (.Return (some e) pos) (S.ret ma) := by
  obtain ⟨t, h1, h2⟩ := he
  refine ⟨_, fun i => ps_ret (h1 i), fun en s σ H φ D re st h => ?_⟩
  exact h2 en s σ H φ _ re st (h.fl_of re fun v s1 v' H1 φ1 x1 st1 r1 q => q v' H1 φ1 .refl st1 r1)
theorem rs_retN : RS F W (.Return none pos) S.retN := ⟨_, fun _ => ps_retN, fun en s σ H φ D re st h => h .non H φ .refl st .non⟩
theorem rs_if {t : MT} {x y : List Stmt} (hc : RT F W c t) (ha : RSs F W x m) (hb : RSs F W y m') : RS F W (.If c x y pos) (S.ife t m m') := by
  obtain ⟨t, h1, h2⟩ := hc
  obtain ⟨u, g1, g2⟩ := ha
  obtain ⟨z, k1, k2⟩ := hb
  refine ⟨_, fun i => ps_if (h1 i) (g1 i) (k1 i), fun en s σ H φ D re st h => ?_⟩
  refine h2 en s σ H φ _ re st (h.flT_of re fun v s1 v' H1 φ1 x1 st1 r1 q => ?_)
  cases r1
  cases v with
  | true => exact iteT (g2 en s1 σ H1 φ1 D (re.mono x1) st1 q)
  | false => exact iteF (k2 en s1 σ H1 φ1 D (re.mono x1) st1 q)
/-! targets -/
theorem PstG.of {P : Program} {w : World} {K : PySem.W.Frag} {H : Hp} {φ : List Addr} {r : Fl} {D : Ends} (h : PstS P w K (fun _ _ _ _ => False) H φ r { nx := D.nx, rt := fun _ _ => False }) : PstS P w K W H φ r D := by
  cases r with
  | nx en s => exact h
  | ret v s => exact fun v' H' φ' x st r => (h v' H' φ' x st r).elim
  | brk en s => exact fun v' H' φ' x st r => (h v' H' φ' x st r).elim
  | cnt en s => exact fun v' H' φ' x st r => (h v' H' φ' x st r).elim
  | err C y en s => exact fun d x' σ' H' φ' x st r q z => (h d x' σ' H' φ' x st r q z).elim
  | bad => exact h
theorem rg_name {i : Nat} {x : Str} (hN : ∀ k, (F.X k).N.Nodup) (hi : ∀ k, (F.X k).N[i]? = some x) (hx : ∀ k, Loc (F.X k).env.scope x) (hf : ∀ k, (F.X k).fn x = true ∨ (F.X k).env.scope.names.lookup x = some .local := by first | exact (fun _ => .inl rfl) | exact (fun _ => .inr rfl)) : RG F (.Name x pos) (G.name i) :=
  ⟨_, fun k => pg_name (hN k) (hi k) (hx k) (hf k), fun v v' en s σ H φ Q re st r h => h _ H φ .refl st (re.set r i)⟩
theorem PstG.next_of {P : Program} {w : World} {K : PySem.W.Frag} {H : Hp} {φ : List Addr} {r : Fl} {f : En → Sto → Fl} {Q Q' : L2.St → Hp → Prop} (h : PstG P w K H φ (r.next f) Q)
    (k : ∀ en s σ H1 φ1, Ext K H φ H1 φ1 → St0 P w K H1 φ1 s → RepE K H1 φ1 en σ → PstG P w K H1 φ1 (f en s) Q → Q' σ H1) : PstG P w K H φ r Q' := by
  cases r with
  | nx en s => exact fun σ' H' φ' x st re => k en s σ' H' φ' x st re (PstG.mono h x)
  | _ => exact h.elim
def RGs (F : Fam) (es : List Expr) (gs : List MG) : Prop := ∃ t : TGs, (∀ i, PGs (F.X i) es t) ∧ ∀ vs vs' en s σ H φ Q, RepE F.K H φ en σ → St0 F.P F.w F.K H φ s → Reps F.K H φ vs vs' → PstG F.P F.w F.K H φ (G.all gs vs en s) Q → t vs' σ H Q
theorem rgs_nil : RGs F [] [] := ⟨_, fun _ => pgs_nil, fun vs vs' en s σ H φ Q re st r h => by
  cases r with
  | nil => exact ⟨rfl, h σ H φ .refl st re⟩
  | cons _ _ => exact h.elim⟩
theorem rgs_cons {gs : List MG} (h1 : RG F e g) (h2 : RGs F es gs) (hs : ∀ i, (assignEach (e :: es) (F.X i).env).map (·.2) = assign e (F.X i).env :: (assignEach es (F.X i).env).map (·.2) := by intro _; rfl) : RGs F (e :: es) (g :: gs) := by
  obtain ⟨t, a1, a2⟩ := h1
  obtain ⟨u, b1, b2⟩ := h2
  refine ⟨_, fun i => pgs_cons (a1 i) (b1 i) (hs i), fun vs vs' en s σ H φ Q re st r h => ?_⟩
  cases r with
  | nil => exact h.elim
  | cons r rs =>
    rename_i x v xs us
    refine ⟨v, us, rfl, a2 x v en s σ H φ _ re st r (PstG.next_of h fun en1 s1 σ1 H1 φ1 x1 st1 re1 q => ?_)⟩
    exact b2 xs us en1 s1 σ1 H1 φ1 Q re1 st1 (rs.mono x1) q
theorem rg_tup {gs : List MG} {k : Nat} {n : Nat} (hc : ∀ i, (F.X i).calm = true) (h : RGs F es gs) (hl : gs.length = n) (hn : ∀ i, (assignEach es (F.X i).env).length = n := by intro _; rfl) (hst : ∀ i, (assignEach es (F.X i).env).findIdx? (·.1) = none := by intro _; rfl) : RG F (.Tuple es k pos) (G.tup gs) := by
  obtain ⟨t, a1, a2⟩ := h
  refine ⟨gTup F.K n t, fun i => by have q := pg_tup (pos := pos) (n := n) (k := k) (hc i) (a1 i) (hn i) (hst i); rw [F.hK i] at q; exact q, fun v v' en s σ H φ Q re st r h => ?_⟩
  cases r with
  | tup hs hr =>
    rename_i a us xs
    dsimp only [G.tup] at h
    split at h
    · rename_i hz
      exact ⟨a, us, rfl, hs, by rw [← hr.length, hz, hl], a2 xs us en s σ H φ Q re st hr h⟩
    · exact h.elim
  | _ => exact h.elim
theorem rg_lst {gs : List MG} {k : Nat} {n : Nat} (hc : ∀ i, (F.X i).calm = true) (h : RGs F es gs) (hl : gs.length = n) (hn : ∀ i, (assignEach es (F.X i).env).length = n := by intro _; rfl) (hst : ∀ i, (assignEach es (F.X i).env).findIdx? (·.1) = none := by intro _; rfl) : RG F (.Tuple es k pos) (G.lst gs) := by
  obtain ⟨t, a1, a2⟩ := h
  refine ⟨gLst F.K n t, fun i => by have q := pg_lst (pos := pos) (n := n) (k := k) (hc i) (a1 i) (hn i) (hst i); rw [F.hK i] at q; exact q, fun v v' en s σ H φ Q re st r h => ?_⟩
  cases r with
  | ref hr =>
    rename_i l a
    dsimp only [G.lst] at h
    split at h
    · rename_i xs hx
      obtain ⟨us, h1, h2⟩ := st.seq hx hr
      split at h
      · rename_i hz
        exact ⟨a, us, rfl, h1, by rw [← h2.length, hz, hl], a2 xs us en s σ H φ Q re st h2 h⟩
      · exact h.elim
    · exact h.elim
  | _ => exact h.elim
theorem ixN_eq {n : Nat} {i : Int} : Mi.ixN n i = L2.ixN n i := rfl
theorem PstG.fl_of {P : Program} {w : World} {K : PySem.W.Frag} {H : Hp} {φ : List Addr} {σ : L2.St} {r : Res AV} {en : En} {f : AV → Sto → Fl} {Q : L2.St → Hp → Prop} {Q' : V → Hp → Prop} (h : PstG P w K H φ (r.fl en f) Q)
    (k : ∀ v s v' H1 φ1, Ext K H φ H1 φ1 → St0 P w K H1 φ1 s → Rep K H1 φ1 v v' → PstG P w K H1 φ1 (f v s) Q → Q' v' H1) : Pst P w K (Rep K) W σ H φ r Q' := by
  cases r with
  | ok v s => exact fun v' H' φ' x st rv => k v s v' H' φ' x st rv (PstG.mono h x)
  | err C y s => exact h.elim
  | bad => exact h.elim
theorem rg_sub (ho : RE F W a ma) (hi : RE F W b mb)
    (ha : ∀ i v, assign (.Subscript a b pos) (F.X i).env v = (do
      let ov ← holding [v] (eval a (F.X i).env)
      let iv ← holding [v, ov] (eval b (F.X i).env)
      standAt pos
      holding [v, ov, iv] (setItem ov iv v)
      release [v, ov, iv] []) := by intro _ _; rfl) : RG F (.Subscript a b pos) (G.sub ma mb) := by
  obtain ⟨t, a1, a2⟩ := ho
  obtain ⟨u, b1, b2⟩ := hi
  refine ⟨_, fun i => pg_sub (a1 i) (b1 i) set_list (ha i), fun v v' en s σ H φ Q re st r h => ?_⟩
  refine a2 en s σ H φ _ re st (PstG.fl_of h fun x s1 x' H1 φ1 x1 st1 r1 h => ?_)
  refine b2 en s1 σ H1 φ1 _ (re.mono x1) st1 (PstG.fl_of h fun y s2 y' H2 φ2 x2 st2 r2 h => ?_)
  cases r1 with
  | ref hl =>
    cases r2 with
    | int k =>
      dsimp only [G.setIx] at h
      split at h
      · rename_i xs hx
        split at h
        · rename_i j hj
          obtain ⟨vs, h1, h2⟩ := st2.lst hx (x2.at hl)
          have rv := (r.mono x1).mono x2
          refine ⟨_, vs, k, j, rfl, rfl, h1, by rw [← h2.length, ← ixN_eq]; exact hj, ?_⟩
          refine h σ _ φ2 (.lst h1) (st2.set hx rfl (x2.at hl) (.lst h1) ⟨_, upd_same, (h2.set rv j).mono (.lst h1)⟩) (((re.mono x1).mono x2).mono (.lst h1))
        · exact h.elim
      · exact h.elim
    | _ => exact h.elim
  | _ => exact h.elim
theorem PstG.ofS {P : Program} {w : World} {K : PySem.W.Frag} {H : Hp} {φ : List Addr} {r : Fl} {D : Ends} {σ : L2.St} (hr : ∀ C x en s, r ≠ .err C x en s) (h1 : ∀ v s, r ≠ .ret v s) (h2 : ∀ v s, r ≠ .brk v s) (h3 : ∀ v s, r ≠ .cnt v s) (h : PstS P w K W H φ r D) : PstG P w K H φ r D.nx := by
  cases r with
  | nx en s => exact h
  | ret v s => exact (h1 v s rfl).elim
  | brk en s => exact (h2 en s rfl).elim
  | cnt en s => exact (h3 en s rfl).elim
  | err C y en s => exact (hr C y en s rfl).elim
  | bad => exact h.elim
end
end Br
set_option maxRecDepth 100000
set_option maxHeartbeats 1000000
/-! Assignments, loops, comprehensions. -/
namespace Br
open PySem L2 Mi

section
variable {F : Fam} {W : WX} {a b c e tg iter : Expr} {es : List Expr} {ma mb mc : ME} {pos : Pos} {body : List Stmt} {m m' : MS} {g : MG} {src : MI} {t : MT}
theorem PstS.gx_of {P : Program} {w : World} {K : PySem.W.Frag} {H : Hp} {φ : List Addr} {r : Fl} {D : Ends} (h : PstS P w K W H φ (S.gx r) D) : PstG P w K H φ r D.nx := by
  cases r <;> first | exact h | exact h.elim
theorem rs_asg (he : RE F W e ma) (hg : RG F tg g) (hs : ∀ i, swapsWithSole [tg] e pos.line (F.X i).env = pure false := by intro _; rfl) (hw : ∀ i, swappedStores [tg] e (F.X i).env = pure none := by intro _; rfl)
    (h1 : ∀ i, (assignEach [tg] (F.X i).env).map (·.2) = [assign tg (F.X i).env] := by intro _; rfl) : RS F W (.Assign [tg] e pos) (S.asg g ma) := by
  obtain ⟨t, a1, a2⟩ := he
  obtain ⟨u, b1, b2⟩ := hg
  refine ⟨_, fun i => ps_asg (a1 i) (b1 i) (hs i) (hw i) (h1 i), fun en s σ H φ D re st h => ?_⟩
  refine a2 en s σ H φ _ re st (h.fl_of re fun v s1 v' H1 φ1 x1 st1 r1 q => ?_)
  exact b2 v v' en s1 σ H1 φ1 _ (re.mono x1) st1 r1 q.gx_of
theorem rs_set {i : Nat} {x : Str} {pos' : Pos} (hN : ∀ k, (F.X k).N.Nodup) (hi : ∀ k, (F.X k).N[i]? = some x) (hx : ∀ k, Loc (F.X k).env.scope x) (he : RE F W e ma) (hs : ∀ k, swapsWith e (some (.Name x pos')) pos.line (F.X k).env = pure false := by intro _; rfl)
    (hf : ∀ k, (F.X k).fn x = true ∨ (F.X k).env.scope.names.lookup x = some .local := by first | exact (fun _ => .inl rfl) | exact (fun _ => .inr rfl)) : RS F W (.Assign [.Name x pos'] e pos) (S.asg (G.name i) ma) := by
  obtain ⟨t, a1, a2⟩ := he
  refine ⟨_, fun k => ps_set (hN k) (hi k) (hx k) (a1 k) (hs k) (hf := hf k), fun en s σ H φ D re st h => ?_⟩
  refine a2 en s σ H φ _ re st (h.fl_of re fun v s1 v' H1 φ1 x1 st1 r1 q => ?_)
  exact q _ H1 φ1 .refl st1 ((re.mono x1).set r1 i)
/-- a display stored into names at once -/
theorem par_core {is : List Nat} {mr : MA} {en : En} {s : Sto} {σ : L2.St} {H : Hp} {φ : List Addr} {D : Ends} {Q : List V → Hp → Prop} (re : RepE F.K H φ en σ)
    (h : PstS F.P F.w F.K W H φ (S.asg (G.unp (is.map G.name)) (E.tup mr) en s) D)
    (k : ∀ xs vs H1 φ1 s1, xs.length = is.length → Reps F.K H1 φ1 xs vs → RepE F.K H1 φ1 en σ → St0 F.P F.w F.K H1 φ1 s1 → PstG F.P F.w F.K H1 φ1 (G.all (is.map G.name) xs en s1) D.nx → Q vs H1) :
    Pst F.P F.w F.K (Reps F.K) W σ H φ (mr en s) Q := by
  unfold S.asg E.tup at h
  cases hm : mr en s with
  | ok vs s1 =>
    rw [hm] at h
    intro v' H1 φ1 x1 st1 r1
    dsimp only [Res.bind] at h
    split at h
    · dsimp only [Res.fl] at h
      have h := (show PstS F.P F.w F.K W H φ (S.gx (G.unp _ (.tup vs) en s1)) D from h).gx_of
      dsimp only [G.unp] at h
      split at h
      · rename_i hz
        rw [List.length_map] at hz
        exact k vs v' H1 φ1 s1 hz r1 (re.mono x1) st1 (PstG.mono h x1)
      · exact h.elim
    · exact h.elim
  | err C y s1 => rw [hm] at h; intro d x' H' φ' ex st' rx hd; exact h d x' σ H' φ' ex st' rx (re.mono ex) hd
  | bad => rw [hm] at h; exact h.elim
theorem rs_par {i j : Nat} {x y : Str} {a b : Expr} {mr : MA} {px py pt : Pos} {kt k2 pt2} (hc : ∀ k, (F.X k).calm = true) (hN : ∀ k, (F.X k).N.Nodup) (hi : ∀ k, (F.X k).N[i]? = some x) (hj : ∀ k, (F.X k).N[j]? = some y) (hij : i ≠ j)
    (hx : ∀ k, (F.X k).env.scope.names.lookup x = some .local) (hy : ∀ k, (F.X k).env.scope.names.lookup y = some .local) (ha : RA F W [a, b] mr)
    (hw : ∀ k, swappedStores [.Tuple [.Name x px, .Name y py] kt pt] (.Tuple [a, b] k2 pt2) (F.X k).env = pure (some [x, y]))
    (hs : ∀ k, swapsWithSole [.Tuple [.Name x px, .Name y py] kt pt] (.Tuple [a, b] k2 pt2) pos.line (F.X k).env = pure false := by intro _; rfl) :
    RS F W (.Assign [.Tuple [.Name x px, .Name y py] kt pt] (.Tuple [a, b] k2 pt2) pos) (S.asg (G.unp [G.name i, G.name j]) (E.tup mr)) := by
  obtain ⟨t, a1, a2⟩ := ha
  refine ⟨_, fun k => ps_par (hc k) (hN k) (hi k) (hj k) hij (hx k) (hy k) (a1 k) (hw k) (hs k), fun en s σ H φ D re st h => ?_⟩
  refine a2 en s σ H φ _ re st (par_core (is := [i, j]) re h fun xs vs H1 φ1 s1 hz r1 re1 st1 q => ?_)
  match xs, hz, r1, q with
  | [u, v], _, .cons (v := u') r (.cons (v := v'') r' .nil), q =>
    exact ⟨u', v'', rfl, q _ H1 φ1 .refl st1 ((re1.set r i).set r' j)⟩
theorem rs_par3 {i j l : Nat} {x y z : Str} {a b c : Expr} {mr : MA} {px py pz pt : Pos} {kt k2 pt2} (hc : ∀ k, (F.X k).calm = true) (hN : ∀ k, (F.X k).N.Nodup) (hi : ∀ k, (F.X k).N[i]? = some x) (hj : ∀ k, (F.X k).N[j]? = some y) (hl : ∀ k, (F.X k).N[l]? = some z) (hij : i ≠ j) (hil : i ≠ l) (hjl : j ≠ l)
    (hx : ∀ k, (F.X k).env.scope.names.lookup x = some .local) (hy : ∀ k, (F.X k).env.scope.names.lookup y = some .local) (hz : ∀ k, (F.X k).env.scope.names.lookup z = some .local) (ha : RA F W [a, b, c] mr)
    (hw : ∀ k, swappedStores [.Tuple [.Name x px, .Name y py, .Name z pz] kt pt] (.Tuple [a, b, c] k2 pt2) (F.X k).env = pure (some [x, y, z]))
    (hs : ∀ k, swapsWithSole [.Tuple [.Name x px, .Name y py, .Name z pz] kt pt] (.Tuple [a, b, c] k2 pt2) pos.line (F.X k).env = pure false := by intro _; rfl) :
    RS F W (.Assign [.Tuple [.Name x px, .Name y py, .Name z pz] kt pt] (.Tuple [a, b, c] k2 pt2) pos) (S.asg (G.unp [G.name i, G.name j, G.name l]) (E.tup mr)) := by
  obtain ⟨t, a1, a2⟩ := ha
  refine ⟨_, fun k => ps_par3 (hc k) (hN k) (hi k) (hj k) (hl k) hij hil hjl (hx k) (hy k) (hz k) (a1 k) (hw k) (hs k), fun en s σ H φ D re st h => ?_⟩
  refine a2 en s σ H φ _ re st (par_core (is := [i, j, l]) re h fun xs vs H1 φ1 s1 hz r1 re1 st1 q => ?_)
  match xs, hz, r1, q with
  | [u, v, w'], _, .cons (v := u') r (.cons (v := v'') r' (.cons (v := w'') r3 .nil)), q =>
    exact ⟨u', v'', w'', rfl, q _ H1 φ1 .refl st1 (((re1.set r i).set r' j).set r3 l)⟩
/-! loops -/
theorem PstS.turn_of {P : Program} {w : World} {K : PySem.W.Frag} {H : Hp} {φ : List Addr} {r : Fl} {f : En → Sto → Fl} {D D' : Ends} (h : PstS P w K W H φ (S.turn r f) D)
    (hr : D'.rt = D.rt) (hb : D'.bk = D.nx) (hc : D'.ct = D'.nx)
    (k : ∀ en s σ H1 φ1, Ext K H φ H1 φ1 → St0 P w K H1 φ1 s → RepE K H1 φ1 en σ → PstS P w K W H1 φ1 (f en s) D → D'.nx σ H1) : PstS P w K W H φ r D' := by
  cases r with
  | nx en s => exact fun σ' H' φ' x st re => k en s σ' H' φ' x st re (PstS.mono h x)
  | cnt en s => show ∀ _ _ _, _; rw [hc]; exact fun σ' H' φ' x st re => k en s σ' H' φ' x st re (PstS.mono h x)
  | ret v s => show ∀ _ _ _, _; rw [hr]; exact h
  | brk en s => show ∀ _ _ _, _; rw [hb]; exact h
  | err C y en s => exact h
  | bad => exact h
theorem rs_while (hp : ∀ i, PassesOwn (model (F.X i).prog (F.X i).w) (F.X i).A (F.X i).env (F.X i).xe) (hc : RT F W c t) (hb : RSs F W body m) : RS F W (.While c body [] pos) (S.while_ t m) := by
  obtain ⟨u, a1, a2⟩ := hc
  obtain ⟨v, b1, b2⟩ := hb
  refine ⟨_, fun i => ps_while (hp i) (a1 i) (b1 i), fun en s σ H φ D re st h => ?_⟩
  refine ⟨fun f σ H => ∃ en s φ, RepE F.K H φ en σ ∧ St0 F.P F.w F.K H φ s ∧ PstS F.P F.w F.K W H φ (S.loop t m f en s) D, ⟨_, en, s, φ, re, st, h⟩, ?_⟩
  rintro f σ H ⟨en, s, φ, re, st, h⟩
  cases f with
  | zero => exact h.elim
  | succ f =>
    refine a2 en s σ H φ _ re st (PstS.flT_of h re fun x s1 x' H1 φ1 x1 st1 r1 q => ?_)
    cases r1
    cases x with
    | false => exact iteF (q σ H1 φ1 .refl st1 (re.mono x1))
    | true =>
      refine iteT ⟨fun σ H => ∃ en s φ, RepE F.K H φ en σ ∧ St0 F.P F.w F.K H φ s ∧ PstS F.P F.w F.K W H φ (S.loop t m f en s) D, fun σ' H' z => ⟨f, Nat.lt_succ_self f, z⟩, ?_⟩
      refine b2 en s1 σ H1 φ1 _ (re.mono x1) st1 (PstS.turn_of q rfl rfl rfl fun en2 s2 σ2 H2 φ2 x2 st2 re2 q2 => ?_)
      exact ⟨en2, s2, φ2, re2, st2, q2⟩
theorem Pst.src_of {P : Program} {w : World} {K : PySem.W.Frag} {H : Hp} {φ : List Addr} {σ : L2.St} {R : Hp → List Addr → Mi.It → L2.It → Prop} {en : En} {s : Sto} {f : Mi.It → MS} {D : Ends} {Q' : L2.It → Hp → Prop}
    (h : PstS P w K W H φ (match src en s with
      | .ok j s => f j en s
      | .err C w s => .err C w en s
      | .bad => .bad) D) (re : RepE K H φ en σ)
    (k : ∀ j s J H1 φ1, Ext K H φ H1 φ1 → St0 P w K H1 φ1 s → R H1 φ1 j J → PstS P w K W H1 φ1 (f j en s) D → Q' J H1) : Pst P w K R W σ H φ (src en s) Q' := by
  cases hr : src en s with
  | ok v s =>
    rw [hr] at h
    exact fun v' H' φ' x st rv => k v s v' H' φ' x st rv (PstS.mono h x)
  | err C y s =>
    rw [hr] at h
    exact fun d x' H' φ' x st rx hd => h d x' σ H' φ' x st rx (re.mono x) hd
  | bad => rw [hr] at h; exact h
theorem drop_cons {α : Type} {xs : List α} {i : Nat} {x : α} (h : xs[i]? = some x) : xs.drop i = x :: xs.drop (i + 1) := by
  obtain ⟨hl, e⟩ := List.getElem?_eq_some_iff.mp h
  rw [← e]; exact List.drop_eq_getElem_cons hl
theorem rs_for (hp : ∀ i, PassesOwn (model (F.X i).prog (F.X i).w) (F.X i).A (F.X i).env (F.X i).xe) (hc : ∀ i, (F.X i).calm = true) (hi : RI F W tg iter src) (hg : RG F tg g) (hb : RSs F W body m)
    (hs : ∀ i x, foldedSetIterable iter (F.X i).env x = pure x := by intro _ _; rfl) : RS F W (.For tg iter body [] pos) (S.for_ src g m) := by
  obtain ⟨u, a1, a2⟩ := hi
  obtain ⟨v, b1, b2⟩ := hg
  obtain ⟨z, c1, c2⟩ := hb
  refine ⟨_, fun i => ps_for (hp i) (hc i) (a1 i) (b1 i) (c1 i) (hs i), fun en s σ H φ D re st h => ?_⟩
  refine a2 en s σ H φ _ re st (Pst.src_of (f := S.forI (fun v en s => (S.gx (g v en s)).next fun en s => m en s)) h re fun j s0 J H0 φ0 x0 st0 rj q => ?_)
  have re0 := re.mono x0
  -- one turn
  have turn : ∀ (x : AV) (v' : V) (en : En) (s : Sto) (σ : L2.St) (H : Hp) (φ : List Addr) (f : En → Sto → Fl) (N : L2.St → Hp → Prop), RepE F.K H φ en σ → St0 F.P F.w F.K H φ s → Rep F.K H φ x v' →
      PstS F.P F.w F.K W H φ (S.turn ((S.gx (g x en s)).next fun en s => m en s) f) D →
      (∀ en s σ H1 φ1, Ext F.K H φ H1 φ1 → St0 F.P F.w F.K H1 φ1 s → RepE F.K H1 φ1 en σ → PstS F.P F.w F.K W H1 φ1 (f en s) D → N σ H1) →
      v v' σ H fun σ2 H2 => z { D with nx := N, ct := N, bk := D.nx } σ2 H2 := by
    intro x v' en s σ H φ f N re st rx h k
    refine b2 x v' en s σ H φ _ re st rx ?_
    cases hgx : g x en s with
    | nx en1 s1 =>
      rw [hgx] at h
      intro σ1 H1 φ1 x1 st1 re1
      refine c2 en1 s1 σ1 H1 φ1 _ re1 st1 (PstS.turn_of (PstS.mono h x1) rfl rfl rfl fun en2 s2 σ2 H2 φ2 x2 st2 re2 q2 => ?_)
      exact k en2 s2 σ2 H2 φ2 (x1.trans x2) st2 re2 q2
    | _ => rw [hgx] at h; exact h.elim
  cases j with
  | fix xs =>
    refine ⟨fun i n σ H => n + i = xs.length ∧ ∃ en s φ, Ext F.K H0 φ0 H φ ∧ RepE F.K H φ en σ ∧ St0 F.P F.w F.K H φ s ∧ PstS F.P F.w F.K W H φ (S.forT (fun v en s => (S.gx (g v en s)).next fun en s => m en s) (xs.drop i) en s) D,
      ⟨xs.length, rfl, en, s0, φ0, .refl, re0, st0, by rw [List.drop_zero]; exact q⟩, ?_⟩
    rintro i n σ H ⟨hn, en, s, φ, x1, re, st, h⟩
    cases hx : xs[i]? with
    | none =>
      have hl : xs.length ≤ i := List.getElem?_eq_none_iff.mp hx
      rw [List.drop_eq_nil_of_le hl] at h
      exact .inl ⟨(rj i H φ x1).2 hx, h σ H φ .refl st re⟩
    | some x =>
      rw [drop_cons hx] at h
      obtain ⟨go, yld⟩ := (rj i H φ x1).1 x hx
      have hl : i < xs.length := (List.getElem?_eq_some_iff.mp hx).1
      refine .inr ⟨go, fun σ H => ∃ en s φ, Ext F.K H0 φ0 H φ ∧ RepE F.K H φ en σ ∧ St0 F.P F.w F.K H φ s ∧ PstS F.P F.w F.K W H φ (S.forT (fun v en s => (S.gx (g v en s)).next fun en s => m en s) (xs.drop (i + 1)) en s) D,
        fun σ' H' z => ⟨n - 1, by omega, by omega, z⟩, fun x' H' y => ?_⟩
      obtain ⟨e1, e2, rx⟩ := yld x' H' y
      refine turn x x' en s σ H' φ _ _ (re.mono e1) (e2 s st) rx (PstS.mono h e1) fun en2 s2 σ2 H2 φ2 x2 st2 re2 q2 => ?_
      exact ⟨en2, s2, φ2, (x1.trans e1).trans x2, re2, st2, q2⟩
  | lst l =>
    obtain ⟨a, ha, rfl⟩ := rj
    refine ⟨fun i n σ H => ∃ en s φ, Ext F.K H0 φ0 H φ ∧ RepE F.K H φ en σ ∧ St0 F.P F.w F.K H φ s ∧ PstS F.P F.w F.K W H φ (S.forL (fun v en s => (S.gx (g v en s)).next fun en s => m en s) l n i en s) D,
      ⟨_, en, s0, φ0, .refl, re0, st0, q⟩, ?_⟩
    rintro i n σ H ⟨en, s, φ, x1, re, st, h⟩
    cases n with
    | zero => exact h.elim
    | succ n =>
      unfold S.forL at h
      split at h
      · exact h.elim
      · rename_i xs hx
        obtain ⟨vs, hv, rv⟩ := st.seq hx (x1.at ha)
        split at h
        · rename_i hn
          refine .inl ⟨⟨vs, hv, ?_⟩, h σ H φ .refl st re⟩
          rw [← rv.length]
          exact List.getElem?_eq_none_iff.mp hn
        · rename_i x hxi
          obtain ⟨x', hv', rx⟩ := rv.get hxi
          refine .inr ⟨⟨vs, x', hv, hv'⟩, fun σ H => ∃ en s φ, Ext F.K H0 φ0 H φ ∧ RepE F.K H φ en σ ∧ St0 F.P F.w F.K H φ s ∧ PstS F.P F.w F.K W H φ (S.forL (fun v en s => (S.gx (g v en s)).next fun en s => m en s) l n (i + 1) en s) D,
            fun σ' H' z => ⟨n, Nat.lt_succ_self n, z⟩, ?_⟩
          rintro y H' ⟨rfl, hy⟩
          have e : vs[i]? = some y := hy vs hv
          rw [hv'] at e; cases e
          refine turn x x' en s σ H' φ _ _ re st rx h fun en2 s2 σ2 H2 φ2 x2 st2 re2 q2 => ?_
          exact ⟨en2, s2, φ2, x1.trans x2, re2, st2, q2⟩
/-! what is walked -/
theorem ri_tup (ha : RE F W iter ma) : RI F W tg iter (I.tup ma) := by
  obtain ⟨u, a1, a2⟩ := ha
  refine ⟨iTup F.K u, fun i => by have q := pi_tup (tg := tg) (a1 i); rw [F.hK i] at q; exact q, fun en s σ H φ Q re st h => ?_⟩
  refine a2 en s σ H φ _ re st (h.bind_of fun v s1 v' H1 φ1 x1 st1 r1 q => ?_)
  cases r1 with
  | tup hs hr =>
    rename_i a vs xs
    refine ⟨a, rfl, ⟨vs, hs⟩, q _ H1 φ1 .refl st1 ?_⟩
    intro i H φ ex
    refine ⟨fun x hx => ?_, fun hn => ⟨vs, ex.tup _ _ hs, by rw [← hr.length]; exact List.getElem?_eq_none_iff.mp hn⟩⟩
    obtain ⟨v, hv, rv⟩ := hr.get hx
    refine ⟨⟨vs, v, ex.tup _ _ hs, hv⟩, ?_⟩
    rintro v' H' ⟨rfl, hy⟩
    have e := hy vs (ex.tup _ _ hs)
    rw [hv] at e; cases e
    exact ⟨.refl, fun _ z => z, rv.mono ex⟩
  | _ => exact q.elim
theorem ri_lst (ha : RE F W iter ma) : RI F W tg iter (I.lst ma) := by
  obtain ⟨u, a1, a2⟩ := ha
  refine ⟨iList F.K u, fun i => by have q := pi_list (tg := tg) (a1 i); rw [F.hK i] at q; exact q, fun en s σ H φ Q re st h => ?_⟩
  refine a2 en s σ H φ _ re st (h.bind_of fun v s1 v' H1 φ1 x1 st1 r1 q => ?_)
  cases r1 with
  | ref hl =>
    rename_i l a
    cases hx : seqAt s1 l with
    | some xs =>
      simp only [hx] at q
      obtain ⟨vs, h1, h2⟩ := st1.seq hx hl
      exact ⟨a, rfl, ⟨vs, h1⟩, q _ H1 φ1 .refl st1 ⟨a, hl, rfl⟩⟩
    | none => simp only [hx] at q; exact q.elim
  | _ => exact q.elim
theorem pi_or {X : Cx} {tg iter : Expr} {t u : TI} (h : PI X tg iter t) (h' : PI X tg iter u) : PI X tg iter (fun σ H R => t σ H R ∨ u σ H R) :=
  ⟨fun pins s σ H R I q => q.elim (h.run pins s σ H R I) (h'.run pins s σ H R I)⟩
theorem ri_seq (ha : RE F W iter ma) : RI F W tg iter (I.seq ma) := by
  obtain ⟨t, t1, t2⟩ := ri_tup (tg := tg) ha
  obtain ⟨u, u1, u2⟩ := ri_lst (tg := tg) ha
  refine ⟨_, fun i => pi_or (t1 i) (u1 i), fun en s σ H φ Q re st h => ?_⟩
  have e : I.seq ma en s = I.tup ma en s ∨ I.seq ma en s = I.lst ma en s := by
    unfold I.seq I.tup I.lst
    cases ma en s with
    | ok v s1 => cases v <;> first | exact .inl rfl | exact .inr rfl
    | err C y s1 => exact .inl rfl
    | bad => exact .inl rfl
  rcases e with e | e
  · exact .inl (t2 en s σ H φ Q re st (e ▸ h))
  · exact .inr (u2 en s σ H φ Q re st (e ▸ h))
theorem pg_or {X : Cx} {tg : Expr} {t u : TG} (h : PG X tg t) (h' : PG X tg u) : PG X tg (fun v σ H Q => t v σ H Q ∨ u v σ H Q) :=
  ⟨fun pins s σ H v u Q I r q => q.elim (h.run pins s σ H v u Q I r) (h'.run pins s σ H v u Q I r)⟩
theorem rg_unp {gs : List MG} {k : Nat} {n : Nat} (hc : ∀ i, (F.X i).calm = true) (h : RGs F es gs) (hl : gs.length = n) (hn : ∀ i, (assignEach es (F.X i).env).length = n := by intro _; rfl) (hst : ∀ i, (assignEach es (F.X i).env).findIdx? (·.1) = none := by intro _; rfl) : RG F (.Tuple es k pos) (G.unp gs) := by
  obtain ⟨t, t1, t2⟩ := rg_tup (pos := pos) (k := k) hc h hl hn hst
  obtain ⟨u, u1, u2⟩ := rg_lst (pos := pos) (k := k) hc h hl hn hst
  refine ⟨_, fun i => pg_or (t1 i) (u1 i), fun v v' en s σ H φ Q re st r h => ?_⟩
  cases r with
  | tup hs hr => exact .inl (t2 _ _ en s σ H φ Q re st (.tup hs hr) h)
  | ref hr => exact .inr (u2 _ _ en s σ H φ Q re st (.ref hr) h)
  | _ => exact h.elim
theorem rng_ok {H0 : Hp} {φ0 : List Addr} {lo : Int} {n : Nat} : RepI F H0 φ0 (.fix (I.iot lo n)) (Itr lo n) := by
  intro i H φ ex
  unfold I.iot
  refine ⟨fun x hx => ?_, fun hn => ?_⟩
  · rw [List.getElem?_map] at hx
    have hl : i < n := by
      by_cases hl : i < n
      · exact hl
      · rw [List.getElem?_eq_none (by simpa using hl)] at hx; cases hx
    rw [List.getElem?_range hl] at hx
    cases hx
    refine ⟨hl, ?_⟩
    rintro v' H' ⟨rfl, rfl⟩
    exact ⟨.refl, fun _ z => z, .int _⟩
  · rw [List.getElem?_eq_none_iff, List.length_map, List.length_range] at hn
    exact hn
theorem ri_range1 {p : Pos} {mr : MA} (hg : ∀ i, Gl (F.X i) "range") (hm : F.mg "range" = none) (ha : RA F W [a] mr) (hs : ∀ i, starEach [a] (F.X i).env = [(false, eval a (F.X i).env)] := by intro _; rfl) : RI F W tg (.Call (.Name "range" p) [a] [] pos) (I.range1 mr) := by
  obtain ⟨u, a1, a2⟩ := ha
  refine ⟨_, fun i => pi_range1 (hg i) (by rw [F.hmg i]; exact hm) (a1 i) (hs i), fun en s σ H φ Q re st h => ?_⟩
  refine a2 en s σ H φ _ re st (h.bind_of fun v s1 v' H1 φ1 x1 st1 r1 q => ?_)
  match v, r1, q with
  | [.int j], .cons (.int _) .nil, q =>
    dsimp only at q
    split at q
    · rename_i hr
      unfold I.inR at hr
      have hr := of_decide_eq_true hr
      exact ⟨j, rfl, hr.1, hr.2, q _ H1 φ1 .refl st1 rng_ok⟩
    · exact q.elim
theorem ri_range2 {p : Pos} {mr : MA} (hg : ∀ i, Gl (F.X i) "range") (hm : F.mg "range" = none) (ha : RA F W [a, b] mr) (hs : ∀ i, starEach [a, b] (F.X i).env = [(false, eval a (F.X i).env), (false, eval b (F.X i).env)] := by intro _; rfl) (hs2 : ∀ i, starEach [b] (F.X i).env = [(false, eval b (F.X i).env)] := by intro _; rfl) : RI F W tg (.Call (.Name "range" p) [a, b] [] pos) (I.range2 mr) := by
  obtain ⟨u, a1, a2⟩ := ha
  refine ⟨_, fun i => pi_range2 (hg i) (by rw [F.hmg i]; exact hm) (a1 i) (hs i) (hs2 i), fun en s σ H φ Q re st h => ?_⟩
  refine a2 en s σ H φ _ re st (h.bind_of fun v s1 v' H1 φ1 x1 st1 r1 q => ?_)
  match v, r1, q with
  | [.int j, .int k], .cons (.int _) (.cons (.int _) .nil), q =>
    dsimp only at q
    split at q
    · rename_i hr
      unfold I.inR at hr
      have hr := Bool.and_eq_true_iff.mp hr
      have h1 := of_decide_eq_true hr.1
      have h2 := of_decide_eq_true hr.2
      exact ⟨j, k, rfl, ⟨h1.1, h1.2, h2.1, h2.2⟩, q _ H1 φ1 .refl st1 rng_ok⟩
    · exact q.elim
end
end Br
set_option maxRecDepth 100000
set_option maxHeartbeats 1000000
/-! Comprehensions. -/
namespace Br
open PySem L2 Mi

abbrev Wn : WX := fun _ _ _ _ => False
theorem wipe_get (σ : L2.St) (j : Nat) : ∀ own : List Nat, (L2.wipe σ own)[j]? = if j ∈ own then (σ[j]?).map (fun _ => none) else σ[j]?
  | [] => by simp [L2.wipe]
  | v :: vs => by
    show ((L2.wipe σ vs).set v none)[j]? = _
    by_cases e : v = j
    · subst e
      rw [if_pos List.mem_cons_self]
      by_cases hl : v < σ.length
      · rw [List.getElem?_set_self (by rw [L2.wipe_length]; exact hl), List.getElem?_eq_getElem hl]; rfl
      · rw [List.getElem?_eq_none (by rw [List.length_set, L2.wipe_length]; omega), List.getElem?_eq_none (by omega)]; rfl
    · rw [List.getElem?_set_ne e, wipe_get σ j vs]
      by_cases m : j ∈ vs
      · rw [if_pos m, if_pos (List.mem_cons_of_mem _ m)]
      · rw [if_neg m, if_neg (fun z => (List.mem_cons.mp z).elim (fun q => e q.symm) m)]
theorem wipe_set {σ : L2.St} {own : List Nat} {i : Nat} (h : i ∈ own) (x : Option V) : L2.wipe (σ.set i x) own = L2.wipe σ own := by
  apply List.ext_getElem?
  intro j
  rw [wipe_get, wipe_get]
  by_cases m : j ∈ own
  · rw [if_pos m, if_pos m]
    by_cases e : i = j
    · subst e
      by_cases hl : i < σ.length
      · rw [List.getElem?_set_self hl, List.getElem?_eq_getElem hl]; rfl
      · rw [List.getElem?_eq_none (by rw [List.length_set]; omega), List.getElem?_eq_none (by omega)]
    · rw [List.getElem?_set_ne e]
  · rw [if_neg m, if_neg m, List.getElem?_set_ne (fun e => m (by rw [← e]; exact h))]
theorem wipe_wipe (σ : L2.St) (own : List Nat) : L2.wipe (L2.wipe σ own) own = L2.wipe σ own := by
  apply List.ext_getElem?
  intro j
  rw [wipe_get, wipe_get]
  by_cases m : j ∈ own
  · rw [if_pos m, if_pos m]
    cases σ[j]? <;> rfl
  · rw [if_neg m, if_neg m]

section
variable (P : Program) (w : World) (K : PySem.W.Frag)
def PstO (own : List Nat) (σ : L2.St) (H : Hp) (φ : List Addr) (r : Fl) (Q : L2.St → Hp → Prop) : Prop := match r with
  | .nx en s => ∀ σ' H' φ', Ext K H φ H' φ' → St0 P w K H' φ' s → RepE K H' φ' en σ' → L2.wipe σ' own = L2.wipe σ own → Q σ' H'
  | _ => False
end
section
variable {F : Fam} {W : WX} {a b c e elt tg iter : Expr} {es ifs : List Expr} {ma mb mc me : ME} {pos : Pos} {g : MG} {src : MI} {t : MT} {own : List Nat}
def RGo (F : Fam) (own : List Nat) (tg : Expr) (g : MG) : Prop := ∃ t : TG, (∀ i, PG (F.X i) tg t) ∧ ∀ v v' en s σ H φ Q, RepE F.K H φ en σ → St0 F.P F.w F.K H φ s → Rep F.K H φ v v' → PstO F.P F.w F.K own σ H φ (g v en s) Q → t v' σ H Q
def RGos (F : Fam) (own : List Nat) (es : List Expr) (gs : List MG) : Prop := ∃ t : TGs, (∀ i, PGs (F.X i) es t) ∧ ∀ vs vs' en s σ H φ Q, RepE F.K H φ en σ → St0 F.P F.w F.K H φ s → Reps F.K H φ vs vs' → PstO F.P F.w F.K own σ H φ (G.all gs vs en s) Q → t vs' σ H Q
theorem rgo_name {i : Nat} {x : Str} (ho : i ∈ own) (hN : ∀ k, (F.X k).N.Nodup) (hi : ∀ k, (F.X k).N[i]? = some x) (hx : ∀ k, Loc (F.X k).env.scope x) (hf : ∀ k, (F.X k).fn x = true ∨ (F.X k).env.scope.names.lookup x = some .local := by first | exact (fun _ => .inl rfl) | exact (fun _ => .inr rfl)) : RGo F own (.Name x pos) (G.name i) :=
  ⟨_, fun k => pg_name (hN k) (hi k) (hx k) (hf k), fun v v' en s σ H φ Q re st r h => h _ H φ .refl st (re.set r i) (wipe_set ho _)⟩
theorem rgos_nil : RGos F own [] [] := ⟨_, fun _ => pgs_nil, fun vs vs' en s σ H φ Q re st r h => by
  cases r with
  | nil => exact ⟨rfl, h σ H φ .refl st re rfl⟩
  | cons _ _ => exact h.elim⟩
theorem rgos_cons {gs : List MG} (h1 : RGo F own e g) (h2 : RGos F own es gs) (hs : ∀ i, (assignEach (e :: es) (F.X i).env).map (·.2) = assign e (F.X i).env :: (assignEach es (F.X i).env).map (·.2) := by intro _; rfl) : RGos F own (e :: es) (g :: gs) := by
  obtain ⟨t, a1, a2⟩ := h1
  obtain ⟨u, b1, b2⟩ := h2
  refine ⟨_, fun i => pgs_cons (a1 i) (b1 i) (hs i), fun vs vs' en s σ H φ Q re st r h => ?_⟩
  cases r with
  | nil => exact h.elim
  | cons r rs =>
    rename_i x v xs us
    refine ⟨v, us, rfl, a2 x v en s σ H φ _ re st r ?_⟩
    unfold G.all at h
    cases hg : g x en s with
    | nx en1 s1 =>
      rw [hg] at h
      intro σ1 H1 φ1 x1 st1 re1 w1
      refine b2 xs us en1 s1 σ1 H1 φ1 Q re1 st1 (rs.mono x1) ?_
      have h : PstO F.P F.w F.K own σ H φ (G.all gs xs en1 s1) Q := h
      cases hh : G.all gs xs en1 s1 with
      | nx en2 s2 =>
        rw [hh] at h
        exact fun σ2 H2 φ2 x2 st2 re2 w2 => h σ2 H2 φ2 (x1.trans x2) st2 re2 (w2.trans w1)
      | _ => rw [hh] at h; exact h.elim
    | _ => rw [hg] at h; exact h.elim
theorem rgo_tup {gs : List MG} {k : Nat} {n : Nat} (hc : ∀ i, (F.X i).calm = true) (h : RGos F own es gs) (hl : gs.length = n) (hn : ∀ i, (assignEach es (F.X i).env).length = n := by intro _; rfl) (hst : ∀ i, (assignEach es (F.X i).env).findIdx? (·.1) = none := by intro _; rfl) : RGo F own (.Tuple es k pos) (G.unp gs) := by
  obtain ⟨t, a1, a2⟩ := h
  refine ⟨_, fun i => pg_or (by have q := pg_tup (pos := pos) (n := n) (k := k) (hc i) (a1 i) (hn i) (hst i); rw [F.hK i] at q; exact q) (by have q := pg_lst (pos := pos) (n := n) (k := k) (hc i) (a1 i) (hn i) (hst i); rw [F.hK i] at q; exact q), fun v v' en s σ H φ Q re st r h => ?_⟩
  cases r with
  | tup hs hr =>
    rename_i a us xs
    dsimp only [G.unp] at h
    split at h
    · rename_i hz
      exact .inl ⟨a, us, rfl, hs, by rw [← hr.length, hz, hl], a2 xs us en s σ H φ Q re st hr h⟩
    · exact h.elim
  | ref hr =>
    rename_i l a
    dsimp only [G.unp] at h
    cases hx : seqAt s l with
    | none => simp only [hx] at h; exact h.elim
    | some xs =>
      simp only [hx] at h
      obtain ⟨us, h1, h2⟩ := st.seq hx hr
      split at h
      · rename_i hz
        exact .inr ⟨a, us, rfl, h1, by rw [← h2.length, hz, hl], a2 xs us en s σ H φ Q re st h2 h⟩
      · exact h.elim
  | _ => exact h.elim
def RTs (F : Fam) (W : WX) (ifs : List Expr) (m : MT) : Prop := ∃ t : TT, (∀ i, PTs (F.X i) ifs t) ∧ ∀ en s σ H φ Q, RepE F.K H φ en σ → St0 F.P F.w F.K H φ s → Pst F.P F.w F.K eqB W σ H φ (m en s) Q → t σ H Q
theorem rts_nil : RTs F W [] T.yes := ⟨_, fun _ => pts_nil, fun en s σ H φ Q re st h => h true H φ .refl st rfl⟩
theorem rts_one (h : RT F W c t) : RTs F W [c] t := by
  obtain ⟨u, a1, a2⟩ := h
  exact ⟨_, fun i => pts_one (a1 i), a2⟩
theorem Pst.ne_of {α β α' β' : Type} {P : Program} {w : World} {K : PySem.W.Frag} {H : Hp} {φ : List Addr} {σ σ2 : L2.St} {R : Hp → List Addr → α → β → Prop} {R2 : Hp → List Addr → α' → β' → Prop} {r : Res α} {f : α → Sto → Res α'} {Q : β' → Hp → Prop} {Q' : β → Hp → Prop}
    (h : Pst P w K R2 W σ H φ (r.ne.bind f) Q)
    (k : ∀ v s v' H1 φ1, Ext K H φ H1 φ1 → St0 P w K H1 φ1 s → R H1 φ1 v v' → Pst P w K R2 W σ H1 φ1 (f v s) Q → Q' v' H1) : Pst P w K R Wn σ2 H φ r Q' := by
  cases r with
  | ok v s => exact fun v' H' φ' x st rv => k v s v' H' φ' x st rv (Pst.mono h x)
  | err C y s => exact h.elim
  | bad => exact h
/-- what a comprehension comes to -/
theorem lc_sound {src : MI} {wi : TI} {tG : TG} {tt : TT} {te : TE} (b2 : ∀ en s σ H φ (Q : L2.It → Hp → Prop), RepE F.K H φ en σ → St0 F.P F.w F.K H φ s → Pst F.P F.w F.K (RepI F) W σ H φ (src en s) Q → wi σ H Q)
    (g2 : ∀ v v' en s σ H φ Q, RepE F.K H φ en σ → St0 F.P F.w F.K H φ s → Rep F.K H φ v v' → PstO F.P F.w F.K own σ H φ (g v en s) Q → tG v' σ H Q)
    (t2 : ∀ en s σ H φ Q, RepE F.K H φ en σ → St0 F.P F.w F.K H φ s → Pst F.P F.w F.K eqB Wn σ H φ (t en s) Q → tt σ H Q)
    (e2 : ∀ en s σ H φ Q, RepE F.K H φ en σ → St0 F.P F.w F.K H φ s → Pst F.P F.w F.K (Rep F.K) Wn σ H φ (me en s) Q → te σ H Q) :
    ∀ en s σ H φ Q, RepE F.K H φ en σ → St0 F.P F.w F.K H φ s → Pst F.P F.w F.K (Rep F.K) W σ H φ (E.lc src g t me own en s) Q → tLc wi tG tt te own σ H Q := by
  intro en s σ H φ Q re st h
  refine b2 en s σ H φ _ re st (Pst.bind_of h fun j s0 J H0 φ0 x0 st0 rj q => ?_)
  intro D nD
  have re0 := re.mono x0
  have xD : Ext F.K H0 φ0 (upd H0 D (.lst [])) (φ0 ++ [D]) := .newRef nD
  have stD : St0 F.P F.w F.K (upd H0 D (.lst [])) (φ0 ++ [D]) (s0 ++ [MO.lst []]) := st0.newRef nD ⟨[], upd_same, .nil⟩
  have atD : (φ0 ++ [D])[s0.length]? = some D := by rw [← st0.len]; exact List.getElem?_concat_length
  -- one turn
  have turn : ∀ (x : AV) (v' : V) (s : Sto) (H : Hp) (φ : List Addr) (f : Unit → Sto → Res AV) (N : Hp → Prop), Ext F.K (upd H0 D (.lst [])) (φ0 ++ [D]) H φ → St0 F.P F.w F.K H φ s → Rep F.K H φ x v' →
      Pst F.P F.w F.K (Rep F.K) W σ H φ ((E.lcT g t me own en s0.length x s).bind f) Q →
      (∀ s H1 φ1, Ext F.K H φ H1 φ1 → St0 F.P F.w F.K H1 φ1 s → Pst F.P F.w F.K (Rep F.K) W σ H1 φ1 (f () s) Q → N H1) →
      tG v' (L2.wipe σ own) H fun σ2 H2 => L2.wipe σ2 own = L2.wipe σ own ∧ tt σ2 H2 fun b H3 =>
        if b = true then te σ2 H3 fun y H4 => ∃ acc, H4 D = some (.lst acc) ∧ acc.length < sizeLine ∧ N (upd H4 D (.lst (acc ++ [y]))) else N H3 := by
    intro x v' s H φ f N ex st rx h k
    have rw0 : RepE F.K H φ (Mi.wipe en own) (L2.wipe σ own) := ((re0.mono xD).mono ex).wipe own
    refine g2 x v' (Mi.wipe en own) s (L2.wipe σ own) H φ _ rw0 st rx ?_
    unfold E.lcT at h
    cases hg : g x (Mi.wipe en own) s with
    | nx en1 s1 =>
      simp only [hg] at h
      intro σ1 H1 φ1 x1 st1 re1 w1
      rw [wipe_wipe] at w1
      refine ⟨w1, t2 en1 s1 σ1 H1 φ1 _ re1 st1 ?_⟩
      have h := Pst.mono h x1
      rw [Res.bind_assoc] at h
      refine Pst.ne_of h fun b s2 b' H2 φ2 x2 st2 eb h => ?_
      cases eb
      cases b with
      | false =>
        refine iteF (k s2 H2 φ2 (x1.trans x2) st2 ?_)
        simpa using h
      | true =>
        refine iteT (e2 en1 s2 σ1 H2 φ2 _ (re1.mono x2) st2 ?_)
        rw [if_pos rfl, Res.bind_assoc] at h
        refine Pst.ne_of h fun y s3 y' H3 φ3 x3 st3 ry h => ?_
        unfold E.grow at h
        have hD : φ3[s0.length]? = some D := x3.at (x2.at (x1.at (ex.at atD)))
        cases hs : s3[s0.length]? with
        | none => simp only [hs] at h; exact h.elim
        | some o =>
          cases o with
          | lst acc =>
            simp only [hs] at h
            split at h
            · rename_i hz
              obtain ⟨vs, h1, h2⟩ := st3.lst hs hD
              refine ⟨vs, h1, by rw [← h2.length, ← line_eq]; exact hz, ?_⟩
              have x4 : Ext F.K H3 φ3 (upd H3 D (.lst (vs ++ [y']))) φ3 := .lst h1
              refine k _ _ φ3 (((x1.trans x2).trans x3).trans x4) (st3.set (u := .lst (acc ++ [y])) hs rfl hD x4 ⟨_, upd_same, (h2.append (.cons ry .nil)).mono x4⟩) ?_
              exact Pst.mono h x4
            · exact h.elim
          | _ => simp only [hs] at h; exact h.elim
    | _ => simp only [hg] at h; exact h.elim
  cases j with
  | fix xs =>
    have q : Pst F.P F.w F.K (Rep F.K) W σ (upd H0 D (.lst [])) (φ0 ++ [D]) ((E.lcFix (E.lcT g t me own en s0.length) xs (s0 ++ [MO.lst []])).bind fun _ s => .ok (.ref s0.length) s) Q := Pst.mono q xD
    refine ⟨fun i n H => n + i = xs.length ∧ ∃ s φ, Ext F.K (upd H0 D (.lst [])) (φ0 ++ [D]) H φ ∧ St0 F.P F.w F.K H φ s ∧ Pst F.P F.w F.K (Rep F.K) W σ H φ ((E.lcFix (E.lcT g t me own en s0.length) (xs.drop i) s).bind fun _ s => .ok (.ref s0.length) s) Q,
      ⟨xs.length, rfl, _, _, .refl, stD, by rw [List.drop_zero]; exact q⟩, ?_⟩
    rintro i n H ⟨hn, s, φ, x1, st, h⟩
    cases hx : xs[i]? with
    | none =>
      have hl : xs.length ≤ i := List.getElem?_eq_none_iff.mp hx
      rw [List.drop_eq_nil_of_le hl] at h
      exact .inl ⟨(rj i H φ (xD.trans x1)).2 hx, h _ H φ .refl st (.ref (x1.at atD))⟩
    | some x =>
      rw [drop_cons hx] at h
      obtain ⟨go, yld⟩ := (rj i H φ (xD.trans x1)).1 x hx
      have hl : i < xs.length := (List.getElem?_eq_some_iff.mp hx).1
      refine .inr ⟨go, fun H => ∃ s φ, Ext F.K (upd H0 D (.lst [])) (φ0 ++ [D]) H φ ∧ St0 F.P F.w F.K H φ s ∧ Pst F.P F.w F.K (Rep F.K) W σ H φ ((E.lcFix (E.lcT g t me own en s0.length) (xs.drop (i + 1)) s).bind fun _ s => .ok (.ref s0.length) s) Q,
        fun H' z => ⟨n - 1, by omega, by omega, z⟩, fun x' H' y => ?_⟩
      obtain ⟨e1, e3, rx⟩ := yld x' H' y
      have h : Pst F.P F.w F.K (Rep F.K) W σ H φ ((E.lcT g t me own en s0.length x s).bind fun _ s => (E.lcFix (E.lcT g t me own en s0.length) (xs.drop (i + 1)) s).bind fun _ s => .ok (.ref s0.length) s) Q := by
        unfold E.lcFix at h
        rw [Res.bind_assoc] at h
        exact h
      refine turn x x' s H' φ _ _ (x1.trans e1) (e3 s st) rx (Pst.mono h e1) fun s2 H2 φ2 x2 st2 q2 => ?_
      exact ⟨s2, φ2, (x1.trans e1).trans x2, st2, q2⟩
  | lst l =>
    obtain ⟨a, ha, rfl⟩ := rj
    have q : Pst F.P F.w F.K (Rep F.K) W σ (upd H0 D (.lst [])) (φ0 ++ [D]) ((E.lcLst (E.lcT g t me own en s0.length) l S.fuel 0 (s0 ++ [MO.lst []])).bind fun _ s => .ok (.ref s0.length) s) Q := Pst.mono q xD
    refine ⟨fun i n H => ∃ s φ, Ext F.K (upd H0 D (.lst [])) (φ0 ++ [D]) H φ ∧ St0 F.P F.w F.K H φ s ∧ Pst F.P F.w F.K (Rep F.K) W σ H φ ((E.lcLst (E.lcT g t me own en s0.length) l n i s).bind fun _ s => .ok (.ref s0.length) s) Q,
      ⟨_, _, _, .refl, stD, q⟩, ?_⟩
    rintro i n H ⟨s, φ, x1, st, h⟩
    cases n with
    | zero => exact h.elim
    | succ n =>
      unfold E.lcLst at h
      cases hx : seqAt s l with
      | none => simp only [hx] at h; exact h.elim
      | some xs =>
        simp only [hx] at h
        obtain ⟨vs, hv, rv⟩ := st.seq hx (x1.at (xD.at ha))
        cases hxi : xs[i]? with
        | none =>
          simp only [hxi] at h
          refine .inl ⟨⟨vs, hv, ?_⟩, h _ H φ .refl st (.ref (x1.at atD))⟩
          rw [← rv.length]
          exact List.getElem?_eq_none_iff.mp hxi
        | some x =>
          simp only [hxi] at h
          obtain ⟨x', hv', rx⟩ := rv.get hxi
          refine .inr ⟨⟨vs, x', hv, hv'⟩, fun H => ∃ s φ, Ext F.K (upd H0 D (.lst [])) (φ0 ++ [D]) H φ ∧ St0 F.P F.w F.K H φ s ∧ Pst F.P F.w F.K (Rep F.K) W σ H φ ((E.lcLst (E.lcT g t me own en s0.length) l n (i + 1) s).bind fun _ s => .ok (.ref s0.length) s) Q,
            fun H' z => ⟨n, Nat.lt_succ_self n, z⟩, ?_⟩
          rintro y H' ⟨rfl, hy⟩
          have e : vs[i]? = some y := hy vs hv
          rw [hv'] at e; cases e
          have h : Pst F.P F.w F.K (Rep F.K) W σ H' φ ((E.lcT g t me own en s0.length x s).bind fun _ s => (E.lcLst (E.lcT g t me own en s0.length) l n (i + 1) s).bind fun _ s => .ok (.ref s0.length) s) Q := by
            rw [Res.bind_assoc] at h
            exact h
          refine turn x x' s H' φ _ _ x1 st rx h fun s2 H2 φ2 x2 st2 q2 => ?_
          exact ⟨s2, φ2, x1.trans x2, st2, q2⟩
theorem re_lc {scope : Scope} {own : List (Str × Nat)} (hc : ∀ i, (F.X i).calm = true) (hN : ∀ i, (F.X i).N.Nodup) (hi : RI F W tg iter src) (ok : ∀ i, BlkOk (F.X i).N (F.X i).env.scope scope own)
    (hg : RGo (F.blk scope) (own.map (·.2)) tg g) (ht : RTs (F.blk scope) Wn ifs t) (he : RE (F.blk scope) Wn elt me) (hs : ∀ i x, foldedSetIterable iter (F.X i).env x = pure x := by intro _ _; rfl) :
    RE F W (.ListComp elt [⟨tg, iter, ifs, 0⟩] scope pos) (E.lc src g t me (own.map (·.2))) := by
  obtain ⟨u, u1, u2⟩ := hi
  obtain ⟨x, x1, x2⟩ := hg
  obtain ⟨y, y1, y2⟩ := ht
  obtain ⟨z, z1, z2⟩ := he
  exact ⟨_, fun i => pe_lc (hc i) (hN i) (u1 i) (ok i) (fun s H C cl fp => x1 (i, s, H, C, cl, fp)) (fun s H C cl fp => y1 (i, s, H, C, cl, fp)) (fun s H C cl fp => z1 (i, s, H, C, cl, fp)) (hs i), lc_sound u2 x2 y2 z2⟩
end
end Br
set_option maxRecDepth 100000
set_option maxHeartbeats 1000000
/-! Operators and built-ins. -/
namespace Br
open PySem L2 Mi

section
variable {P : Program} {w : World} {K : PySem.W.Frag} {H : Hp} {φ : List Addr}
theorem mapM_cons {α β : Type} (f : α → Option β) (x : α) (xs : List α) : (x :: xs).mapM f = (f x).bind fun y => (xs.mapM f).map fun ys => y :: ys := by
  rw [List.mapM_cons]
  cases f x with
  | none => rfl
  | some y => cases xs.mapM f <;> rfl
mutual
theorem pd_dp {s : Sto} (st : St0 P w K H φ s) : ∀ (n : Nat) (x : AV) (v : V) (d : PyData), pd s n x = some d → Rep K H φ x v → Dp K H v d
  | _, .non, _, _, h, .non => by cases (Option.some.inj (by simpa only [pd] using h)); exact .non
  | _, .bl b, _, _, h, .bl _ => by cases (Option.some.inj (by simpa only [pd] using h)); exact .bl b
  | _, .int i, _, _, h, .int _ => by cases (Option.some.inj (by simpa only [pd] using h)); exact .int i
  | _, .str x, _, _, h, .str _ => by cases (Option.some.inj (by simpa only [pd] using h)); exact .str x
  | 0, .tup xs, _, _, h, _ => by simp [pd] at h
  | 0, .ref l, _, _, h, _ => by simp [pd] at h
  | 0, .adr l, _, _, h, _ => by simp [pd] at h
  | 0, .ty l, _, _, h, _ => by simp [pd] at h
  | n + 1, .adr l, _, _, h, _ => by simp [pd] at h
  | n + 1, .ty l, _, _, h, _ => by simp [pd] at h
  | n + 1, .tup xs, _, d, h, .tup hs hr => by
    simp only [pd] at h
    cases hm : xs.mapM (pd s n) with
    | none => rw [hm] at h; cases h
    | some ds =>
      rw [hm] at h
      cases h
      exact .tup hs (pd_dps st n _ _ ds hm hr)
  | n + 1, .ref l, _, d, h, .ref hl => by
    simp only [pd] at h
    cases hq : seqAt s l with
    | none => rw [hq] at h; cases h
    | some xs =>
      rw [hq] at h
      obtain ⟨vs, h1, h2⟩ := st.seq hq hl
      cases hm : xs.mapM (pd s n) with
      | none => simp only [hm] at h; cases h
      | some ds =>
        simp only [hm] at h
        cases h
        exact .lst h1 (pd_dps st n _ _ ds hm h2)
theorem pd_dps {s : Sto} (st : St0 P w K H φ s) : ∀ (n : Nat) (xs : List AV) (vs : List V) (ds : List PyData), xs.mapM (pd s n) = some ds → Reps K H φ xs vs → DpAll K H vs ds
  | _, [], _, _, h, .nil => by cases (Option.some.inj (by simpa using h)); exact .nil
  | n, x :: xs, _, ds, h, .cons r rs => by
    rw [mapM_cons] at h
    cases hx : pd s n x with
    | none => rw [hx] at h; cases h
    | some d =>
      rw [hx] at h
      cases hm : xs.mapM (pd s n) with
      | none => rw [hm] at h; cases h
      | some es =>
        rw [hm] at h
        cases h
        exact .cons (pd_dp st n x _ d hx r) (pd_dps st n xs _ es hm rs)
end
theorem reps_ints : ∀ {xs : List AV} {vs : List V} {ns : List Int}, Reps K H φ xs vs → ints? xs = some ns → vs = ns.map V.int
  | _, _, _, .nil, h => by cases (Option.some.inj (by simpa only [ints?] using h)); rfl
  | _, _, _, .cons (xs := xs) r rs, h => by
    cases r with
    | int i =>
      simp only [ints?] at h
      cases hm : ints? xs with
      | none => rw [hm] at h; cases h
      | some ms =>
        rw [hm] at h
        cases h
        rw [reps_ints rs hm]; rfl
    | _ => simp [ints?] at h
theorem lexLt_eq : ∀ a b : List Int, Mi.lexLt a b = HT.lexLt a b
  | [], [] => rfl
  | [], _ :: _ => rfl
  | _ :: _, [] => rfl
  | x :: xs, y :: ys => by show (if x = y then Mi.lexLt xs ys else _) = (if x = y then HT.lexLt xs ys else _); rw [lexLt_eq xs ys]
theorem lexAt_shift (e r : Nat → Bool) (z : Bool) : ∀ (k i : Nat), Ob.lexAt (fun j => e (j + 1)) (fun j => r (j + 1)) z i k = Ob.lexAt e r z (i + 1) k
  | 0, i => by rw [Ob.lexAt_zero, Ob.lexAt_zero]
  | k + 1, i => by rw [Ob.lexAt_succ, Ob.lexAt_succ, lexAt_shift e r z k (i + 1)]
theorem lexLe_eq : ∀ ns ms : List Int, Ob.lexAt (fun j => decide (ns.getD j 0 = ms.getD j 0)) (fun j => decide (ns.getD j 0 ≤ ms.getD j 0)) (decide (ns.length ≤ ms.length)) 0 (min ns.length ms.length) = Mi.lexLe ns ms
  | [], ms => by simp [Mi.lexLe, Ob.lexAt_zero]
  | n :: ns, [] => by simp [Mi.lexLe, Ob.lexAt_zero]
  | n :: ns, m :: ms => by
    have ih := lexLe_eq ns ms
    have e : min (n :: ns).length (m :: ms).length = min ns.length ms.length + 1 := by simp only [List.length_cons]; omega
    rw [e, Ob.lexAt_succ]
    have sh := lexAt_shift (fun j => decide ((n :: ns).getD j 0 = (m :: ms).getD j 0)) (fun j => decide ((n :: ns).getD j 0 ≤ (m :: ms).getD j 0)) (decide ((n :: ns).length ≤ (m :: ms).length)) (min ns.length ms.length) 0
    rw [← sh]
    have z : decide ((n :: ns).length ≤ (m :: ms).length) = decide (ns.length ≤ ms.length) := by simp
    rw [z]
    show (if decide (n = m) = true then Ob.lexAt (fun j => decide (ns.getD j 0 = ms.getD j 0)) (fun j => decide (ns.getD j 0 ≤ ms.getD j 0)) _ 0 _ else decide (n ≤ m)) = (if n = m then Mi.lexLe ns ms else decide (n ≤ m))
    rw [ih]
    by_cases h : n = m
    · rw [if_pos (decide_eq_true h), if_pos h]
    · rw [if_neg (by simpa using h), if_neg h]
end

section
variable {F : Fam} {W : WX}
theorem orR {f : Value → Value → Sem Value} {r r' : R2} (h : ∀ i, OpR (F.X i) f r) (h' : ∀ i, OpR (F.X i) f r') : ∀ i, OpR (F.X i) f (fun x y H Q => r x y H Q ∨ r' x y H Q) := fun i => (h i).or (h' i)
/-- a new list in the place of its mirror -/
theorem newL {σ : L2.St} {H : Hp} {φ : List Addr} {s : Sto} {xs : List AV} {vs : List V} {Q : VK} (st : St0 F.P F.w F.K H φ s) (r : Reps F.K H φ xs vs)
    (h : Pst F.P F.w F.K (Rep F.K) W σ H φ (.ok (.ref s.length) (s ++ [.lst xs])) Q) : ∀ p, H p = none → Q (.ref p) (upd H p (.lst vs)) := fun p np =>
  h _ _ (φ ++ [p]) (.newRef np) (st.newRef np ⟨vs, upd_same, r.mono (.newRef np)⟩) (.ref (by rw [← st.len]; exact List.getElem?_concat_length))
theorem newT {σ : L2.St} {H : Hp} {φ : List Addr} {s : Sto} {xs : List AV} {vs : List V} {Q : VK} (st : St0 F.P F.w F.K H φ s) (r : Reps F.K H φ xs vs)
    (h : Pst F.P F.w F.K (Rep F.K) W σ H φ (.ok (.tup xs) s) Q) : ∀ p, H p = none → Q (.ref p) (upd H p (.tup vs)) := fun p np =>
  h _ _ φ (.new np) (st.new np) (.tup (SqT.of upd_same) (r.mono (.new np)))
theorem sameV {σ : L2.St} {H : Hp} {φ : List Addr} {s : Sto} {v : AV} {v' : V} {Q : VK} (st : St0 F.P F.w F.K H φ s) (r : Rep F.K H φ v v') (h : Pst F.P F.w F.K (Rep F.K) W σ H φ (.ok v s) Q) : Q v' H := h v' H φ .refl st r
theorem opm_add : OpM F W (binaryOp .Add) addAV := by
  refine ⟨_, orR (fun i => op_add) (orR (fun i => op_add_str) (orR (r := rCatA F.K) (fun i => by have q := op_catA (X := F.X i); rw [F.hK i] at q; exact q) (fun i => op_cat))), fun x y x' y' s σ H φ Q st rx ry h => ?_⟩
  cases rx with
  | int i => cases ry with
    | int j => exact .inl ⟨i, j, rfl, rfl, sameV st (.int _) h⟩
    | _ => exact h.elim
  | str z => cases ry with
    | str u =>
      dsimp only [addAV] at h
      split at h
      · rename_i hz
        exact .inr (.inl ⟨z, u, rfl, rfl, by rw [← line_eq]; exact hz, sameV st (.str _) h⟩)
      · exact h.elim
    | _ => exact h.elim
  | tup hs hr => cases ry with
    | tup ht hq =>
      rename_i a vs xs b us ys
      dsimp only [addAV] at h
      split at h
      · rename_i hz
        refine .inr (.inr (.inl ⟨a, b, vs, us, rfl, rfl, hs, ht, by rw [← hr.length, ← hq.length, ← line_eq]; exact hz, fun e => ?_, fun _ e => ?_, fun _ _ => newT st (hr.append hq) h⟩))
        · subst e; cases hr; exact sameV st (.tup ht hq) h
        · subst e; cases hq; exact sameV st (.tup (by simpa using hs) hr) (by simpa using h)
      · exact h.elim
    | _ => exact h.elim
  | ref hl => cases ry with
    | ref hm =>
      rename_i l a m b
      dsimp only [addAV] at h
      split at h
      · rename_i xs ys hx hy
        obtain ⟨vs, h1, h2⟩ := st.lst hx hl
        obtain ⟨us, g1, g2⟩ := st.lst hy hm
        split at h
        · rename_i hz
          unfold newLst at h
          rw [if_pos (by rw [List.length_append]; exact hz)] at h
          exact .inr (.inr (.inr ⟨a, b, vs, us, rfl, rfl, h1, g1, by rw [← h2.length, ← g2.length, ← line_eq]; exact hz, newL st (h2.append g2) h⟩))
        · exact h.elim
      · exact h.elim
    | _ => exact h.elim
  | non => cases ry <;> exact h.elim
  | bl _ => cases ry <;> exact h.elim
  | adr _ => cases ry <;> exact h.elim
  | ty _ => cases ry <;> exact h.elim
theorem opm_sub : OpM F W (binaryOp .Sub) subAV := by
  refine ⟨_, fun i => op_sub, fun x y x' y' s σ H φ Q st rx ry h => ?_⟩
  cases rx <;> cases ry <;> first | exact h.elim | skip
  exact ⟨_, _, rfl, rfl, sameV st (.int _) h⟩
theorem opm_mul : OpM F W (binaryOp .Mult) mulAV := by
  refine ⟨_, orR (fun i => op_mul) (fun i => op_rep), fun x y x' y' s σ H φ Q st rx ry h => ?_⟩
  cases rx with
  | int i => cases ry with
    | int j =>
      dsimp only [mulAV] at h
      split at h
      · rename_i hz
        refine .inl ⟨i, j, rfl, rfl, ?_, sameV st (.int _) h⟩
        rcases (Bool.or_eq_true _ _).mp hz with z | z
        · exact .inl (of_decide_eq_true z)
        · exact .inr (of_decide_eq_true z)
      · exact h.elim
    | _ => exact h.elim
  | ref hl => cases ry with
    | int k =>
      rename_i l a
      dsimp only [mulAV] at h
      split at h
      · rename_i xs hx
        obtain ⟨vs, h1, h2⟩ := st.lst hx hl
        split at h
        · rename_i hz
          obtain ⟨z1, z2⟩ := Bool.and_eq_true_iff.mp hz
          have z1 := of_decide_eq_true z1
          have z2 := of_decide_eq_true z2
          have e : (repL xs k.toNat).length = xs.length * k.toNat := by unfold repL; rw [List.length_flatten, List.map_replicate, List.sum_replicate_nat, Nat.mul_comm]
          unfold newLst at h
          rw [if_pos (by rw [e]; exact z2)] at h
          exact .inr ⟨a, k, vs, rfl, rfl, h1, z1.1, z1.2, by rw [← h2.length, ← line_eq]; exact z2, newL st (h2.rep _) h⟩
        · exact h.elim
      · exact h.elim
    | _ => exact h.elim
  | _ => exact h.elim
theorem opm_div : OpM F W (binaryOp .FloorDiv) divAV := by
  refine ⟨_, fun i => op_fdiv, fun x y x' y' s σ H φ Q st rx ry h => ?_⟩
  cases rx <;> cases ry <;> first | exact h.elim | skip
  dsimp only [divAV] at h
  split at h
  · rename_i hz
    exact ⟨_, _, rfl, rfl, hz, sameV st (.int _) h⟩
  · exact h.elim
theorem opm_mod : OpM F W (binaryOp .Mod) modAV := by
  refine ⟨_, fun i => op_mod, fun x y x' y' s σ H φ Q st rx ry h => ?_⟩
  cases rx <;> cases ry <;> first | exact h.elim | skip
  dsimp only [modAV] at h
  split at h
  · rename_i hz
    exact ⟨_, _, rfl, rfl, hz, sameV st (.int _) h⟩
  · exact h.elim
theorem opm_pow : OpM F W (binaryOp .Pow) powAV := by
  refine ⟨_, fun i => op_pow, fun x y x' y' s σ H φ Q st rx ry h => ?_⟩
  cases rx <;> cases ry <;> first | exact h.elim | skip
  dsimp only [powAV] at h
  split at h
  · rename_i hz
    exact ⟨_, _, rfl, rfl, hz, sameV st (.int _) h⟩
  · exact h.elim
theorem lexGt_eq : ∀ ns ms : List Int, Ob.lexAt (fun j => decide (ns.getD j 0 = ms.getD j 0)) (fun j => decide (ms.getD j 0 < ns.getD j 0)) (decide (ns.length > ms.length)) 0 (min ns.length ms.length) = Mi.lexLt ms ns
  | [], [] => by simp [Mi.lexLt, Ob.lexAt_zero]
  | [], m :: ms => by simp [Mi.lexLt, Ob.lexAt_zero]
  | n :: ns, [] => by simp [Mi.lexLt, Ob.lexAt_zero]
  | n :: ns, m :: ms => by
    have e : min (n :: ns).length (m :: ms).length = min ns.length ms.length + 1 := by simp only [List.length_cons]; omega
    rw [e, Ob.lexAt_succ]
    have sh := lexAt_shift (fun j => decide ((n :: ns).getD j 0 = (m :: ms).getD j 0)) (fun j => decide ((m :: ms).getD j 0 < (n :: ns).getD j 0)) (decide ((n :: ns).length > (m :: ms).length)) (min ns.length ms.length) 0
    rw [← sh]
    have ih := lexGt_eq ns ms
    have el : decide ((n :: ns).length > (m :: ms).length) = decide (ns.length > ms.length) := by simp only [List.length_cons]; congr 1; apply propext; omega
    rw [el]
    show (if decide (n = m) = true then Ob.lexAt (fun j => decide (ns.getD j 0 = ms.getD j 0)) (fun j => decide (ms.getD j 0 < ns.getD j 0)) _ 0 _ else decide (m < n)) = (if m = n then Mi.lexLt ms ns else decide (m < n))
    rw [ih]
    by_cases q : n = m
    · subst q; simp
    · have q' : ¬ m = n := fun z => q z.symm
      simp [q, q']
def rGtT (K : PySem.W.Frag) : R2 := fun x y H Q => ∃ (a b : Addr) (ns ms : List Int), x = .ref a ∧ y = .ref b ∧ SqT K H a (ns.map V.int) ∧ SqT K H b (ms.map V.int) ∧ Q (.bl (Mi.lexLt ms ns)) H
theorem op_gtT {X : Cx} (hu : X.A.units < cLine) : OpR X (compareOp .Gt) (rGtT X.K) := by
  rintro pins s σ H x y v u Q I rx ry ⟨a, b, ns, ms, rfl, rfl, ha, hb, q⟩
  cases rx; cases ry
  obtain ⟨xs, r1, p1, _⟩ := I.tuple ha
  obtain ⟨ys, r2, p2, _⟩ := I.tuple hb
  have i1 := Vals.ints r1
  have i2 := Vals.ints r2
  have l1 : xs.toArray.size = ns.length := by rw [List.size_toArray]; exact i1.length
  have l2 : ys.toArray.size = ms.length := by rw [List.size_toArray]; exact i2.length
  have g1 : ∀ j (h : j < xs.toArray.size), ∃ t, xs.toArray[j] = .int (ns.getD j 0) t := fun j h => PyProof.Rows.IntsAre.int_at (ns := ns) i1 _ _ (by simp at h; simp [h])
  have g2 : ∀ j (h : j < ys.toArray.size), ∃ t, ys.toArray[j] = .int (ms.getD j 0) t := fun j h => PyProof.Rows.IntsAre.int_at (ns := ms) i2 _ _ (by simp at h; simp [h])
  have big := Ob.RcOp.tuples_gt (A := X.A) (s := s) (e := fun j => decide (ns.getD j 0 = ms.getD j 0)) (r := fun j => decide (ms.getD j 0 < ns.getD j 0)) p1 p2 hu
    (fun j h1 h2 => by
      obtain ⟨t1, e1⟩ := g1 j h1
      obtain ⟨t2, e2⟩ := g2 j h2
      rw [e1, e2]
      have z : decide (ns.getD j 0 = ms.getD j 0) = (ns.getD j 0 == ms.getD j 0) := by
        by_cases w : ns.getD j 0 = ms.getD j 0
        · rw [w]; simp
        · rw [decide_eq_false w]; exact (beq_eq_false_iff_ne.mpr w).symm
      show SeqAt.EqAt _ _ _ _ (decide (ns.getD j 0 = ms.getD j 0))
      rw [z]
      exact SeqAt.EqAt.int_int _ _ _ _)
    (fun j h1 h2 _ => by
      obtain ⟨t1, e1⟩ := g1 j h1
      obtain ⟨t2, e2⟩ := g2 j h2
      rw [e1, e2]
      exact Ob.RcOp.gt_int _ _ _ _)
  rw [l1, l2, lexGt_eq] at big
  exact big _ _ _ _ ⟨.bl _, H, I, rfl, q⟩
theorem opm_gt (hr : ∀ i, Room 0 (F.X i).A) : OpM F W (compareOp .Gt) gtAV := by
  refine ⟨_, orR (fun i => op_gt) (r' := rGtT F.K) (fun i => by have q := op_gtT (X := F.X i) (hr i).units0; rw [F.hK i] at q; exact q), fun x y x' y' s σ H φ Q st rx ry h => ?_⟩
  cases rx with
  | int i => cases ry with
    | int j => exact .inl ⟨_, _, rfl, rfl, sameV st (.bl _) h⟩
    | _ => exact h.elim
  | tup hs hq => cases ry with
    | tup ht hu =>
      rename_i a vs xs b us ys
      dsimp only [gtAV, cmpAV] at h
      split at h
      · rename_i ns ms h1 h2
        have e1 := reps_ints hq h1
        have e2 := reps_ints hu h2
        subst e1 e2
        exact .inr ⟨a, b, ns, ms, rfl, rfl, hs, ht, sameV st (.bl _) h⟩
      · exact h.elim
    | _ => exact h.elim
  | _ => exact h.elim
theorem opm_ge : OpM F W (compareOp .GtE) geAV := by
  refine ⟨_, fun i => op_ge, fun x y x' y' s σ H φ Q st rx ry h => ?_⟩
  cases rx with
  | int i => cases ry with
    | int j => exact ⟨_, _, rfl, rfl, sameV st (.bl _) h⟩
    | _ => exact h.elim
  | tup _ _ => cases ry with
    | tup _ _ => dsimp only [geAV, cmpAV] at h; split at h <;> exact h.elim
    | _ => exact h.elim
  | _ => exact h.elim
theorem opm_lt (hr : ∀ i, Room 0 (F.X i).A) : OpM F W (compareOp .Lt) ltAV := by
  refine ⟨_, orR (fun i => op_lt) (r' := rLtT F.K) (fun i => by have q := op_ltT (X := F.X i) (hr i).units0; rw [F.hK i] at q; exact q), fun x y x' y' s σ H φ Q st rx ry h => ?_⟩
  cases rx with
  | int i => cases ry with
    | int j => exact .inl ⟨_, _, rfl, rfl, sameV st (.bl _) h⟩
    | _ => exact h.elim
  | tup hs hq => cases ry with
    | tup ht hu =>
      rename_i a vs xs b us ys
      dsimp only [ltAV, cmpAV] at h
      split at h
      · rename_i ns ms h1 h2
        have e1 := reps_ints hq h1
        have e2 := reps_ints hu h2
        subst e1 e2
        rw [lexLt_eq] at h
        exact .inr ⟨a, b, ns, ms, rfl, rfl, hs, ht, sameV st (.bl _) h⟩
      · exact h.elim
    | _ => exact h.elim
  | _ => exact h.elim
theorem opm_le (hr : ∀ i, Room 0 (F.X i).A) : OpM F W (compareOp .LtE) leAV := by
  refine ⟨_, orR (fun i => op_le) (r' := rLeT F.K) (fun i => by have q := op_leT (X := F.X i) (hr i).units0; rw [F.hK i] at q; exact q), fun x y x' y' s σ H φ Q st rx ry h => ?_⟩
  cases rx with
  | int i => cases ry with
    | int j => exact .inl ⟨_, _, rfl, rfl, sameV st (.bl _) h⟩
    | _ => exact h.elim
  | tup hs hq => cases ry with
    | tup ht hu =>
      rename_i a vs xs b us ys
      dsimp only [leAV, cmpAV] at h
      split at h
      · rename_i ns ms h1 h2
        have e1 := reps_ints hq h1
        have e2 := reps_ints hu h2
        subst e1 e2
        refine .inr ⟨a, b, ns, ms, rfl, rfl, hs, ht, ?_⟩
        rw [lexLe_eq]
        exact sameV st (.bl _) h
      · exact h.elim
    | _ => exact h.elim
  | _ => exact h.elim
theorem opm_eq (hr : ∀ i, Room 0 (F.X i).A) : OpM F W (compareOp .Eq) (eqAV false) := by
  refine ⟨rEqD F.K, fun i => by have q := op_eqD (X := F.X i) (hr i).units; rw [F.hK i] at q; exact q, fun x y x' y' s σ H φ Q st rx ry h => ?_⟩
  unfold eqAV at h
  split at h
  · rename_i d e h1 h2
    split at h
    · rename_i hz
      obtain ⟨z1, z2⟩ := Bool.and_eq_true_iff.mp hz
      refine ⟨d, e, pd_dp st _ _ _ _ h1 rx, pd_dp st _ _ _ _ h2 ry, z1, z2, ?_⟩
      have q := sameV st (.bl _) h
      simpa using q
    · exact h.elim
  · exact h.elim
theorem opm_ne (hr : ∀ i, Room 0 (F.X i).A) : OpM F W (compareOp .NotEq) (eqAV true) := by
  refine ⟨rNeD F.K, fun i => by have q := op_neD (X := F.X i) (hr i).units; rw [F.hK i] at q; exact q, fun x y x' y' s σ H φ Q st rx ry h => ?_⟩
  unfold eqAV at h
  split at h
  · rename_i d e h1 h2
    split at h
    · rename_i hz
      obtain ⟨z1, z2⟩ := Bool.and_eq_true_iff.mp hz
      refine ⟨d, e, pd_dp st _ _ _ _ h1 rx, pd_dp st _ _ _ _ h2 ry, z1, z2, ?_⟩
      have q := sameV st (.bl _) h
      simpa using q
    · exact h.elim
  · exact h.elim
theorem rep_non {H : Hp} {φ : List Addr} {x : AV} {v : V} (r : Rep F.K H φ x v) : decide (v = .non) = decide (x = .non) := by
  cases r <;> first | rfl | simp
theorem opm_is : OpM F W (compareOp .Is) (isAV false) := by
  refine ⟨_, orR (fun i => op_isN) (fun i => op_isBl), fun x y x' y' s σ H φ Q st rx ry h => ?_⟩
  cases ry with
  | non =>
    refine .inl ⟨rfl, ?_⟩
    rw [rep_non rx]
    have q := sameV st (.bl _) h
    simpa using q
  | bl c => cases rx with
    | bl d =>
      have q := sameV st (.bl _) h
      exact .inr ⟨d, c, rfl, rfl, by simpa using q⟩
    | _ => exact h.elim
  | _ => exact h.elim
theorem opm_isnot : OpM F W (compareOp .IsNot) (isAV true) := by
  refine ⟨_, orR (fun i => op_notN) (fun i => op_notBl), fun x y x' y' s σ H φ Q st rx ry h => ?_⟩
  cases ry with
  | non =>
    refine .inl ⟨rfl, ?_⟩
    rw [rep_non rx]
    have q := sameV st (.bl _) h
    simpa using q
  | bl c => cases rx with
    | bl d =>
      have q := sameV st (.bl _) h
      exact .inr ⟨d, c, rfl, rfl, by simpa using q⟩
    | _ => exact h.elim
  | _ => exact h.elim
theorem flat_eq {H : Hp} {φ : List Addr} {x : AV} {v : V} (r : Rep F.K H φ x v) : flatV v = flat x := by cases r <;> rfl
theorem flats_eq {H : Hp} {φ : List Addr} : ∀ {xs : List AV} {vs : List V}, Reps F.K H φ xs vs → vs.all flatV = xs.all flat
  | _, _, .nil => rfl
  | _, _, .cons r rs => by rw [List.all_cons, List.all_cons, flat_eq r, flats_eq rs]
theorem eqF_eq {H : Hp} {φ : List Addr} {x y : AV} {v u : V} (r : Rep F.K H φ x v) (q : Rep F.K H φ y u) (fx : flat x = true) (fy : flat y = true) : eqV v u = eqF x y := by
  cases r <;> cases q <;> first | rfl | cases fx | cases fy
theorem inV_eq {H : Hp} {φ : List Addr} {x : AV} {v : V} (r : Rep F.K H φ x v) (fx : flat x = true) : ∀ {xs : List AV} {vs : List V}, Reps F.K H φ xs vs → xs.all flat = true → (vs.any fun y => eqV y v) = xs.any fun y => eqF y x
  | _, _, .nil, _ => rfl
  | _, _, .cons q rs, f => by
    rw [List.all_cons, Bool.and_eq_true] at f
    rw [List.any_cons, List.any_cons, eqF_eq q r f.1 fx, inV_eq r fx rs f.2]
theorem items_of {H : Hp} {φ : List Addr} {s : Sto} {y : AV} {v : V} {xs : List AV} (st : St0 F.P F.w F.K H φ s) (r : Rep F.K H φ y v) (h : items? s y = some xs) : ∃ p vs, v = .ref p ∧ Reps F.K H φ xs vs ∧ (SqL F.K H p vs ∨ SqT F.K H p vs) := by
  cases r with
  | tup hs hr => cases h; exact ⟨_, _, rfl, hr, .inr hs⟩
  | ref hl =>
    obtain ⟨vs, h1, h2⟩ := st.seq h hl
    exact ⟨_, vs, rfl, h2, .inl h1⟩
  | _ => cases h
def rInT (K : PySem.W.Frag) : R2 := fun x y H Q => ∃ d ds, Dp K H x d ∧ Dp K H y (.tuple ds) ∧ SeqAt.shaped d = true ∧ SeqAt.shaped (.tuple ds) = true ∧ Q (.bl (ds.any fun z => PyData.eqv z d)) H
def rNotInT (K : PySem.W.Frag) : R2 := fun x y H Q => ∃ d ds, Dp K H x d ∧ Dp K H y (.tuple ds) ∧ SeqAt.shaped d = true ∧ SeqAt.shaped (.tuple ds) = true ∧ Q (.bl (!ds.any fun z => PyData.eqv z d)) H
theorem op_inT {X : Cx} (hu : X.A.units + 65 < cLine) : OpR X (compareOp .In) (rInT X.K) := by
  rintro pins s σ H x y v u Q I rx ry ⟨d, ds, hd, he, sd, se, q⟩
  obtain ⟨_, r1⟩ := Dp.reads I d x v hd rx
  obtain ⟨_, r2⟩ := Dp.reads I (.tuple ds) y u he ry
  exact SeqAt.in_tuple_reads r2 r1 (SeqAt.canLay_of_shaped se) (SeqAt.canLay_of_shaped sd) (PyProof.Rows.room_in_shaped sd hu) ⟨.bl _, H, I, rfl, q⟩
theorem op_notInT {X : Cx} (hu : X.A.units + 65 < cLine) : OpR X (compareOp .NotIn) (rNotInT X.K) := by
  rintro pins s σ H x y v u Q I rx ry ⟨d, ds, hd, he, sd, se, q⟩
  obtain ⟨_, r1⟩ := Dp.reads I d x v hd rx
  obtain ⟨_, r2⟩ := Dp.reads I (.tuple ds) y u he ry
  exact SeqAt.notIn_tuple_reads r2 r1 (SeqAt.canLay_of_shaped se) (SeqAt.canLay_of_shaped sd) (PyProof.Rows.room_in_shaped sd hu) ⟨.bl _, H, I, rfl, q⟩
theorem opm_in (hr : ∀ i, Room 0 (F.X i).A) : OpM F W (compareOp .In) (inAV false) := by
  refine ⟨_, orR (r := rIn F.K false) (fun i => by have q := op_in_seq (X := F.X i); rw [F.hK i] at q; exact q) (orR (r := rInD F.K) (r' := rInT F.K) (fun i => by have q := op_inD (X := F.X i) (by have := (hr i).un; omega); rw [F.hK i] at q; exact q) (fun i => by have q := op_inT (X := F.X i) (by have := (hr i).un; omega); rw [F.hK i] at q; exact q)), fun x y x' y' s σ H φ Q st rx ry h => ?_⟩
  unfold inAV at h
  split at h
  · rename_i xs hx
    split at h
    · rename_i hz
      obtain ⟨z1, z2⟩ := Bool.and_eq_true_iff.mp hz
      obtain ⟨p, vs, rfl, hr, hs⟩ := items_of st ry hx
      refine .inl ⟨p, vs, rfl, hs, by rw [flat_eq rx]; exact z1, by rw [flats_eq hr]; exact z2, ?_⟩
      unfold inV
      rw [inV_eq rx z1 hr z2]
      have q := sameV st (.bl _) h
      simpa using q
    · split at h
      · rename_i d ds h1 h2
        split at h
        · rename_i hz
          obtain ⟨z1, z2⟩ := Bool.and_eq_true_iff.mp hz
          refine .inr (.inl ⟨d, ds, pd_dp st _ _ _ _ h1 rx, pd_dp st _ _ _ _ h2 ry, z1, z2, ?_⟩)
          have q := sameV st (.bl _) h
          simpa using q
        · exact h.elim
      · rename_i d ds h1 h2
        split at h
        · rename_i hz
          obtain ⟨z1, z2⟩ := Bool.and_eq_true_iff.mp hz
          refine .inr (.inr ⟨d, ds, pd_dp st _ _ _ _ h1 rx, pd_dp st _ _ _ _ h2 ry, z1, z2, ?_⟩)
          have q := sameV st (.bl _) h
          simpa using q
        · exact h.elim
      · exact h.elim
  · exact h.elim
theorem opm_notin (hr : ∀ i, Room 0 (F.X i).A) : OpM F W (compareOp .NotIn) (inAV true) := by
  refine ⟨_, orR (r := rIn F.K true) (fun i => by have q := op_notIn_seq (X := F.X i); rw [F.hK i] at q; exact q) (orR (r := rNotInD F.K) (r' := rNotInT F.K) (fun i => by have q := op_notInD (X := F.X i) (by have := (hr i).un; omega); rw [F.hK i] at q; exact q) (fun i => by have q := op_notInT (X := F.X i) (by have := (hr i).un; omega); rw [F.hK i] at q; exact q)), fun x y x' y' s σ H φ Q st rx ry h => ?_⟩
  unfold inAV at h
  split at h
  · rename_i xs hx
    split at h
    · rename_i hz
      obtain ⟨z1, z2⟩ := Bool.and_eq_true_iff.mp hz
      obtain ⟨p, vs, rfl, hr, hs⟩ := items_of st ry hx
      refine .inl ⟨p, vs, rfl, hs, by rw [flat_eq rx]; exact z1, by rw [flats_eq hr]; exact z2, ?_⟩
      unfold inV
      rw [inV_eq rx z1 hr z2]
      have q := sameV st (.bl _) h
      simpa using q
    · split at h
      · rename_i d ds h1 h2
        split at h
        · rename_i hz
          obtain ⟨z1, z2⟩ := Bool.and_eq_true_iff.mp hz
          refine .inr (.inl ⟨d, ds, pd_dp st _ _ _ _ h1 rx, pd_dp st _ _ _ _ h2 ry, z1, z2, ?_⟩)
          have q := sameV st (.bl _) h
          simpa using q
        · exact h.elim
      · rename_i d ds h1 h2
        split at h
        · rename_i hz
          obtain ⟨z1, z2⟩ := Bool.and_eq_true_iff.mp hz
          refine .inr (.inr ⟨d, ds, pd_dp st _ _ _ _ h1 rx, pd_dp st _ _ _ _ h2 ry, z1, z2, ?_⟩)
          have q := sameV st (.bl _) h
          simpa using q
        · exact h.elim
      · exact h.elim
  · exact h.elim
/-! items, slices -/
variable {a b e o : Expr} {es : List Expr} {ma mb : ME} {mr : MA} {pos : Pos}
theorem re_ix (ha : RE F W a ma) (hb : RE F W b mb) (hs : PlainIx b := by exact fun _ _ => rfl) : RE F W (.Subscript a b pos) (E.op ixAV ma mb) := by
  obtain ⟨t, a1, a2⟩ := ha
  obtain ⟨u, b1, b2⟩ := hb
  refine ⟨tOp (fun x y H Q => rIxL F.K x y H Q ∨ rIxT F.K x y H Q) t u, fun i => by have q := pe_ix (pos := pos) (ix_list.or ix_tup) (a1 i) (b1 i) hs; rw [F.hK i] at q; exact q, two a2 b2 fun x y x' y' s σ H φ Q st rx ry h => ?_⟩
  unfold ixAV at h
  cases ry with
  | int k =>
    dsimp only at h
    cases hx : items? s x with
    | none => simp only [hx] at h; exact h.elim
    | some xs =>
      simp only [hx] at h
      obtain ⟨p, vs, rfl, hr, hs⟩ := items_of st rx hx
      cases hn : Mi.ixN xs.length k with
      | none => simp only [hn, Option.bind_none] at h; exact h.elim
      | some j =>
        simp only [hn, Option.bind_some] at h
        cases hv : xs[j]? with
        | none => simp only [hv] at h; exact h.elim
        | some v =>
          simp only [hv] at h
          obtain ⟨v', h1, h2⟩ := hr.get hv
          have hat : atI vs k = some v' := by
            unfold atI
            rw [← hr.length, ← ixN_eq, hn, Option.bind_some, h1]
          rcases hs with hs | hs
          · exact .inl ⟨p, vs, k, v', rfl, rfl, hs, hat, sameV st h2 h⟩
          · exact .inr ⟨p, vs, k, v', rfl, rfl, hs, hat, sameV st h2 h⟩
  | _ => exact h.elim
theorem sIx_eq (n d : Nat) (o : Option Int) : Mi.sIx n d o = HT.sIx n d o := by cases o <;> rfl
theorem cut_rep {H : Hp} {φ : List Addr} {xs : List AV} {vs : List V} (r : Reps F.K H φ xs vs) (lo hi : Option Int) : Reps F.K H φ (Mi.cut xs lo hi) (cutV vs lo hi) := by
  unfold Mi.cut cutV
  rw [sIx_eq, sIx_eq, ← r.length]
  exact (r.drop _).take _
def rSlU (K : PySem.W.Frag) : V → Option Int → Option Int → Hp → VK → Prop := fun x lo hi H Q => rSlL K x lo hi H Q ∨ rSlA K x lo hi H Q
theorem slice_ok {x : AV} {x' : V} {lo hi : Option Int} {s : Sto} {σ : L2.St} {H : Hp} {φ : List Addr} {Q : VK} (st : St0 F.P F.w F.K H φ s) (rx : Rep F.K H φ x x') (h : Pst F.P F.w F.K (Rep F.K) W σ H φ (sliceAV x lo hi s) Q) : rSlU F.K x' lo hi H Q := by
  cases rx with
  | tup hs hr =>
    rename_i a vs xs
    refine .inr ⟨a, vs, rfl, hs, fun e => ?_, fun _ => newT st (cut_rep hr lo hi) h⟩
    have e1 : cutV vs lo hi = vs := by unfold cutV; rw [e.1, e.2]; simp
    have r2 := cut_rep hr lo hi
    rw [e1] at r2
    exact sameV st (.tup hs r2) h
  | ref hl =>
    rename_i l a
    dsimp only [sliceAV] at h
    cases hx : seqAt s l with
    | none => simp only [hx] at h; exact h.elim
    | some xs =>
      simp only [hx] at h
      obtain ⟨vs, h1, h2⟩ := st.seq hx hl
      exact .inl ⟨a, vs, rfl, h1, newL st (cut_rep h2 lo hi) h⟩
  | _ => exact h.elim
theorem slU (i : F.ι) : SlR (F.X i) (rSlU F.K) := by
  have q := (sl_list (X := F.X i)).or (sl_tupA (X := F.X i))
  rw [F.hK i] at q
  exact q
theorem re_slice00 {p2 : Pos} (ha : RE F W a ma) : RE F W (.Subscript a (.Slice none none none p2) pos) (E.slice ma none none) := by
  obtain ⟨t, a1, a2⟩ := ha
  refine ⟨_, fun i => pe_slice (slU i) (a1 i) po_none po_none, fun en s σ H φ Q re st h => ?_⟩
  exact a2 en s σ H φ _ re st (Pst.bind_of h fun v s1 v' H1 φ1 x1 st1 r1 q => slice_ok st1 r1 q)
theorem part_of {P : Program} {w : World} {K : PySem.W.Frag} {H : Hp} {φ : List Addr} {σ : L2.St} {k : Option Int → Sto → Res AV} {en : En} {s : Sto} {Q : VK} {Q' : VK} (h : Pst P w K (Rep K) W σ H φ (E.part ma k en s) Q)
    (c : ∀ i s1 H1 φ1, Ext K H φ H1 φ1 → St0 P w K H1 φ1 s1 → Pst P w K (Rep K) W σ H1 φ1 (k (some i) s1) Q → Q' (.int i) H1) : Pst P w K (Rep K) W σ H φ (ma en s) Q' := by
  refine Pst.bind_of h fun v s1 v' H1 φ1 x1 st1 r1 q => ?_
  cases r1 with
  | int i => exact c i s1 H1 φ1 x1 st1 q
  | _ => exact q.elim
theorem re_slice10 {p2 : Pos} (ha : RE F W a ma) (hb : RE F W b mb) : RE F W (.Subscript a (.Slice (some b) none none p2) pos) (E.slice ma (some mb) none) := by
  obtain ⟨t, a1, a2⟩ := ha
  obtain ⟨u, b1, b2⟩ := hb
  refine ⟨_, fun i => pe_slice (slU i) (a1 i) (po_some (b1 i)) po_none, fun en s σ H φ Q re st h => ?_⟩
  refine a2 en s σ H φ _ re st (Pst.bind_of h fun v s1 v' H1 φ1 x1 st1 r1 q => ?_)
  refine b2 en s1 σ H1 φ1 _ (re.mono x1) st1 (part_of q fun i s2 H2 φ2 x2 st2 q2 => ?_)
  exact ⟨i, rfl, slice_ok st2 (r1.mono x2) q2⟩
theorem re_slice01 {p2 : Pos} (ha : RE F W a ma) (hb : RE F W b mb) : RE F W (.Subscript a (.Slice none (some b) none p2) pos) (E.slice ma none (some mb)) := by
  obtain ⟨t, a1, a2⟩ := ha
  obtain ⟨u, b1, b2⟩ := hb
  refine ⟨_, fun i => pe_slice (slU i) (a1 i) po_none (po_some (b1 i)), fun en s σ H φ Q re st h => ?_⟩
  refine a2 en s σ H φ _ re st (Pst.bind_of h fun v s1 v' H1 φ1 x1 st1 r1 q => ?_)
  refine b2 en s1 σ H1 φ1 _ (re.mono x1) st1 (part_of q fun i s2 H2 φ2 x2 st2 q2 => ?_)
  exact ⟨i, rfl, slice_ok st2 (r1.mono x2) q2⟩
theorem re_slice11 {p2 : Pos} {c : Expr} {mc : ME} (ha : RE F W a ma) (hb : RE F W b mb) (hc : RE F W c mc) : RE F W (.Subscript a (.Slice (some b) (some c) none p2) pos) (E.slice ma (some mb) (some mc)) := by
  obtain ⟨t, a1, a2⟩ := ha
  obtain ⟨u, b1, b2⟩ := hb
  obtain ⟨z, c1, c2⟩ := hc
  refine ⟨_, fun i => pe_slice (slU i) (a1 i) (po_some (b1 i)) (po_some (c1 i)), fun en s σ H φ Q re st h => ?_⟩
  refine a2 en s σ H φ _ re st (Pst.bind_of h fun v s1 v' H1 φ1 x1 st1 r1 q => ?_)
  refine b2 en s1 σ H1 φ1 _ (re.mono x1) st1 (part_of q fun i s2 H2 φ2 x2 st2 q2 => ?_)
  refine ⟨i, rfl, c2 en s2 σ H2 φ2 _ ((re.mono x1).mono x2) st2 (part_of q2 fun j s3 H3 φ3 x3 st3 q3 => ?_)⟩
  exact ⟨j, rfl, slice_ok st3 ((r1.mono x2).mono x3) q3⟩
end
end Br
set_option maxRecDepth 100000
set_option maxHeartbeats 1000000
/-! Calls: built-ins, methods of lists, defs. -/
namespace Br
open PySem L2 Mi PySem.Spec PyProof.Rows

section
variable {F : Fam} {W : WX} {a b e o : Expr} {es : List Expr} {ma mb mo : ME} {mr : MA} {pos p : Pos} {x : Str} {id T : String}
/-- a call by values refines a mirror -/
def CallM (F : Fam) (W : WX) (f : Value) (g : MF) : Prop := ∃ r : List V → Hp → VK → Prop, (∀ i, CallR (F.X i) f r) ∧ ∀ xs vs s σ H φ Q, St0 F.P F.w F.K H φ s → Reps F.K H φ xs vs → Pst F.P F.w F.K (Rep F.K) W σ H φ (g xs s) Q → r vs H Q
theorem re_callB {g : MF} (hc : CallM F W (.builtin id) g) (hg : ∀ i, Gl (F.X i) x) (hm : F.mg x = none) (hv : bootBuiltins x = some (.builtin id)) (ha : RA F W (e :: es) mr) (hn : x ≠ "__name__" := by decide) (hdb : (x == ("__debug__" : Str)) = false := by decide)
    (he : ∀ i, starEach (e :: es) (F.X i).env = (false, eval e (F.X i).env) :: starEach es (F.X i).env := by intro _; rfl) (hpl : ∀ i, (backTo pos (starEach es (F.X i).env)).any (·.1) = false := by intro _; rfl) : RE F W (.Call (.Name x p) (e :: es) [] pos) (E.call g mr) := by
  obtain ⟨r, h1, h2⟩ := hc
  obtain ⟨t, a1, a2⟩ := ha
  refine ⟨_, fun i => pe_callB (h1 i) (hg i) (by rw [F.hmg i]; exact hm) hv (a1 i) hn hdb (he i) (hpl i), fun en s σ H φ Q re st h => ?_⟩
  exact a2 en s σ H φ _ re st (Pst.bind_of h fun v s1 v' H1 φ1 x1 st1 r1 q => h2 v v' s1 σ H1 φ1 Q st1 r1 q)
theorem re_callTy {g : MF} (hc : CallM F W (.type T) g) (hg : ∀ i, Gl (F.X i) x) (hm : F.mg x = none) (hv : bootBuiltins x = some (.type T)) (ha : RA F W (e :: es) mr) (hn : x ≠ "__name__" := by decide) (hdb : (x == ("__debug__" : Str)) = false := by decide)
    (he : ∀ i, starEach (e :: es) (F.X i).env = (false, eval e (F.X i).env) :: starEach es (F.X i).env := by intro _; rfl) (hpl : ∀ i, (backTo pos (starEach es (F.X i).env)).any (·.1) = false := by intro _; rfl) : RE F W (.Call (.Name x p) (e :: es) [] pos) (E.call g mr) := by
  obtain ⟨r, h1, h2⟩ := hc
  obtain ⟨t, a1, a2⟩ := ha
  refine ⟨_, fun i => pe_callTy (h1 i) (hg i) (by rw [F.hmg i]; exact hm) hv (a1 i) hn hdb (he i) (hpl i), fun en s σ H φ Q re st h => ?_⟩
  exact a2 en s σ H φ _ re st (Pst.bind_of h fun v s1 v' H1 φ1 x1 st1 r1 q => h2 v v' s1 σ H1 φ1 Q st1 r1 q)
theorem reps1 {H : Hp} {φ : List Addr} {x : AV} {vs : List V} (r : Reps F.K H φ [x] vs) : ∃ v, vs = [v] ∧ Rep F.K H φ x v := by
  cases r with
  | cons r rs => cases rs; exact ⟨_, rfl, r⟩
theorem reps2 {H : Hp} {φ : List Addr} {x y : AV} {vs : List V} (r : Reps F.K H φ [x, y] vs) : ∃ v u, vs = [v, u] ∧ Rep F.K H φ x v ∧ Rep F.K H φ y u := by
  cases r with
  | cons r rs =>
    obtain ⟨u, rfl, q⟩ := reps1 rs
    exact ⟨_, u, rfl, r, q⟩
theorem cm_len : CallM F W (.builtin "len") B.len := by
  refine ⟨fun xs H Q => (∃ p ys, xs = [.ref p] ∧ (SqL F.K H p ys ∨ SqT F.K H p ys) ∧ Q (.int ys.length) H) ∨ ∃ z, xs = [.str z] ∧ z.length ≤ sizeLine ∧ Q (.int z.length) H, fun i => by have q := (call_len_seq (X := F.X i)).or call_len_str; rw [F.hK i] at q; exact q, fun xs vs s σ H φ Q st r h => ?_⟩
  unfold B.len at h
  split at h
  · obtain ⟨v, rfl, rv⟩ := reps1 r
    cases rv
    split at h
    · rename_i hz
      exact .inr ⟨_, rfl, by rw [← line_eq]; exact hz, sameV st (.int _) h⟩
    · exact h.elim
  · obtain ⟨v, rfl, rv⟩ := reps1 r
    cases rv with
    | ref hl =>
      have key : ∀ ys, seqAt s _ = some ys → Pst F.P F.w F.K (Rep F.K) W σ H φ (.ok (.int ys.length) s) Q → ∃ p zs, [V.ref _] = [.ref p] ∧ (SqL F.K H p zs ∨ SqT F.K H p zs) ∧ Q (.int zs.length) H := fun ys hy h => by
        obtain ⟨us, h1, h2⟩ := st.seq hy hl
        exact ⟨_, us, rfl, .inl h1, by rw [← h2.length]; exact sameV st (.int _) h⟩
      split at h
      · rename_i ys hy
        exact .inl (key ys (by unfold seqAt; rw [hy]) h)
      · rename_i ys hy
        exact .inl (key ys (by unfold seqAt; rw [hy]) h)
      · exact h.elim
  · obtain ⟨v, rfl, rv⟩ := reps1 r
    cases rv with
    | tup hs hr => exact .inl ⟨_, _, rfl, .inr hs, by rw [← hr.length]; exact sameV st (.int _) h⟩
  · exact h.elim
theorem kit_ii : kitB "int" "int" = some true := by decide +kernel
theorem ty_of {H : Hp} {φ : List Addr} {s : Sto} {x : AV} {v : V} {k : String} (st : St0 F.P F.w F.K H φ s) (r : Rep F.K H φ x v) (h : B.kind s x = some k) : TyX F.K H v (.type k) ∧ (k = "NoneType" ∨ k = "bool" ∨ k = "int" ∨ k = "str" ∨ k = "tuple" ∨ k = "list") := by
  cases r with
  | non => cases h; exact ⟨.base .non, by simp⟩
  | bl b => cases h; exact ⟨.base (.bl b), by simp⟩
  | int i => cases h; exact ⟨.base (.int i), by simp⟩
  | str z => cases h; exact ⟨.base (.str z), by simp⟩
  | tup hs hr =>
    cases h
    refine ⟨?_, by simp⟩
    rcases hs with (hs | ⟨ob, hs⟩) | ⟨ob, _, _, h1, h2, _⟩
    · exact .base (.tup hs)
    · exact .fTuple hs
    · exact .kTuple h1 h2
  | ref hl =>
    rename_i l a
    unfold B.kind at h
    dsimp only at h
    cases hs : s[l]? with
    | none => simp only [hs] at h; cases h
    | some ob =>
      cases ob with
      | lst xs =>
        simp only [hs] at h
        cases h
        obtain ⟨vs, h1, h2⟩ := st.lst hs hl
        exact ⟨.base (.lst h1), by simp⟩
      | _ => simp only [hs] at h; cases h
  | _ => cases h
theorem kits (k t : String) (hk : k = "NoneType" ∨ k = "bool" ∨ k = "int" ∨ k = "str" ∨ k = "tuple" ∨ k = "list") (ht : t = "int" ∨ t = "bool" ∨ t = "tuple" ∨ t = "str") : kitB k t = some (decide (k = t) || (decide (k = "bool") && decide (t = "int"))) := by
  rcases hk with rfl | rfl | rfl | rfl | rfl | rfl <;> rcases ht with rfl | rfl | rfl | rfl <;> decide +kernel
theorem cm_isa : CallM F W (.builtin "isinstance") B.isa := by
  refine ⟨rIsi F.K, fun i => by have q := call_isi (X := F.X i); rw [F.hK i] at q; exact q, fun xs vs s σ H φ Q st r h => ?_⟩
  unfold B.isa at h
  split at h
  · rename_i x t
    obtain ⟨v, u, rfl, rv, ru⟩ := reps2 r
    cases ru
    split at h
    · rename_i ht
      cases hk : B.kind s x with
      | none => simp only [hk] at h; exact h.elim
      | some k =>
        simp only [hk] at h
        obtain ⟨ty, hk'⟩ := ty_of st rv hk
        exact ⟨v, .ty t, .type k, .type t, _, rfl, .ty t, ty, kit_ty (kits k t hk' ht), sameV st (.bl _) h⟩
    · exact h.elim
  · exact h.elim
theorem cm_int : CallM F W (.type "int") B.int_ := by
  refine ⟨_, fun i => call_int1, fun xs vs s σ H φ Q st r h => ?_⟩
  unfold B.int_ at h
  split at h
  · obtain ⟨v, rfl, rv⟩ := reps1 r
    cases rv
    exact .inl ⟨_, rfl, sameV st (.int _) h⟩
  · obtain ⟨v, rfl, rv⟩ := reps1 r
    cases rv
    exact .inr ⟨_, rfl, sameV st (.int _) h⟩
  · exact h.elim
theorem cm_list : CallM F W (.type "list") B.list_ := by
  refine ⟨fun xs H Q => ∃ p ys, xs = [.ref p] ∧ (SqL F.K H p ys ∨ SqT F.K H p ys) ∧ ∀ l, H l = none → Q (.ref l) (upd H l (.lst ys)), fun i => by have q := call_list_of (X := F.X i); rw [F.hK i] at q; exact q, fun xs vs s σ H φ Q st r h => ?_⟩
  unfold B.list_ at h
  split at h
  · obtain ⟨v, rfl, rv⟩ := reps1 r
    split at h
    · rename_i xs hx
      obtain ⟨p, us, rfl, hr, hs⟩ := items_of st rv hx
      exact ⟨p, us, rfl, hs, newL st hr h⟩
    · exact h.elim
  · exact h.elim
theorem cm_tuple : CallM F W (.type "tuple") B.tuple_ := by
  refine ⟨fun xs H Q => ∃ p ys, xs = [.ref p] ∧ ((SqL F.K H p ys ∧ ∀ l, H l = none → Q (.ref l) (upd H l (.tup ys))) ∨ (SqT F.K H p ys ∧ Q (.ref p) H)), fun i => by have q := call_tuple_of (X := F.X i); rw [F.hK i] at q; exact q, fun xs vs s σ H φ Q st r h => ?_⟩
  unfold B.tuple_ at h
  split at h
  · obtain ⟨v, rfl, rv⟩ := reps1 r
    split at h
    · rename_i xs hx
      cases rv with
      | tup hs hr =>
        cases hx
        exact ⟨_, _, rfl, .inr ⟨hs, sameV st (.tup hs hr) h⟩⟩
      | ref hl =>
        obtain ⟨us, h1, h2⟩ := st.seq hx hl
        exact ⟨_, us, rfl, .inl ⟨h1, newT st h2 h⟩⟩
      | _ => cases hx
    · exact h.elim
  · exact h.elim
theorem cm_min2 (hc : ∀ i, (F.X i).calm = true) : CallM F W (.builtin "min") B.min2 := by
  refine ⟨_, fun i => call_min2 (hc i), fun xs vs s σ H φ Q st r h => ?_⟩
  unfold B.min2 at h
  split at h
  · obtain ⟨v, u, rfl, rv, ru⟩ := reps2 r
    cases rv; cases ru
    exact ⟨_, _, rfl, sameV st (.int _) h⟩
  · exact h.elim
theorem cm_max2 (hc : ∀ i, (F.X i).calm = true) : CallM F W (.builtin "max") B.max2 := by
  refine ⟨_, fun i => call_max2 (hc i), fun xs vs s σ H φ Q st r h => ?_⟩
  unfold B.max2 at h
  split at h
  · obtain ⟨v, u, rfl, rv, ru⟩ := reps2 r
    cases rv; cases ru
    exact ⟨_, _, rfl, sameV st (.int _) h⟩
  · exact h.elim
/-- a method of a built-in type, by values -/
def MethM (F : Fam) (W : WX) (T id : String) (g : AV → MF) : Prop := ∃ r : V → List V → Hp → VK → Prop, (∀ i, MtR (F.X i) id r) ∧ ∀ x v xs vs s s0 σ H H0 φ φ0 Q, St0 F.P F.w F.K H0 φ0 s0 → Rep F.K H0 φ0 x v → Ext F.K H0 φ0 H φ → St0 F.P F.w F.K H φ s → Reps F.K H φ xs vs → Pst F.P F.w F.K (Rep F.K) W σ H φ (g x xs s) Q → r v vs H Q
theorem tyV_lst {H : Hp} {φ : List Addr} {s : Sto} {x : AV} {v : V} (st : St0 F.P F.w F.K H φ s) (r : Rep F.K H φ x v) (h : Mi.isLst s x = true) : tyV F.K "list" v H := by
  unfold Mi.isLst at h
  split at h
  · rename_i l
    split at h
    · rename_i xs hx
      cases r with
      | ref hl =>
        obtain ⟨vs, h1, h2⟩ := st.lst hx hl
        exact .inl ⟨rfl, vs, SqL.of h1⟩
    · cases h
  · cases h
theorem re_lm0 {g : AV → MF} {name : Str} {apos : Pos} (pa : PlainAttrs "list") (slot : Slot "list" name id) (hty : typeOf (.builtin id) = pure (.type "method_descriptor")) (hm : MethM F W "list" id g) (ho : RE F W o mo)
    (hbase : ∀ i, attributeBase o name (F.X i).env (eval o (F.X i).env) = eval o (F.X i).env := by intro _; rfl) (hline : (apos.endLine == pos.line) = true := by rfl) : RE F W (.Call (.Attribute o name apos) [] [] pos) (E.lmeth g mo E.nil) := by
  obtain ⟨r, h1, h2⟩ := hm
  obtain ⟨t, a1, a2⟩ := ho
  refine ⟨tBM0 F.K "list" r t, fun i => by have q := pe_bm0 (cpos := pos) (apos := apos) pa slot hty (h1 i) (a1 i) (hbase i) hline; rw [F.hK i] at q; exact q, fun en s σ H φ Q re st h => ?_⟩
  refine a2 en s σ H φ _ re st (Pst.bind_of h fun v s1 v' H1 φ1 x1 st1 r1 q => ?_)
  split at q
  · rename_i hz
    exact ⟨tyV_lst st1 r1 hz, h2 v v' [] [] s1 s1 σ H1 H1 φ1 φ1 Q st1 r1 .refl st1 .nil q⟩
  · exact q.elim
theorem re_lm {g : AV → MF} {name : Str} {apos : Pos} (pa : PlainAttrs "list") (slot : Slot "list" name id) (hty : typeOf (.builtin id) = pure (.type "method_descriptor")) (hm : MethM F W "list" id g) (ho : RE F W o mo) (ha : RA F W (e :: es) mr)
    (hbase : ∀ i, attributeBase o name (F.X i).env (eval o (F.X i).env) = eval o (F.X i).env := by intro _; rfl)
    (hfew : ∀ i, ((backTo pos (starEach (e :: es) (F.X i).env)).all (fun x => !x.1) && (backToKw pos (keywordEach [] (F.X i).env)).all (fun x => x.1.isSome)
      && decide ((e :: es).length + ([] : List Keyword).length + (if ([] : List Keyword).isEmpty then 0 else 1) < 30)) = true := by intro _; rfl)
    (hline : (apos.endLine == pos.line) = true := by rfl) (hs : ∀ i, starEach (e :: es) (F.X i).env = (false, eval e (F.X i).env) :: starEach es (F.X i).env := by intro _; rfl) (hplain : ∀ i, (backTo pos (starEach es (F.X i).env)).any (·.1) = false := by intro _; rfl) :
    RE F W (.Call (.Attribute o name apos) (e :: es) [] pos) (E.lmeth g mo mr) := by
  obtain ⟨r, h1, h2⟩ := hm
  obtain ⟨t, a1, a2⟩ := ho
  obtain ⟨u, b1, b2⟩ := ha
  refine ⟨tBM F.K "list" r t u, fun i => by have q := pe_bm (cpos := pos) (apos := apos) pa slot hty (h1 i) (a1 i) (b1 i) (hbase i) (hfew i) hline (hs i) (hplain i); rw [F.hK i] at q; exact q, fun en s σ H φ Q re st h => ?_⟩
  refine a2 en s σ H φ _ re st (Pst.bind_of h fun v s1 v' H1 φ1 x1 st1 r1 q => ?_)
  split at q
  · rename_i hz
    refine ⟨tyV_lst st1 r1 hz, b2 en s1 σ H1 φ1 _ (re.mono x1) st1 (Pst.bind_of q fun w s2 w' H2 φ2 x2 st2 r2 q2 => ?_)⟩
    exact h2 v v' w w' s2 s1 σ H2 H1 φ2 φ1 Q st1 r1 x2 st2 r2 q2
  · exact q.elim
theorem mm_append : MethM F W "list" "list.append" B.append := by
  refine ⟨rAppend, fun i => mt_append, fun x v xs vs s s0 σ H H0 φ φ0 Q st0 rx ex st r h => ?_⟩
  unfold B.append at h
  split at h
  · rename_i l y
    obtain ⟨u, rfl, ru⟩ := reps1 r
    cases rx with
    | ref hl =>
      split at h
      · rename_i ys hy
        obtain ⟨us, h1, h2⟩ := st.lst hy (ex.at hl)
        split at h
        · rename_i hz
          refine ⟨_, us, u, rfl, rfl, h1, by rw [← h2.length, ← line_eq]; exact hz, ?_⟩
          exact h _ _ φ (.lst h1) (st.set (u := .lst (ys ++ [y])) hy rfl (ex.at hl) (.lst h1) ⟨_, upd_same, (h2.append (.cons ru .nil)).mono (.lst h1)⟩) .non
        · exact h.elim
      · exact h.elim
  · exact h.elim
theorem seqIx {n : Nat} {i : Int} {k : Nat} (h : Mi.ixN n i = some k) : seqIndex? i n = some k := (ixN_seq (by rw [← ixN_eq]; exact h)).1
theorem mm_pop : MethM F W "list" "list.pop" B.pop := by
  refine ⟨_, fun i => MtR.or (r := rPop) (r' := rPopAt) mt_pop mt_popAt, fun x v xs vs s s0 σ H H0 φ φ0 Q st0 rx ex st r h => ?_⟩
  unfold B.pop at h
  split at h
  · rename_i l
    cases rx with
    | ref hl =>
      split at h
      · rename_i ys hy
        obtain ⟨us, h1, h2⟩ := st.lst hy (ex.at hl)
        split at h
        · cases r
          split at h
          · rename_i y hyl
            obtain ⟨u, hu, ru⟩ := h2.get hyl
            refine .inl ⟨_, us, u, rfl, rfl, h1, by rw [← h2.length]; exact hu, ?_⟩
            refine h _ _ φ (.lst h1) (st.set (u := .lst ys.dropLast) hy rfl (ex.at hl) (.lst h1) ⟨_, upd_same, ?_⟩) (ru.mono (.lst h1))
            rw [List.dropLast_eq_take, List.dropLast_eq_take, ← h2.length]
            exact (h2.take _).mono (.lst h1)
          · exact h.elim
        · obtain ⟨u, rfl, ru⟩ := reps1 r
          cases ru
          split at h
          · rename_i hz
            have hz := of_decide_eq_true hz
            split at h
            · rename_i k hk
              split at h
              · rename_i y hyk
                obtain ⟨u, hu, ru⟩ := h2.get hyk
                refine .inr ⟨_, us, _, k, u, rfl, rfl, h1, hz.1, hz.2, by rw [← h2.length]; exact seqIx hk, hu, ?_⟩
                exact h _ _ φ (.lst h1) (st.set (u := .lst (ys.eraseIdx k)) hy rfl (ex.at hl) (.lst h1) ⟨_, upd_same, (h2.eraseIdx k).mono (.lst h1)⟩) (ru.mono (.lst h1))
              · exact h.elim
            · exact h.elim
          · exact h.elim
        · exact h.elim
      · exact h.elim
  · exact h.elim
end
end Br
set_option maxRecDepth 100000
set_option maxHeartbeats 1000000
/-! Defs: their promise by their mirror; calls of them; the law's own call. -/
namespace Br
open PySem L2 Mi PySem.Spec PyProof.Rows

/-- room for calls, and nothing is being shown (repr) around -/
structure RoomG (k : Nat) (A : Around) : Prop where
  rm : Room k A
  gd : A.guards = some []
theorem RoomG.mono {j k : Nat} {A : Around} (r : RoomG k A) (h : j ≤ k) : RoomG j A := ⟨r.rm.mono h, r.gd⟩
/-- a def keeps its promise where nothing is being shown -/
structure FnG (P : Program) (w : World) (K : PySem.W.Frag) (mg : Str → Option Value) (base : Heap) (CX : CXT) (k : Nat) (f : Addr) (fd : FuncData) (ps : List Str) (sp : Sp) : Prop where
  len : ∀ vs H Q E, sp vs H Q E → vs.length = ps.length
  run : ∀ (A : Around) (outer : List Env) (s : Shared) (H : Hp) (args : Args) (us : List Value) (vs : List V) (Q : VK) (E : XK), RoomG k A → Env0 P w K mg base A outer s H →
    BindsTo s fd args (ps.zip us) → Vals vs us → sp vs H Q E → codeAny (model P w) A (.call (.ref f) args) (CR CX outer P w H s Q E) s
/-- the promise of a def by its mirror -/
def spM (P : Program) (w : World) (K : PySem.W.Frag) (m : MF) : Sp := fun vs H Q E => ∃ xs s φ, St0 P w K H φ s ∧ Reps K H φ xs vs ∧ Pst P w K (Rep K) (fun c d _ H' => E c d H') [] H φ (m xs s) Q

section
variable {X : Cx} {CX : CXT} {k : Nat} {f : Addr} {fd : FuncData} {ps : List Str} {sp : Sp} {E : XK} {x : Str} {p pos : Pos} {e : Expr} {es : List Expr} {t : TA}
/-- a def is called, by values -/
theorem runG (G : FnG X.prog X.w X.K X.mg X.base CX k f fd ps sp) (hr : RoomG k X.A) (hb : Binds X.K fd ps []) (hx : Passes CX X E) {pins : List (Addr × Obj)} {σ : L2.St} {H : Hp} {s : Shared} {Q : VK} {us : List Value} {vs : List V}
    (I : Inv X pins σ H s) (rv : Vals vs us) (h : sp vs H Q E) : wpAny (model X.prog X.w) X.A (call (.ref f) us) (EP X pins σ Q) X.xe s := by
  have hl : us.length = ps.length := rv.length ▸ G.len vs H Q E h
  have bind : BindsTo s fd ⟨us, []⟩ (ps.zip us) := by
    have z := hb s us I.kIn (by rw [List.append_nil]; exact hl)
    rw [List.append_nil] at z
    exact z
  refine wpAny_call (codeAny_mono (G.run X.A X.stack s H _ us vs Q E hr I.env0 bind rv h) ?_)
  intro r s' hq
  match r, hq with
  | .error e, hq => exact hx pins σ H s e s' I hq
  | .ok (.ret u), hq => exact I.after hq
  | .ok .next, hq => exact hq.elim
  | .ok .brk, hq => exact hq.elim
  | .ok .cont, hq => exact hq.elim
theorem peG (G : FnG X.prog X.w X.K X.mg X.base CX k f fd ps sp) (hr : RoomG k X.A) (hg : Gl X x) (hm : X.mg x = some (.ref f)) (hk : PySem.W.keepIn X.K (.ref f) = true) (hb : Binds X.K fd ps []) (hx : Passes CX X E)
    (ha : PA X (e :: es) t) (hdb : (x == ("__debug__" : Str)) = false) (he : starEach (e :: es) X.env = (false, eval e X.env) :: starEach es X.env) (hpl : (backTo pos (starEach es X.env)).any (·.1) = false) :
    PE X (.Call (.Name x p) (e :: es) [] pos) (fun σ H Q => t σ H fun vs H1 => sp vs H1 Q E) where
  run pins s σ H Q I h := by
    have args := thn (ha.run pos pins s σ H _ I h) (Q' := fun us s1 => X.K.In s1.heap ∧ wpAny (model X.prog X.w) X.A (call (.ref f) us) (EP X pins σ Q) X.xe s1)
      (by rintro us s1 ⟨vs, H1, I1, r1, q1⟩; exact ⟨I1.kIn, runG G hr hb hx I1 r1 q1⟩)
    exact wpAny_Call_Name_kw (ld_glob I hg hm (PySem.W.callWith_K (h₀ := X.base) I.ok.mod.kin hk args he hpl) hdb)
end
/-- where a def stands, how it takes its arguments -/
structure DefAt (K : PySem.W.Frag) (mg : Str → Option Value) (x : Str) (st : Stmt) (ps : List Str) (f : Addr) (fd : FuncData) : Prop where
  mg : mg x = some (.ref f)
  fn : Fun K x x st f fd
  bd : Binds K fd ps []
section
variable {F : Fam} {W : WX} {e : Expr} {es : List Expr} {mr : MA} {pos p : Pos} {x : Str} {k n : Nat} {f : Addr} {fd : FuncData} {ps : List Str} {st : Stmt} {m : MF}
theorem FnG.at {sp : Sp} {CX : CXT} (G : FnG F.P F.w F.K F.mg F.base CX k f fd ps sp) (i : F.ι) : FnG (F.X i).prog (F.X i).w (F.X i).K (F.X i).mg (F.X i).base CX k f fd ps sp := by
  rw [F.hP i, F.hw i, F.hK i, F.hmg i, F.hbase i]; exact G
/-- a call of a def out of which no error comes -/
theorem re_call (G : FnG F.P F.w F.K F.mg F.base CX0 k f fd ps (spM F.P F.w F.K m)) (A : DefAt F.K F.mg x st ps f fd) (hr : ∀ i, RoomG k (F.X i).A) (hg : ∀ i, Gl (F.X i) x) (ha : RA F W (e :: es) mr)
    (hdb : (x == ("__debug__" : Str)) = false := by decide) (he : ∀ i, starEach (e :: es) (F.X i).env = (false, eval e (F.X i).env) :: starEach es (F.X i).env := by intro _; rfl) (hpl : ∀ i, (backTo pos (starEach es (F.X i).env)).any (·.1) = false := by intro _; rfl) :
    RE F W (.Call (.Name x p) (e :: es) [] pos) (E.calln m mr) := by
  obtain ⟨t, a1, a2⟩ := ha
  refine ⟨_, fun i => peG (CX := CX0) (E := E0) (G.at i) (hr i) (hg i) (by rw [F.hmg i]; exact A.mg) (by rw [F.hK i]; exact A.fn.kp) (by rw [F.hK i]; exact A.bd) pass0 (a1 i) hdb (he i) (hpl i), fun en s σ H φ Q re st h => ?_⟩
  refine a2 en s σ H φ _ re st (Pst.bind_of h fun v s1 v' H1 φ1 x1 st1 r1 q => ⟨v, s1, φ1, st1, r1, ?_⟩)
  revert q
  cases m v s1 with
  | ok u s2 => exact id
  | err C y s2 => exact fun q => q.elim
  | bad => exact fun q => q.elim
/-- the promise of a def, by its body's mirror -/
theorem fnG {P : Program} {w : World} {K : PySem.W.Frag} {mg : Str → Option Value} {base : Heap} {qual : Str} {N : List Str} {b : MS} (Fu : Fun K x qual st f fd) (S : FnScope N ps (defScope st)) {np n : Nat} (hnp : ps.length = np) (hn : N.length = n)
    (body : ∀ (cdv : Value) (A : Around) (outer : List Env) (s : Shared) (H : Hp), RoomG k (A.deeper (envOfC qual (defScope st) s.heap.objs.size f cdv)) →
      RSs (Fam.one (cxOf CX0 P w K mg base N qual (defScope st) f cdv A outer s H E0).nox) Wn (defBody st) b) :
    FnG P w K mg base CX0 (k + 1) f fd ps (spM P w K (runDefn np n b)) := by
  have lens : ∀ vs H Q E, spM P w K (runDefn np n b) vs H Q E → vs.length = ps.length := by
    rintro vs H Q E ⟨xs, s, φ, _, r, h⟩
    unfold runDefn at h
    split at h
    · exact h.elim
    · rename_i hz
      rw [hnp, ← r.length]
      exact Classical.not_not.mp hz
  obtain ⟨oc, od, kV, doc, pm, an, cdv, ct, osl, rfl, lk, hcd⟩ := Fu.ex
  refine ⟨lens, fun A outer s H args us vs Q E hr e0 hb rv hsp => ?_⟩
  have hl := lens _ _ _ _ hsp
  have inK : K.In s.heap := e0.mod.kin.keeps fun c o z => (e0.bs c o z).1
  have noL : s.heap.NoLimit := e0.mod.nolimit.keeps fun c o z => (e0.bs c o z).1
  have kinds : ∀ y ∈ ps.zip us, (defScope st).names.lookup y.1 = some .local ∨ ((defScope st).names.lookup y.1 = some .cell ∧ ((cellsFrom (s.heap.objs.size + 1) (defScope st).names []).lookup y.1).isSome = true) := by
    rintro ⟨nm, v⟩ hy
    exact (S.par nm (List.of_mem_zip hy).1).imp id fun z => ⟨z, PySem.W.cellsFrom_some _ _ _ (.inl z)⟩
  apply codeAny_call_function hr.rm.depth (inK _ _ lk) rfl S.co S.gen rfl (PySem.W.codeRec_of inK hcd)
  refine hb _ _ _ _ (wpAny_newFunctionEnv_cells S.kind kinds ?_)
  rintro env rfl s1 z
  refine ⟨noL.keeps z.toInCall.keep, codeAny_func ?_⟩
  have hr' : RoomG k (A.deeper (envOfC qual (defScope st) s.heap.objs.size f cdv)) := ⟨hr.rm.deeper _, hr.gd⟩
  obtain ⟨t, t1, t2⟩ := body cdv A outer s H hr'
  have I : Inv (cxOf CX0 P w K mg base N qual (defScope st) f cdv A outer s H E0) [] (start N vs) H s1 := inv_start S hr.rm.hd e0 hl rv z
  obtain ⟨xs, s0, φ, st0, rx, hp⟩ := hsp
  have hq : t { nx := fun _ H' => Q .non H', rt := Q } (start N vs) H := by
    refine t2 (xs.map some ++ List.replicate (n - xs.length) none) s0 (start N vs) H φ _ ⟨?_, fun i y q => ?_⟩ st0 ?_
    · unfold L2.start
      simp only [List.length_append, List.length_map, List.length_replicate]
      rw [rx.length, hn]
    · by_cases hi : i < xs.length
      · rw [List.getElem?_append_left (by rw [List.length_map]; exact hi), List.getElem?_map] at q
        cases hxi : xs[i]? with
        | none => rw [hxi] at q; cases q
        | some u =>
          rw [hxi] at q
          cases q
          obtain ⟨v, h1, h2⟩ := rx.get hxi
          refine ⟨v, ?_, h2⟩
          unfold L2.start
          rw [List.getElem?_append_left (by rw [List.length_map, ← rx.length]; exact hi), List.getElem?_map, h1]; rfl
      · rw [List.getElem?_append_right (by rw [List.length_map]; omega)] at q
        rw [List.getElem?_replicate] at q
        split at q <;> cases q
    · unfold runDefn at hp
      split at hp
      · exact hp.elim
      · revert hp
        show Pst P w K (Rep K) _ [] H φ (match b (xs.map some ++ List.replicate (n - xs.length) none) s0 with
          | .nx _ s => .ok .non s
          | .ret v s => .ok v s
          | _ => .bad) Q → PstS P w K Wn H φ (b (xs.map some ++ List.replicate (n - xs.length) none) s0) _
        cases b (xs.map some ++ List.replicate (n - xs.length) none) s0 with
        | nx en s => exact fun h σ' H' φ' e st re => h .non H' φ' e st .non
        | ret v s => exact id
        | err C y en s => exact fun h => h.elim
        | brk en s => exact fun h => h.elim
        | cnt en s => exact fun h => h.elim
        | bad => exact id
  refine wpAny_mono ((t1 ()).nox.run [] s1 (start N vs) H _ I hq) ?_ (fun e s' hs => hs)
  rintro fl s' hs
  have fin : ∀ (σ' : L2.St) (H' : Hp) (v : V) (u : Value), Inv (cxOf CX0 P w K mg base N qual (defScope st) f cdv A outer s H E0) [] σ' H' s' → RelV v u → Q v H' → CE outer P w H s Q u s' :=
    fun _ H' v _ J r q => ⟨v, H', J.os, J.bare, J.base, J.hok, r, q⟩
  match fl, hs with
  | .ret u, ⟨v, σ', H', J, r, q⟩ => exact fin σ' H' v u J r q
  | .next, ⟨σ', H', J, q⟩ => exact fin σ' H' .non .none J rfl q
  | .brk, ⟨_, _, _, q⟩ => exact q.elim
  | .cont, ⟨_, _, _, q⟩ => exact q.elim
end
end Br
namespace Br
open PySem L2 Mi PySem.Spec PyProof.Rows
/-- what the law's def must promise: from a store that is the script alone its mirror comes to True -/
def LawOk (m : MF) : Prop := ∀ ns : List Int, ns.length ≤ 63 → ∃ s, m [.ref 0] [.rol (ns.map AV.int)] = .ok (.bl true) s
theorem reps_int {K : PySem.W.Frag} {H : Hp} {φ : List Addr} : ∀ ns : List Int, Reps K H φ (ns.map AV.int) (ns.map V.int)
  | [] => .nil
  | n :: ns => .cons (.int n) (reps_int ns)
section
variable {P : Program} {w : World} {K : PySem.W.Frag} {mg mb : Str → Option Value} {k : Nat} {fa a : Addr} {fd : FuncData} {x : Str} {m : MF} {s₁ : Shared} {vs : List Value} {ns : List Int}
/-- from an abstract heap that tracks the script or nothing -/
theorem law_core (KX : K.In s₁.heap) (hns : s₁.heap.Ns mainGlobals mg) (hb : s₁.heap.Ns builtinsNs mb) (hbb : ∀ x : Str, x ≠ "__name__" → mb x = bootBuiltins x) (hlim : s₁.heap.NoLimit) (hg : s₁.gens = #[])
    (ha : s₁.heap.get? a = some { cls := .type "list", data := .seq vs.toArray }) (hl : ns.length ≤ 63) (hr : Room k callerA)
    (G : ∀ base : Heap, K.In base → base.Ns mainGlobals mg → FnG P w K mg base CX0 k fa fd [x] (spM P w K m)) (hbind : ∀ (s : Shared) (u : Value), BindsTo s fd ⟨[u], []⟩ [(x, u)]) (law : LawOk m)
    (H : Hp) (hS : (∃ o, H a = some (.frz o (.lst (ns.map V.int)))) ∨ SqL K (fun _ => none) a (ns.map V.int)) (hok : HOk P w H s₁.heap) (only : ∀ b, H b ≠ none → b = a) (hK : H a ≠ none → K.lookup a = none)
    (frz : ∀ b o, H b = some o → ∃ ob u, o = .frz ob u) :
    codeAny (model P w) callerA (.call (.ref fa) ⟨[.ref a], []⟩) (fun r s' => r = .ok (.ret (.bool true)) ∧ OldK s₁.heap s'.heap ∧ s'.os = s₁.os ∧ AllBare s'.gens) s₁ := by
  have free : ∀ {b : Addr} {o : Obj} {es : Array DictEntry} {ep : Nat}, s₁.heap.get? b = some o → o.data = .dict es ep → H b = none := by
    intro b o es ep e d
    cases q : H b with
    | none => rfl
    | some u =>
      obtain rfl := only b (by rw [q]; nofun)
      rw [ha] at e; cases e; cases d
  have inB : ∀ {b : Addr} {y : Str → Option Value}, s₁.heap.Ns b y → (hidT s₁.heap H).Ns b y := fun ⟨o, es, ep, e, d, r⟩ => ⟨o, es, ep, hidT_get e (free e d), d, r⟩
  have kin : K.In (hidT s₁.heap H) := by
    intro b o e
    refine hidT_get (KX b o e) ?_
    cases q : H b with
    | none => rfl
    | some u =>
      obtain rfl := only b (by rw [q]; nofun)
      rw [hK (by rw [q]; nofun)] at e; cases e
  obtain ⟨mc, lim1, lim2⟩ := hlim
  have mod : Mod K mg (hidT s₁.heap H) := ⟨kin, inB hns, ⟨mb, inB hb, hbb⟩, ⟨mc, inB lim1, lim2⟩⟩
  have e0 : Env0 P w K mg (hidT s₁.heap H) callerA [] s₁ H :=
    { frames := rfl, mod := mod, bs := fun _ _ e => of_hidT e, bsz := Nat.le_of_eq (hidT_size _ _), funs := trivial, frf := nofun, hok := hok, bare := .of_eq hg }
  obtain ⟨s0, lw⟩ := law ns hl
  have sp : spM P w K m [.ref a] H (fun v _ => v = .bl true) (fun _ _ _ => False) := by
    refine ⟨[.ref 0], [.rol (ns.map AV.int)], [a], ⟨rfl, ?_, ?_⟩, .cons (.ref rfl) .nil, ?_⟩
    · intro l l' o o' b h1 _ m1
      match l, h1 with
      | 0, h1 => cases h1; cases m1
      | l + 1, h1 => simp at h1
    · intro l o b h1 h2
      match l, h1, h2 with
      | 0, h1, h2 => cases h1; cases h2; exact ⟨_, hS, reps_int ns⟩
      | l + 1, h1, _ => simp at h1
    · rw [lw]
      intro v' H' φ' _ _ r
      cases r; rfl
  refine codeAny_mono ((G _ kin (inB hns)).run callerA [] s₁ H ⟨[.ref a], []⟩ [.ref a] [.ref a] _ _ ⟨hr, rfl⟩ e0 (hbind _ _) (.cons rfl .nil) sp) ?_
  intro r s' h
  match r, h with
  | .error e, h => exact h.elim
  | .ok .next, h => exact h.elim
  | .ok .brk, h => exact h.elim
  | .ok .cont, h => exact h.elim
  | .ok (.ret u), ⟨v, H', os, bare, un, hok', rv, q⟩ =>
    have q : v = V.bl true := q
    subst q
    have rv : u = Value.bool true := rv
    subst rv
    refine ⟨rfl, OldK.of_keep fun b o e => ?_, os, bare⟩
    cases q : H b with
    | none => exact un.keep b o e q nofun nofun
    | some z =>
      obtain ⟨ob, y, rfl⟩ := frz b z q
      have q1 := (hok b _ q).1
      have q2 := (hok' b _ (un.frzs b ob y q)).1
      rw [q1] at e; cases e; exact q2
theorem law_callG (KX : K.In s₁.heap) (hns : s₁.heap.Ns mainGlobals mg) (hb : s₁.heap.Ns builtinsNs mb) (hbb : ∀ x : Str, x ≠ "__name__" → mb x = bootBuiltins x) (hlim : s₁.heap.NoLimit) (hg : s₁.gens = #[])
    (ha : s₁.heap.get? a = some { cls := .type "list", data := .seq vs.toArray }) (hi : IntsAre vs ns) (hl : ns.length ≤ 63) (hr : Room k callerA)
    (G : ∀ base : Heap, K.In base → base.Ns mainGlobals mg → FnG P w K mg base CX0 k fa fd [x] (spM P w K m)) (hbind : ∀ (s : Shared) (u : Value), BindsTo s fd ⟨[u], []⟩ [(x, u)]) (law : LawOk m) :
    codeAny (model P w) callerA (.call (.ref fa) ⟨[.ref a], []⟩) (fun r s' => r = .ok (.ret (.bool true)) ∧ OldK s₁.heap s'.heap ∧ s'.os = s₁.os ∧ AllBare s'.gens) s₁ := by
  have rv := vals_of_ints hi
  have line : ns.length ≤ sizeLine := Nat.le_trans hl (by decide)
  cases hk : K.lookup a with
  | some o =>
    have e := KX a o hk
    rw [ha] at e
    cases e
    refine law_core KX hns hb hbb hlim hg ha hl hr G hbind law (fun _ => none) (.inr (.inr ⟨_, vs.toArray, _, hk, rfl, rfl, rfl, ?_, by simpa using rv⟩)) nofun (fun _ z => (z rfl).elim) (fun z => (z rfl).elim) nofun
    rw [List.size_toArray, hi.length]; exact line
  | none =>
    let ob : Obj := { cls := .type "list", data := .seq vs.toArray }
    have at_ : (fun b => if b = a then some (HO.frz ob (.lst (ns.map V.int))) else none : Hp) a = some (HO.frz ob (.lst (ns.map V.int))) := if_pos rfl
    have el : ∀ b, b ≠ a → (fun b => if b = a then some (HO.frz ob (.lst (ns.map V.int))) else none : Hp) b = none := fun b h => if_neg h
    refine law_core KX hns hb hbb hlim hg ha hl hr G hbind law (fun b => if b = a then some (.frz ob (.lst (ns.map V.int))) else none) (.inl ⟨ob, at_⟩) ?_ ?_ (fun _ => hk) ?_
    · intro b u z
      by_cases h : b = a
      · subst h
        rw [at_] at z; cases z
        exact ⟨ha, by rw [List.length_map]; exact line, vs, _, rv, ha⟩
      · rw [el b h] at z; cases z
    · intro b z
      by_cases h : b = a
      · exact h
      · exact (z (el b h)).elim
    · intro b o z
      by_cases h : b = a
      · subst h
        have z' := at_.symm.trans z
        cases z'
        exact ⟨_, _, rfl⟩
      · have z' := (el b h).symm.trans z
        cases z'
end
/-- the goal that the head leaves, from the law's def -/
theorem walkG {l : PySem.W.OpenLaw} {k : Nat} {q : Program} {loose : List Str} {XP : (Str → Option Value) → Heap → Prop} {YP : World → Heap → Prop} {d : DefRec} {K : Params → PySem.W.Frag} {x : Str} {m : World → MF}
    (hn : l.most = some 63) (hdf : d.params.defaults = []) (hr : Room k callerA) (hY : ∀ (w : World) (h : Heap), YP w h → (K w.params).In h)
    (G : ∀ (w : World) (mg : Str → Option Value) (fa : Addr) (h : Heap), (K w.params).In h → h.Ns mainGlobals mg → mg d.name = some (.ref fa) →
      ∃ fd : FuncData, (∀ (s : Shared) (u : Value), BindsTo s fd ⟨[u], []⟩ [(x, u)]) ∧ ∀ base : Heap, (K w.params).In base → base.Ns mainGlobals mg → FnG l.prog w (K w.params) mg base CX0 k fa fd [x] (spM l.prog w (K w.params) (m w)))
    (law : ∀ w, LawOk (m w)) : PySem.W.WalkO q loose XP YP l.row.toRowW d [] (fun f vs => PySem.call f vs) := by
  apply Att.attach_call hn hdf
  intro w s₀ s₁ mg mb fa o pm cd doc a vs ns Gr Y ho hd hcd hmg hobj hints hlen hg
  have KX := hY w _ Y
  obtain ⟨fd, hb, hF⟩ := G w mg fa _ KX Gr.T.g hmg
  exact law_callG KX Gr.T.g Gr.T.b Gr.T.builtins Gr.T.nolimit hg hobj hints hlen hr hF hb (law w)
end Br
set_option maxRecDepth 100000
set_option maxHeartbeats 1000000
/-! repr, sorted. -/
namespace Br
open PySem L2 Mi PySem.Spec PyProof.Rows BrS

section
variable {F : Fam} {W : WX}
theorem pd_noDict (s : Sto) : ∀ (n : Nat) (x : AV) (d : PyData), pd s n x = some d → d.hasDict = false
  | _, .non, _, h => by cases (Option.some.inj (by simpa only [pd] using h)); simp only [PyData.hasDict]
  | _, .bl b, _, h => by cases (Option.some.inj (by simpa only [pd] using h)); simp only [PyData.hasDict]
  | _, .int b, _, h => by cases (Option.some.inj (by simpa only [pd] using h)); simp only [PyData.hasDict]
  | _, .str b, _, h => by cases (Option.some.inj (by simpa only [pd] using h)); simp only [PyData.hasDict]
  | 0, .tup xs, _, h => by simp [pd] at h
  | 0, .ref l, _, h => by simp [pd] at h
  | 0, .adr l, _, h => by simp [pd] at h
  | 0, .ty l, _, h => by simp [pd] at h
  | n + 1, .adr l, _, h => by simp [pd] at h
  | n + 1, .ty l, _, h => by simp [pd] at h
  | n + 1, .tup xs, d, h => by
    simp only [pd] at h
    cases hm : xs.mapM (pd s n) with
    | none => rw [hm] at h; cases h
    | some ds =>
      rw [hm] at h
      cases h
      simp only [PyData.hasDict]
      exact all (s := []) xs ds hm n (pd_noDict s n)
  | n + 1, .ref l, d, h => by
    simp only [pd] at h
    cases hq : seqAt s l with
    | none => rw [hq] at h; cases h
    | some xs =>
      rw [hq] at h
      cases hm : xs.mapM (pd s n) with
      | none => simp only [hm] at h; cases h
      | some ds =>
        simp only [hm] at h
        cases h
        simp only [PyData.hasDict]
        exact all (s := []) xs ds hm n (pd_noDict s n)
where all : ∀ (xs : List AV) (ds : List PyData) {s : Sto} {f : AV → Option PyData}, xs.mapM f = some ds → (n : Nat) → (∀ x d, f x = some d → d.hasDict = false) → PyData.hasDictAll ds = false
  | [], _, _, _, h, _, _ => by cases (Option.some.inj (by simpa using h)); simp only [PyData.hasDictAll]
  | x :: xs, _, _, f, h, n, k => by
    rw [mapM_cons] at h
    cases hx : f x with
    | none => rw [hx] at h; cases h
    | some d =>
      rw [hx] at h
      cases hm : xs.mapM f with
      | none => rw [hm] at h; cases h
      | some es =>
        rw [hm] at h
        cases h
        have q := all (s := []) xs es hm n k
        simp only [PyData.hasDictAll, k x d hx, q, Bool.or_self]
theorem pd_depth (s : Sto) : ∀ (n : Nat) (x : AV) (d : PyData), pd s n x = some d → d.depth ≤ n
  | _, .non, _, h => by cases (Option.some.inj (by simpa only [pd] using h)); simp [PyData.depth]
  | _, .bl b, _, h => by cases (Option.some.inj (by simpa only [pd] using h)); simp [PyData.depth]
  | _, .int b, _, h => by cases (Option.some.inj (by simpa only [pd] using h)); simp [PyData.depth]
  | _, .str b, _, h => by cases (Option.some.inj (by simpa only [pd] using h)); simp [PyData.depth]
  | 0, .tup xs, _, h => by simp [pd] at h
  | 0, .ref l, _, h => by simp [pd] at h
  | 0, .adr l, _, h => by simp [pd] at h
  | 0, .ty l, _, h => by simp [pd] at h
  | n + 1, .adr l, _, h => by simp [pd] at h
  | n + 1, .ty l, _, h => by simp [pd] at h
  | n + 1, .tup xs, d, h => by
    simp only [pd] at h
    cases hm : xs.mapM (pd s n) with
    | none => rw [hm] at h; cases h
    | some ds =>
      rw [hm] at h
      cases h
      simp only [PyData.depth]
      have := all xs ds hm n (pd_depth s n)
      omega
  | n + 1, .ref l, d, h => by
    simp only [pd] at h
    cases hq : seqAt s l with
    | none => rw [hq] at h; cases h
    | some xs =>
      rw [hq] at h
      cases hm : xs.mapM (pd s n) with
      | none => simp only [hm] at h; cases h
      | some ds =>
        simp only [hm] at h
        cases h
        simp only [PyData.depth]
        have := all xs ds hm n (pd_depth s n)
        omega
where all : ∀ (xs : List AV) (ds : List PyData) {f : AV → Option PyData}, xs.mapM f = some ds → (n : Nat) → (∀ x d, f x = some d → d.depth ≤ n) → PyData.depthAll ds ≤ n
  | [], _, _, h, _, _ => by cases (Option.some.inj (by simpa using h)); simp [PyData.depthAll]
  | x :: xs, _, f, h, n, k => by
    rw [mapM_cons] at h
    cases hx : f x with
    | none => rw [hx] at h; cases h
    | some d =>
      rw [hx] at h
      cases hm : xs.mapM f with
      | none => rw [hm] at h; cases h
      | some es =>
        rw [hm] at h
        cases h
        have h1 := k x d hx
        have h2 := all xs es hm n k
        simp only [PyData.depthAll]
        omega
/-- repr of a list or a tuple of data; of an int -/
def rRepr (K : PySem.W.Frag) : List V → Hp → VK → Prop := fun xs H Q => (∃ a d, xs = [.ref a] ∧ Dp K H (.ref a) d ∧ d.showable = true ∧ d.hasDict = false ∧ d.depth ≤ 60 ∧ d.shown.length ≤ sizeLine ∧ Q (.str d.shown) H) ∨
  ∃ i, xs = [.int i] ∧ i.natAbs.log2 < 1920 ∧ Q (.str (toString i)) H
theorem cr_repr {X : Cx} (hu : X.A.units + 64 < cLine) (hg : X.A.guards = some []) : CallR X (.builtin "repr") (rRepr X.K) := by
  rintro pins s σ H xs us Q I r (⟨a, d, rfl, dp, hs, hn, hd, hz, q⟩ | ⟨i, rfl, hi, q⟩)
  · rw [Vals.ref1 r]
    obtain ⟨as, rd⟩ := Dp.reads I d (.ref a) (.ref a) dp rfl
    exact repr_of_reads' rd hs (fun z => by rw [hn] at z; cases z) hg (by omega) (fun _ _ z => z) (fun h' u tk k => ⟨.str d.shown, H, I.kept (t' := tk) k, ⟨u, rfl⟩, q⟩) hz
  · exact SkE.call_repr_int pins s σ H _ us Q I r ⟨i, rfl, hi, q⟩
theorem cm_repr (hr : ∀ i, RoomG 0 (F.X i).A) : CallM F W (.builtin "repr") B.repr_ := by
  refine ⟨rRepr F.K, fun i => by have q := cr_repr (X := F.X i) (hr i).rm.units (hr i).gd; rw [F.hK i] at q; exact q, fun xs vs s σ H φ Q st r h => ?_⟩
  unfold B.repr_ at h
  split at h
  · obtain ⟨v, rfl, rv⟩ := reps1 r
    split at h
    · rename_i x d hd
      split at h
      · rename_i hz
        obtain ⟨z1, z2⟩ := Bool.and_eq_true_iff.mp hz
        have z2 := of_decide_eq_true z2
        have dp := pd_dp st _ _ _ _ hd rv
        have q1 := pd_noDict _ _ _ _ hd
        have q2 := pd_depth _ _ _ _ hd
        rw [line_eq] at z2
        cases rv with
        | tup hs hr => exact .inl ⟨_, d, rfl, dp, z1, q1, q2, z2, sameV st (.str _) h⟩
        | ref hl => exact .inl ⟨_, d, rfl, dp, z1, q1, q2, z2, sameV st (.str _) h⟩
        | int i =>
          have e : d = .int i := by
            have := hd
            simp only [pd, Option.some.injEq] at this
            exact this.symm
          subst e
          refine .inr ⟨i, rfl, ?_, ?_⟩
          · simpa [PyData.showable] using z1
          · have q := sameV st (.str _) h
            simpa only [PyData.shown] using q
        | _ => exact h.elim
      · exact h.elim
    · exact h.elim
  · exact h.elim
/-! sorted -/
def toD : AV → PyData
  | .int i => .int i
  | .tup xs => .tuple (((ints? xs).getD []).map .int)
  | _ => .none
theorem ints_all : ∀ {xs : List AV}, xs.all B.isInt = true → ∃ ns, ints? xs = some ns ∧ xs = ns.map AV.int
  | [], _ => ⟨[], by simp [ints?], rfl⟩
  | x :: xs, h => by
    rw [List.all_cons, Bool.and_eq_true] at h
    obtain ⟨ns, h1, h2⟩ := ints_all h.2
    cases x with
    | int i => exact ⟨i :: ns, by simp [ints?, h1], by rw [h2]; rfl⟩
    | _ => cases h.1
theorem dp_ints {K : PySem.W.Frag} {H : Hp} {φ : List Addr} : ∀ {ns : List Int} {vs : List V}, Reps K H φ (ns.map AV.int) vs → DpAll K H vs (ns.map PyData.int)
  | [], _, .nil => .nil
  | n :: ns, _, .cons r rs => by cases r; exact .cons (.int n) (dp_ints rs)
theorem dp_toD {H : Hp} {φ : List Addr} {x : AV} {v : V} (r : Rep F.K H φ x v) (h : B.isInt x = true ∨ B.isTupI x = true) : Dp F.K H v (toD x) := by
  cases r with
  | int i => exact .int i
  | tup hs hr =>
    have h : B.isTupI _ = true := h.elim (fun z => by cases z) id
    unfold B.isTupI at h
    obtain ⟨ns, h1, h2⟩ := ints_all (Bool.and_eq_true_iff.mp h).2
    subst h2
    have e : toD (.tup (ns.map AV.int)) = .tuple (ns.map .int) := by
      show PyData.tuple (((ints? (ns.map AV.int)).getD []).map .int) = _
      rw [h1]; rfl
    rw [e]
    exact .tup hs (dp_ints hr)
  | _ => rcases h with h | h <;> cases h
theorem sLe_eq {x y : AV} (h : (B.isInt x = true ∧ B.isInt y = true) ∨ (B.isTupI x = true ∧ B.isTupI y = true)) : (!PySem.W.dataLt (toD y) (toD x)) = B.sLe x y := by
  rcases h with ⟨hx, hy⟩ | ⟨hx, hy⟩
  · match x, y, hx, hy with
    | .int i, .int j, _, _ =>
      show (!PySem.W.dataLt (.int j) (.int i)) = decide (i ≤ j)
      rw [PySem.W.dataLt_int, PySem.W.not_lt_int]
  · match x, y, hx, hy with
    | .tup xs, .tup ys, hx, hy =>
      obtain ⟨ns, h1, h2⟩ := ints_all (Bool.and_eq_true_iff.mp hx).2
      obtain ⟨ms, g1, g2⟩ := ints_all (Bool.and_eq_true_iff.mp hy).2
      show (!PySem.W.dataLt (.tuple (((ints? ys).getD []).map .int)) (.tuple (((ints? xs).getD []).map .int))) = (match ints? xs, ints? ys with
        | some a, some b => lexLe a b
        | _, _ => false)
      rw [h1, g1]
      exact lexD_le ns ms
theorem sLe_trans {x y z : AV} (h : (B.isInt x = true ∧ B.isInt y = true ∧ B.isInt z = true) ∨ (B.isTupI x = true ∧ B.isTupI y = true ∧ B.isTupI z = true)) : B.sLe x y = true → B.sLe y z = true → B.sLe x z = true := by
  rcases h with ⟨hx, hy, hz⟩ | ⟨hx, hy, hz⟩
  · match x, y, z, hx, hy, hz with
    | .int i, .int j, .int k, _, _, _ =>
      intro a b
      exact decide_eq_true (Int.le_trans (of_decide_eq_true a) (of_decide_eq_true b))
  · match x, y, z, hx, hy, hz with
    | .tup xs, .tup ys, .tup zs, hx, hy, hz =>
      obtain ⟨ns, h1, _⟩ := ints_all (Bool.and_eq_true_iff.mp hx).2
      obtain ⟨ms, g1, _⟩ := ints_all (Bool.and_eq_true_iff.mp hy).2
      obtain ⟨ks, k1, _⟩ := ints_all (Bool.and_eq_true_iff.mp hz).2
      unfold B.sLe
      dsimp only
      rw [h1, g1, k1]
      exact lexLe_trans ns ms ks
theorem sorts_mem {xs : List AV} (h : B.sorts xs = true) : ∀ x ∈ xs, ∀ y ∈ xs, (B.isInt x = true ∧ B.isInt y = true) ∨ (B.isTupI x = true ∧ B.isTupI y = true) := by
  intro x hx y hy
  rcases (Bool.or_eq_true _ _).mp h with h | h
  · exact .inl ⟨List.all_eq_true.mp h x hx, List.all_eq_true.mp h y hy⟩
  · exact .inr ⟨List.all_eq_true.mp h x hx, List.all_eq_true.mp h y hy⟩
abbrev encV (b : V × AV) : PyData := toD b.2
abbrev leV (b c : V × AV) : Bool := B.sLe b.2 c.2
/-- sorted of a list of ints or of int tuples, of any length -/
def rSortV (K : PySem.W.Frag) : List V → Hp → VK → Prop := fun vs H Q => ∃ (a : Addr) (bs : List (V × AV)), vs = [.ref a] ∧ SqL K H a (bs.map (·.1)) ∧ B.sorts (bs.map (·.2)) = true ∧ (∀ b ∈ bs, Dp K H b.1 (encV b)) ∧
  ∀ p, H p = none → Q (.ref p) (upd H p (.lst ((bs.mergeSort leV).map (·.1))))
theorem each_vals : ∀ {bs : List (V × AV)} {its : List Value}, Vals (bs.map (·.1)) its → PySem.W.EachIs (fun u (b : V × AV) => RelV b.1 u) its bs
  | [], _, .nil => .nil
  | b :: bs, _, .cons r rs => .cons r (each_vals rs)
theorem vals_each : ∀ {bs : List (V × AV)} {its : List Value}, PySem.W.EachIs (fun u (b : V × AV) => RelV b.1 u) its bs → Vals (bs.map (·.1)) its
  | _, _, .nil => .nil
  | _, _, .cons r rs => .cons r (vals_each rs)
theorem each_reads {X : Cx} {pins : List (Addr × Obj)} {σ : L2.St} {H : Hp} {s : Shared} (I : Inv X pins σ H s) : ∀ {bs : List (V × AV)} {its : List Value}, Vals (bs.map (·.1)) its → (∀ b ∈ bs, Dp X.K H b.1 (encV b)) → PySem.W.EachIs (fun u (b : V × AV) => ∃ as, Reads s.heap u (encV b) as) its bs
  | [], _, .nil, _ => .nil
  | b :: bs, _, .cons r rs, h => .cons (Dp.reads I _ _ _ (h b List.mem_cons_self) r) (each_reads I rs fun c hc => h c (List.mem_cons_of_mem _ hc))
theorem depth_toD (x : AV) : (toD x).depth ≤ 1 := by
  cases x with
  | tup xs => exact depth_tup _
  | _ => simp [toD, PyData.depth]
theorem cr_sortV {X : Cx} (hu : X.A.units + 64 < cLine) : CallR X (.builtin "sorted") (rSortV X.K) := by
  rintro pins s σ H xs us Q I r ⟨a, bs, rfl, hl, hs, hd, q⟩
  rw [Vals.ref1 r]
  obtain ⟨its, rv, pl, hz⟩ := I.list hl
  rw [List.length_map] at hz
  refine PySem.W.sorted_data (enc := encV) (R := fun u (b : V × AV) => RelV b.1 u) (bs := bs) pl.isList (each_vals rv) (each_reads I rv hd) ?_ ?_ hz ?_ ?_
  · intro d hd' e he'
    obtain ⟨b, hb, rfl⟩ := List.mem_map.mp hd'
    obtain ⟨c, hc, rfl⟩ := List.mem_map.mp he'
    rcases sorts_mem hs b.2 (List.mem_map.mpr ⟨b, hb, rfl⟩) c.2 (List.mem_map.mpr ⟨c, hc, rfl⟩) with ⟨h1, h2⟩ | ⟨h1, h2⟩
    · unfold encV
      match b.2, c.2, h1, h2 with
      | .int i, .int j, _, _ => simp only [toD, PySem.W.alike]
    · unfold encV
      match b.2, c.2, h1, h2 with
      | .tup xs, .tup ys, _, _ => simpa only [toD, PySem.W.alike] using PySem.W.alike_ints _ _
  · rcases (Bool.or_eq_true _ _).mp hs with h | h
    · refine .inr fun d hd' => ?_
      obtain ⟨b, hb, rfl⟩ := List.mem_map.mp hd'
      have h1 := List.all_eq_true.mp h b.2 (List.mem_map.mpr ⟨b, hb, rfl⟩)
      unfold encV
      match b.2, h1 with
      | .int i, _ => exact ⟨(by intro z; cases z), (by intro _ z; cases z)⟩
    · refine .inl fun d hd' => ?_
      obtain ⟨b, hb, rfl⟩ := List.mem_map.mp hd'
      have h1 := List.all_eq_true.mp h b.2 (List.mem_map.mpr ⟨b, hb, rfl⟩)
      unfold encV
      match b.2, h1 with
      | .tup xs, h1 =>
        obtain ⟨ne, al⟩ := Bool.and_eq_true_iff.mp h1
        obtain ⟨ns, e1, e2⟩ := ints_all al
        cases ns with
        | nil => subst e2; cases ne
        | cons n ns => exact ⟨.int n, ns.map .int, by show PyData.tuple (((ints? xs).getD []).map .int) = _; rw [e1]; rfl⟩
  · intro b _
    have := depth_toD b.2
    show _ + (toD b.2).depth < _
    omega
  · intro out hlo eo
    have e : bs.mergeSort (PySem.W.dataLe false encV) = bs.mergeSort leV := by
      have z := List.map_mergeSort (r := PySem.W.dataLe false encV) (s := leV) (f := id) (l := bs) (fun b hb c hc => sLe_eq (sorts_mem hs b.2 (List.mem_map.mpr ⟨b, hb, rfl⟩) c.2 (List.mem_map.mpr ⟨c, hc, rfl⟩)))
      simpa using z
    rw [e] at eo
    have rv2 := vals_each eo
    obtain ⟨c, hc⟩ := sortedAll_at s.heap its out.toArray
    have np : H (s.heap.objs.size + 1) = none := I.hok.fresh (Nat.le_succ _)
    have lenO : ((bs.mergeSort leV).map (·.1)).length ≤ sizeLine := by rw [List.length_map, List.length_mergeSort]; exact hz
    exact ⟨.ref (s.heap.objs.size + 1), _, I.laid (o := .lst ((bs.mergeSort leV).map (·.1))) (t' := s.toks) (fun b u e => sortedAll_old e) (Nat.le_succ _) ⟨lenO, out, c, rv2, hc⟩, rfl, q _ np⟩
theorem alike_sorts {bs : List (V × AV)} (hs : B.sorts (bs.map (·.2)) = true) : PySem.W.AllAlike (bs.map encV) := by
  intro d hd' e he'
  obtain ⟨b, hb, rfl⟩ := List.mem_map.mp hd'
  obtain ⟨c, hc, rfl⟩ := List.mem_map.mp he'
  rcases sorts_mem hs b.2 (List.mem_map.mpr ⟨b, hb, rfl⟩) c.2 (List.mem_map.mpr ⟨c, hc, rfl⟩) with ⟨h1, h2⟩ | ⟨h1, h2⟩
  · unfold encV
    match b.2, c.2, h1, h2 with
    | .int i, .int j, _, _ => simp only [toD, PySem.W.alike]
  · unfold encV
    match b.2, c.2, h1, h2 with
    | .tup xs, .tup ys, _, _ => simpa only [toD, PySem.W.alike] using PySem.W.alike_ints _ _
theorem sortable_sorts {bs : List (V × AV)} (hs : B.sorts (bs.map (·.2)) = true) : PySem.W.Sortable (bs.map encV) := by
  rcases (Bool.or_eq_true _ _).mp hs with h | h
  · refine .inr fun d hd' => ?_
    obtain ⟨b, hb, rfl⟩ := List.mem_map.mp hd'
    have h1 := List.all_eq_true.mp h b.2 (List.mem_map.mpr ⟨b, hb, rfl⟩)
    unfold encV
    match b.2, h1 with
    | .int i, _ => exact ⟨(by intro z; cases z), (by intro _ z; cases z)⟩
  · refine .inl fun d hd' => ?_
    obtain ⟨b, hb, rfl⟩ := List.mem_map.mp hd'
    have h1 := List.all_eq_true.mp h b.2 (List.mem_map.mpr ⟨b, hb, rfl⟩)
    unfold encV
    match b.2, h1 with
    | .tup xs, h1 =>
      obtain ⟨ne, al⟩ := Bool.and_eq_true_iff.mp h1
      obtain ⟨ns, e1, e2⟩ := ints_all al
      cases ns with
      | nil => subst e2; cases ne
      | cons n ns => exact ⟨.int n, ns.map .int, by show PyData.tuple (((ints? xs).getD []).map .int) = _; rw [e1]; rfl⟩
/-- sorted of a tuple of ints or of int tuples -/
def rSortVT (K : PySem.W.Frag) : List V → Hp → VK → Prop := fun vs H Q => ∃ (a : Addr) (bs : List (V × AV)), vs = [.ref a] ∧ SqT K H a (bs.map (·.1)) ∧ B.sorts (bs.map (·.2)) = true ∧ (∀ b ∈ bs, Dp K H b.1 (encV b)) ∧
  ∀ p, H p = none → Q (.ref p) (upd H p (.lst ((bs.mergeSort leV).map (·.1))))
theorem cr_sortVT {X : Cx} (hu : X.A.units + 64 < cLine) : CallR X (.builtin "sorted") (rSortVT X.K) := by
  rintro pins s σ H xs us Q I r ⟨a, bs, rfl, hl, hs, hd, q⟩
  rw [Vals.ref1 r]
  obtain ⟨its, rv, ⟨o, ho, hc, n, hd2⟩, hz⟩ := I.tuple hl
  rw [List.length_map] at hz
  refine BrS.sorted_tupD (enc := encV) (R := fun u (b : V × AV) => RelV b.1 u) (bs := bs) ho hc hd2 (each_vals rv) (each_reads I rv hd) (alike_sorts hs) (sortable_sorts hs) hz ?_ ?_
  · intro b _
    have := depth_toD b.2
    show _ + (toD b.2).depth < _
    omega
  · intro s' p out c k g ho' hp hg lo eo
    have e : bs.mergeSort (PySem.W.dataLe false encV) = bs.mergeSort leV := by
      have z := List.map_mergeSort (r := PySem.W.dataLe false encV) (s := leV) (f := id) (l := bs) (fun b hb c hc => sLe_eq (sorts_mem hs b.2 (List.mem_map.mpr ⟨b, hb, rfl⟩) c.2 (List.mem_map.mpr ⟨c, hc, rfl⟩)))
      simpa using z
    rw [e] at eo
    have rv2 := vals_each eo
    have np : H p = none := I.hok.gone hp
    have lenO : ((bs.mergeSort leV).map (·.1)).length ≤ sizeLine := by rw [List.length_map, List.length_mergeSort]; exact hz
    have J := I.call (g' := s'.gens) (d' := s'.drawn) (t' := s'.toks) (ch := []) (Un.laidN k hp np) (I.hok.laidN (o := .lst ((bs.mergeSort leV).map (·.1))) k np ⟨lenO, out, c, rv2, hg⟩) (by rw [g]; exact I.bare) (fun _ z => nomatch z)
    obtain ⟨a1, a2, a3, a4, a5⟩ := s'
    obtain rfl : a5 = s.os := ho'
    exact ⟨.ref p, _, J, rfl, q p np⟩
theorem zip_fst {K : PySem.W.Frag} {H : Hp} {φ : List Addr} : ∀ {xs : List AV} {vs : List V}, Reps K H φ xs vs → (vs.zip xs).map (·.1) = vs ∧ (vs.zip xs).map (·.2) = xs
  | _, _, .nil => ⟨rfl, rfl⟩
  | _, _, .cons r rs => by
    obtain ⟨h1, h2⟩ := zip_fst rs
    exact ⟨by rw [List.zip_cons_cons, List.map_cons, h1], by rw [List.zip_cons_cons, List.map_cons, h2]⟩
theorem zip_rep {K : PySem.W.Frag} {H : Hp} {φ : List Addr} : ∀ {xs : List AV} {vs : List V}, Reps K H φ xs vs → ∀ b ∈ vs.zip xs, Rep K H φ b.2 b.1
  | _, _, .nil => fun b hb => by cases hb
  | _, _, .cons r rs => fun b hb => by
    rw [List.zip_cons_cons] at hb
    rcases List.mem_cons.mp hb with rfl | hb
    · exact r
    · exact zip_rep rs b hb
theorem reps_pairs {K : PySem.W.Frag} {H : Hp} {φ : List Addr} : ∀ (bs : List (V × AV)), (∀ b ∈ bs, Rep K H φ b.2 b.1) → Reps K H φ (bs.map (·.2)) (bs.map (·.1))
  | [], _ => .nil
  | b :: bs, h => .cons (h b List.mem_cons_self) (reps_pairs bs fun c hc => h c (List.mem_cons_of_mem _ hc))
/-! sets -/
def rSetI (K : PySem.W.Frag) (w : World) : List V → Hp → VK → Prop := fun vs H Q => ∃ (a : Addr) (ns : List Int), vs = [.ref a] ∧ SqL K H a (ns.map V.int) ∧ ns.length < 64 ∧ ∀ p c, c < 64 → H p = none → Q (.ref p) (upd H p (SetO w p (fun j => decide (j ∈ ns)) c))
theorem cr_setI {X : Cx} (hc : X.calm = true) : CallR X (.type "set") (rSetI X.K X.w) := by
  rintro pins s σ H xs us Q I r ⟨a, ns, rfl, hl, h64, q⟩
  rw [Vals.ref1 r]
  obtain ⟨its, rv, pl, hz⟩ := I.list hl
  have np : H s.heap.objs.size = none := I.hok.fresh (Nat.le_refl _)
  refine set_of_list (P := X.prog) (w := X.w) ns (I.ok.hd hc) pl.isList (by simpa using rv.ints) (by unfold scanBound; omega) ?_
  intro h' tk c R hcl k
  exact ⟨.ref s.heap.objs.size, _, I.laid (t' := tk) k (Nat.le_refl _) (setO_new R), rfl, q _ c (by omega) np⟩
/-- sorted(set), int tuples of any lengths -/
def rSortedST (K : PySem.W.Frag) (P : Program) (w : World) : List V → Hp → VK → Prop := fun vs H Q => ∃ (a : Addr) (L : List (Addr × List Int)), vs = [V.ref a] ∧ H a = some (SetTO P w a L) ∧ (∀ p ∈ L, SqT K H p.1 (p.2.map V.int)) ∧ (∀ p ∈ L, p.2 ≠ []) ∧
  ∀ (L' : List (Addr × List Int)) (p : Addr), L'.Perm L → L'.Pairwise (fun q r => keyLe q r = true) → H p = none → Q (.ref p) (upd H p (.lst (L'.map fun q => V.ref q.1)))
theorem cr_sortedST {X : Cx} (hc : X.calm = true) (hu : X.A.units + 64 < cLine) : CallR X (.builtin "sorted") (rSortedST X.K X.prog X.w) := by
  rintro pins s σ H vs us Q I r ⟨a, L, rfl, ha, hk, hne, q⟩
  have R0 : SetT0 X.prog X.w s.heap a L := (I.hok a _ ha).1
  obtain ⟨es, ep, t, R⟩ := R0.full fun p hp => I.isT (hk p hp)
  rw [Vals.ref1 r]
  refine sorted_setV R (I.ok.hd hc) hne hu ?_
  intro s' p out c L' k g o hp hg hout pm pw
  have few : L'.length < 64 := by rw [pm.length_eq]; exact R.few
  have line : (L'.map fun q => V.ref q.1).length ≤ sizeLine := by rw [List.length_map, sizeLine_eq]; omega
  have np : H p = none := I.hok.fresh hp
  have vals : Vals (L'.map fun q => V.ref q.1) out.toList := by rw [hout]; exact vals_of_refs L'
  have J := I.call (g' := s'.gens) (d' := s'.drawn) (t' := s'.toks) (ch := []) (Un.laid k hp np) (I.hok.laid (o := .lst (L'.map fun q => V.ref q.1)) k hp ⟨line, out.toList, c, vals, hg⟩) (by rw [g]; exact I.bare) (fun _ z => nomatch z)
  obtain ⟨a1, a2, a3, a4, a5⟩ := s'
  obtain rfl : a5 = s.os := o
  exact ⟨.ref p, _, J, rfl, q L' p pm pw np⟩
theorem dedup_nil : B.dedup [] = [] := rfl
theorem dedup_go (f : AV → AV → Bool) : ∀ (xs acc : List AV), acc.Nodup → (xs.foldl (fun acc x => if x ∈ acc then acc else acc ++ [x]) acc).Nodup ∧ ∀ y, y ∈ xs.foldl (fun acc x => if x ∈ acc then acc else acc ++ [x]) acc ↔ y ∈ acc ∨ y ∈ xs
  | [], acc, h => ⟨h, fun y => by simp⟩
  | x :: xs, acc, h => by
    rw [List.foldl_cons]
    by_cases hx : x ∈ acc
    · rw [if_pos hx]
      obtain ⟨h1, h2⟩ := dedup_go f xs acc h
      refine ⟨h1, fun y => ?_⟩
      rw [h2 y, List.mem_cons]
      constructor
      · rintro (z | z)
        · exact .inl z
        · exact .inr (.inr z)
      · rintro (z | z | z)
        · exact .inl z
        · exact .inl (z ▸ hx)
        · exact .inr z
    · rw [if_neg hx]
      have nd : (acc ++ [x]).Nodup := by
        rw [List.nodup_append]
        refine ⟨h, by simp, fun a ha b hb => ?_⟩
        rw [List.mem_singleton.mp hb]
        rintro rfl; exact hx ha
      obtain ⟨h1, h2⟩ := dedup_go f xs (acc ++ [x]) nd
      refine ⟨h1, fun y => ?_⟩
      rw [h2 y, List.mem_append, List.mem_singleton, List.mem_cons]
      constructor
      · rintro ((z | z) | z)
        · exact .inl z
        · exact .inr (.inl z)
        · exact .inr (.inr z)
      · rintro (z | z | z)
        · exact .inl (.inl z)
        · exact .inl (.inr z)
        · exact .inr z
theorem dedup_nodup (xs : List AV) : (B.dedup xs).Nodup := (dedup_go (fun _ _ => true) xs [] List.nodup_nil).1
theorem mem_dedup (xs : List AV) (y : AV) : y ∈ B.dedup xs ↔ y ∈ xs := by
  have := (dedup_go (fun _ _ => true) xs [] List.nodup_nil).2 y
  unfold B.dedup
  simpa using this
theorem int_inj {a b : Int} (h : AV.int a = AV.int b) : a = b := AV.int.inj h
theorem nodup_map_int {ns : List Int} : (ns.map AV.int).Nodup → ns.Nodup := by
  intro h
  rw [List.nodup_iff_pairwise_ne, List.pairwise_map] at h
  exact List.nodup_iff_pairwise_ne.mpr (h.imp fun q e => q (by rw [e]))
abbrev avT (k : List Int) : AV := .tup (k.map AV.int)
theorem avT_inj {a b : List Int} (h : avT a = avT b) : a = b := by
  have h := AV.tup.inj h
  have inj : Function.Injective (AV.int) := fun _ _ z => AV.int.inj z
  exact List.map_inj_right (f := AV.int) (fun _ _ z => AV.int.inj z) |>.mp h
theorem tups_all : ∀ {xs : List AV}, xs.all B.isTupI = true → ∃ kss : List (List Int), xs = kss.map avT ∧ ∀ k ∈ kss, k ≠ []
  | [], _ => ⟨[], rfl, fun _ z => by cases z⟩
  | x :: xs, h => by
    rw [List.all_cons, Bool.and_eq_true] at h
    obtain ⟨kss, h1, h2⟩ := tups_all h.2
    match x, h.1 with
    | .tup ys, hy =>
      obtain ⟨ne, al⟩ := Bool.and_eq_true_iff.mp hy
      obtain ⟨ns, e1, e2⟩ := ints_all al
      refine ⟨ns :: kss, by rw [h1, e2]; rfl, fun k hk => ?_⟩
      rcases List.mem_cons.mp hk with rfl | hk
      · rintro rfl
        subst e2
        cases ne
      · exact h2 k hk
theorem reps_tups {H : Hp} {φ : List Addr} : ∀ {kss : List (List Int)} {vs : List V}, Reps F.K H φ (kss.map avT) vs → ∃ ks : List (Addr × List Int), vs = ks.map (fun p => V.ref p.1) ∧ ks.map (·.2) = kss ∧ ∀ p ∈ ks, SqT F.K H p.1 (p.2.map V.int)
  | [], _, .nil => ⟨[], rfl, rfl, fun _ z => by cases z⟩
  | k :: kss, _, .cons r rs => by
    obtain ⟨ks, h1, h2, h3⟩ := reps_tups rs
    cases r with
    | tup hs hr =>
      rename_i a us
      have e := reps_ints hr (show ints? (k.map AV.int) = some k from ints_map k)
      refine ⟨(a, k) :: ks, by rw [h1]; rfl, by rw [← h2]; rfl, fun p hp => ?_⟩
      rcases List.mem_cons.mp hp with rfl | hp
      · rw [← e]; exact hs
      · exact h3 p hp
where ints_map : ∀ k : List Int, ints? (k.map AV.int) = some k
  | [] => by simp [ints?]
  | n :: k => by simp [ints?, ints_map k]
theorem ints_map : ∀ k : List Int, ints? (k.map AV.int) = some k
  | [] => by simp [ints?]
  | n :: k => by simp [ints?, ints_map k]
theorem filter_nodup_perm {xs ys : List (List Int)} (hx : xs.Nodup) (hy : ys.Nodup) (h : ∀ y, y ∈ xs ↔ y ∈ ys) : xs.Perm ys := (List.perm_ext_iff_of_nodup hx hy).mpr h
theorem keys_nodup {P : Program} {w : World} {h : Heap} {a : Addr} {L : List (Addr × List Int)} {es : Array (Int × Value)} {ep : Nat} {t : SetTable} (R : SetTR P w h a L es ep t) : (L.map (·.2)).Nodup := R.nd
/-- set of a list of int tuples: the keys stand once each -/
def rSetT (K : PySem.W.Frag) (P : Program) (w : World) : List V → Hp → VK → Prop := fun xs H Q => ∃ (l : Addr) (ks : List (Addr × List Int)), xs = [V.ref l] ∧ SqL K H l (ks.map fun p => V.ref p.1) ∧ (∀ p ∈ ks, SqT K H p.1 (p.2.map V.int)) ∧ ks.length < 64 ∧
  ∀ a L, H a = none → (∀ p ∈ L, p ∈ ks) → (∀ p ∈ ks, p.2 ∈ L.map (·.2)) → (L.map (·.2)).Nodup → Q (.ref a) (upd H a (SetTO P w a L))
theorem cr_setT {X : Cx} (hc : X.calm = true) (hu : X.A.units + 64 < cLine) : CallR X (.type "set") (rSetT X.K X.prog X.w) := by
  rintro pins s σ H xs us Q I r ⟨l, ks, rfl, hl, hk, hf, q⟩
  rw [Vals.ref1 r]
  obtain ⟨its, rv, pl, hz⟩ := I.list hl
  have np : H s.heap.objs.size = none := I.hok.fresh (Nat.le_refl _)
  refine call_set_tups (P := X.prog) (w := X.w) ks (I.ok.hd hc) pl.isList (by simpa using refs_of_vals rv) (fun p hp => I.isT (hk p hp)) hf (by omega) ?_
  intro h' tk L es ep t R g k
  refine ⟨.ref s.heap.objs.size, _, I.laid (t' := tk) k (Nat.le_refl _) (setTO_new R.t0), rfl, q _ L np (fun p hp => List.mem_of_mem_take (g.sub p hp)) (fun p hp => ?_) R.nd⟩
  exact g.all p (by rw [List.take_length]; exact hp)
theorem newO {σ : L2.St} {H : Hp} {φ : List Addr} {s : Sto} {u : MO} {o : Addr → HO} {Q : VK} (st : St0 F.P F.w F.K H φ s) {p : Addr} (np : H p = none) (hu : RepO F.P F.w F.K (upd H p (o p)) (φ ++ [p]) u p)
    (h : Pst F.P F.w F.K (Rep F.K) W σ H φ (.ok (.ref s.length) (s ++ [u])) Q) : Q (.ref p) (upd H p (o p)) :=
  h _ _ (φ ++ [p]) (.newRef np) (st.newRef np hu) (.ref (by rw [← st.len]; exact List.getElem?_concat_length))
theorem dedup_ints (ns : List Int) : ∃ ms : List Int, B.dedup (ns.map AV.int) = ms.map AV.int ∧ ms.Nodup ∧ ∀ i, i ∈ ms ↔ i ∈ ns := by
  have al : (B.dedup (ns.map AV.int)).all B.isInt = true := by
    rw [List.all_eq_true]
    intro y hy
    obtain ⟨n, _, rfl⟩ := List.mem_map.mp ((mem_dedup _ _).mp hy)
    rfl
  obtain ⟨ms, _, e⟩ := ints_all al
  have nd := dedup_nodup (ns.map AV.int)
  rw [e] at nd
  refine ⟨ms, e, nodup_map_int nd, fun i => ?_⟩
  have z := mem_dedup (ns.map AV.int) (.int i)
  rw [e] at z
  constructor
  · intro h
    obtain ⟨n, h1, h2⟩ := List.mem_map.mp (z.mp (List.mem_map.mpr ⟨i, h, rfl⟩))
    rw [← int_inj h2]; exact h1
  · intro h
    obtain ⟨n, h1, h2⟩ := List.mem_map.mp (z.mpr (List.mem_map.mpr ⟨i, h, rfl⟩))
    rw [← int_inj h2]; exact h1
theorem nodup_map_avT {kss : List (List Int)} : (kss.map avT).Nodup → kss.Nodup := by
  intro h
  rw [List.nodup_iff_pairwise_ne, List.pairwise_map] at h
  exact List.nodup_iff_pairwise_ne.mpr (h.imp fun q e => q (by rw [e]))
theorem dedup_tups (kss : List (List Int)) : ∃ ms : List (List Int), B.dedup (kss.map avT) = ms.map avT ∧ ms.Nodup ∧ ∀ i, i ∈ ms ↔ i ∈ kss := by
  have key : ∀ ys : List AV, (∀ y ∈ ys, ∃ k, y = avT k) → ∃ ms : List (List Int), ys = ms.map avT := by
    intro ys
    induction ys with
    | nil => exact fun _ => ⟨[], rfl⟩
    | cons y ys ih =>
      intro h
      obtain ⟨k, rfl⟩ := h y List.mem_cons_self
      obtain ⟨ms, rfl⟩ := ih fun z hz => h z (List.mem_cons_of_mem _ hz)
      exact ⟨k :: ms, rfl⟩
  obtain ⟨ms, e⟩ := key (B.dedup (kss.map avT)) fun y hy => by
    obtain ⟨k, _, rfl⟩ := List.mem_map.mp ((mem_dedup _ _).mp hy)
    exact ⟨k, rfl⟩
  have nd := dedup_nodup (kss.map avT)
  rw [e] at nd
  refine ⟨ms, e, nodup_map_avT nd, fun i => ?_⟩
  have z := mem_dedup (kss.map avT) (avT i)
  rw [e] at z
  constructor
  · intro h
    obtain ⟨n, h1, h2⟩ := List.mem_map.mp (z.mp (List.mem_map.mpr ⟨i, h, rfl⟩))
    rw [← avT_inj h2]; exact h1
  · intro h
    obtain ⟨n, h1, h2⟩ := List.mem_map.mp (z.mpr (List.mem_map.mpr ⟨i, h, rfl⟩))
    rw [← avT_inj h2]; exact h1
def rSet1 (K : PySem.W.Frag) (P : Program) (w : World) : List V → Hp → VK → Prop := fun vs H Q => rSetI K w vs H Q ∨ rSetT K P w vs H Q
theorem cm_set (hc : ∀ i, (F.X i).calm = true) (hr : ∀ i, Room 0 (F.X i).A) : CallM F W (.type "set") B.set_ := by
  refine ⟨rSet1 F.K F.P F.w, fun i => by have q := (cr_setI (X := F.X i) (hc i)).or (cr_setT (hc i) (hr i).units); rw [F.hK i, F.hP i, F.hw i] at q; exact q, fun xs vs s σ H φ Q st r h => ?_⟩
  unfold B.set_ at h
  split at h
  · rename_i l
    obtain ⟨v, rfl, rv⟩ := reps1 r
    cases rv with
    | ref hl =>
      rename_i a
      split at h
      · rename_i ys hy
        split at h
        · rename_i hz
          obtain ⟨z1, z2⟩ := Bool.and_eq_true_iff.mp hz
          have z2 := of_decide_eq_true z2
          obtain ⟨us, h1, h2⟩ := st.lst hy hl
          rcases (Bool.or_eq_true _ _).mp z1 with al | al
          · obtain ⟨ns, e1, e2⟩ := ints_all al
            have e3 := reps_ints h2 e1
            subst e2 e3
            obtain ⟨ms, d1, d2, d3⟩ := dedup_ints ns
            refine .inl ⟨a, ns, rfl, SqL.of h1, by simpa using z2, fun p c hcc np => ?_⟩
            refine newO (o := fun p => SetO F.w p (fun j => decide (j ∈ ns)) c) st np ?_ h
            exact .inl ⟨_, c, ms, upd_same, d1, d2, hcc, fun i => by simp only [d3 i]⟩
          · obtain ⟨kss, e1, e2⟩ := tups_all al
            subst e1
            obtain ⟨ks, f1, f2, f3⟩ := reps_tups h2
            subst f1
            obtain ⟨ms, d1, d2, d3⟩ := dedup_tups kss
            refine .inr ⟨a, ks, rfl, SqL.of h1, f3, by have := h2.length; simp at this z2; omega, fun p L np g1 g2 g3 => ?_⟩
            refine newO (o := fun p => SetTO F.P F.w p L) st np ?_ h
            refine .inr ⟨L, ms, upd_same, fun q hq => (Ext.new np : Ext F.K H φ _ φ).tup _ _ (f3 q (g1 q hq)), d1, d2, filter_nodup_perm g3 d2 fun y => ?_⟩
            rw [d3 y, ← f2]
            constructor
            · intro hy
              obtain ⟨q, hq, rfl⟩ := List.mem_map.mp hy
              exact List.mem_map.mpr ⟨q, g1 q hq, rfl⟩
            · intro hy
              obtain ⟨q, hq, rfl⟩ := List.mem_map.mp hy
              exact g2 q hq
        · exact h.elim
      · exact h.elim
  · exact h.elim
theorem mergeSort_ints (ns : List Int) : (ns.map AV.int).mergeSort B.sLe = (ns.mergeSort (fun a b => decide (a ≤ b))).map AV.int :=
  (List.map_mergeSort (f := AV.int) (s := B.sLe) (fun a _ b _ => rfl)).symm
theorem mergeSort_tups (kss : List (List Int)) : (kss.map avT).mergeSort B.sLe = (kss.mergeSort Mi.lexLe).map avT :=
  (List.map_mergeSort (f := avT) (s := B.sLe) (fun a _ b _ => by unfold B.sLe avT; dsimp only; rw [ints_map, ints_map])).symm
def rSorted1 (K : PySem.W.Frag) (P : Program) (w : World) : List V → Hp → VK → Prop := fun vs H Q => rSortV K vs H Q ∨ rSortVT K vs H Q ∨ rSortedSet w vs H Q ∨ rSortedST K P w vs H Q
theorem cm_sorted (hc : ∀ i, (F.X i).calm = true) (hr : ∀ i, Room 0 (F.X i).A) : CallM F W (.builtin "sorted") B.sorted := by
  refine ⟨rSorted1 F.K F.P F.w, fun i => by have q := (cr_sortV (X := F.X i) (hr i).units).or ((cr_sortVT (X := F.X i) (hr i).units).or ((cr_sortedSet (hc i)).or (cr_sortedST (hc i) (hr i).units))); rw [F.hK i, F.hP i, F.hw i] at q; exact q, fun xs vs s σ H φ Q st r h => ?_⟩
  unfold B.sorted at h
  split at h
  · rename_i l
    obtain ⟨v, rfl, rv⟩ := reps1 r
    cases rv with
    | ref hl =>
      rename_i a
      split at h
      · rename_i ys hy
        split at h
        · rename_i hz
          obtain ⟨us, h1, h2⟩ := st.lst hy hl
          obtain ⟨f1, f2⟩ := zip_fst h2
          have zr := zip_rep h2
          have es : ((us.zip ys).mergeSort leV).map (·.2) = ys.mergeSort B.sLe := by
            rw [List.map_mergeSort (s := B.sLe) (fun b _ c _ => rfl), f2]
          have rep2 := reps_pairs ((us.zip ys).mergeSort leV) fun b hb => zr b (List.mem_mergeSort.mp hb)
          rw [es] at rep2
          unfold newLst at h
          split at h
          · refine .inl ⟨a, us.zip ys, rfl, by rw [f1]; exact SqL.of h1, by rw [f2]; exact hz, fun b hb => ?_, newL st rep2 h⟩
            refine dp_toD (zr b hb) ?_
            have hb2 : b.2 ∈ ys := by rw [← f2]; exact List.mem_map.mpr ⟨b, hb, rfl⟩
            rcases sorts_mem hz b.2 hb2 b.2 hb2 with z | z
            · exact .inl z.1
            · exact .inr z.1
          · exact h.elim
        · exact h.elim
      · rename_i ys hy
        split at h
        · rename_i hz
          unfold newLst at h
          split at h
          · rcases st.ob l _ a hy hl with ⟨S, n, ns, h1, rfl, nd, h64, hS⟩ | ⟨L, kss, h1, h2, rfl, nd, pm⟩
            · refine .inr (.inr (.inl ⟨a, S, n, rfl, h1, h64, fun ms p pw mem len np => ?_⟩))
              have e : ns.mergeSort (fun a b => decide (a ≤ b)) = ms := by
                have p1 : (ns.mergeSort (fun a b => decide (a ≤ b))).Perm ms := by
                  refine (List.mergeSort_perm _ _).trans ((List.perm_ext_iff_of_nodup nd (pw.imp Int.ne_of_lt)).mpr fun i => ?_)
                  rw [mem i, hS i, decide_eq_true_iff]
                refine p1.eq_of_pairwise (le := fun a b => a ≤ b) (fun a b _ _ => Int.le_antisymm) ?_ (pw.imp Int.le_of_lt)
                exact (List.pairwise_mergeSort (le := fun a b : Int => decide (a ≤ b)) (fun a b c h1 h2 => decide_eq_true (Int.le_trans (of_decide_eq_true h1) (of_decide_eq_true h2))) (fun a b => by simpa using Int.le_total a b) ns).imp fun z => of_decide_eq_true z
              rw [mergeSort_ints, e] at h
              exact newL st (reps_int ms) h p np
            · refine .inr (.inr (.inr ⟨a, L, rfl, h1, h2, fun q hq e => ?_, fun L' p pm' pw np => ?_⟩))
              · have hz : B.sorts (kss.map avT) = true := hz
                have hk : avT q.2 ∈ kss.map avT := List.mem_map.mpr ⟨q.2, pm.mem_iff.mp (List.mem_map.mpr ⟨q, hq, rfl⟩), rfl⟩
                rcases sorts_mem hz _ hk _ hk with z | z
                · cases z.1
                · have z := z.1
                  rw [e] at z
                  cases z
              · have e : kss.mergeSort Mi.lexLe = L'.map (·.2) := by
                  have p1 : (kss.mergeSort Mi.lexLe).Perm (L'.map (·.2)) := (List.mergeSort_perm _ _).trans (pm.symm.trans (pm'.map (·.2)).symm)
                  refine p1.eq_of_pairwise (le := fun a b => Mi.lexLe a b = true) (fun a b _ _ => lexLe_antisymm a b) (List.pairwise_mergeSort lexLe_trans lexLe_total kss) ?_
                  exact List.pairwise_map.mpr pw
                have h : Pst F.P F.w F.K (Rep F.K) W σ H φ (.ok (.ref s.length) (s ++ [.lst ((kss.map avT).mergeSort B.sLe)])) Q := h
                rw [mergeSort_tups, e] at h
                have rp : Reps F.K H φ ((L'.map (·.2)).map avT) (L'.map fun q => V.ref q.1) := by
                  have : ∀ M : List (Addr × List Int), (∀ q ∈ M, q ∈ L) → Reps F.K H φ ((M.map (·.2)).map avT) (M.map fun q => V.ref q.1) := by
                    intro M
                    induction M with
                    | nil => exact fun _ => .nil
                    | cons q M ih => exact fun hM => .cons (.tup (h2 q (hM q List.mem_cons_self)) (reps_int q.2)) (ih fun r hr => hM r (List.mem_cons_of_mem _ hr))
                  exact this L' fun q hq => pm'.mem_iff.mp hq
                exact newL st rp h p np
          · exact h.elim
        · exact h.elim
      · exact h.elim
  · rename_i ys
    obtain ⟨v, rfl, rv⟩ := reps1 r
    cases rv with
    | tup hq h2 =>
      rename_i a us
      split at h
      · rename_i hz
        obtain ⟨f1, f2⟩ := zip_fst h2
        have zr := zip_rep h2
        have es : ((us.zip ys).mergeSort leV).map (·.2) = ys.mergeSort B.sLe := by
          rw [List.map_mergeSort (s := B.sLe) (fun b _ c _ => rfl), f2]
        have rep2 := reps_pairs ((us.zip ys).mergeSort leV) fun b hb => zr b (List.mem_mergeSort.mp hb)
        rw [es] at rep2
        unfold newLst at h
        split at h
        · refine .inr (.inl ⟨a, us.zip ys, rfl, by rw [f1]; exact hq, by rw [f2]; exact hz, fun b hb => ?_, newL st rep2 h⟩)
          refine dp_toD (zr b hb) ?_
          have hb2 : b.2 ∈ ys := by rw [← f2]; exact List.mem_map.mpr ⟨b, hb, rfl⟩
          rcases sorts_mem hz b.2 hb2 b.2 hb2 with z | z
          · exact .inl z.1
          · exact .inr z.1
        · exact h.elim
      · exact h.elim
  · exact h.elim
end
end Br
set_option maxRecDepth 100000
set_option maxHeartbeats 1000000
/-! Short forms for the printed texts. -/
namespace Br
open PySem L2 Mi PySem.Spec PyProof.Rows

section
variable {F : Fam} {W : WX} {a b c e elt tg iter : Expr} {es ifs : List Expr} {ma mb mc me : ME} {mr : MA} {pos p : Pos} {g : MG} {src : MI} {t : MT} {x : Str}
theorem rv (i : Nat) (hN : ∀ k, (F.X k).N[i]? = some x := by intro _; rfl) (hv : ∀ k, Vis (F.X k).env.scope x := by first | exact (fun _ => .inl rfl) | exact (fun _ => .inr (.inl rfl)) | exact (fun _ => .inr (.inr rfl)))
    (hd : (x == ("__debug__" : Str)) = false := by decide) (hcd : (x == ("__classdict__" : Str)) = false := by decide) : RE F W (.Name x pos) (E.var i) := re_var i hN hv hd hcd
theorem rk {i : Int} (hc : ∃ t, F.mg x = some (.int i t)) (hg : ∀ k, Gl (F.X k) x := by intro _; rfl) (hd : (x == ("__debug__" : Str)) = false := by decide) : RE F W (.Name x pos) (E.c (.int i)) := by
  obtain ⟨t, h⟩ := hc
  exact re_glob (v' := .int i) hg h ⟨t, rfl⟩ (fun _ _ => .int i) hd
theorem rty {n : String} (hm : F.mg x = none) (hv : bootBuiltins x = some (.type n) := by decide +kernel) (hg : ∀ k, Gl (F.X k) x := by intro _; rfl) (hn : x ≠ "__name__" := by decide) (hd : (x == ("__debug__" : Str)) = false := by decide) : RE F W (.Name x pos) (E.c (.ty n)) :=
  re_bltn hg hm hv hn hd
theorem rset (i : Nat) {pos' : Pos} (he : RE F W e ma) (hN : ∀ k, (F.X k).N.Nodup) (hi : ∀ k, (F.X k).N[i]? = some x := by intro _; rfl) (hx : ∀ k, Loc (F.X k).env.scope x := by first | exact (fun _ => .inl rfl) | exact (fun _ => .inr rfl)) (hs : ∀ k, swapsWith e (some (.Name x pos')) pos.line (F.X k).env = pure false := by intro _; rfl)
    (hf : ∀ k, (F.X k).fn x = true ∨ (F.X k).env.scope.names.lookup x = some .local := by first | exact (fun _ => .inl rfl) | exact (fun _ => .inr rfl)) : RS F W (.Assign [.Name x pos'] e pos) (S.asg (G.name i) ma) := rs_set hN hi hx he hs hf
theorem rgn (i : Nat) (hN : ∀ k, (F.X k).N.Nodup) (hi : ∀ k, (F.X k).N[i]? = some x := by intro _; rfl) (hx : ∀ k, Loc (F.X k).env.scope x := by first | exact (fun _ => .inl rfl) | exact (fun _ => .inr rfl))
    (hf : ∀ k, (F.X k).fn x = true ∨ (F.X k).env.scope.names.lookup x = some .local := by first | exact (fun _ => .inl rfl) | exact (fun _ => .inr rfl)) : RG F (.Name x pos) (G.name i) := rg_name hN hi hx hf
theorem rgon (i : Nat) {own : List Nat} (hN : ∀ k, (F.X k).N.Nodup) (ho : i ∈ own := by decide) (hi : ∀ k, (F.X k).N[i]? = some x := by intro _; rfl) (hx : ∀ k, Loc (F.X k).env.scope x := by first | exact (fun _ => .inl rfl) | exact (fun _ => .inr rfl))
    (hf : ∀ k, (F.X k).fn x = true ∨ (F.X k).env.scope.names.lookup x = some .local := by first | exact (fun _ => .inl rfl) | exact (fun _ => .inr rfl)) : RGo F own (.Name x pos) (G.name i) := rgo_name ho hN hi hx hf
theorem rs_setLc {i : Nat} {y : Str} {py : Pos} {scope : Scope} {own : List (Str × Nat)} {spos : Pos} (hc : ∀ i, (F.X i).calm = true) (hN : ∀ i, (F.X i).N.Nodup) (hy : ∀ k, (F.X k).N[i]? = some y) (hyl : ∀ k, (F.X k).env.scope.names.lookup y = some .local)
    (hsw : ∀ k, swapsWith (.ListComp elt [⟨tg, iter, ifs, 0⟩] scope pos) (some (.Name y py)) spos.line (F.X k).env = pure true) (hi : RI F W tg iter src) (ok : ∀ i, BlkOk (F.X i).N (F.X i).env.scope scope own)
    (hg : RGo (F.blk scope) (own.map (·.2)) tg g) (ht : RTs (F.blk scope) Wn ifs t) (he : RE (F.blk scope) Wn elt me) (hs : ∀ i x, foldedSetIterable iter (F.X i).env x = pure x := by intro _ _; rfl) :
    RS F W (.Assign [.Name y py] (.ListComp elt [⟨tg, iter, ifs, 0⟩] scope pos) spos) (S.asg (G.name i) (E.lc src g t me (own.map (·.2)))) := by
  obtain ⟨u, u1, u2⟩ := hi
  obtain ⟨x, x1, x2⟩ := hg
  obtain ⟨z, z1, z2⟩ := ht
  obtain ⟨v, v1, v2⟩ := he
  refine ⟨_, fun k => ps_setLc (hc k) (hN k) (hy k) (hyl k) (hsw k) (u1 k) (ok k) (fun s H C cl fp => x1 (k, s, H, C, cl, fp)) (fun s H C cl fp => z1 (k, s, H, C, cl, fp)) (fun s H C cl fp => v1 (k, s, H, C, cl, fp)) (hs k), fun en s σ H φ D re st h => ?_⟩
  exact lc_sound u2 x2 z2 v2 en s σ H φ _ re st (PstS.fl_of h re fun v s1 v' H1 φ1 x1 st1 r1 q => q _ H1 φ1 .refl st1 ((re.mono x1).set r1 i))
end
section
variable {F : Fam} {W : WX} {a : Expr} {ma : ME} {pos p p2 pos2 : Pos}
theorem re_neg (ha : RE F W a ma) : RE F W (.UnaryOp .USub a pos) (E.un negAV ma) := by
  obtain ⟨t, a1, a2⟩ := ha
  refine ⟨_, fun i => pe_un un_neg (a1 i), fun en s σ H φ Q re st h => ?_⟩
  refine a2 en s σ H φ _ re st (Pst.bind_of h fun v s1 v' H1 φ1 x1 st1 r1 q => ?_)
  cases r1 with
  | int i => exact ⟨i, rfl, q _ H1 φ1 .refl st1 (.int _)⟩
  | _ => exact q.elim
theorem rg_reps {K : PySem.W.Frag} {H : Hp} {φ : List Addr} (j : Int) : Reps K H φ (I.iot 0 j.toNat) (rgV 0 j) := by
  unfold I.iot rgV
  rw [Int.sub_zero]
  induction List.range j.toNat with
  | nil => exact .nil
  | cons x xs ih => exact .cons (.int _) ih
theorem re_lstR (hc : ∀ i, (F.X i).calm = true) (hm : F.mg "list" = none) (hm2 : F.mg "range" = none) (ha : RE F W a ma) (hg : ∀ i, Gl (F.X i) "list" := by intro _; rfl) (hg2 : ∀ i, Gl (F.X i) "range" := by intro _; rfl)
    (na : ∀ i, starEach [a] (F.X i).env = (false, eval a (F.X i).env) :: starEach [] (F.X i).env := by intro _; rfl)
    (nb : ∀ i, starEach [(Expr.Call (.Name "range" p2) [a] [] pos2)] (F.X i).env = (false, eval (Expr.Call (.Name "range" p2) [a] [] pos2) (F.X i).env) :: starEach [] (F.X i).env := by intro _; rfl) :
    RE F W (.Call (.Name "list" p) [.Call (.Name "range" p2) [a] [] pos2] [] pos) (E.lstR ma) := by
  obtain ⟨t, a1, a2⟩ := ha
  refine ⟨_, fun i => pe_listRg (hc i) (hg i) (by rw [F.hmg i]; exact hm) (prg_1 (hg2 i) (by rw [F.hmg i]; exact hm2) (a1 i) (na i)) (nb i), fun en s σ H φ Q re st h => ?_⟩
  refine a2 en s σ H φ _ re st (Pst.bind_of h fun v s1 v' H1 φ1 x1 st1 r1 q => ?_)
  cases r1 with
  | int j =>
    dsimp only at q
    split at q
    · rename_i hz
      obtain ⟨z1, z2⟩ := Bool.and_eq_true_iff.mp hz
      unfold I.inR at z1
      have z1 := of_decide_eq_true z1
      have z2 := of_decide_eq_true z2
      exact ⟨j, rfl, ⟨by decide, by decide, z1.1, z1.2, by rw [Int.sub_zero]; exact z2⟩, newL st1 (rg_reps j) q⟩
    · exact q.elim
  | _ => exact q.elim
theorem re_tupR (hc : ∀ i, (F.X i).calm = true) (hm : F.mg "tuple" = none) (hm2 : F.mg "range" = none) (ha : RE F W a ma) (hg : ∀ i, Gl (F.X i) "tuple" := by intro _; rfl) (hg2 : ∀ i, Gl (F.X i) "range" := by intro _; rfl)
    (na : ∀ i, starEach [a] (F.X i).env = (false, eval a (F.X i).env) :: starEach [] (F.X i).env := by intro _; rfl)
    (nb : ∀ i, starEach [(Expr.Call (.Name "range" p2) [a] [] pos2)] (F.X i).env = (false, eval (Expr.Call (.Name "range" p2) [a] [] pos2) (F.X i).env) :: starEach [] (F.X i).env := by intro _; rfl) :
    RE F W (.Call (.Name "tuple" p) [.Call (.Name "range" p2) [a] [] pos2] [] pos) (E.tupR ma) := by
  obtain ⟨t, a1, a2⟩ := ha
  refine ⟨_, fun i => pe_tupRg (hc i) (hg i) (by rw [F.hmg i]; exact hm) (prg_1 (hg2 i) (by rw [F.hmg i]; exact hm2) (a1 i) (na i)) (nb i), fun en s σ H φ Q re st h => ?_⟩
  refine a2 en s σ H φ _ re st (Pst.bind_of h fun v s1 v' H1 φ1 x1 st1 r1 q => ?_)
  cases r1 with
  | int j =>
    dsimp only at q
    split at q
    · rename_i hz
      obtain ⟨z1, z2⟩ := Bool.and_eq_true_iff.mp hz
      unfold I.inR at z1
      have z1 := of_decide_eq_true z1
      have z2 := of_decide_eq_true z2
      exact ⟨j, rfl, ⟨by decide, by decide, z1.1, z1.2, by rw [Int.sub_zero]; exact z2⟩, newT st1 (rg_reps j) q⟩
    · exact q.elim
  | _ => exact q.elim
end
theorem blk1 {F : Fam} {N : List Str} {sc0 scope : Scope} {own : List (Str × Nat)} (h : blkC N sc0 scope own = true) (hN : ∀ i, (F.X i).N = N := by intro _; rfl) (hs : ∀ i, (F.X i).env.scope = sc0 := by intro _; rfl) : ∀ i, BlkOk (F.X i).N (F.X i).env.scope scope own := fun i => by
  rw [hN i, hs i]; exact blkOk_by h
theorem blk2 {F : Fam} {N : List Str} {sc0 sc1 scope : Scope} {own : List (Str × Nat)} (h : blkC N (relS sc1 sc0) scope own = true) (hN : ∀ i, ((F.blk sc1).X i).N = N := by intro _; rfl) (hs : ∀ i, ((F.blk sc1).X i).env.scope = relS sc1 sc0 := by intro _; rfl) : ∀ i, BlkOk ((F.blk sc1).X i).N ((F.blk sc1).X i).env.scope scope own := fun i => by
  rw [hN i, hs i]; exact blkOk_by h
/-- the names that stand by themselves -/
abbrev DefN (K : PySem.W.Frag) (mg : Str → Option Value) (x : Str) (st : Stmt) (ps : List Str) : Type := { z : Addr × FuncData // DefAt K mg x st ps z.1 z.2 }
end Br
/-! MiB: errors in the mirror: told by the index of their class and by their what. -/
namespace Mi
open PySem
namespace S
/-- raise C(e), j the index of C -/
def raise (j : Nat) (a : ME) : MS := fun en s => (a en s).fl en fun v s => .err j v en s
/-- a slot is cleared -/
def clr (i : Nat) (r : Fl) : Fl := match r with
  | .nx e s => .nx (e.set i none) s
  | .brk e s => .brk (e.set i none) s
  | .cnt e s => .cnt (e.set i none) s
  | .ret v s => .ret v s
  | _ => .bad
/-- a clause: the classes that it names, the slot of its name, its suite by the error's class and what -/
structure Cl where
  p : Nat → Bool
  i : Option Nat
  m : Nat → AV → MS
def hand : List Cl → Nat → AV → MS
  | [], j, w => fun en s => .err j w en s
  | c :: r, j, w => if c.p j = true then (match c.i with
      | none => fun en s => gxS (c.m j w en s)
      | some i => fun en s => if i < en.length then clr i (c.m j w (en.set i none) s) else .bad) else hand r j w
where gxS (r : Fl) : Fl := match r with
  | .err _ _ _ _ => .bad
  | r => r
def try_ (b : MS) (cs : List Cl) : MS := fun en s => match b en s with
  | .err j w en s => hand cs j w en s
  | r => r
end S
end Mi
set_option maxRecDepth 100000
set_option maxHeartbeats 1000000
/-! Errors: raise, calls that may raise, try. -/
namespace Br
open PySem L2 Mi PySem.Spec PyProof.Rows
/-- classes by their index -/
def WL (cl : Nat → Addr) (W : WX) : WX := fun v d σ H => ∃ j : Nat, v = .ref (cl j) ∧ W (.ref j) d σ H
/-- .. the other way about -/
def WU (cl : Nat → Addr) (W : WX) : WX := fun v d σ H => ∃ j : Nat, v = .ref j ∧ W (.ref (cl j)) d σ H
theorem WL_WU {cl : Nat → Addr} {W : WX} {v : Value} {d : Option Addr} {σ : L2.St} {H : Hp} (h : WL cl (WU cl W) v d σ H) : W v d σ H := by
  obtain ⟨j, rfl, k, e, q⟩ := h
  cases e; exact q
/-- the promise of a def that may raise -/
def spE (P : Program) (w : World) (K : PySem.W.Frag) (cl : Nat → Addr) (m : MF) : Sp := fun vs H Q E => ∃ xs s φ, St0 P w K H φ s ∧ Reps K H φ xs vs ∧ Pst P w K (Rep K) (WU cl fun c d _ H' => E c d H') [] H φ (m xs s) Q
/-- __init__ of the errors: self.what = what -/
def spI (K : PySem.W.Frag) : Sp := fun vs H Q _ => ∃ (a C : Addr) (y : V), vs = [.ref a, y] ∧ OexC K C ∧ PySem.W.findIn K (.ref C) "what" = some none ∧ H a = some (exo a C none) ∧
  ∀ dx, H dx = none → dx ≠ a → Q .non (upd (upd H dx (exd dx [("what", y)])) a (exo a C (some dx)))
/-- what is known of the class of index j, whose name is x -/
structure ClsAt (P : Program) (w : World) (K : PySem.W.Frag) (mg : Str → Option Value) (base : Heap) (x : Str) (C fI : Addr) (fd : FuncData) : Prop where
  gl : mg x = some (.ref C)
  ox : OexC K C
  nw : PySem.W.findIn K (.ref C) "what" = some none
  it : PySem.W.findIn K (.ref C) "__init__" = some (some (.ref fI))
  tI : PySem.W.typeIn K (.ref fI) = some (.type "function")
  fn : FnOk P w K mg base CX0 1 fI fd ["self", "what"] (spI K)
  bd : Binds K fd ["self", "what"] []
section
variable {F : Fam} {W : WX} {cl : Nat → Addr} {e : Expr} {es : List Expr} {ma : ME} {mr : MA} {pos p pos' : Pos} {x : Str} {k j : Nat} {f fI : Addr} {fd : FuncData} {ps : List Str} {st : Stmt} {m : MF}
theorem del_upd {H : Hp} {a dx : Addr} {o1 o2 o3 o4 : HO} (ha : H a = none) (hne : dx ≠ a) : upd (del (upd (upd (upd H a o1) dx o2) a o3) a) dx o4 = upd H dx o4 := by
  funext b
  unfold upd del
  by_cases h1 : b = dx
  · subst h1; simp
  · by_cases h2 : b = a
    · subst h2; simp [h1, ha]
    · simp [h1, h2]
theorem rs_raise (T : ClsAt F.P F.w F.K F.mg F.base x (cl j) fI fd) (hc : ∀ i, (F.X i).calm = true) (tk : ∀ i, Takes (F.X i) (WL cl W)) (hr : ∀ i, RoomG 2 (F.X i).A) (hg : ∀ i, Gl (F.X i) x) (ha : RE F W e ma)
    (hdb : (x == ("__debug__" : Str)) = false := by decide) (he : ∀ i, starEach (e :: []) (F.X i).env = (false, eval e (F.X i).env) :: starEach [] (F.X i).env := by intro _; rfl) (hpl : ∀ i, (backTo pos (starEach [] (F.X i).env)).any (·.1) = false := by intro _; rfl) :
    RS F W (.Raise (some (.Call (.Name x p) [e] [] pos)) none pos') (S.raise j ma) := by
  obtain ⟨t, a1, a2⟩ := ha
  refine ⟨_, fun i => ps_raise (hc i) (tk i) (pmk_oex (CX := CX0) (by rw [F.hK i]; exact T.ox) (by rw [F.hK i]; exact T.it) (by rw [F.hK i]; exact T.tI) (by rw [F.hP i, F.hw i, F.hK i, F.hmg i, F.hbase i]; exact T.fn) (hr i).rm (by rw [F.hK i]; exact T.bd) .nil pass0 (hg i) (by rw [F.hmg i]; exact T.gl) (pa_cons (a1 i) pa_nil (he i)) hdb (he i) (hpl i)), fun en s σ H φ D re st h => ?_⟩
  refine a2 en s σ H φ _ re st (h.fl_of re fun v s1 v' H1 φ1 x1 st1 r1 q => ?_)
  refine ⟨by simp, fun a ha => ⟨a, cl j, v', rfl, T.ox, T.nw, upd_same, fun dx hdx hne => ⟨rfl, dx, [("what", v')], upd_same, by rw [upd_ne hne]; exact upd_same, ?_, j, rfl, ?_⟩⟩⟩
  · have := hdx; rw [upd_ne hne] at this; exact this
  · have hd0 : H1 dx = none := by have := hdx; rw [upd_ne hne] at this; exact this
    rw [del_upd ha hne]
    exact q dx v' σ _ φ1 (Ext.new hd0) (st1.new hd0) (r1.mono (Ext.new hd0)) ((re.mono x1).mono (Ext.new hd0)) upd_same
/-- a def that may raise, by its body's mirror -/
theorem fnE {P : Program} {w : World} {K : PySem.W.Frag} {mg : Str → Option Value} {base : Heap} {qual : Str} {N : List Str} {b : MS} (Fu : Fun K x qual st f fd) (S : FnScope N ps (defScope st)) {np n : Nat} (hnp : ps.length = np) (hn : N.length = n)
    (body : ∀ (cdv : Value) (A : Around) (outer : List Env) (s : Shared) (H : Hp) (E : XK), RoomG k (A.deeper (envOfC qual (defScope st) s.heap.objs.size f cdv)) →
      RSs (Fam.one (cxOf (L2.CX P w) P w K mg base N qual (defScope st) f cdv A outer s H E)) (WU cl fun c d _ H' => E c d H') (defBody st) b) :
    FnG P w K mg base (L2.CX P w) (k + 1) f fd ps (spE P w K cl (runDef np n b)) := by
  have lens : ∀ vs H Q E, spE P w K cl (runDef np n b) vs H Q E → vs.length = ps.length := by
    rintro vs H Q E ⟨xs, s, φ, _, r, h⟩
    unfold runDef at h
    split at h
    · exact h.elim
    · rename_i hz
      rw [hnp, ← r.length]
      exact Classical.not_not.mp hz
  obtain ⟨oc, od, kV, doc, pm, an, cdv, ct, osl, rfl, lk, hcd⟩ := Fu.ex
  refine ⟨lens, fun A outer s H args us vs Q E hr e0 hb rv hsp => ?_⟩
  have hl := lens _ _ _ _ hsp
  have inK : K.In s.heap := e0.mod.kin.keeps fun c o z => (e0.bs c o z).1
  have noL : s.heap.NoLimit := e0.mod.nolimit.keeps fun c o z => (e0.bs c o z).1
  have kinds : ∀ y ∈ ps.zip us, (defScope st).names.lookup y.1 = some .local ∨ ((defScope st).names.lookup y.1 = some .cell ∧ ((cellsFrom (s.heap.objs.size + 1) (defScope st).names []).lookup y.1).isSome = true) := by
    rintro ⟨nm, v⟩ hy
    exact (S.par nm (List.of_mem_zip hy).1).imp id fun z => ⟨z, PySem.W.cellsFrom_some _ _ _ (.inl z)⟩
  apply codeAny_call_function hr.rm.depth (inK _ _ lk) rfl S.co S.gen rfl (PySem.W.codeRec_of inK hcd)
  refine hb _ _ _ _ (wpAny_newFunctionEnv_cells S.kind kinds ?_)
  rintro env rfl s1 z
  refine ⟨noL.keeps z.toInCall.keep, codeAny_func ?_⟩
  have hr' : RoomG k (A.deeper (envOfC qual (defScope st) s.heap.objs.size f cdv)) := ⟨hr.rm.deeper _, hr.gd⟩
  obtain ⟨t, t1, t2⟩ := body cdv A outer s H E hr'
  have I : Inv (cxOf (L2.CX P w) P w K mg base N qual (defScope st) f cdv A outer s H E) [] (start N vs) H s1 := inv_start S hr.rm.hd e0 hl rv z
  obtain ⟨xs, s0, φ, st0, rx, hp⟩ := hsp
  have hq : t { nx := fun _ H' => Q .non H', rt := Q } (start N vs) H := by
    refine t2 (xs.map some ++ List.replicate (n - xs.length) none) s0 (start N vs) H φ _ ⟨?_, fun i y q => ?_⟩ st0 ?_
    · unfold L2.start
      simp only [List.length_append, List.length_map, List.length_replicate]
      rw [rx.length, hn]
    · by_cases hi : i < xs.length
      · rw [List.getElem?_append_left (by rw [List.length_map]; exact hi), List.getElem?_map] at q
        cases hxi : xs[i]? with
        | none => rw [hxi] at q; cases q
        | some u =>
          rw [hxi] at q
          cases q
          obtain ⟨v, h1, h2⟩ := rx.get hxi
          refine ⟨v, ?_, h2⟩
          unfold L2.start
          rw [List.getElem?_append_left (by rw [List.length_map, ← rx.length]; exact hi), List.getElem?_map, h1]; rfl
      · rw [List.getElem?_append_right (by rw [List.length_map]; omega)] at q
        rw [List.getElem?_replicate] at q
        split at q <;> cases q
    · unfold runDef at hp
      split at hp
      · exact hp.elim
      · revert hp
        show Pst P w K (Rep K) (WU cl fun c d _ H' => E c d H') [] H φ (match b (xs.map some ++ List.replicate (n - xs.length) none) s0 with
          | .nx _ s => .ok .non s
          | .ret v s => .ok v s
          | .err C w _ s => .err C w s
          | .brk _ _ => .bad
          | .cnt _ _ => .bad
          | .bad => .bad) Q → PstS P w K (WU cl fun c d _ H' => E c d H') H φ (b (xs.map some ++ List.replicate (n - xs.length) none) s0) _
        cases b (xs.map some ++ List.replicate (n - xs.length) none) s0 with
        | nx en s => exact fun h σ' H' φ' e st re => h .non H' φ' e st .non
        | ret v s => exact id
        | err C y en s => exact fun h d x' σ' H' φ' e st rx re hd => h d x' H' φ' e st rx hd
        | brk en s => exact fun h => h.elim
        | cnt en s => exact fun h => h.elim
        | bad => exact id
  refine wpAny_mono ((t1 ()).run [] s1 (start N vs) H _ I hq) ?_ (fun e s' hs => hs)
  rintro fl s' hs
  have fin : ∀ (σ' : L2.St) (H' : Hp) (v : V) (u : Value), Inv (cxOf (L2.CX P w) P w K mg base N qual (defScope st) f cdv A outer s H E) [] σ' H' s' → RelV v u → Q v H' → CE outer P w H s Q u s' :=
    fun _ H' v _ J r q => ⟨v, H', J.os, J.bare, J.base, J.hok, r, q⟩
  match fl, hs with
  | .ret u, ⟨v, σ', H', J, r, q⟩ => exact fin σ' H' v u J r q
  | .next, ⟨σ', H', J, q⟩ => exact fin σ' H' .non .none J rfl q
  | .brk, ⟨_, _, _, q⟩ => exact q.elim
  | .cont, ⟨_, _, _, q⟩ => exact q.elim
end
/-! ### calls -/
section
variable {X : Cx} {CX : CXT} {k : Nat} {f : Addr} {fd : FuncData} {ps : List Str} {sp : Sp} {E : L2.St → XK} {x : Str} {p pos : Pos} {e : Expr} {es : List Expr} {t : TA}
theorem peGE (G : FnG X.prog X.w X.K X.mg X.base CX k f fd ps sp) (hr : RoomG k X.A) (hg : Gl X x) (hm : X.mg x = some (.ref f)) (hk : PySem.W.keepIn X.K (.ref f) = true) (hb : Binds X.K fd ps []) (hx : ∀ σ, PassesAt CX X σ (E σ))
    (ha : PA X (e :: es) t) (hdb : (x == ("__debug__" : Str)) = false) (he : starEach (e :: es) X.env = (false, eval e X.env) :: starEach es X.env) (hpl : (backTo pos (starEach es X.env)).any (·.1) = false) :
    PE X (.Call (.Name x p) (e :: es) [] pos) (fun σ H Q => t σ H fun vs H1 => sp vs H1 Q (E σ)) where
  run pins s σ H Q I h := by
    have args := thn (ha.run pos pins s σ H _ I h) (Q' := fun us s1 => X.K.In s1.heap ∧ wpAny (model X.prog X.w) X.A (call (.ref f) us) (EP X pins σ Q) X.xe s1) (by
      rintro us s1 ⟨vs, H1, I1, r1, q1⟩
      refine ⟨I1.kIn, ?_⟩
      have hl : us.length = ps.length := r1.length ▸ G.len vs H1 Q _ q1
      have bind : BindsTo s1 fd ⟨us, []⟩ (ps.zip us) := by
        have z := hb s1 us I1.kIn (by rw [List.append_nil]; exact hl)
        rw [List.append_nil] at z
        exact z
      refine wpAny_call (codeAny_mono (G.run X.A X.stack s1 H1 _ us vs Q (E σ) hr I1.env0 bind r1 q1) ?_)
      intro r s' hq
      match r, hq with
      | .error e, hq => exact hx σ pins H1 s1 e s' I1 hq
      | .ok (.ret u), hq => exact I1.after hq
      | .ok .next, hq => exact hq.elim
      | .ok .brk, hq => exact hq.elim
      | .ok .cont, hq => exact hq.elim)
    exact wpAny_Call_Name_kw (ld_glob I hg hm (PySem.W.callWith_K (h₀ := X.base) I.ok.mod.kin hk args he hpl) hdb)
end
section
variable {F : Fam} {W : WX} {cl : Nat → Addr} {e : Expr} {es : List Expr} {mr : MA} {pos p : Pos} {x : Str} {k : Nat} {f : Addr} {fd : FuncData} {ps : List Str} {st : Stmt} {m : MF}
/-- a call of a def that may raise -/
theorem re_callE (G : FnG F.P F.w F.K F.mg F.base (L2.CX F.P F.w) k f fd ps (spE F.P F.w F.K cl m)) (A : DefAt F.K F.mg x st ps f fd) (tk : ∀ i, Takes (F.X i) (WL cl W)) (hr : ∀ i, RoomG k (F.X i).A) (hg : ∀ i, Gl (F.X i) x) (ha : RA F W (e :: es) mr)
    (hdb : (x == ("__debug__" : Str)) = false := by decide) (he : ∀ i, starEach (e :: es) (F.X i).env = (false, eval e (F.X i).env) :: starEach es (F.X i).env := by intro _; rfl) (hpl : ∀ i, (backTo pos (starEach es (F.X i).env)).any (·.1) = false := by intro _; rfl) :
    RE F W (.Call (.Name x p) (e :: es) [] pos) (E.call m mr) := by
  obtain ⟨t, a1, a2⟩ := ha
  refine ⟨_, fun i => peGE (E := WE (WL cl W)) (G.at i) (hr i) (hg i) (by rw [F.hmg i]; exact A.mg) (by rw [F.hK i]; exact A.fn.kp) (by rw [F.hK i]; exact A.bd) (fun σ => by have := passAt (tk i) σ; rw [F.hP i, F.hw i] at this; exact this) (a1 i) hdb (he i) (hpl i), fun en s σ H φ Q re st h => ?_⟩
  refine a2 en s σ H φ _ re st (Pst.bind_of h fun v s1 v' H1 φ1 x1 st1 r1 q => ⟨v, s1, φ1, st1, r1, ?_⟩)
  revert q
  cases m v s1 with
  | ok u s2 => exact id
  | err j y s2 => exact fun q d x' H' φ' e st rx hd => ⟨j, rfl, j, rfl, q d x' H' φ' e st rx hd⟩
  | bad => exact id
end
end Br
set_option maxRecDepth 100000
set_option maxHeartbeats 1000000
/-! try with several clauses, each with or without a name. -/
namespace Br
open PySem L2 PySem.Spec PyProof.Rows
/-- readings of suites, by the error's address, class and dict -/
abbrev TSu := Addr → Value → Option Addr → TS
/-- the ends of a suite whose name, in slot i, goes -/
def endsA (i : Nat) (D : Ends) : Ends where
  nx σ H := D.nx (σ.set i none) H
  rt := D.rt
  bk σ H := D.bk (σ.set i none) H
  ct σ H := D.ct (σ.set i none) H
/-- one clause's wish -/
def wOneA (i : Option Nat) (ts : TSu) (D : Ends) (cls : Value) (d : Option Addr) (σ : L2.St) (H : Hp) : Prop := ∀ a, H a = none → match i with
  | none => ts a cls d D σ H
  | some i => ts a cls d (endsA i D) (σ.set i (some (.ref a))) H
def wAllA (K : PySem.W.Frag) (Wo : WX) (D : Ends) : List (Value × Option Nat × TSu) → WX
  | [], cls, d, σ, H => Wo cls d σ H
  | (c, i, ts) :: r, cls, d, σ, H => ∃ b : Bool, PySem.W.exmOne K cls c = some b ∧ if b = true then wOneA i ts D cls d σ H else wAllA K Wo D r cls d σ H
/-- a suite is read as ts says -/
def SuOk (X : Cx) (sts : List Stmt) (ts : TSu) : Prop :=
  ∀ (a : Addr) (o : Obj) (cls : Value) (d : Option Addr) (pn : List (Addr × Obj)), Zc cls d o → (∃ vs, o.data = .fields vs) → PSs (X.suite a ((a, o) :: pn)) sts (ts a cls d)
inductive HdA (X : Cx) : List ExceptHandler → List (Value × Option Nat × TSu) → Prop
  | nil : HdA X [] []
  | plain {x : Str} {c : Value} {ts : TSu} {st : Stmt} {sts : List Stmt} {p1 p2 : Pos} {hs : List ExceptHandler} {l : List (Value × Option Nat × TSu)} :
      Names X x c → SuOk X (st :: sts) ts → HdA X hs l → HdA X (.ExceptHandler (some (.Name x p1)) none (st :: sts) p2 :: hs) ((c, none, ts) :: l)
  | named {x n : Str} {i : Nat} {c : Value} {ts : TSu} {st : Stmt} {sts : List Stmt} {p1 p2 : Pos} {hs : List ExceptHandler} {l : List (Value × Option Nat × TSu)} :
      X.N.Nodup → X.N[i]? = some n → X.env.kindOf n = some .local → Names X x c → SuOk X (st :: sts) ts → HdA X hs l →
      HdA X (.ExceptHandler (some (.Name x p1)) (some n) (st :: sts) p2 :: hs) ((c, some i, ts) :: l)
section
variable {X : Cx} {pins : List (Addr × Obj)} {G : Heap} {a : Addr} {cls : Value} {d : Option Addr} {σ : L2.St} {H : Hp} {s0 s : Shared} {h3 : Heap} {D : Ends}
/-- an error has been caught: it is noted, and the frame's state stands without it -/
structure Hit (X : Cx) (pins : List (Addr × Obj)) (G : Heap) (a : Addr) (cls : Value) (d : Option Addr) (σ : L2.St) (H : Hp) (s0 s : Shared) (h3 : Heap) : Prop where
  inv : Inv X pins σ H s0
  out : ∀ b o, s0.heap.get? b = some o → b ∉ frs X.stack → G.get? b = some o
  fly : HandSPX.FlyingZ G (X.env :: X.outer) a (Zc cls d) h3
  up : s0.heap.UpToSlots h3
  na : H a = none
  os : s.os = s0.os
  ag : AllBare s.gens
  nl : a ≠ X.env.locals
  nf : a ∉ X.fs
/-- the state at h4, where the error is noted still -/
theorem Hit.at (q : Hit X pins G a cls d σ H s0 s h3) {h4 : Heap} (f4 : HandSPX.FlyingZ G (X.env :: X.outer) a (Zc cls d) h4) (u4 : h3.UpToSlots h4) :
    ∃ o vs, Zc cls d o ∧ o.data = .fields vs ∧ h4.get? a = some o ∧ Inv X pins σ H { s with heap := h4 } ∧ Inv (X.suite a ((a, o) :: (X.pn ++ pins))) [] σ H { s with heap := h4 } := by
  obtain ⟨o, vs, e1, e2, e3⟩ := f4.there
  have J : Inv X pins σ H { s with heap := h4 } := q.inv.landed q.out f4.1 (q.up.trans u4) q.os q.ag
  exact ⟨o, vs, e2, e3, e1, J, J.suite e1 e3 q.na q.nl q.nf⟩
theorem Hit.off (q : Hit X pins G a cls d σ H s0 s h3) (hs : X.stack = X.env :: X.outer) (hf : X.env.frame = some X.env.locals) {Wo : WX} (tk : Takes X Wo) (w : Wo cls d σ H) :
    wpAny (model X.prog X.w) X.A (handleBy (.ref a) X.env []) (SP X pins D) X.xe { s with heap := h3 } := by
  refine wpAny_handleBy_nil ?_
  obtain ⟨_, _, _, o, vs, T, oT, ts', e1, e2, e3, e4, _⟩ := id q.fly
  unfold PySem.passOn
  refine wpAny_bind (wpAny_field e1 e3 e4 ?_)
  have ne : ¬ ((Value.ref T == Value.none) = true) := by simp
  rw [if_neg ne]
  have last : wpAny (model X.prog X.w) X.A (setFlight (.ref a) X.env.frame)
      (fun _ s4 => wpAny (model X.prog X.w) X.A (throw (.ref a) : Sem Flow) (SP X pins D) X.xe s4) X.xe { s with heap := h3 } := by
    rw [hf]
    refine HandSPX.setFlight_upZ q.fly fun h4 f4 u4 => ?_
    refine wpAny_throw (tk _ _ ⟨a, G, s0, pins, σ, H, cls, d, rfl, q.inv, q.out, q.up.trans u4, ?_, q.na, q.os, q.ag, w⟩)
    rw [hs]; exact .inr (.inr f4)
  first
    | exact wpAny_bind (wpAny_pure (wpAny_bind last))
    | exact wpAny_bind last
theorem Hit.run (hs : X.stack = X.env :: X.outer) (hf : X.env.frame = some X.env.locals) {Wo : WX} (tk : Takes X Wo) (q : Hit X pins G a cls d σ H s0 s h3) {hds : List ExceptHandler} {l : List (Value × Option Nat × TSu)} (hk : HdA X hds l) :
    wAllA X.K Wo D l cls d σ H → wpAny (model X.prog X.w) X.A (handleBy (.ref a) X.env hds) (SP X pins D) X.xe { s with heap := h3 } := by
  have ok := q.inv.ok
  -- the class that a clause names, looked at
  have look : ∀ {x : Str} {c : Value} {b : Bool} {p1 : Pos}, Names X x c → PySem.W.exmOne X.K cls c = some b → ∀ {Q : Bool → Shared → Prop} {E : Value → Shared → Prop}, Q b { s with heap := h3 } →
      wpAny (model X.prog X.w) (X.A.mark (some (.ref a))) (eval (.Name x p1) X.env) (fun v s1 => wpAny (model X.prog X.w) (X.A.mark (some (.ref a))) (excMatches (.ref a) v) Q E s1) E { s with heap := h3 } := by
    intro x c b p1 hc hb Q E hq
    obtain ⟨o, vs, z1, z2, z3, J, S⟩ := q.at q.fly (Heap.UpToSlots.refl _)
    have ty : PySem.W.Looks (model X.prog X.w) h3 (typeOf (.ref a)) cls := fun A Q E s k y => wpAny_typeOf_ref (k _ _ z3) (by rw [z1.1]; exact y)
    have em := PySem.W.exm_one (M := model X.prog X.w) J.kIn ty hb
    obtain ⟨hg, hd, hm | ⟨hm, hv, hnn⟩⟩ := hc
    · exact ld_glob (X := X.suite a ((a, o) :: (X.pn ++ pins))) S hg hm (em.here hq) hd
    · exact ld_blt (X := X.suite a ((a, o) :: (X.pn ++ pins))) S hg hm hv (em.here hq) hnn hd
  induction hk with
  | nil => exact fun w => q.off hs hf tk w
  | plain hc hsu _ ih =>
    rintro ⟨b, hb, w⟩
    refine wpAny_handleBy_cons (codeAny_handlers_test ?_) (fun y => nomatch y)
    refine look hc hb ?_
    cases b with
    | false => exact ih w
    | true =>
      refine codeAny_handlers_suite (HandSPX.lands_againZ q.fly fun h4 f4 u4 => ?_)
      obtain ⟨o, vs, z1, z2, z3, J, S⟩ := q.at f4 u4
      refine wpAny_mono ((hsu a o cls d (X.pn ++ pins) z1 ⟨_, z2⟩).run [] _ _ H _ S (w a q.na)) ?_ fun _ _ z => z.elim
      rintro fl s6 hq
      match fl, hq with
      | .next, ⟨_, _, S6, y⟩ => exact ⟨_, _, S6.unsuite ok, y⟩
      | .brk, ⟨_, _, S6, y⟩ => exact ⟨_, _, S6.unsuite ok, y⟩
      | .cont, ⟨_, _, S6, y⟩ => exact ⟨_, _, S6.unsuite ok, y⟩
      | .ret _, ⟨_, _, _, S6, r6, y⟩ => exact ⟨_, _, _, S6.unsuite ok, r6, y⟩
  | named hN hi hl hc hsu _ ih =>
    rename_i i _ _ _ _ _ _ _ _
    rintro ⟨b, hb, w⟩
    refine wpAny_handleBy_cons (codeAny_handlers_test ?_) (fun y => nomatch y)
    refine look hc hb ?_
    cases b with
    | false => exact ih w
    | true =>
      refine codeAny_handlers_suite_as (HandSPX.lands_againZ q.fly fun h4 f4 u4 => ?_)
      obtain ⟨o, vs, z1, z2, z3, J, S⟩ := q.at f4 u4
      refine store_ok (X := X.suite a ((a, o) :: (X.pn ++ pins))) (v := .ref a) S hN hi (.inl hl) rfl (fun s5 S5 => ?_) (.inr hl)
      refine wpAny_mono ((hsu a o cls d (X.pn ++ pins) z1 ⟨_, z2⟩).run [] s5 _ H _ S5 (w a q.na)) ?_ fun _ _ z => z.elim
      rintro fl s6 hq
      match fl, hq with
      | .next, ⟨_, _, S6, y⟩ => exact gone_ok (S6.unsuite ok) hN hi hl fun s7 J7 => ⟨_, _, J7, y⟩
      | .brk, ⟨_, _, S6, y⟩ => exact gone_ok (S6.unsuite ok) hN hi hl fun s7 J7 => ⟨_, _, J7, y⟩
      | .cont, ⟨_, _, S6, y⟩ => exact gone_ok (S6.unsuite ok) hN hi hl fun s7 J7 => ⟨_, _, J7, y⟩
      | .ret _, ⟨_, _, _, S6, r6, y⟩ => exact gone_ok (S6.unsuite ok) hN hi hl fun s7 J7 => ⟨_, _, _, J7, r6, y⟩
/-- try: body / except C1 as n: .. / except C2: .. -/
theorem ps_tryA {body : List Stmt} {h : ExceptHandler} {hds : List ExceptHandler} {l : List (Value × Option Nat × TSu)} {pos : Pos} {tb : WX → TS} {Wo : WX} (hs : X.stack = X.env :: X.outer) (hf : X.env.frame = some X.env.locals) (tk : Takes X Wo)
    (hb : ∀ (W : WX) (pn : List (Addr × Obj)) (xe : Value → Shared → Prop), Takes (X.tr pn xe) W → PassesOwn (model X.prog X.w) X.A X.env xe → PSs (X.tr pn xe) body (tb W)) (hh : HdA X (h :: hds) l) :
    PS X (.Try body (h :: hds) [] [] pos) (fun D σ H => tb (wAllA X.K Wo D l) D σ H) where
  run pins s σ H D I w := by
    have ok := I.ok
    have fr : X.A.frames = some (X.env :: X.outer) := by rw [ok.frames, hs]
    refine wpAny_Try_except (wpAny_mono ((hb (wAllA X.K Wo D l) (X.pn ++ pins) (fun e s1 => wpAny (model X.prog X.w) X.A (noteFrame e X.env)
      (fun _ s2 => wpAny (model X.prog X.w) X.A (setFlight e none) (fun _ s3 => wpAny (model X.prog X.w) X.A (handleBy e X.env (h :: hds)) (SP X pins D) X.xe s3) X.xe s2) X.xe s1) ?tk PassesOwn.looking).run [] s σ H D (I.toTry _) w) ?fin fun _ _ y => y)
    case tk =>
      rintro u s' ⟨a, G, s0, pins', σ', H', cls, d, rfl, J', out, up, sky, na, os, ag, w⟩
      have J : Inv X pins σ' H' s0 := J'.ofTry ok
      have sky : Sky G (X.env :: X.outer) a (Zc cls d) X.env.locals s'.heap := by rw [← hs]; exact sky
      refine Sky.land Zc.steady fr hf sky fun h3 f3 u3 => ?_
      have nfr : a ∉ frs (X.env :: X.outer) := by
        obtain ⟨o, vs, e1, _, e3⟩ := f3.there
        intro hm
        obtain ⟨_, o', e', bad⟩ := f3.2.2.1.mem hm
        rw [e1] at e'; cases e'
        exact bad _ e3
      refine Hit.run hs hf tk ⟨J, out, f3, up.trans u3, na, os, ag, ?_, ?_⟩ hh w
      · rintro rfl
        exact nfr (List.mem_filterMap.mpr ⟨X.env, List.mem_cons_self, by rw [hf]⟩)
      · intro hm
        obtain ⟨e, he, y⟩ := List.mem_filterMap.mp hm
        exact nfr (List.mem_filterMap.mpr ⟨e, List.mem_cons_of_mem _ he, y⟩)
    case fin =>
      rintro fl s1 hq
      match fl, hq with
      | .next, ⟨_, _, J', y⟩ => exact wpAny_execs_nil ⟨_, _, J'.ofTry ok, y⟩
      | .brk, ⟨_, _, J', y⟩ => exact ⟨_, _, J'.ofTry ok, y⟩
      | .cont, ⟨_, _, J', y⟩ => exact ⟨_, _, J'.ofTry ok, y⟩
      | .ret _, ⟨_, _, _, J', r, y⟩ => exact ⟨_, _, _, J'.ofTry ok, r, y⟩
end
end Br
set_option maxRecDepth 100000
set_option maxHeartbeats 1000000
/-! try, by its mirror. -/
namespace Br
open PySem L2 Mi PySem.Spec PyProof.Rows
/-- inside a try's body, for a layer's wish -/
def Fam.tr (F : Fam) (Wl : WX) : Fam where
  ι := { p : F.ι × List (Addr × Obj) × (Value → Shared → Prop) // Takes ((F.X p.1).tr p.2.1 p.2.2) Wl ∧ PassesOwn (model (F.X p.1).prog (F.X p.1).w) (F.X p.1).A (F.X p.1).env p.2.2 }
  X := fun p => (F.X p.1.1).tr p.1.2.1 p.1.2.2
  P := F.P
  w := F.w
  K := F.K
  mg := F.mg
  base := F.base
  hP := fun p => F.hP p.1.1
  hw := fun p => F.hw p.1.1
  hK := fun p => F.hK p.1.1
  hmg := fun p => F.hmg p.1.1
  hbase := fun p => F.hbase p.1.1
/-- inside a suite -/
def Fam.su (F : Fam) : Fam where
  ι := F.ι × Addr × Obj × List (Addr × Obj)
  X := fun p => (F.X p.1).suite p.2.1 ((p.2.1, p.2.2.1) :: p.2.2.2)
  P := F.P
  w := F.w
  K := F.K
  mg := F.mg
  base := F.base
  hP := fun p => F.hP p.1
  hw := fun p => F.hw p.1
  hK := fun p => F.hK p.1
  hmg := fun p => F.hmg p.1
  hbase := fun p => F.hbase p.1
/-- nothing is wished -/
def W0 : WX := fun _ _ _ _ => False
section
variable (F : Fam) (cl : Nat → Addr)
/-- a suite, by its mirror: j, x are the error's class and what; oi is the slot of its name -/
def RSu (oi : Option Nat) (sts : List Stmt) (m : Nat → AV → MS) : Prop := ∃ ts : TSu, (∀ i, SuOk (F.X i) sts ts) ∧
  ∀ j a d x x' en s σ H φ D, (∀ k, oi = some k → σ[k]? = some (some (V.ref a))) → RepE F.K H φ en σ → St0 F.P F.w F.K H φ s → Rep F.K H φ x x' → H d = some (.xd [("what", x')]) → H a = none →
    PstS F.P F.w F.K W0 H φ (m j x en s) D → ts a (.ref (cl j)) (some d) D σ H
def RHs (W : WX) (hds : List ExceptHandler) (cs : List S.Cl) : Prop := ∃ l, (∀ i, HdA (F.X i) hds l) ∧
  ∀ j d x x' en s σ H φ D, RepE F.K H φ en σ → St0 F.P F.w F.K H φ s → Rep F.K H φ x x' → H d = some (.xd [("what", x')]) →
    PstS F.P F.w F.K W H φ (S.hand cs j x en s) D → wAllA F.K (WL cl W) D l (.ref (cl j)) (some d) σ H
end
section
variable {F : Fam} {cl : Nat → Addr} {W : WX} {x n : Str} {k : Nat} {c : Value} {st : Stmt} {sts : List Stmt} {hds : List ExceptHandler} {h : ExceptHandler} {cs : List S.Cl} {pc : Nat → Bool} {m : Nat → AV → MS} {body : List Stmt} {mb : MS} {p1 p2 pos : Pos}
theorem PstS.noW {P : Program} {w : World} {K : PySem.W.Frag} {H : Hp} {φ : List Addr} {r : Fl} {D : Ends} (q : PstS P w K W H φ (S.hand.gxS r) D) : PstS P w K W0 H φ r D := by
  cases r with
  | err _ _ _ _ => exact q.elim
  | nx _ _ => exact q
  | brk _ _ => exact q
  | cnt _ _ => exact q
  | ret _ _ => exact q
  | bad => exact q
theorem RepE.hide {K : PySem.W.Frag} {H : Hp} {φ : List Addr} {en : En} {σ : L2.St} (re : RepE K H φ en σ) (i : Nat) (v : Option V) : RepE K H φ (en.set i none) (σ.set i v) where
  len := by rw [List.length_set, List.length_set]; exact re.len
  at_ := fun j y q => by
    by_cases e : i = j
    · subst e
      by_cases hl : i < en.length
      · rw [List.getElem?_set_self hl] at q; cases q
      · rw [List.getElem?_eq_none (by simpa using hl)] at q; cases q
    · rw [List.getElem?_set_ne e] at q
      rw [List.getElem?_set_ne e]
      exact re.at_ j y q
theorem PstS.clr {P : Program} {w : World} {K : PySem.W.Frag} {H : Hp} {φ : List Addr} {r : Fl} {D : Ends} {i : Nat} (q : PstS P w K W H φ (S.clr i r) D) : PstS P w K W0 H φ r (endsA i D) := by
  cases r with
  | err _ _ _ _ => exact q.elim
  | nx _ _ => exact fun σ' H' φ' e st re => q _ H' φ' e st (re.hide i none)
  | brk _ _ => exact fun σ' H' φ' e st re => q _ H' φ' e st (re.hide i none)
  | cnt _ _ => exact fun σ' H' φ' e st re => q _ H' φ' e st (re.hide i none)
  | ret _ _ => exact q
  | bad => exact q
theorem rh_nil : RHs F cl W [] [] := ⟨[], fun _ => .nil, fun j d x x' en s σ H φ D re st r hd q => ⟨j, rfl, q d x' σ H φ .refl st r re hd⟩⟩
theorem rh_plain (hc : ∀ i, Names (F.X i) x c) (hp : ∀ j, PySem.W.exmOne F.K (.ref (cl j)) c = some (pc j)) (hs : RSu F cl none (st :: sts) m) (r : RHs F cl W hds cs) :
    RHs F cl W (.ExceptHandler (some (.Name x p1)) none (st :: sts) p2 :: hds) (⟨pc, none, m⟩ :: cs) := by
  obtain ⟨ts, a1, a2⟩ := hs
  obtain ⟨l, b1, b2⟩ := r
  refine ⟨(c, none, ts) :: l, fun i => .plain (hc i) (a1 i) (b1 i), fun j d x x' en s σ H φ D re st r hd q => ⟨pc j, hp j, ?_⟩⟩
  unfold S.hand at q
  by_cases e : pc j = true
  · rw [if_pos e]
    simp only [e, if_true] at q
    exact fun a ha => a2 j a d x x' en s σ H φ D (fun k e => nomatch e) re st r hd ha q.noW
  · rw [if_neg e]
    simp only [e] at q
    exact b2 j d x x' en s σ H φ D re st r hd q
theorem rh_named (hN : ∀ i, (F.X i).N.Nodup) (hi : ∀ i, (F.X i).N[k]? = some n) (hl : ∀ i, (F.X i).env.kindOf n = some .local) (hc : ∀ i, Names (F.X i) x c) (hp : ∀ j, PySem.W.exmOne F.K (.ref (cl j)) c = some (pc j)) (hs : RSu F cl (some k) (st :: sts) m) (r : RHs F cl W hds cs) :
    RHs F cl W (.ExceptHandler (some (.Name x p1)) (some n) (st :: sts) p2 :: hds) (⟨pc, some k, m⟩ :: cs) := by
  obtain ⟨ts, a1, a2⟩ := hs
  obtain ⟨l, b1, b2⟩ := r
  refine ⟨(c, some k, ts) :: l, fun i => .named (hN i) (hi i) (hl i) (hc i) (a1 i) (b1 i), fun j d x x' en s σ H φ D re st r hd q => ⟨pc j, hp j, ?_⟩⟩
  unfold S.hand at q
  by_cases e : pc j = true
  · rw [if_pos e]
    simp only [e, if_true] at q
    split at q
    · rename_i hlt
      exact fun a ha => a2 j a d x x' _ s _ H φ _ (fun k' e => by cases e; rw [List.getElem?_set_self (by rw [← re.len]; exact hlt)]) (re.hide k _) st r hd ha q.clr
    · exact q.elim
  · rw [if_neg e]
    simp only [e] at q
    exact b2 j d x x' en s σ H φ D re st r hd q
theorem rs_try (hs : ∀ i, (F.X i).stack = (F.X i).env :: (F.X i).outer) (hf : ∀ i, (F.X i).env.frame = some (F.X i).env.locals) (tk : ∀ i, Takes (F.X i) (WL cl W))
    (hb : ∀ Wl : WX, RSs (F.tr Wl) (WU cl Wl) body mb) (hh : RHs F cl W (h :: hds) cs) : RS F W (.Try body (h :: hds) [] [] pos) (S.try_ mb cs) := by
  obtain ⟨l, b1, b2⟩ := hh
  have tb : ∃ tb : WX → TS, ∀ Wl, (∀ i, PSs ((F.tr Wl).X i) body (tb Wl)) ∧ ∀ en s σ H φ D, RepE F.K H φ en σ → St0 F.P F.w F.K H φ s → PstS F.P F.w F.K (WU cl Wl) H φ (mb en s) D → tb Wl D σ H :=
    ⟨fun Wl => Classical.choose (hb Wl), fun Wl => Classical.choose_spec (hb Wl)⟩
  obtain ⟨tb, ht⟩ := tb
  refine ⟨fun D σ H => tb (wAllA F.K (WL cl W) D l) D σ H, fun i => ?_, fun en s σ H φ D re st q => ?_⟩
  · have := ps_tryA (pos := pos) (l := l) (tb := tb) (hs i) (hf i) (tk i) (fun Wl pn xe t1 t2 => (ht Wl).1 ⟨⟨i, pn, xe⟩, t1, t2⟩) (b1 i)
    rw [F.hK i] at this
    exact this
  · refine (ht _).2 en s σ H φ D re st ?_
    unfold S.try_ at q
    revert q
    cases mb en s with
    | err j w en' s' => exact fun q d x' σ' H' φ' e st' rx re' hd => ⟨j, rfl, b2 j d w x' en' s' σ' H' φ' D re' st' rx hd (PstS.mono q e)⟩
    | nx _ _ => exact id
    | brk _ _ => exact id
    | cnt _ _ => exact id
    | ret _ _ => exact id
    | bad => exact id
/-! suites -/
/-- a suite that does not look at the error -/
theorem rsu_of {oi : Option Nat} {ms : MS} (h : RSs F.su W0 sts ms) : RSu F cl oi sts (fun _ _ => ms) := by
  obtain ⟨t, a1, a2⟩ := h
  exact ⟨fun _ _ _ => t, fun i a o cls d pn _ _ => a1 (i, a, o, pn), fun j a d x x' en s σ H φ D _ re st _ _ _ q => a2 en s σ H φ D re st q⟩
end
end Br
set_option maxRecDepth 100000
set_option maxHeartbeats 1000000
/-! Suites that look at the error: error.what, isinstance(error, C). -/
namespace Br
open PySem L2 Mi PySem.Spec PyProof.Rows
section
variable (F : Fam) (cl : Nat → Addr) (k : Nat)
/-- an expression of a suite whose error is in slot k -/
def RX (e : Expr) (m : Nat → AV → ME) : Prop := ∃ te : Addr → Value → Option Addr → TE,
  (∀ i (a : Addr) (o : Obj) (cls : Value) (d : Option Addr) (pn : List (Addr × Obj)), Zc cls d o → (∃ vs, o.data = .fields vs) → PE ((F.X i).suite a ((a, o) :: pn)) e (te a cls d)) ∧
  ∀ j a d x x' en s σ H φ Q, σ[k]? = some (some (V.ref a)) → RepE F.K H φ en σ → St0 F.P F.w F.K H φ s → Rep F.K H φ x x' → H d = some (.xd [("what", x')]) →
    Pst F.P F.w F.K (Rep F.K) W0 σ H φ (m j x en s) Q → te a (.ref (cl j)) (some d) σ H Q
/-- .. that changes nothing -/
def RP (e : Expr) (f : Nat → AV → AV) : Prop := ∃ te : Addr → Value → Option Addr → TE,
  (∀ i (a : Addr) (o : Obj) (cls : Value) (d : Option Addr) (pn : List (Addr × Obj)), Zc cls d o → (∃ vs, o.data = .fields vs) → PE ((F.X i).suite a ((a, o) :: pn)) e (te a cls d)) ∧
  ∀ j a d x x' σ H φ (Q : V → Hp → Prop), σ[k]? = some (some (V.ref a)) → Rep F.K H φ x x' → H d = some (.xd [("what", x')]) → (∀ v', Rep F.K H φ (f j x) v' → Q v' H) → te a (.ref (cl j)) (some d) σ H Q
def RPs (es : List Expr) (fs : Nat → AV → List AV) (mA : Nat → AV → MA) : Prop := (∀ j x en s, mA j x en s = .ok (fs j x) s) ∧ ∃ te : Addr → Value → Option Addr → TA,
  (∀ i (a : Addr) (o : Obj) (cls : Value) (d : Option Addr) (pn : List (Addr × Obj)), Zc cls d o → (∃ vs, o.data = .fields vs) → PA ((F.X i).suite a ((a, o) :: pn)) es (te a cls d)) ∧
  ∀ j a d x x' σ H φ (Q : List V → Hp → Prop), σ[k]? = some (some (V.ref a)) → Rep F.K H φ x x' → H d = some (.xd [("what", x')]) → (∀ vs, Reps F.K H φ (fs j x) vs → Q vs H) → te a (.ref (cl j)) (some d) σ H Q
/-- what every class of the law has -/
structure ErrC (K : PySem.W.Frag) (C : Addr) : Prop where
  xf : XfC K C
  nw : PySem.W.findIn K (.ref C) "what" = some none
  ic : (PySem.W.clsIn K C).isSome = true
  ca : PySem.W.findIn K (.ref C) "__class__" = some (some (.builtin "object.__class__"))
  gs : PySem.W.specialIn K (.builtin "object.__class__") "__get__" = some (some (.builtin "getset_descriptor.__get__"))
  tk : PySem.W.takesIn K (.builtin "object.__class__") = some true
  mo : PySem.W.mroIn K C (.type "object") = some true
end
section
variable {F : Fam} {cl : Nat → Addr} {k : Nat} {e : Expr} {es : List Expr} {f : Nat → AV → AV} {fs : Nat → AV → List AV} {mA : Nat → AV → MA} {m : Nat → AV → ME} {oi : Option Nat} {pos p p1 : Pos} {x n : Str}
theorem rx_of {me : ME} (h : RE F.su W0 e me) : RX F cl k e (fun _ _ => me) := by
  obtain ⟨t, a1, a2⟩ := h
  exact ⟨fun _ _ _ => t, fun i a o cls d pn _ _ => a1 (i, a, o, pn), fun j a d x x' en s σ H φ Q _ re st _ _ q => a2 en s σ H φ Q re st q⟩
theorem rp_c {v : AV} {v' : V} (h : ∀ i, PE (F.su.X i) e (tC v')) (r : ∀ H φ, Rep F.K H φ v v') : RP F cl k e (fun _ _ => v) :=
  ⟨fun _ _ _ => tC v', fun i a o cls d pn _ _ => h (i, a, o, pn), fun j a d x x' σ H φ Q _ _ _ q => q v' (r H φ)⟩
theorem rp_int {i : Int} {j} : RP F cl k (.Constant (.int i) j pos) (fun _ _ => .int i) := rp_c (fun _ => pe_int) fun _ _ => .int i
theorem rp_bl {b : Bool} {j} : RP F cl k (.Constant (.bool b) j pos) (fun _ _ => .bl b) := rp_c (fun _ => pe_bl) fun _ _ => .bl b
theorem rp_non {j} : RP F cl k (.Constant .none j pos) (fun _ _ => .non) := rp_c (fun _ => pe_non) fun _ _ => .non
theorem rp_str {y : Str} {j} : RP F cl k (.Constant (.str y) j pos) (fun _ _ => .str y) := rp_c (fun _ => pe_str) fun _ _ => .str y
theorem rp_what (hN : ∀ i, (F.X i).N[k]? = some n) (hv : ∀ i, Vis (F.X i).env.scope n) (hx : ∀ j, ErrC F.K (cl j)) (hd : (n == ("__debug__" : Str)) = false := by decide) (hcd : (n == ("__classdict__" : Str)) = false := by decide)
    (hb : ∀ i, attributeBase (.Name n p) "what" (F.X i).env (eval (.Name n p) (F.X i).env) = eval (.Name n p) (F.X i).env := by intro _; rfl) : RP F cl k (.Attribute (.Name n p) "what" pos) (fun _ x => x) := by
  refine ⟨fun a cls d σ H Q => ∃ j, cls = .ref (cl j) ∧ tXf a cls d (cl j) "what" (tVar k) σ H Q, fun i a o cls d pn hz hf => ⟨fun pins s σ H Q I h => ?_⟩, fun j a d x x' σ H φ Q sl r hd' q => ?_⟩
  · obtain ⟨j, hj, h⟩ := h
    exact (pe_xf (by rw [F.hK i]; exact (hx j).xf) (by rw [F.hK i]; exact (hx j).nw) hz hf (pe_var (X := (F.X i).suite a ((a, o) :: pn)) (hN i) (hv i) hd hcd) (hb i)).run pins s σ H Q I h
  · exact ⟨j, rfl, V.ref a, sl, rfl, rfl, d, _, x', rfl, hd', rfl, q x' r⟩
/-- isinstance of the caught error, its class D, its dict dd -/
theorem call_isA {X : Cx} {a D dd : Addr} {o : Obj} {pn : List (Addr × Obj)} {pins : List (Addr × Obj)} {s : Shared} {σ : L2.St} {H : Hp} {us : List Value} {Q : VK} {c : V} {cv : Value} {b : Bool} {fl : List (Str × V)} (E : ErrC X.K D) (hz : Zc (.ref D) (some dd) o) (hf : ∃ vs, o.data = .fields vs)
    (I : Inv (X.suite a ((a, o) :: pn)) pins σ H s) (r : Vals [.ref a, c] us) (hc : ∀ u, RelV c u → u = cv) (hd : H dd = some (.xd fl)) (hb : PySem.W.kitOne X.K (.ref D) cv = some b) (q : Q (.bl b) H) :
    wpAny (model X.prog X.w) (X.suite a ((a, o) :: pn)).A (call (.builtin "isinstance") us) (EP (X.suite a ((a, o) :: pn)) pins σ Q) (X.suite a ((a, o) :: pn)).xe s := by
  cases r with
  | cons ra rr =>
    cases rr with
    | cons rc rr =>
      cases rr
      cases ra
      have ec := hc _ rc
      subst ec
      obtain ⟨ha, _⟩ := I.pin (a, o) (List.mem_append_left _ List.mem_cons_self)
      obtain ⟨vs, hv⟩ := hf
      have hx : ObjOk X.prog X.w H s.heap dd (.xd fl) := I.hok dd _ hd
      obtain ⟨mA, hns, _⟩ := hx
      obtain ⟨od, ho, _⟩ := lookIn_ns hns
      have J : PySem.W.InstAt s.heap a o D (some od) := ⟨ha, hz.1, by unfold PySem.W.notCls; rw [hv] <;> rfl, by rw [hz.2]; exact ho⟩
      exact PySem.W.kia_one (PySem.W.kitx_exc E.ic E.xf.ga E.xf.gg E.xf.exC E.ca E.gs E.tk E.mo) I.kIn J hb (fun z => nomatch z) fun tk => ⟨.bl b, H, I.kept (t' := tk) fun _ _ z => z, rfl, q⟩
theorem rp_isinst {C : Addr} {pc : Nat → Bool} {y : Str} (hN : ∀ i, (F.X i).N[k]? = some n) (hv : ∀ i, Vis (F.X i).env.scope n) (hx : ∀ j, ErrC F.K (cl j)) (hgi : ∀ i, Gl (F.X i) "isinstance") (hmi : F.mg "isinstance" = none) (hgy : ∀ i, Gl (F.X i) y) (hmy : F.mg y = some (.ref C))
    (hp : ∀ j, PySem.W.kitOne F.K (.ref (cl j)) (.ref C) = some (pc j)) (hd : (n == ("__debug__" : Str)) = false := by decide) (hcd : (n == ("__classdict__" : Str)) = false := by decide) (hdy : (y == ("__debug__" : Str)) = false := by decide)
    (he : ∀ i, starEach [.Name n p, .Name y p1] (F.X i).env = (false, eval (.Name n p) (F.X i).env) :: starEach [.Name y p1] (F.X i).env := by intro _; rfl) (he2 : ∀ i, starEach [.Name y p1] (F.X i).env = (false, eval (.Name y p1) (F.X i).env) :: starEach [] (F.X i).env := by intro _; rfl)
    {pi p2 : Pos} (hpl : ∀ i, (backTo p2 (starEach [.Name y p1] (F.X i).env)).any (·.1) = false := by intro _; rfl) :
    RP F cl k (.Call (.Name "isinstance" pi) [.Name n p, .Name y p1] [] p2) (fun j _ => .bl (pc j)) := by
  refine ⟨fun a cls d σ H Q => ∃ (j : Nat) (dd : Addr) (fl : List (Str × V)), cls = .ref (cl j) ∧ d = some dd ∧ H dd = some (.xd fl) ∧ σ[k]? = some (some (V.ref a)) ∧ Q (.bl (pc j)) H, fun i a o cls d pn hz hf => ⟨fun pins s σ H Q I h => ?_⟩, fun j a d x x' σ H φ Q sl r hd' q => ⟨j, d, _, rfl, rfl, hd', sl, q _ (.bl _)⟩⟩
  obtain ⟨j, dd, fl, rfl, rfl, hdd, sl, q⟩ := h
  have hb : (F.X i).K = F.K := F.hK i
  have args : PA ((F.X i).suite a ((a, o) :: pn)) [.Name n p, .Name y p1] (tCons (tVar k) (tCons (tC (.ref C)) tNil)) :=
    pa_cons (pe_var (X := (F.X i).suite a ((a, o) :: pn)) (hN i) (hv i) hd hcd) (pa_cons (pe_glob (X := (F.X i).suite a ((a, o) :: pn)) (hgy i) (by rw [show ((F.X i).suite a ((a, o) :: pn)).mg = F.mg from F.hmg i]; exact hmy) (show RelV (.ref C) (.ref C) from rfl) hdy) pa_nil (he2 i)) (he i)
  refine wpAny_Call_Name_kw (ld_blt (X := (F.X i).suite a ((a, o) :: pn)) I (hgi i) (by rw [show ((F.X i).suite a ((a, o) :: pn)).mg = F.mg from F.hmg i]; exact hmi) (by rfl) ?_ (by decide) (by decide))
  refine PyProof.Rows.callWith_builtin1 (thn (args.run p2 pins s σ H (fun vs H1 => vs = [.ref a, .ref C] ∧ H1 = H) I ⟨V.ref a, sl, rfl, rfl⟩) fun us s1 hh => ?_) (he i) (hpl i)
  obtain ⟨vs, H1, I1, r1, rfl, rfl⟩ := hh
  exact call_isA (by rw [hb]; exact hx j) hz hf I1 r1 (fun u z => z) hdd (by rw [hb]; exact hp j) q
theorem rps_nil : RPs F cl k [] (fun _ _ => []) (fun _ _ => E.nil) := ⟨fun _ _ _ _ => rfl, fun _ _ _ => tNil, fun _ _ _ _ _ _ _ _ => pa_nil, fun _ _ _ _ _ _ _ _ _ _ _ _ q => q [] .nil⟩
theorem rps_cons (h1 : RP F cl k e f) (h2 : RPs F cl k es fs mA) (hs : ∀ i, starEach (e :: es) (F.X i).env = (false, eval e (F.X i).env) :: starEach es (F.X i).env := by intro _; rfl) :
    RPs F cl k (e :: es) (fun j x => f j x :: fs j x) (fun j x => E.cons (E.c (f j x)) (mA j x)) := by
  obtain ⟨t, a1, a2⟩ := h1
  obtain ⟨b0, u, b1, b2⟩ := h2
  refine ⟨fun j x en s => ?_, fun a cls d => tCons (t a cls d) (u a cls d), fun i a o cls d pn hz hf => pa_cons (a1 i a o cls d pn hz hf) (b1 i a o cls d pn hz hf) (hs i), fun j a d x x' σ H φ Q sl r hd q => ?_⟩
  · show Res.bind (.ok (f j x) s) _ = _
    rw [Res.bind_ok]
    show Res.bind (mA j x en s) _ = _
    rw [b0 j x en s, Res.bind_ok]
  · exact a2 j a d x x' σ H φ _ sl r hd fun v' rv => b2 j a d x x' σ H φ _ sl r hd fun vs rs => q (v' :: vs) (.cons rv rs)
theorem rx_p (h : RP F cl k e f) : RX F cl k e (fun j x => E.c (f j x)) := by
  obtain ⟨t, a1, a2⟩ := h
  exact ⟨t, a1, fun j a d x x' en s σ H φ Q sl re st r hd q => a2 j a d x x' σ H φ Q sl r hd fun v' rv => q v' H φ .refl st rv⟩
theorem rx_tup {k1} (h : RPs F cl k es fs mA) : RX F cl k (.Tuple es k1 pos) (fun j x => E.tup (mA j x)) := by
  obtain ⟨b0, u, b1, b2⟩ := h
  refine ⟨fun a cls d => tTup (u a cls d), fun i a o cls d pn hz hf => pe_tup (b1 i a o cls d pn hz hf), fun j a d x x' en s σ H φ Q sl re st r hd q => ?_⟩
  refine b2 j a d x x' σ H φ _ sl r hd fun vs rs => ?_
  unfold E.tup at q
  dsimp only at q
  rw [b0, Res.bind_ok] at q
  split at q
  · rename_i hz
    refine ⟨by rw [← rs.length, ← line_eq]; exact hz, fun p np => ?_⟩
    exact q _ _ φ (.new np) (st.new np) (.tup (SqT.of upd_same) (rs.mono (.new np)))
  · exact q.elim
theorem rsu_set {i : Nat} {y : Str} {pos' : Pos} (h : RX F cl k e m) (hN : ∀ i, (F.X i).N.Nodup) (hi : ∀ j, (F.X j).N[i]? = some y) (hy : ∀ j, Loc (F.X j).env.scope y) (hs : ∀ j, swapsWith e (some (.Name y pos')) pos.line (F.X j).env = pure false := by intro _; rfl)
    (hf : ∀ j, (F.X j).fn y = true ∨ (F.X j).env.scope.names.lookup y = some .local := by first | exact (fun _ => .inl rfl) | exact (fun _ => .inr rfl)) : RSu F cl (some k) [.Assign [.Name y pos'] e pos] (fun j x => S.asg (G.name i) (m j x)) := by
  obtain ⟨t, a1, a2⟩ := h
  refine ⟨_, fun j a o cls d pn hz hf' => pss_one (ps_set (X := (F.X j).suite a ((a, o) :: pn)) (hN j) (hi j) (hy j) (a1 j a o cls d pn hz hf') (hs j) (hf := hf j)), fun j a d x x' en s σ H φ D sl re st r hd _ q => ?_⟩
  refine a2 j a d x x' en s σ H φ _ (sl k rfl) re st r hd (q.fl_of re fun v s1 v' H1 φ1 x1 st1 r1 q => ?_)
  exact q _ H1 φ1 .refl st1 ((re.mono x1).set r1 i)
theorem rsu_ret (h : RX F cl k e m) : RSu F cl (some k) [.Return (some e) pos] (fun j x => S.ret (m j x)) := by
  obtain ⟨t, a1, a2⟩ := h
  refine ⟨_, fun j a o cls d pn hz hf' => pss_one (ps_ret (a1 j a o cls d pn hz hf')), fun j a d x x' en s σ H φ D sl re st r hd _ q => ?_⟩
  exact a2 j a d x x' en s σ H φ _ (sl k rfl) re st r hd (q.fl_of re fun v s1 v' H1 φ1 x1 st1 r1 q => q v' H1 φ1 .refl st1 r1)
end
end Br
set_option maxRecDepth 100000
set_option maxHeartbeats 1000000
/-! Short forms for the printed texts of laws with errors. -/
namespace Br
open PySem L2 Mi PySem.Spec PyProof.Rows
def clsBody (st : Stmt) : List Stmt := match st with
  | .ClassDef _ _ _ b _ _ _ _ _ _ _ => b
  | _ => []
/-- the classes of a law: their addresses, their one __init__ -/
structure ErrN (K : PySem.W.Frag) (mg : Str → Option Value) (sI : Stmt) where
  cl : Nat → Addr
  fI : Addr
  fd : FuncData
  fn : Fun K "__init__" "Refused.__init__" sI fI fd
  bd : Binds K fd ["self", "what"] []
  ox : ∀ j, OexC K (cl j)
  it : ∀ j, PySem.W.findIn K (.ref (cl j)) "__init__" = some (some (.ref fI))
  tI : PySem.W.typeIn K (.ref fI) = some (.type "function")
  ec : ∀ j, ErrC K (cl j)
section
variable {P : Program} {w : World} {K : PySem.W.Frag} {mg : Str → Option Value} {base : Heap} {sI : Stmt}
/-- self.what = what keeps its promise -/
theorem ok_init {fI : Addr} {fd : FuncData} {pa pb pc pd : Pos} (Fu : Fun K "__init__" "Refused.__init__" sI fI fd) (S : FnScope ["self", "what"] ["self", "what"] (defScope sI)) (hb : defBody sI = [.Assign [.Attribute (.Name "self" pa) "what" pb] (.Name "what" pc) pd])
    (hv : Vis (defScope sI) "self" ∧ Vis (defScope sI) "what") : FnOk P w K mg base CX0 1 fI fd ["self", "what"] (spI K) := by
  refine Fu.ok S (fun vs H Q E h => ?_) (fun cdv A outer s H vs Q E hr h => ⟨tOst K "what" (tVar 0) (tVar 1), ?_, ?_⟩)
  · obtain ⟨a, C, y, rfl, _⟩ := h; rfl
  · rw [hb]
    exact pss_one (ps_ost (pe_var (i := 0) rfl hv.1) (pe_var (i := 1) rfl hv.2))
  · obtain ⟨a, C, y, rfl, h1, h2, h3, h4⟩ := h
    exact ⟨y, rfl, V.ref a, rfl, a, C, rfl, h1, h2, .inl ⟨h3, fun dx hd hn => h4 dx hd hn⟩⟩
theorem clsAt (E : ErrN K mg sI) (ok : FnOk P w K mg base CX0 1 E.fI E.fd ["self", "what"] (spI K)) {x : Str} {j : Nat} (h : mg x = some (.ref (E.cl j))) : ClsAt P w K mg base x (E.cl j) E.fI E.fd :=
  ⟨h, E.ox j, (E.ec j).nw, E.it j, E.tI, ok, E.bd⟩
end
theorem tkN {F : Fam} {cl : Nat → Addr} : ∀ i, Takes (F.X i) (WL cl Wn) := fun i u s' ⟨_, _, _, _, _, _, _, _, _, _, _, _, _, _, _, _, _, _, q⟩ => q.elim
theorem tkB {P : Program} {w : World} {K : PySem.W.Frag} {mg : Str → Option Value} {base : Heap} {N : List Str} {qual : Str} {sc : Scope} {f : Addr} {cd : Value} {A : Around} {outer : List Env} {s : Shared} {H : Hp} {E : XK} {cl : Nat → Addr} :
    ∀ i, Takes ((Fam.one (cxOf (L2.CX P w) P w K mg base N qual sc f cd A outer s H E)).X i) (WL cl (WU cl fun c d _ H' => E c d H')) := fun _ =>
  Takes.imp (X := cxOf (L2.CX P w) P w K mg base N qual sc f cd A outer s H E) (takes_of rfl rfl rfl rfl) fun _ _ _ _ h => WL_WU h
theorem tkT {F : Fam} {cl : Nat → Addr} {Wl : WX} : ∀ i, Takes ((F.tr Wl).X i) (WL cl (WU cl Wl)) := fun i => i.2.1.imp fun _ _ _ _ h => WL_WU h
end Br
/-! Printed by gen.py: the mirror. -/
namespace Mr
open PySem Mi
def pc_BadMap (j : Nat) : Bool := ([false, true, false, false, false, false, false, false] : List Bool).getD j false
def pc_BadWish (j : Nat) : Bool := ([false, false, true, false, false, false, false, false] : List Bool).getD j false
def pc_BadPlace (j : Nat) : Bool := ([false, false, false, true, false, false, false, false] : List Bool).getD j false
def pc_Twice (j : Nat) : Bool := ([false, false, false, false, false, true, false, false] : List Bool).getD j false
def pc_TooMany (j : Nat) : Bool := ([false, false, false, false, true, false, false, false] : List Bool).getD j false
def pc_NoRoad (j : Nat) : Bool := ([false, false, false, false, false, false, true, false] : List Bool).getD j false
def pc_NotWished (j : Nat) : Bool := ([false, false, false, false, false, false, false, true] : List Bool).getD j false
def pc_Refused (j : Nat) : Bool := ([true, true, true, true, true, true, true, true] : List Bool).getD j true
def b_is_whole : MS := S.ret (E.and (E.call B.isa (E.cons (E.var 0) (E.cons (E.c (.ty "int")) (E.nil)))) (E.and (E.not (E.call B.isa (E.cons (E.var 0) (E.cons (E.c (.ty "bool")) (E.nil))))) (E.chain (leAV) (leAV) (E.var 1) (E.var 0) (E.var 2))))
def m_is_whole : MF := runDefn 3 3 b_is_whole
def b_is_road : MS := S.seq (S.ife (T.or (T.not (T.tru (E.call B.isa (E.cons (E.var 0) (E.cons (E.c (.ty "tuple")) (E.nil)))))) (T.val (E.op (eqAV true) (E.call B.len (E.cons (E.var 0) (E.nil))) (E.c (.int 2))))) (S.ret (E.c (.bl false))) (S.skip)) (S.ret (E.and (E.calln m_is_whole (E.cons (E.op ixAV (E.var 0) (E.c (.int 0))) (E.cons (E.c (.int 0)) (E.cons (E.op subAV (E.var 1) (E.c (.int 1))) (E.nil))))) (E.calln m_is_whole (E.cons (E.op ixAV (E.var 0) (E.c (.int 1))) (E.cons (E.c (.int 0)) (E.cons (E.op subAV (E.var 1) (E.c (.int 1))) (E.nil)))))))
def m_is_road : MF := runDefn 2 2 b_is_road
def b_first_bad_place : MS := S.seq (S.for_ (I.range1 (E.cons (E.call B.len (E.cons (E.var 0) (E.nil))) (E.nil))) (G.name 2) (S.ife (T.or (T.not (T.tru (E.calln m_is_whole (E.cons (E.op ixAV (E.var 0) (E.var 2)) (E.cons (E.c (.int 0)) (E.cons (E.op subAV (E.var 1) (E.c (.int 1))) (E.nil))))))) (T.and (T.val (E.op (gtAV) (E.var 2) (E.c (.int 0)))) (T.val (E.op (leAV) (E.op ixAV (E.var 0) (E.var 2)) (E.op ixAV (E.var 0) (E.op subAV (E.var 2) (E.c (.int 1)))))))) (S.ret (E.var 2)) (S.skip))) (S.ret (E.c .non))
def m_first_bad_place : MF := runDefn 2 3 b_first_bad_place
def b_first_bad_road : MS := S.seq (S.for_ (I.range1 (E.cons (E.call B.len (E.cons (E.var 0) (E.nil))) (E.nil))) (G.name 2) (S.ife (T.or (T.not (T.tru (E.calln m_is_road (E.cons (E.op ixAV (E.var 0) (E.var 2)) (E.cons (E.var 1) (E.nil)))))) (T.and (T.val (E.op (gtAV) (E.var 2) (E.c (.int 0)))) (T.val (E.op (leAV) (E.op ixAV (E.var 0) (E.var 2)) (E.op ixAV (E.var 0) (E.op subAV (E.var 2) (E.c (.int 1)))))))) (S.ret (E.var 2)) (S.skip))) (S.ret (E.c .non))
def m_first_bad_road : MF := runDefn 2 3 b_first_bad_road
def b_wrong_roads : MS := S.seq (S.ife (T.or (T.not (T.tru (E.call B.isa (E.cons (E.var 0) (E.cons (E.c (.ty "tuple")) (E.nil)))))) (T.val (E.op (eqAV true) (E.call B.len (E.cons (E.var 0) (E.nil))) (E.c (.int 3))))) (S.ret (E.un negAV (E.c (.int 1)))) (S.skip)) (S.seq (S.ife (T.not (T.tru (E.calln m_is_whole (E.cons (E.op ixAV (E.var 0) (E.c (.int 0))) (E.cons (E.c (.int 0)) (E.cons (E.c (.int 60)) (E.nil))))))) (S.ret (E.un negAV (E.c (.int 2)))) (S.skip)) (S.seq (S.ife (T.or (T.not (T.tru (E.call B.isa (E.cons (E.op ixAV (E.var 0) (E.c (.int 1))) (E.cons (E.c (.ty "tuple")) (E.nil)))))) (T.val (E.op (gtAV) (E.call B.len (E.cons (E.op ixAV (E.var 0) (E.c (.int 1))) (E.nil))) (E.c (.int 240))))) (S.ret (E.un negAV (E.c (.int 3)))) (S.skip)) (S.ret (E.calln m_first_bad_road (E.cons (E.op ixAV (E.var 0) (E.c (.int 1))) (E.cons (E.op ixAV (E.var 0) (E.c (.int 0))) (E.nil)))))))
def m_wrong_roads : MF := runDefn 1 1 b_wrong_roads
def b_wrong_wishes : MS := S.seq (S.ife (T.not (T.tru (E.call B.isa (E.cons (E.op ixAV (E.var 0) (E.c (.int 2))) (E.cons (E.c (.ty "tuple")) (E.nil)))))) (S.ret (E.un negAV (E.c (.int 1)))) (S.skip)) (S.ret (E.calln m_first_bad_place (E.cons (E.op ixAV (E.var 0) (E.c (.int 2))) (E.cons (E.op ixAV (E.var 0) (E.c (.int 0))) (E.nil)))))
def m_wrong_wishes : MF := runDefn 1 1 b_wrong_wishes
def b_made_map : MS := S.seq (S.asg (G.name 1) (E.calln m_wrong_roads (E.cons (E.var 0) (E.nil)))) (S.seq (S.ife (T.val (E.op (isAV true) (E.var 1) (E.c .non))) (S.raise 1 (E.var 1)) (S.skip)) (S.seq (S.asg (G.name 1) (E.calln m_wrong_wishes (E.cons (E.var 0) (E.nil)))) (S.seq (S.ife (T.val (E.op (isAV true) (E.var 1) (E.c .non))) (S.raise 2 (E.var 1)) (S.skip)) (S.ret (E.var 0)))))
def m_made_map : MF := runDef 1 2 b_made_map
def b_is_place : MS := S.ret (E.calln m_is_whole (E.cons (E.var 1) (E.cons (E.c (.int 0)) (E.cons (E.op subAV (E.op ixAV (E.var 0) (E.c (.int 0))) (E.c (.int 1))) (E.nil)))))
def m_is_place : MF := runDefn 2 2 b_is_place
def b_check_place : MS := S.ife (T.not (T.tru (E.calln m_is_place (E.cons (E.var 0) (E.cons (E.var 1) (E.nil)))))) (S.raise 3 (E.var 1)) (S.skip)
def m_check_place : MF := runDef 2 2 b_check_place
def b_check_ends : MS := S.seq (S.expr (E.call m_made_map (E.cons (E.var 0) (E.nil)))) (S.seq (S.expr (E.call m_check_place (E.cons (E.var 0) (E.cons (E.var 1) (E.nil))))) (S.expr (E.call m_check_place (E.cons (E.var 0) (E.cons (E.var 2) (E.nil))))))
def m_check_ends : MF := runDef 3 3 b_check_ends
def b_with_road : MS := S.seq (S.expr (E.call m_check_ends (E.cons (E.var 0) (E.cons (E.var 1) (E.cons (E.var 2) (E.nil)))))) (S.seq (S.asg (G.unp [G.name 3, G.name 4, G.name 5]) (E.var 0)) (S.seq (S.ife (T.val (E.op (inAV false) (E.tup (E.cons (E.var 1) (E.cons (E.var 2) (E.nil)))) (E.var 4))) (S.raise 5 (E.c (.int 0))) (S.skip)) (S.seq (S.ife (T.val (E.op (geAV) (E.call B.len (E.cons (E.var 4) (E.nil))) (E.c (.int 240)))) (S.raise 4 (E.c (.int 240))) (S.skip)) (S.ret (E.tup (E.cons (E.var 3) (E.cons (E.call B.tuple_ (E.cons (E.call B.sorted (E.cons (E.op addAV (E.var 4) (E.tup (E.cons (E.tup (E.cons (E.var 1) (E.cons (E.var 2) (E.nil)))) (E.nil)))) (E.nil))) (E.nil))) (E.cons (E.var 5) (E.nil)))))))))
def m_with_road : MF := runDef 3 6 b_with_road
def b_without_road : MS := S.seq (S.expr (E.call m_check_ends (E.cons (E.var 0) (E.cons (E.var 1) (E.cons (E.var 2) (E.nil)))))) (S.seq (S.asg (G.unp [G.name 3, G.name 4, G.name 5]) (E.var 0)) (S.seq (S.ife (T.val (E.op (inAV true) (E.tup (E.cons (E.var 1) (E.cons (E.var 2) (E.nil)))) (E.var 4))) (S.raise 6 (E.c (.int 0))) (S.skip)) (S.ret (E.tup (E.cons (E.var 3) (E.cons (E.call B.tuple_ (E.cons (E.lc (I.seq (E.var 4)) (G.name 6) (T.val (E.op (eqAV true) (E.var 6) (E.tup (E.cons (E.var 1) (E.cons (E.var 2) (E.nil)))))) (E.var 6) [6]) (E.nil))) (E.cons (E.var 5) (E.nil))))))))
def m_without_road : MF := runDef 3 7 b_without_road
def b_with_wish : MS := S.seq (S.expr (E.call m_check_place (E.cons (E.call m_made_map (E.cons (E.var 0) (E.nil))) (E.cons (E.var 1) (E.nil))))) (S.seq (S.asg (G.unp [G.name 2, G.name 3, G.name 4]) (E.var 0)) (S.seq (S.ife (T.val (E.op (inAV false) (E.var 1) (E.var 4))) (S.raise 5 (E.c (.int 0))) (S.skip)) (S.ret (E.tup (E.cons (E.var 2) (E.cons (E.var 3) (E.cons (E.call B.tuple_ (E.cons (E.call B.sorted (E.cons (E.op addAV (E.var 4) (E.tup (E.cons (E.var 1) (E.nil)))) (E.nil))) (E.nil))) (E.nil))))))))
def m_with_wish : MF := runDef 2 5 b_with_wish
def b_without_wish : MS := S.seq (S.expr (E.call m_check_place (E.cons (E.call m_made_map (E.cons (E.var 0) (E.nil))) (E.cons (E.var 1) (E.nil))))) (S.seq (S.asg (G.unp [G.name 2, G.name 3, G.name 4]) (E.var 0)) (S.seq (S.ife (T.val (E.op (inAV true) (E.var 1) (E.var 4))) (S.raise 7 (E.c (.int 0))) (S.skip)) (S.ret (E.tup (E.cons (E.var 2) (E.cons (E.var 3) (E.cons (E.call B.tuple_ (E.cons (E.lc (I.seq (E.var 4)) (G.name 5) (T.val (E.op (eqAV true) (E.var 5) (E.var 1))) (E.var 5) [5]) (E.nil))) (E.nil))))))))
def m_without_wish : MF := runDef 2 6 b_without_wish
def b__law_pool : MS := S.seq (S.asg (G.name 1) (E.ite (T.val (E.op (gtAV) (E.call B.len (E.cons (E.var 0) (E.nil))) (E.c (.int 0)))) (E.call B.int_ (E.cons (E.op ixAV (E.var 0) (E.c (.int 0))) (E.nil))) (E.c (.int 0)))) (S.seq (S.asg (G.name 2) (E.ite (T.val (E.op (geAV) (E.var 1) (E.c (.int 0)))) (E.op mulAV (E.c (.int 2)) (E.var 1)) (E.op subAV (E.un negAV (E.c (.int 1))) (E.op mulAV (E.c (.int 2)) (E.var 1))))) (S.ret (E.lst (E.cons (E.ite (T.val (E.op (geAV) (E.var 2) (E.op powAV (E.c (.int 10)) (E.c (.int 18))))) (E.var 2) (E.c (.int 0))) (E.cons (E.op addAV (E.op modAV (E.call B.int_ (E.cons (E.op addAV (E.op mulAV (E.var 2) (E.c (.int 48271))) (E.c (.int 1009))) (E.nil))) (E.c (.int 2147483629))) (E.c (.int 3))) (E.cons (E.call B.list_ (E.cons (E.slice (E.var 0) (some (E.c (.int 1))) none) (E.nil))) (E.nil)))))))
def m__law_pool : MF := runDefn 1 3 b__law_pool
def b__law_draw : MS := S.seq (S.ife (T.and (T.val (E.op (eqAV false) (E.op ixAV (E.var 0) (E.c (.int 0))) (E.c (.int 0)))) (T.val (E.op (eqAV true) (E.op ixAV (E.var 0) (E.c (.int 2))) (E.lst (E.nil))))) (S.seq (S.asg (G.name 2) (E.call B.int_ (E.cons (E.lmeth B.pop (E.op ixAV (E.var 0) (E.c (.int 2))) (E.cons (E.c (.int 0)) (E.nil))) (E.nil)))) (S.seq (S.asg (G.name 3) (E.ite (T.val (E.op (geAV) (E.var 2) (E.c (.int 0)))) (E.op mulAV (E.c (.int 2)) (E.var 2)) (E.op subAV (E.un negAV (E.c (.int 1))) (E.op mulAV (E.c (.int 2)) (E.var 2))))) (S.seq (S.asg (G.sub (E.var 0) (E.c (.int 0))) (E.ite (T.val (E.op (geAV) (E.var 3) (E.op powAV (E.c (.int 10)) (E.c (.int 18))))) (E.var 3) (E.c (.int 0)))) (S.asg (G.sub (E.var 0) (E.c (.int 1))) (E.op addAV (E.op modAV (E.call B.int_ (E.cons (E.op addAV (E.op ixAV (E.var 0) (E.c (.int 1))) (E.op mulAV (E.var 3) (E.c (.int 69621)))) (E.nil))) (E.c (.int 2147483629))) (E.c (.int 3))))))) (S.skip)) (S.seq (S.ife (T.val (E.op (gtAV) (E.op ixAV (E.var 0) (E.c (.int 0))) (E.c (.int 0)))) (S.seq (S.asg (G.name 4) (E.op modAV (E.call B.int_ (E.cons (E.op ixAV (E.var 0) (E.c (.int 0))) (E.nil))) (E.var 1))) (S.seq (S.asg (G.sub (E.var 0) (E.c (.int 0))) (E.op divAV (E.op ixAV (E.var 0) (E.c (.int 0))) (E.var 1))) (S.ret (E.var 4)))) (S.skip)) (S.seq (S.asg (G.sub (E.var 0) (E.c (.int 1))) (E.op modAV (E.call B.int_ (E.cons (E.op addAV (E.op mulAV (E.op ixAV (E.var 0) (E.c (.int 1))) (E.c (.int 48271))) (E.c (.int 11))) (E.nil))) (E.c (.int 2147483647)))) (S.ret (E.op modAV (E.op divAV (E.op modAV (E.call B.int_ (E.cons (E.op mulAV (E.op ixAV (E.var 0) (E.c (.int 1))) (E.op ixAV (E.var 0) (E.c (.int 1)))) (E.nil))) (E.c (.int 2147483629))) (E.c (.int 32))) (E.var 1)))))
def m__law_draw : MF := runDefn 2 5 b__law_draw
def b__law_pick : MS := S.ret (E.op ixAV (E.var 1) (E.calln m__law_draw (E.cons (E.var 0) (E.cons (E.call B.len (E.cons (E.var 1) (E.nil))) (E.nil)))))
def m__law_pick : MF := runDefn 2 2 b__law_pick
def b__law_turned : MS := S.seq (S.asg (G.unp [G.name 2, G.name 3]) (E.tup (E.cons (E.lstR (E.var 1)) (E.cons (E.lst (E.nil)) (E.nil))))) (S.seq (S.for_ (I.range1 (E.cons (E.var 1) (E.nil))) (G.name 4) (S.expr (E.lmeth B.append (E.var 3) (E.cons (E.lmeth B.pop (E.var 2) (E.cons (E.calln m__law_draw (E.cons (E.var 0) (E.cons (E.call B.len (E.cons (E.var 2) (E.nil))) (E.nil)))) (E.nil))) (E.nil))))) (S.ret (E.var 3)))
def m__law_turned : MF := runDefn 2 5 b__law_turned
def b__law_map_named : MS := S.seq (S.asg (G.name 4) (E.calln m__law_turned (E.cons (E.var 0) (E.cons (E.var 1) (E.nil))))) (S.seq (S.asg (G.name 5) (E.call B.tuple_ (E.cons (E.call B.sorted (E.cons (E.call B.set_ (E.cons (E.lc (I.seq (E.var 2)) (G.unp [G.name 6, G.name 7]) (T.yes) (E.tup (E.cons (E.op ixAV (E.var 4) (E.var 6)) (E.cons (E.op ixAV (E.var 4) (E.var 7)) (E.nil)))) [6, 7]) (E.nil))) (E.nil))) (E.nil)))) (S.ret (E.lst (E.cons (E.tup (E.cons (E.var 1) (E.cons (E.var 5) (E.cons (E.call B.tuple_ (E.cons (E.call B.sorted (E.cons (E.call B.set_ (E.cons (E.lc (I.seq (E.var 3)) (G.name 6) (T.yes) (E.op ixAV (E.var 4) (E.var 6)) [6]) (E.nil))) (E.nil))) (E.nil))) (E.nil))))) (E.cons (E.var 4) (E.nil))))))
def m__law_map_named : MF := runDefn 4 8 b__law_map_named
def b__law_map_some_wished : MS := S.seq (S.asg (G.unp [G.name 3, G.name 4]) (E.tup (E.cons (E.calln m__law_draw (E.cons (E.var 0) (E.cons (E.c (.int 8)) (E.nil)))) (E.cons (E.lc (I.range1 (E.cons (E.var 1) (E.nil))) (G.name 6) (T.val (E.op (eqAV false) (E.lc (I.seq (E.var 2)) (G.name 5) (T.val (E.op (eqAV false) (E.op ixAV (E.var 5) (E.c (.int 0))) (E.var 6))) (E.var 5) [5]) (E.lst (E.nil)))) (E.var 6) [6]) (E.nil))))) (S.seq (S.ife (T.val (E.op (ltAV) (E.var 3) (E.c (.int 4)))) (S.ret (E.op addAV (E.var 4) (E.lc (I.range1 (E.cons (E.var 1) (E.nil))) (G.name 6) (T.and (T.val (E.op (inAV true) (E.var 6) (E.var 4))) (T.and (T.val (E.op (gtAV) (E.var 3) (E.c (.int 1)))) (T.val (E.op (eqAV false) (E.calln m__law_draw (E.cons (E.var 0) (E.cons (E.c (.int 6)) (E.nil)))) (E.c (.int 0)))))) (E.var 6) [6]))) (S.skip)) (S.seq (S.ife (T.val (E.op (ltAV) (E.var 3) (E.c (.int 7)))) (S.ret (E.lc (I.range1 (E.cons (E.var 1) (E.nil))) (G.name 6) (T.val (E.op (eqAV false) (E.calln m__law_draw (E.cons (E.var 0) (E.cons (E.op subAV (E.var 3) (E.c (.int 2))) (E.nil)))) (E.c (.int 0)))) (E.var 6) [6])) (S.skip)) (S.ret (E.ite (T.val (E.op (gtAV) (E.calln m__law_draw (E.cons (E.var 0) (E.cons (E.c (.int 3)) (E.nil)))) (E.c (.int 0)))) (E.lst (E.nil)) (E.lstR (E.var 1))))))
def m__law_map_some_wished : MF := runDefn 3 7 b__law_map_some_wished
def b__law_map_drawn : MS := S.seq (S.asg (G.name 2) (E.calln m__law_draw (E.cons (E.var 0) (E.cons (E.op addAV (E.var 1) (E.c (.int 1))) (E.nil))))) (S.seq (S.ife (T.val (E.op (eqAV false) (E.var 2) (E.c (.int 0)))) (S.ret (E.tup (E.cons (E.c (.int 0)) (E.cons (E.tup (E.nil)) (E.cons (E.tup (E.nil)) (E.nil)))))) (S.skip)) (S.seq (S.asg (G.unp [G.name 3, G.name 4]) (E.tup (E.cons (E.calln m__law_draw (E.cons (E.var 0) (E.cons (E.c (.int 4)) (E.nil)))) (E.cons (E.lst (E.nil)) (E.nil))))) (S.seq (S.for_ (I.range1 (E.cons (E.calln m__law_draw (E.cons (E.var 0) (E.cons (E.op addAV (E.op mulAV (E.c (.int 2)) (E.var 2)) (E.c (.int 2))) (E.nil)))) (E.nil))) (G.name 5) (S.seq (S.asg (G.unp [G.name 6, G.name 7]) (E.tup (E.cons (E.calln m__law_draw (E.cons (E.var 0) (E.cons (E.var 2) (E.nil)))) (E.cons (E.calln m__law_draw (E.cons (E.var 0) (E.cons (E.var 2) (E.nil)))) (E.nil))))) (S.seq (S.asg (G.name 8) (E.or (E.op (eqAV false) (E.var 3) (E.c (.int 1))) (E.and (E.op (gtAV) (E.var 3) (E.c (.int 1))) (E.op (gtAV) (E.calln m__law_draw (E.cons (E.var 0) (E.cons (E.c (.int 5)) (E.nil)))) (E.c (.int 0)))))) (S.expr (E.lmeth B.append (E.var 4) (E.cons (E.ite (T.tru (E.var 8)) (E.tup (E.cons (E.call B.min2 (E.cons (E.var 6) (E.cons (E.var 7) (E.nil)))) (E.cons (E.call B.max2 (E.cons (E.var 6) (E.cons (E.var 7) (E.nil)))) (E.nil)))) (E.tup (E.cons (E.var 6) (E.cons (E.var 7) (E.nil))))) (E.nil))))))) (S.seq (S.ife (T.val (E.op (eqAV false) (E.var 3) (E.c (.int 3)))) (S.seq (S.asg (G.name 9) (E.op addAV (E.c (.int 1)) (E.calln m__law_draw (E.cons (E.var 0) (E.cons (E.c (.int 3)) (E.nil)))))) (S.asg (G.name 4) (E.op addAV (E.var 4) (E.lc (I.range1 (E.cons (E.op subAV (E.var 2) (E.c (.int 1))) (E.nil))) (G.name 6) (T.yes) (E.tup (E.cons (E.var 6) (E.cons (E.ite (T.and (T.val (E.op (gtAV) (E.op modAV (E.call B.int_ (E.cons (E.op addAV (E.var 6) (E.c (.int 1))) (E.nil))) (E.var 9)) (E.c (.int 0)))) (T.val (E.op (ltAV) (E.op addAV (E.var 6) (E.c (.int 1))) (E.var 2)))) (E.op addAV (E.var 6) (E.c (.int 1))) (E.op mulAV (E.op divAV (E.var 6) (E.var 9)) (E.var 9))) (E.nil)))) [6])))) (S.skip)) (S.ret (E.op ixAV (E.calln m__law_map_named (E.cons (E.var 0) (E.cons (E.var 2) (E.cons (E.var 4) (E.cons (E.calln m__law_map_some_wished (E.cons (E.var 0) (E.cons (E.var 2) (E.cons (E.var 4) (E.nil))))) (E.nil)))))) (E.c (.int 0))))))))
def m__law_map_drawn : MF := runDefn 2 10 b__law_map_drawn
def b__law_call : MS := S.seq (S.ife (T.val (E.op (eqAV false) (E.var 0) (E.c (.int 0)))) (S.ret (E.call m_with_road (E.cons (E.var 1) (E.cons (E.var 2) (E.cons (E.var 3) (E.nil)))))) (S.skip)) (S.seq (S.ife (T.val (E.op (eqAV false) (E.var 0) (E.c (.int 1)))) (S.ret (E.call m_without_road (E.cons (E.var 1) (E.cons (E.var 2) (E.cons (E.var 3) (E.nil)))))) (S.skip)) (S.ret (E.ite (T.val (E.op (eqAV false) (E.var 0) (E.c (.int 2)))) (E.call m_with_wish (E.cons (E.var 1) (E.cons (E.var 2) (E.nil)))) (E.call m_without_wish (E.cons (E.var 1) (E.cons (E.var 2) (E.nil)))))))
def m__law_call : MF := runDef 4 4 b__law_call
def b__law_heard : MS := S.seq (S.try_ (S.ret (E.tup (E.cons (E.c (.str "told")) (E.cons (E.call m__law_call (E.cons (E.var 0) (E.cons (E.var 1) (E.cons (E.var 2) (E.cons (E.var 3) (E.nil)))))) (E.nil))))) [⟨pc_BadPlace, some 4, (fun j w => S.asg (G.name 5) (E.tup (E.cons (E.c (.str "BadPlace")) (E.cons (E.c (w)) (E.cons (E.c (.bl (pc_Refused j))) (E.nil))))))⟩, ⟨pc_Twice, some 4, (fun j w => S.asg (G.name 5) (E.tup (E.cons (E.c (.str "Twice")) (E.cons (E.c (w)) (E.cons (E.c (.bl (pc_Refused j))) (E.nil))))))⟩, ⟨pc_NoRoad, some 4, (fun j w => S.asg (G.name 5) (E.tup (E.cons (E.c (.str "NoRoad")) (E.cons (E.c (w)) (E.cons (E.c (.bl (pc_Refused j))) (E.nil))))))⟩, ⟨pc_NotWished, some 4, (fun j w => S.asg (G.name 5) (E.tup (E.cons (E.c (.str "NotWished")) (E.cons (E.c (w)) (E.cons (E.c (.bl (pc_Refused j))) (E.nil))))))⟩, ⟨pc_TooMany, some 4, (fun j w => S.asg (G.name 5) (E.tup (E.cons (E.c (.str "TooMany")) (E.cons (E.c (w)) (E.cons (E.c (.bl (pc_Refused j))) (E.nil))))))⟩, ⟨pc_Refused, none, (fun _ _ => S.asg (G.name 5) (E.tup (E.cons (E.c (.str "another")) (E.cons (E.c (.int 0)) (E.cons (E.c (.bl true)) (E.nil))))))⟩]) (S.ret (E.var 5))
def m__law_heard : MF := runDefn 4 6 b__law_heard
def b__law_is_place : MS := S.ret (E.and (E.call B.isa (E.cons (E.var 1) (E.cons (E.c (.ty "int")) (E.nil)))) (E.and (E.not (E.call B.isa (E.cons (E.var 1) (E.cons (E.c (.ty "bool")) (E.nil))))) (E.chain (leAV) (ltAV) (E.c (.int 0)) (E.var 1) (E.op ixAV (E.var 0) (E.c (.int 0))))))
def m__law_is_place : MF := runDefn 2 2 b__law_is_place
def b__law_due : MS := S.seq (S.asg (G.unp [G.name 4, G.name 5, G.name 6]) (E.var 1)) (S.seq (S.for_ (I.seq (E.ite (T.val (E.op (ltAV) (E.var 0) (E.c (.int 2)))) (E.lst (E.cons (E.var 2) (E.cons (E.var 3) (E.nil)))) (E.lst (E.cons (E.var 2) (E.nil))))) (G.name 7) (S.ife (T.not (T.tru (E.calln m__law_is_place (E.cons (E.var 1) (E.cons (E.var 7) (E.nil)))))) (S.ret (E.tup (E.cons (E.c (.str "BadPlace")) (E.cons (E.var 7) (E.cons (E.c (.bl true)) (E.nil)))))) (S.skip))) (S.seq (S.ife (T.and (T.val (E.op (eqAV false) (E.var 0) (E.c (.int 0)))) (T.val (E.op (inAV true) (E.tup (E.cons (E.var 2) (E.cons (E.var 3) (E.nil)))) (E.var 5)))) (S.seq (S.asg (G.name 8) (E.lc (I.seq (E.var 5)) (G.name 11) (T.val (E.op (ltAV) (E.var 11) (E.tup (E.cons (E.var 2) (E.cons (E.var 3) (E.nil)))))) (E.var 11) [11])) (S.seq (S.asg (G.name 9) (E.op addAV (E.op addAV (E.var 8) (E.lst (E.cons (E.tup (E.cons (E.var 2) (E.cons (E.var 3) (E.nil)))) (E.nil)))) (E.lc (I.seq (E.var 5)) (G.name 11) (T.val (E.op (gtAV) (E.var 11) (E.tup (E.cons (E.var 2) (E.cons (E.var 3) (E.nil)))))) (E.var 11) [11]))) (S.ret (E.ite (T.val (E.op (eqAV false) (E.call B.len (E.cons (E.var 5) (E.nil))) (E.c (.int 240)))) (E.tup (E.cons (E.c (.str "TooMany")) (E.cons (E.c (.int 240)) (E.cons (E.c (.bl true)) (E.nil))))) (E.tup (E.cons (E.c (.str "told")) (E.cons (E.tup (E.cons (E.var 4) (E.cons (E.call B.tuple_ (E.cons (E.var 9) (E.nil))) (E.cons (E.var 6) (E.nil))))) (E.nil)))))))) (S.skip)) (S.seq (S.ife (T.and (T.val (E.op (eqAV false) (E.var 0) (E.c (.int 1)))) (T.val (E.op (inAV false) (E.tup (E.cons (E.var 2) (E.cons (E.var 3) (E.nil)))) (E.var 5)))) (S.ret (E.tup (E.cons (E.c (.str "told")) (E.cons (E.tup (E.cons (E.var 4) (E.cons (E.call B.tuple_ (E.cons (E.lc (I.seq (E.var 5)) (G.name 11) (T.val (E.op (eqAV true) (E.var 11) (E.tup (E.cons (E.var 2) (E.cons (E.var 3) (E.nil)))))) (E.var 11) [11]) (E.nil))) (E.cons (E.var 6) (E.nil))))) (E.nil))))) (S.skip)) (S.seq (S.ife (T.and (T.val (E.op (eqAV false) (E.var 0) (E.c (.int 2)))) (T.val (E.op (inAV true) (E.var 2) (E.var 6)))) (S.seq (S.asg (G.name 10) (E.lc (I.seq (E.var 6)) (G.name 12) (T.val (E.op (ltAV) (E.var 12) (E.var 2))) (E.var 12) [12])) (S.ret (E.tup (E.cons (E.c (.str "told")) (E.cons (E.tup (E.cons (E.var 4) (E.cons (E.var 5) (E.cons (E.call B.tuple_ (E.cons (E.op addAV (E.op addAV (E.var 10) (E.lst (E.cons (E.var 2) (E.nil)))) (E.lc (I.seq (E.var 6)) (G.name 12) (T.val (E.op (gtAV) (E.var 12) (E.var 2))) (E.var 12) [12])) (E.nil))) (E.nil))))) (E.nil)))))) (S.skip)) (S.seq (S.ife (T.and (T.val (E.op (eqAV false) (E.var 0) (E.c (.int 3)))) (T.val (E.op (inAV false) (E.var 2) (E.var 6)))) (S.ret (E.tup (E.cons (E.c (.str "told")) (E.cons (E.tup (E.cons (E.var 4) (E.cons (E.var 5) (E.cons (E.call B.tuple_ (E.cons (E.lc (I.seq (E.var 6)) (G.name 12) (T.val (E.op (eqAV true) (E.var 12) (E.var 2))) (E.var 12) [12]) (E.nil))) (E.nil))))) (E.nil))))) (S.skip)) (S.ret (E.op ixAV (E.lst (E.cons (E.tup (E.cons (E.c (.str "Twice")) (E.cons (E.c (.int 0)) (E.cons (E.c (.bl true)) (E.nil))))) (E.cons (E.tup (E.cons (E.c (.str "NoRoad")) (E.cons (E.c (.int 0)) (E.cons (E.c (.bl true)) (E.nil))))) (E.cons (E.tup (E.cons (E.c (.str "Twice")) (E.cons (E.c (.int 0)) (E.cons (E.c (.bl true)) (E.nil))))) (E.cons (E.tup (E.cons (E.c (.str "NotWished")) (E.cons (E.c (.int 0)) (E.cons (E.c (.bl true)) (E.nil))))) (E.nil)))))) (E.var 0))))))))
def m__law_due : MF := runDefn 4 13 b__law_due
def b__law_thing : MS := S.seq (S.asg (G.name 3) (E.calln m__law_draw (E.cons (E.var 0) (E.cons (E.c (.int 7)) (E.nil))))) (S.seq (S.ife (T.val (E.op (eqAV false) (E.var 3) (E.c (.int 0)))) (S.ret (E.calln m__law_pick (E.cons (E.var 0) (E.cons (E.lst (E.cons (E.un negAV (E.c (.int 1))) (E.cons (E.op ixAV (E.var 1) (E.c (.int 0))) (E.cons (E.c (.bl true)) (E.cons (E.c (.bl false)) (E.cons (E.c .non) (E.cons (E.c (.str "1")) (E.cons (E.tup (E.cons (E.c (.int 0)) (E.nil))) (E.cons (E.op powAV (E.c (.int 10)) (E.c (.int 20))) (E.nil)))))))))) (E.nil))))) (S.skip)) (S.ret (E.ite (T.or (T.val (E.op (ltAV) (E.var 3) (E.c (.int 4)))) (T.val (E.op (eqAV false) (E.op ixAV (E.var 1) (E.c (.int 0))) (E.c (.int 0))))) (E.var 2) (E.calln m__law_draw (E.cons (E.var 0) (E.cons (E.op ixAV (E.var 1) (E.c (.int 0))) (E.nil)))))))
def m__law_thing : MF := runDefn 3 4 b__law_thing
def b_law : MS := S.seq (S.asg (G.name 1) (E.calln m__law_pool (E.cons (E.var 0) (E.nil)))) (S.seq (S.asg (G.name 2) (E.calln m__law_map_drawn (E.cons (E.var 1) (E.cons (E.c (.int 7)) (E.nil))))) (S.seq (S.for_ (I.range1 (E.cons (E.c (.int 6)) (E.nil))) (G.name 3) (S.seq (S.asg (G.name 4) (E.calln m__law_draw (E.cons (E.var 1) (E.cons (E.c (.int 4)) (E.nil))))) (S.seq (S.asg (G.name 5) (E.ite (T.val (E.op (eqAV true) (E.op ixAV (E.var 2) (E.c (.int 1))) (E.tup (E.nil)))) (E.calln m__law_pick (E.cons (E.var 1) (E.cons (E.op ixAV (E.var 2) (E.c (.int 1))) (E.nil)))) (E.tup (E.cons (E.c (.int 0)) (E.cons (E.c (.int 0)) (E.nil)))))) (S.seq (S.asg (G.name 6) (E.ite (T.and (T.val (E.op (gtAV) (E.var 4) (E.c (.int 1)))) (T.val (E.op (eqAV true) (E.op ixAV (E.var 2) (E.c (.int 2))) (E.tup (E.nil))))) (E.calln m__law_pick (E.cons (E.var 1) (E.cons (E.op ixAV (E.var 2) (E.c (.int 2))) (E.nil)))) (E.op ixAV (E.var 5) (E.c (.int 0))))) (S.seq (S.asg (G.unp [G.name 7, G.name 8]) (E.tup (E.cons (E.calln m__law_thing (E.cons (E.var 1) (E.cons (E.var 2) (E.cons (E.var 6) (E.nil))))) (E.cons (E.calln m__law_thing (E.cons (E.var 1) (E.cons (E.var 2) (E.cons (E.op ixAV (E.var 5) (E.c (.int 1))) (E.nil))))) (E.nil))))) (S.seq (S.asg (G.name 9) (E.calln m__law_due (E.cons (E.var 4) (E.cons (E.var 2) (E.cons (E.var 7) (E.cons (E.var 8) (E.nil))))))) (S.seq (S.ife (T.val (E.op (eqAV true) (E.call B.repr_ (E.cons (E.calln m__law_heard (E.cons (E.var 4) (E.cons (E.var 2) (E.cons (E.var 7) (E.cons (E.var 8) (E.nil)))))) (E.nil))) (E.call B.repr_ (E.cons (E.var 9) (E.nil))))) (S.ret (E.c (.bl false))) (S.skip)) (S.ife (T.val (E.op (eqAV false) (E.op ixAV (E.var 9) (E.c (.int 0))) (E.c (.str "told")))) (S.seq (S.asg (G.name 10) (E.op ixAV (E.lst (E.cons (E.c (.int 1)) (E.cons (E.c (.int 0)) (E.cons (E.c (.int 3)) (E.cons (E.c (.int 2)) (E.nil)))))) (E.var 4))) (S.seq (S.ife (T.val (E.op (eqAV true) (E.call B.repr_ (E.cons (E.calln m__law_heard (E.cons (E.var 10) (E.cons (E.op ixAV (E.var 9) (E.c (.int 1))) (E.cons (E.var 7) (E.cons (E.var 8) (E.nil)))))) (E.nil))) (E.call B.repr_ (E.cons (E.tup (E.cons (E.c (.str "told")) (E.cons (E.var 2) (E.nil)))) (E.nil))))) (S.ret (E.c (.bl false))) (S.skip)) (S.seq (S.ife (T.val (E.op (eqAV true) (E.call B.repr_ (E.cons (E.calln m__law_heard (E.cons (E.var 4) (E.cons (E.op ixAV (E.var 9) (E.c (.int 1))) (E.cons (E.var 7) (E.cons (E.var 8) (E.nil)))))) (E.nil))) (E.call B.repr_ (E.cons (E.calln m__law_due (E.cons (E.var 4) (E.cons (E.op ixAV (E.var 9) (E.c (.int 1))) (E.cons (E.var 7) (E.cons (E.var 8) (E.nil)))))) (E.nil))))) (S.ret (E.c (.bl false))) (S.skip)) (S.asg (G.name 2) (E.op ixAV (E.var 9) (E.c (.int 1))))))) (S.skip))))))))) (S.seq (S.ife (T.val (E.op (eqAV false) (E.calln m__law_draw (E.cons (E.var 1) (E.cons (E.c (.int 3)) (E.nil)))) (E.c (.int 0)))) (S.seq (S.asg (G.name 11) (E.tup (E.cons (E.c (.int 16)) (E.cons (E.call B.tuple_ (E.cons (E.lc (I.range1 (E.cons (E.c (.int 240)) (E.nil))) (G.name 12) (T.yes) (E.tup (E.cons (E.op divAV (E.var 12) (E.c (.int 16))) (E.cons (E.op modAV (E.call B.int_ (E.cons (E.var 12) (E.nil))) (E.c (.int 16))) (E.nil)))) [12]) (E.nil))) (E.cons (E.tup (E.nil)) (E.nil)))))) (S.seq (S.ife (T.val (E.op (eqAV true) (E.calln m__law_heard (E.cons (E.c (.int 0)) (E.cons (E.var 11) (E.cons (E.c (.int 15)) (E.cons (E.calln m__law_draw (E.cons (E.var 1) (E.cons (E.c (.int 16)) (E.nil)))) (E.nil)))))) (E.tup (E.cons (E.c (.str "TooMany")) (E.cons (E.c (.int 240)) (E.cons (E.c (.bl true)) (E.nil))))))) (S.ret (E.c (.bl false))) (S.skip)) (S.ife (T.val (E.op (eqAV true) (E.calln m__law_heard (E.cons (E.c (.int 0)) (E.cons (E.var 11) (E.cons (E.calln m__law_draw (E.cons (E.var 1) (E.cons (E.c (.int 15)) (E.nil)))) (E.cons (E.calln m__law_draw (E.cons (E.var 1) (E.cons (E.c (.int 16)) (E.nil)))) (E.nil)))))) (E.tup (E.cons (E.c (.str "Twice")) (E.cons (E.c (.int 0)) (E.cons (E.c (.bl true)) (E.nil))))))) (S.ret (E.c (.bl false))) (S.skip)))) (S.skip)) (S.ret (E.c (.bl true))))))
def m_law : MF := runDefn 1 13 b_law
end Mr
set_option Elab.async false
set_option maxRecDepth 100000
set_option maxHeartbeats 4000000
/-! Printed by gen.py: each def refines its mirror. -/
namespace Rf
open PySem L2 Mi Mr Br PySem.Spec PyProof.Rows
def top (i : Nat) : Stmt := PySem.Challenge.pw_fewtraps_k21_maps_edited.main.body.getD i (.Pass ⟨0, 0, 0, 0⟩)
abbrev s_is_whole : Stmt := top 12
abbrev s_is_road : Stmt := top 13
abbrev s_first_bad_place : Stmt := top 14
abbrev s_first_bad_road : Stmt := top 15
abbrev s_wrong_roads : Stmt := top 16
abbrev s_wrong_wishes : Stmt := top 17
abbrev s_made_map : Stmt := top 18
abbrev s_is_place : Stmt := top 19
abbrev s_check_place : Stmt := top 20
abbrev s_check_ends : Stmt := top 22
abbrev s_with_road : Stmt := top 23
abbrev s_without_road : Stmt := top 24
abbrev s_with_wish : Stmt := top 25
abbrev s_without_wish : Stmt := top 26
abbrev s__law_pool : Stmt := top 28
abbrev s__law_draw : Stmt := top 29
abbrev s__law_pick : Stmt := top 30
abbrev s__law_turned : Stmt := top 31
abbrev s__law_map_named : Stmt := top 32
abbrev s__law_map_some_wished : Stmt := top 33
abbrev s__law_map_drawn : Stmt := top 34
abbrev s__law_call : Stmt := top 35
abbrev s__law_heard : Stmt := top 36
abbrev s__law_is_place : Stmt := top 37
abbrev s__law_due : Stmt := top 38
abbrev s__law_thing : Stmt := top 39
abbrev s_law : Stmt := top 40
abbrev s_init : Stmt := (clsBody (top 1)).getD 0 (.Pass ⟨0, 0, 0, 0⟩)
structure Tops (K : PySem.W.Frag) (mg : Str → Option Value) where
  d_is_whole : DefN K mg "is_whole" s_is_whole ["thing", "low", "high"]
  d_is_road : DefN K mg "is_road" s_is_road ["thing", "places"]
  d_first_bad_place : DefN K mg "first_bad_place" s_first_bad_place ["things", "places"]
  d_first_bad_road : DefN K mg "first_bad_road" s_first_bad_road ["things", "places"]
  d_wrong_roads : DefN K mg "wrong_roads" s_wrong_roads ["thing"]
  d_wrong_wishes : DefN K mg "wrong_wishes" s_wrong_wishes ["thing"]
  d_made_map : DefN K mg "made_map" s_made_map ["thing"]
  d_is_place : DefN K mg "is_place" s_is_place ["chart", "thing"]
  d_check_place : DefN K mg "check_place" s_check_place ["chart", "a"]
  d_check_ends : DefN K mg "check_ends" s_check_ends ["chart", "a", "b"]
  d_with_road : DefN K mg "with_road" s_with_road ["chart", "a", "b"]
  d_without_road : DefN K mg "without_road" s_without_road ["chart", "a", "b"]
  d_with_wish : DefN K mg "with_wish" s_with_wish ["chart", "a"]
  d_without_wish : DefN K mg "without_wish" s_without_wish ["chart", "a"]
  d__law_pool : DefN K mg "_law_pool" s__law_pool ["script"]
  d__law_draw : DefN K mg "_law_draw" s__law_draw ["pool", "many"]
  d__law_pick : DefN K mg "_law_pick" s__law_pick ["pool", "things"]
  d__law_turned : DefN K mg "_law_turned" s__law_turned ["pool", "many"]
  d__law_map_named : DefN K mg "_law_map_named" s__law_map_named ["pool", "places", "roads", "wished"]
  d__law_map_some_wished : DefN K mg "_law_map_some_wished" s__law_map_some_wished ["pool", "places", "roads"]
  d__law_map_drawn : DefN K mg "_law_map_drawn" s__law_map_drawn ["pool", "most"]
  d__law_call : DefN K mg "_law_call" s__law_call ["way", "chart", "a", "b"]
  d__law_heard : DefN K mg "_law_heard" s__law_heard ["way", "chart", "a", "b"]
  d__law_is_place : DefN K mg "_law_is_place" s__law_is_place ["chart", "a"]
  d__law_due : DefN K mg "_law_due" s__law_due ["way", "chart", "a", "b"]
  d__law_thing : DefN K mg "_law_thing" s__law_thing ["pool", "chart", "known"]
  d_law : DefN K mg "law" s_law ["script"]
  n_int : mg "int" = none
  n_isinstance : mg "isinstance" = none
  n_bool : mg "bool" = none
  n_tuple : mg "tuple" = none
  n_len : mg "len" = none
  n_range : mg "range" = none
  n_sorted : mg "sorted" = none
  n_list : mg "list" = none
  n_set : mg "set" = none
  n_min : mg "min" = none
  n_max : mg "max" = none
  n_repr : mg "repr" = none
  ers : ErrN K mg s_init
  g_BadMap : mg "BadMap" = some (.ref (ers.cl 1))
  g_BadWish : mg "BadWish" = some (.ref (ers.cl 2))
  g_BadPlace : mg "BadPlace" = some (.ref (ers.cl 3))
  g_Twice : mg "Twice" = some (.ref (ers.cl 5))
  g_TooMany : mg "TooMany" = some (.ref (ers.cl 4))
  g_NoRoad : mg "NoRoad" = some (.ref (ers.cl 6))
  g_NotWished : mg "NotWished" = some (.ref (ers.cl 7))
  g_Refused : mg "Refused" = some (.ref (ers.cl 0))
  x_BadMap : ∀ j, PySem.W.exmOne K (.ref (ers.cl j)) (.ref (ers.cl 1)) = some (pc_BadMap j)
  x_BadWish : ∀ j, PySem.W.exmOne K (.ref (ers.cl j)) (.ref (ers.cl 2)) = some (pc_BadWish j)
  x_BadPlace : ∀ j, PySem.W.exmOne K (.ref (ers.cl j)) (.ref (ers.cl 3)) = some (pc_BadPlace j)
  x_Twice : ∀ j, PySem.W.exmOne K (.ref (ers.cl j)) (.ref (ers.cl 5)) = some (pc_Twice j)
  x_TooMany : ∀ j, PySem.W.exmOne K (.ref (ers.cl j)) (.ref (ers.cl 4)) = some (pc_TooMany j)
  x_NoRoad : ∀ j, PySem.W.exmOne K (.ref (ers.cl j)) (.ref (ers.cl 6)) = some (pc_NoRoad j)
  x_NotWished : ∀ j, PySem.W.exmOne K (.ref (ers.cl j)) (.ref (ers.cl 7)) = some (pc_NotWished j)
  x_Refused : ∀ j, PySem.W.exmOne K (.ref (ers.cl j)) (.ref (ers.cl 0)) = some (pc_Refused j)
  y_Refused : ∀ j, PySem.W.kitOne K (.ref (ers.cl j)) (.ref (ers.cl 0)) = some (pc_Refused j)
  c_MOST_PLACES : ∃ t, mg "MOST_PLACES" = some (.int 60 t)
  c_MOST_ROADS : ∃ t, mg "MOST_ROADS" = some (.int 240 t)
section
variable {P : Program} {w : World} {K : PySem.W.Frag} {mg : Str → Option Value} {base : Heap}
theorem sc_init : FnScope ["self", "what"] ["self", "what"] (defScope s_init) := ⟨rfl, rfl, rfl, by decide +kernel, rfl, by decide +kernel, by decide +kernel⟩
theorem ok_I (T : Tops K mg) : FnOk P w K mg base CX0 1 T.ers.fI T.ers.fd ["self", "what"] (spI K) := ok_init T.ers.fn sc_init rfl ⟨.inl rfl, .inl rfl⟩
theorem sc_is_whole : FnScope ["thing", "low", "high"] ["thing", "low", "high"] (defScope s_is_whole) := ⟨rfl, rfl, rfl, by decide +kernel, rfl, by decide +kernel, by decide +kernel⟩
theorem ok_is_whole (T : Tops K mg) : FnG P w K mg base CX0 1 T.d_is_whole.1.1 T.d_is_whole.1.2 ["thing", "low", "high"] (spM P w K m_is_whole) := by
  refine fnG (b := b_is_whole) T.d_is_whole.2.fn sc_is_whole rfl rfl (fun cdv A outer s H hr => ?_)
  exact rss_one (rs_ret (re_and (re_callB (cm_isa) (by exact fun _ => rfl) T.n_isinstance (by decide +kernel) (ra_cons (rv 0) (ra_cons (rty (n := "int") T.n_int) (ra_nil)))) (re_and (re_not (re_callB (cm_isa) (by exact fun _ => rfl) T.n_isinstance (by decide +kernel) (ra_cons (rv 0) (ra_cons (rty (n := "bool") T.n_bool) (ra_nil))))) (re_one (re_chain (opm_le (fun _ => (hr.mono (Nat.zero_le _)).rm)) (opm_le (fun _ => (hr.mono (Nat.zero_le _)).rm)) (rv 1) (rv 0) (rv 2))))))
theorem sc_is_road : FnScope ["thing", "places"] ["thing", "places"] (defScope s_is_road) := ⟨rfl, rfl, rfl, by decide +kernel, rfl, by decide +kernel, by decide +kernel⟩
theorem ok_is_road (T : Tops K mg) : FnG P w K mg base CX0 2 T.d_is_road.1.1 T.d_is_road.1.2 ["thing", "places"] (spM P w K m_is_road) := by
  have G_is_whole := ok_is_whole (P := P) (w := w) (base := base) T
  refine fnG (b := b_is_road) T.d_is_road.2.fn sc_is_road rfl rfl (fun cdv A outer s H hr => ?_)
  exact rss_cons (rs_if ((rw_or (rt_not (rt_tru (re_callB (cm_isa) (by exact fun _ => rfl) T.n_isinstance (by decide +kernel) (ra_cons (rv 0) (ra_cons (rty (n := "tuple") T.n_tuple) (ra_nil)))))) (rw_or1 (rt_cmp (opm_ne (fun _ => (hr.mono (Nat.zero_le _)).rm)) (re_callB (cm_len) (by exact fun _ => rfl) T.n_len (by decide +kernel) (ra_cons (rv 0) (ra_nil))) (re_int) (nomark _)))).rt) (rss_one (rs_ret (re_bl))) (rss_nil)) (rss_one (rs_ret (re_and (re_call G_is_whole T.d_is_whole.2 (fun _ => hr.mono (by decide)) (by exact fun _ => rfl) (ra_cons (re_ix (rv 0) (re_int)) (ra_cons (re_int) (ra_cons (re_op opm_sub (rv 1) (re_int)) (ra_nil))))) (re_one (re_call G_is_whole T.d_is_whole.2 (fun _ => hr.mono (by decide)) (by exact fun _ => rfl) (ra_cons (re_ix (rv 0) (re_int)) (ra_cons (re_int) (ra_cons (re_op opm_sub (rv 1) (re_int)) (ra_nil)))))))))
theorem sc_first_bad_place : FnScope ["things", "places", "at"] ["things", "places"] (defScope s_first_bad_place) := ⟨rfl, rfl, rfl, by decide +kernel, rfl, by decide +kernel, by decide +kernel⟩
theorem ok_first_bad_place (T : Tops K mg) : FnG P w K mg base CX0 2 T.d_first_bad_place.1.1 T.d_first_bad_place.1.2 ["things", "places"] (spM P w K m_first_bad_place) := by
  have G_is_whole := ok_is_whole (P := P) (w := w) (base := base) T
  refine fnG (b := b_first_bad_place) T.d_first_bad_place.2.fn sc_first_bad_place rfl rfl (fun cdv A outer s H hr => ?_)
  exact rss_cons (rs_for (fun _ => PassesOwn.never) (fun _ => rfl) (ri_range1 (by exact fun _ => rfl) T.n_range (ra_cons (re_callB (cm_len) (by exact fun _ => rfl) T.n_len (by decide +kernel) (ra_cons (rv 0) (ra_nil))) (ra_nil))) (rgn 2 (fun _ => sc_first_bad_place.nd)) (rss_one (rs_if ((rw_or (rt_not (rt_tru (re_call G_is_whole T.d_is_whole.2 (fun _ => hr.mono (by decide)) (by exact fun _ => rfl) (ra_cons (re_ix (rv 0) (rv 2)) (ra_cons (re_int) (ra_cons (re_op opm_sub (rv 1) (re_int)) (ra_nil))))))) (rw_or1 ((rw_and (rt_cmp (opm_gt (fun _ => (hr.mono (Nat.zero_le _)).rm)) (rv 2) (re_int) (nomark _)) (rw_and1 (rt_cmp (opm_le (fun _ => (hr.mono (Nat.zero_le _)).rm)) (re_ix (rv 0) (rv 2)) (re_ix (rv 0) (re_op opm_sub (rv 2) (re_int))) (nomark _)))).rt))).rt) (rss_one (rs_ret (rv 2))) (rss_nil)))) (rss_one (rs_ret (re_non)))
theorem sc_first_bad_road : FnScope ["things", "places", "at"] ["things", "places"] (defScope s_first_bad_road) := ⟨rfl, rfl, rfl, by decide +kernel, rfl, by decide +kernel, by decide +kernel⟩
theorem ok_first_bad_road (T : Tops K mg) : FnG P w K mg base CX0 3 T.d_first_bad_road.1.1 T.d_first_bad_road.1.2 ["things", "places"] (spM P w K m_first_bad_road) := by
  have G_is_road := ok_is_road (P := P) (w := w) (base := base) T
  refine fnG (b := b_first_bad_road) T.d_first_bad_road.2.fn sc_first_bad_road rfl rfl (fun cdv A outer s H hr => ?_)
  exact rss_cons (rs_for (fun _ => PassesOwn.never) (fun _ => rfl) (ri_range1 (by exact fun _ => rfl) T.n_range (ra_cons (re_callB (cm_len) (by exact fun _ => rfl) T.n_len (by decide +kernel) (ra_cons (rv 0) (ra_nil))) (ra_nil))) (rgn 2 (fun _ => sc_first_bad_road.nd)) (rss_one (rs_if ((rw_or (rt_not (rt_tru (re_call G_is_road T.d_is_road.2 (fun _ => hr.mono (by decide)) (by exact fun _ => rfl) (ra_cons (re_ix (rv 0) (rv 2)) (ra_cons (rv 1) (ra_nil)))))) (rw_or1 ((rw_and (rt_cmp (opm_gt (fun _ => (hr.mono (Nat.zero_le _)).rm)) (rv 2) (re_int) (nomark _)) (rw_and1 (rt_cmp (opm_le (fun _ => (hr.mono (Nat.zero_le _)).rm)) (re_ix (rv 0) (rv 2)) (re_ix (rv 0) (re_op opm_sub (rv 2) (re_int))) (nomark _)))).rt))).rt) (rss_one (rs_ret (rv 2))) (rss_nil)))) (rss_one (rs_ret (re_non)))
theorem sc_wrong_roads : FnScope ["thing"] ["thing"] (defScope s_wrong_roads) := ⟨rfl, rfl, rfl, by decide +kernel, rfl, by decide +kernel, by decide +kernel⟩
theorem ok_wrong_roads (T : Tops K mg) : FnG P w K mg base CX0 4 T.d_wrong_roads.1.1 T.d_wrong_roads.1.2 ["thing"] (spM P w K m_wrong_roads) := by
  have G_is_whole := ok_is_whole (P := P) (w := w) (base := base) T
  have G_first_bad_road := ok_first_bad_road (P := P) (w := w) (base := base) T
  refine fnG (b := b_wrong_roads) T.d_wrong_roads.2.fn sc_wrong_roads rfl rfl (fun cdv A outer s H hr => ?_)
  exact rss_cons (rs_if ((rw_or (rt_not (rt_tru (re_callB (cm_isa) (by exact fun _ => rfl) T.n_isinstance (by decide +kernel) (ra_cons (rv 0) (ra_cons (rty (n := "tuple") T.n_tuple) (ra_nil)))))) (rw_or1 (rt_cmp (opm_ne (fun _ => (hr.mono (Nat.zero_le _)).rm)) (re_callB (cm_len) (by exact fun _ => rfl) T.n_len (by decide +kernel) (ra_cons (rv 0) (ra_nil))) (re_int) (nomark _)))).rt) (rss_one (rs_ret (re_neg (re_int)))) (rss_nil)) (rss_cons (rs_if (rt_not (rt_tru (re_call G_is_whole T.d_is_whole.2 (fun _ => hr.mono (by decide)) (by exact fun _ => rfl) (ra_cons (re_ix (rv 0) (re_int)) (ra_cons (re_int) (ra_cons (rk T.c_MOST_PLACES) (ra_nil))))))) (rss_one (rs_ret (re_neg (re_int)))) (rss_nil)) (rss_cons (rs_if ((rw_or (rt_not (rt_tru (re_callB (cm_isa) (by exact fun _ => rfl) T.n_isinstance (by decide +kernel) (ra_cons (re_ix (rv 0) (re_int)) (ra_cons (rty (n := "tuple") T.n_tuple) (ra_nil)))))) (rw_or1 (rt_cmp (opm_gt (fun _ => (hr.mono (Nat.zero_le _)).rm)) (re_callB (cm_len) (by exact fun _ => rfl) T.n_len (by decide +kernel) (ra_cons (re_ix (rv 0) (re_int)) (ra_nil))) (rk T.c_MOST_ROADS) (nomark _)))).rt) (rss_one (rs_ret (re_neg (re_int)))) (rss_nil)) (rss_one (rs_ret (re_call G_first_bad_road T.d_first_bad_road.2 (fun _ => hr.mono (by decide)) (by exact fun _ => rfl) (ra_cons (re_ix (rv 0) (re_int)) (ra_cons (re_ix (rv 0) (re_int)) (ra_nil))))))))
theorem sc_wrong_wishes : FnScope ["thing"] ["thing"] (defScope s_wrong_wishes) := ⟨rfl, rfl, rfl, by decide +kernel, rfl, by decide +kernel, by decide +kernel⟩
theorem ok_wrong_wishes (T : Tops K mg) : FnG P w K mg base CX0 3 T.d_wrong_wishes.1.1 T.d_wrong_wishes.1.2 ["thing"] (spM P w K m_wrong_wishes) := by
  have G_first_bad_place := ok_first_bad_place (P := P) (w := w) (base := base) T
  refine fnG (b := b_wrong_wishes) T.d_wrong_wishes.2.fn sc_wrong_wishes rfl rfl (fun cdv A outer s H hr => ?_)
  exact rss_cons (rs_if (rt_not (rt_tru (re_callB (cm_isa) (by exact fun _ => rfl) T.n_isinstance (by decide +kernel) (ra_cons (re_ix (rv 0) (re_int)) (ra_cons (rty (n := "tuple") T.n_tuple) (ra_nil)))))) (rss_one (rs_ret (re_neg (re_int)))) (rss_nil)) (rss_one (rs_ret (re_call G_first_bad_place T.d_first_bad_place.2 (fun _ => hr.mono (by decide)) (by exact fun _ => rfl) (ra_cons (re_ix (rv 0) (re_int)) (ra_cons (re_ix (rv 0) (re_int)) (ra_nil))))))
theorem sc_made_map : FnScope ["thing", "wrong"] ["thing"] (defScope s_made_map) := ⟨rfl, rfl, rfl, by decide +kernel, rfl, by decide +kernel, by decide +kernel⟩
theorem ok_made_map (T : Tops K mg) : FnG P w K mg base (L2.CX P w) 5 T.d_made_map.1.1 T.d_made_map.1.2 ["thing"] (spE P w K T.ers.cl m_made_map) := by
  have G_wrong_roads := ok_wrong_roads (P := P) (w := w) (base := base) T
  have G_wrong_wishes := ok_wrong_wishes (P := P) (w := w) (base := base) T
  have OI := ok_I (P := P) (w := w) (base := base) T
  refine fnE (b := b_made_map) T.d_made_map.2.fn sc_made_map rfl rfl (fun cdv A outer s H E hr => ?_)
  exact rss_cons (rset 1 (re_call G_wrong_roads T.d_wrong_roads.2 (fun _ => hr.mono (by decide)) (by exact fun _ => rfl) (ra_cons (rv 0) (ra_nil))) (fun _ => sc_made_map.nd)) (rss_cons (rs_if (rt_cmp (opm_isnot) (rv 1) (re_non) (nomark _)) (rss_one (rs_raise (clsAt T.ers OI T.g_BadMap) (fun _ => rfl) tkB (fun _ => hr.mono (by decide)) (by exact fun _ => rfl) (rv 1))) (rss_nil)) (rss_cons (rset 1 (re_call G_wrong_wishes T.d_wrong_wishes.2 (fun _ => hr.mono (by decide)) (by exact fun _ => rfl) (ra_cons (rv 0) (ra_nil))) (fun _ => sc_made_map.nd)) (rss_cons (rs_if (rt_cmp (opm_isnot) (rv 1) (re_non) (nomark _)) (rss_one (rs_raise (clsAt T.ers OI T.g_BadWish) (fun _ => rfl) tkB (fun _ => hr.mono (by decide)) (by exact fun _ => rfl) (rv 1))) (rss_nil)) (rss_one (rs_ret (rv 0))))))
theorem sc_is_place : FnScope ["chart", "thing"] ["chart", "thing"] (defScope s_is_place) := ⟨rfl, rfl, rfl, by decide +kernel, rfl, by decide +kernel, by decide +kernel⟩
theorem ok_is_place (T : Tops K mg) : FnG P w K mg base CX0 2 T.d_is_place.1.1 T.d_is_place.1.2 ["chart", "thing"] (spM P w K m_is_place) := by
  have G_is_whole := ok_is_whole (P := P) (w := w) (base := base) T
  refine fnG (b := b_is_place) T.d_is_place.2.fn sc_is_place rfl rfl (fun cdv A outer s H hr => ?_)
  exact rss_one (rs_ret (re_call G_is_whole T.d_is_whole.2 (fun _ => hr.mono (by decide)) (by exact fun _ => rfl) (ra_cons (rv 1) (ra_cons (re_int) (ra_cons (re_op opm_sub (re_ix (rv 0) (re_int)) (re_int)) (ra_nil))))))
theorem sc_check_place : FnScope ["chart", "a"] ["chart", "a"] (defScope s_check_place) := ⟨rfl, rfl, rfl, by decide +kernel, rfl, by decide +kernel, by decide +kernel⟩
theorem ok_check_place (T : Tops K mg) : FnG P w K mg base (L2.CX P w) 3 T.d_check_place.1.1 T.d_check_place.1.2 ["chart", "a"] (spE P w K T.ers.cl m_check_place) := by
  have G_is_place := ok_is_place (P := P) (w := w) (base := base) T
  have OI := ok_I (P := P) (w := w) (base := base) T
  refine fnE (b := b_check_place) T.d_check_place.2.fn sc_check_place rfl rfl (fun cdv A outer s H E hr => ?_)
  exact rss_one (rs_if (rt_not (rt_tru (re_call G_is_place T.d_is_place.2 (fun _ => hr.mono (by decide)) (by exact fun _ => rfl) (ra_cons (rv 0) (ra_cons (rv 1) (ra_nil)))))) (rss_one (rs_raise (clsAt T.ers OI T.g_BadPlace) (fun _ => rfl) tkB (fun _ => hr.mono (by decide)) (by exact fun _ => rfl) (rv 1))) (rss_nil))
theorem sc_check_ends : FnScope ["chart", "a", "b"] ["chart", "a", "b"] (defScope s_check_ends) := ⟨rfl, rfl, rfl, by decide +kernel, rfl, by decide +kernel, by decide +kernel⟩
theorem ok_check_ends (T : Tops K mg) : FnG P w K mg base (L2.CX P w) 6 T.d_check_ends.1.1 T.d_check_ends.1.2 ["chart", "a", "b"] (spE P w K T.ers.cl m_check_ends) := by
  have G_made_map := ok_made_map (P := P) (w := w) (base := base) T
  have G_check_place := ok_check_place (P := P) (w := w) (base := base) T
  refine fnE (b := b_check_ends) T.d_check_ends.2.fn sc_check_ends rfl rfl (fun cdv A outer s H E hr => ?_)
  exact rss_cons (rs_expr (re_callE G_made_map T.d_made_map.2 tkB (fun _ => hr.mono (by decide)) (by exact fun _ => rfl) (ra_cons (rv 0) (ra_nil)))) (rss_cons (rs_expr (re_callE G_check_place T.d_check_place.2 tkB (fun _ => hr.mono (by decide)) (by exact fun _ => rfl) (ra_cons (rv 0) (ra_cons (rv 1) (ra_nil))))) (rss_one (rs_expr (re_callE G_check_place T.d_check_place.2 tkB (fun _ => hr.mono (by decide)) (by exact fun _ => rfl) (ra_cons (rv 0) (ra_cons (rv 2) (ra_nil)))))))
theorem sc_with_road : FnScope ["chart", "a", "b", "places", "roads", "wished"] ["chart", "a", "b"] (defScope s_with_road) := ⟨rfl, rfl, rfl, by decide +kernel, rfl, by decide +kernel, by decide +kernel⟩
theorem ok_with_road (T : Tops K mg) : FnG P w K mg base (L2.CX P w) 7 T.d_with_road.1.1 T.d_with_road.1.2 ["chart", "a", "b"] (spE P w K T.ers.cl m_with_road) := by
  have G_check_ends := ok_check_ends (P := P) (w := w) (base := base) T
  have OI := ok_I (P := P) (w := w) (base := base) T
  refine fnE (b := b_with_road) T.d_with_road.2.fn sc_with_road rfl rfl (fun cdv A outer s H E hr => ?_)
  exact rss_cons (rs_expr (re_callE G_check_ends T.d_check_ends.2 tkB (fun _ => hr.mono (by decide)) (by exact fun _ => rfl) (ra_cons (rv 0) (ra_cons (rv 1) (ra_cons (rv 2) (ra_nil)))))) (rss_cons (rs_asg (rv 0) (rg_unp (n := 3) (fun _ => rfl) (rgs_cons (rgn 3 (fun _ => sc_with_road.nd)) (rgs_cons (rgn 4 (fun _ => sc_with_road.nd)) (rgs_cons (rgn 5 (fun _ => sc_with_road.nd)) (rgs_nil)))) rfl)) (rss_cons (rs_if (rt_cmp (opm_in (fun _ => (hr.mono (Nat.zero_le _)).rm)) (re_tup (ra_cons (rv 1) (ra_cons (rv 2) (ra_nil)))) (rv 4) rfl) (rss_one (rs_raise (clsAt T.ers OI T.g_Twice) (fun _ => rfl) tkB (fun _ => hr.mono (by decide)) (by exact fun _ => rfl) (re_int))) (rss_nil)) (rss_cons (rs_if (rt_cmp (opm_ge) (re_callB (cm_len) (by exact fun _ => rfl) T.n_len (by decide +kernel) (ra_cons (rv 4) (ra_nil))) (rk T.c_MOST_ROADS) (nomark _)) (rss_one (rs_raise (clsAt T.ers OI T.g_TooMany) (fun _ => rfl) tkB (fun _ => hr.mono (by decide)) (by exact fun _ => rfl) (rk T.c_MOST_ROADS))) (rss_nil)) (rss_one (rs_ret (re_tup (ra_cons (rv 3) (ra_cons (re_callTy (cm_tuple) (by exact fun _ => rfl) T.n_tuple (by decide +kernel) (ra_cons (re_callB (cm_sorted (fun _ => rfl) (fun _ => (hr.mono (Nat.zero_le _)).rm)) (by exact fun _ => rfl) T.n_sorted (by decide +kernel) (ra_cons (re_op opm_add (rv 4) (re_tup (ra_cons (re_tup (ra_cons (rv 1) (ra_cons (rv 2) (ra_nil)))) (ra_nil)))) (ra_nil))) (ra_nil))) (ra_cons (rv 5) (ra_nil))))))))))
theorem sc_without_road : FnScope ["chart", "a", "b", "places", "roads", "wished", "road"] ["chart", "a", "b"] (defScope s_without_road) := ⟨rfl, rfl, rfl, by decide +kernel, rfl, by decide +kernel, by decide +kernel⟩
theorem ok_without_road (T : Tops K mg) : FnG P w K mg base (L2.CX P w) 7 T.d_without_road.1.1 T.d_without_road.1.2 ["chart", "a", "b"] (spE P w K T.ers.cl m_without_road) := by
  have G_check_ends := ok_check_ends (P := P) (w := w) (base := base) T
  have OI := ok_I (P := P) (w := w) (base := base) T
  refine fnE (b := b_without_road) T.d_without_road.2.fn sc_without_road rfl rfl (fun cdv A outer s H E hr => ?_)
  exact rss_cons (rs_expr (re_callE G_check_ends T.d_check_ends.2 tkB (fun _ => hr.mono (by decide)) (by exact fun _ => rfl) (ra_cons (rv 0) (ra_cons (rv 1) (ra_cons (rv 2) (ra_nil)))))) (rss_cons (rs_asg (rv 0) (rg_unp (n := 3) (fun _ => rfl) (rgs_cons (rgn 3 (fun _ => sc_without_road.nd)) (rgs_cons (rgn 4 (fun _ => sc_without_road.nd)) (rgs_cons (rgn 5 (fun _ => sc_without_road.nd)) (rgs_nil)))) rfl)) (rss_cons (rs_if (rt_cmp (opm_notin (fun _ => (hr.mono (Nat.zero_le _)).rm)) (re_tup (ra_cons (rv 1) (ra_cons (rv 2) (ra_nil)))) (rv 4) rfl) (rss_one (rs_raise (clsAt T.ers OI T.g_NoRoad) (fun _ => rfl) tkB (fun _ => hr.mono (by decide)) (by exact fun _ => rfl) (re_int))) (rss_nil)) (rss_one (rs_ret (re_tup (ra_cons (rv 3) (ra_cons (re_callTy (cm_tuple) (by exact fun _ => rfl) T.n_tuple (by decide +kernel) (ra_cons (re_lc (own := [("road", 6)]) (fun _ => rfl) (fun _ => sc_without_road.nd) (ri_seq (rv 4)) (blk1 (N := ["chart", "a", "b", "places", "roads", "wished", "road"]) (sc0 := defScope s_without_road) (by decide +kernel)) (rgon 6 (fun _ => sc_without_road.nd)) (rts_one (rt_cmp (opm_ne (fun _ => (hr.mono (Nat.zero_le _)).rm)) (rv 6) (re_tup (ra_cons (rv 1) (ra_cons (rv 2) (ra_nil)))) (nomark _))) (rv 6)) (ra_nil))) (ra_cons (rv 5) (ra_nil)))))))))
theorem sc_with_wish : FnScope ["chart", "a", "places", "roads", "wished"] ["chart", "a"] (defScope s_with_wish) := ⟨rfl, rfl, rfl, by decide +kernel, rfl, by decide +kernel, by decide +kernel⟩
theorem ok_with_wish (T : Tops K mg) : FnG P w K mg base (L2.CX P w) 6 T.d_with_wish.1.1 T.d_with_wish.1.2 ["chart", "a"] (spE P w K T.ers.cl m_with_wish) := by
  have G_made_map := ok_made_map (P := P) (w := w) (base := base) T
  have G_check_place := ok_check_place (P := P) (w := w) (base := base) T
  have OI := ok_I (P := P) (w := w) (base := base) T
  refine fnE (b := b_with_wish) T.d_with_wish.2.fn sc_with_wish rfl rfl (fun cdv A outer s H E hr => ?_)
  exact rss_cons (rs_expr (re_callE G_check_place T.d_check_place.2 tkB (fun _ => hr.mono (by decide)) (by exact fun _ => rfl) (ra_cons (re_callE G_made_map T.d_made_map.2 tkB (fun _ => hr.mono (by decide)) (by exact fun _ => rfl) (ra_cons (rv 0) (ra_nil))) (ra_cons (rv 1) (ra_nil))))) (rss_cons (rs_asg (rv 0) (rg_unp (n := 3) (fun _ => rfl) (rgs_cons (rgn 2 (fun _ => sc_with_wish.nd)) (rgs_cons (rgn 3 (fun _ => sc_with_wish.nd)) (rgs_cons (rgn 4 (fun _ => sc_with_wish.nd)) (rgs_nil)))) rfl)) (rss_cons (rs_if (rt_cmp (opm_in (fun _ => (hr.mono (Nat.zero_le _)).rm)) (rv 1) (rv 4) rfl) (rss_one (rs_raise (clsAt T.ers OI T.g_Twice) (fun _ => rfl) tkB (fun _ => hr.mono (by decide)) (by exact fun _ => rfl) (re_int))) (rss_nil)) (rss_one (rs_ret (re_tup (ra_cons (rv 2) (ra_cons (rv 3) (ra_cons (re_callTy (cm_tuple) (by exact fun _ => rfl) T.n_tuple (by decide +kernel) (ra_cons (re_callB (cm_sorted (fun _ => rfl) (fun _ => (hr.mono (Nat.zero_le _)).rm)) (by exact fun _ => rfl) T.n_sorted (by decide +kernel) (ra_cons (re_op opm_add (rv 4) (re_tup (ra_cons (rv 1) (ra_nil)))) (ra_nil))) (ra_nil))) (ra_nil)))))))))
theorem sc_without_wish : FnScope ["chart", "a", "places", "roads", "wished", "b"] ["chart", "a"] (defScope s_without_wish) := ⟨rfl, rfl, rfl, by decide +kernel, rfl, by decide +kernel, by decide +kernel⟩
theorem ok_without_wish (T : Tops K mg) : FnG P w K mg base (L2.CX P w) 6 T.d_without_wish.1.1 T.d_without_wish.1.2 ["chart", "a"] (spE P w K T.ers.cl m_without_wish) := by
  have G_made_map := ok_made_map (P := P) (w := w) (base := base) T
  have G_check_place := ok_check_place (P := P) (w := w) (base := base) T
  have OI := ok_I (P := P) (w := w) (base := base) T
  refine fnE (b := b_without_wish) T.d_without_wish.2.fn sc_without_wish rfl rfl (fun cdv A outer s H E hr => ?_)
  exact rss_cons (rs_expr (re_callE G_check_place T.d_check_place.2 tkB (fun _ => hr.mono (by decide)) (by exact fun _ => rfl) (ra_cons (re_callE G_made_map T.d_made_map.2 tkB (fun _ => hr.mono (by decide)) (by exact fun _ => rfl) (ra_cons (rv 0) (ra_nil))) (ra_cons (rv 1) (ra_nil))))) (rss_cons (rs_asg (rv 0) (rg_unp (n := 3) (fun _ => rfl) (rgs_cons (rgn 2 (fun _ => sc_without_wish.nd)) (rgs_cons (rgn 3 (fun _ => sc_without_wish.nd)) (rgs_cons (rgn 4 (fun _ => sc_without_wish.nd)) (rgs_nil)))) rfl)) (rss_cons (rs_if (rt_cmp (opm_notin (fun _ => (hr.mono (Nat.zero_le _)).rm)) (rv 1) (rv 4) rfl) (rss_one (rs_raise (clsAt T.ers OI T.g_NotWished) (fun _ => rfl) tkB (fun _ => hr.mono (by decide)) (by exact fun _ => rfl) (re_int))) (rss_nil)) (rss_one (rs_ret (re_tup (ra_cons (rv 2) (ra_cons (rv 3) (ra_cons (re_callTy (cm_tuple) (by exact fun _ => rfl) T.n_tuple (by decide +kernel) (ra_cons (re_lc (own := [("b", 5)]) (fun _ => rfl) (fun _ => sc_without_wish.nd) (ri_seq (rv 4)) (blk1 (N := ["chart", "a", "places", "roads", "wished", "b"]) (sc0 := defScope s_without_wish) (by decide +kernel)) (rgon 5 (fun _ => sc_without_wish.nd)) (rts_one (rt_cmp (opm_ne (fun _ => (hr.mono (Nat.zero_le _)).rm)) (rv 5) (rv 1) (nomark _))) (rv 5)) (ra_nil))) (ra_nil)))))))))
theorem sc__law_pool : FnScope ["script", "first", "size"] ["script"] (defScope s__law_pool) := ⟨rfl, rfl, rfl, by decide +kernel, rfl, by decide +kernel, by decide +kernel⟩
theorem ok__law_pool (T : Tops K mg) : FnG P w K mg base CX0 1 T.d__law_pool.1.1 T.d__law_pool.1.2 ["script"] (spM P w K m__law_pool) := by
  refine fnG (b := b__law_pool) T.d__law_pool.2.fn sc__law_pool rfl rfl (fun cdv A outer s H hr => ?_)
  exact rss_cons (rset 1 (re_ite (rt_cmp (opm_gt (fun _ => (hr.mono (Nat.zero_le _)).rm)) (re_callB (cm_len) (by exact fun _ => rfl) T.n_len (by decide +kernel) (ra_cons (rv 0) (ra_nil))) (re_int) (nomark _)) (re_callTy (cm_int) (by exact fun _ => rfl) T.n_int (by decide +kernel) (ra_cons (re_ix (rv 0) (re_int)) (ra_nil))) (re_int)) (fun _ => sc__law_pool.nd)) (rss_cons (rset 2 (re_ite (rt_cmp (opm_ge) (rv 1) (re_int) (nomark _)) (re_op opm_mul (re_int) (rv 1)) (re_op opm_sub (re_neg (re_int)) (re_op opm_mul (re_int) (rv 1)))) (fun _ => sc__law_pool.nd)) (rss_one (rs_ret (re_lst (ra_cons (re_ite (rt_cmp (opm_ge) (rv 2) (re_op opm_pow (re_int) (re_int)) (nomark _)) (rv 2) (re_int)) (ra_cons (re_op opm_add (re_op opm_mod (re_callTy (cm_int) (by exact fun _ => rfl) T.n_int (by decide +kernel) (ra_cons (re_op opm_add (re_op opm_mul (rv 2) (re_int)) (re_int)) (ra_nil))) (re_int)) (re_int)) (ra_cons (re_callTy (cm_list) (by exact fun _ => rfl) T.n_list (by decide +kernel) (ra_cons (re_slice10 (rv 0) (re_int)) (ra_nil))) (ra_nil))))))))
theorem sc__law_draw : FnScope ["pool", "many", "cell", "size", "found"] ["pool", "many"] (defScope s__law_draw) := ⟨rfl, rfl, rfl, by decide +kernel, rfl, by decide +kernel, by decide +kernel⟩
theorem ok__law_draw (T : Tops K mg) : FnG P w K mg base CX0 1 T.d__law_draw.1.1 T.d__law_draw.1.2 ["pool", "many"] (spM P w K m__law_draw) := by
  refine fnG (b := b__law_draw) T.d__law_draw.2.fn sc__law_draw rfl rfl (fun cdv A outer s H hr => ?_)
  exact rss_cons (rs_if ((rw_and (rt_cmp (opm_eq (fun _ => (hr.mono (Nat.zero_le _)).rm)) (re_ix (rv 0) (re_int)) (re_int) (nomark _)) (rw_and1 (rt_cmp (opm_ne (fun _ => (hr.mono (Nat.zero_le _)).rm)) (re_ix (rv 0) (re_int)) (re_lst (ra_nil)) (nomark _)))).rt) (rss_cons (rset 2 (re_callTy (cm_int) (by exact fun _ => rfl) T.n_int (by decide +kernel) (ra_cons (re_lm PySem.F.plainAttrs_list PySem.F.slot_list_pop PySem.F.type_list_pop mm_pop (re_ix (rv 0) (re_int)) (ra_cons (re_int) (ra_nil))) (ra_nil))) (fun _ => sc__law_draw.nd)) (rss_cons (rset 3 (re_ite (rt_cmp (opm_ge) (rv 2) (re_int) (nomark _)) (re_op opm_mul (re_int) (rv 2)) (re_op opm_sub (re_neg (re_int)) (re_op opm_mul (re_int) (rv 2)))) (fun _ => sc__law_draw.nd)) (rss_cons (rs_asg (re_ite (rt_cmp (opm_ge) (rv 3) (re_op opm_pow (re_int) (re_int)) (nomark _)) (rv 3) (re_int)) (rg_sub (W := Wn) (rv 0) (re_int))) (rss_one (rs_asg (re_op opm_add (re_op opm_mod (re_callTy (cm_int) (by exact fun _ => rfl) T.n_int (by decide +kernel) (ra_cons (re_op opm_add (re_ix (rv 0) (re_int)) (re_op opm_mul (rv 3) (re_int))) (ra_nil))) (re_int)) (re_int)) (rg_sub (W := Wn) (rv 0) (re_int))))))) (rss_nil)) (rss_cons (rs_if (rt_cmp (opm_gt (fun _ => (hr.mono (Nat.zero_le _)).rm)) (re_ix (rv 0) (re_int)) (re_int) (nomark _)) (rss_cons (rset 4 (re_op opm_mod (re_callTy (cm_int) (by exact fun _ => rfl) T.n_int (by decide +kernel) (ra_cons (re_ix (rv 0) (re_int)) (ra_nil))) (rv 1)) (fun _ => sc__law_draw.nd)) (rss_cons (rs_asg (re_op opm_div (re_ix (rv 0) (re_int)) (rv 1)) (rg_sub (W := Wn) (rv 0) (re_int))) (rss_one (rs_ret (rv 4))))) (rss_nil)) (rss_cons (rs_asg (re_op opm_mod (re_callTy (cm_int) (by exact fun _ => rfl) T.n_int (by decide +kernel) (ra_cons (re_op opm_add (re_op opm_mul (re_ix (rv 0) (re_int)) (re_int)) (re_int)) (ra_nil))) (re_int)) (rg_sub (W := Wn) (rv 0) (re_int))) (rss_one (rs_ret (re_op opm_mod (re_op opm_div (re_op opm_mod (re_callTy (cm_int) (by exact fun _ => rfl) T.n_int (by decide +kernel) (ra_cons (re_op opm_mul (re_ix (rv 0) (re_int)) (re_ix (rv 0) (re_int))) (ra_nil))) (re_int)) (re_int)) (rv 1))))))
theorem sc__law_pick : FnScope ["pool", "things"] ["pool", "things"] (defScope s__law_pick) := ⟨rfl, rfl, rfl, by decide +kernel, rfl, by decide +kernel, by decide +kernel⟩
theorem ok__law_pick (T : Tops K mg) : FnG P w K mg base CX0 2 T.d__law_pick.1.1 T.d__law_pick.1.2 ["pool", "things"] (spM P w K m__law_pick) := by
  have G__law_draw := ok__law_draw (P := P) (w := w) (base := base) T
  refine fnG (b := b__law_pick) T.d__law_pick.2.fn sc__law_pick rfl rfl (fun cdv A outer s H hr => ?_)
  exact rss_one (rs_ret (re_ix (rv 1) (re_call G__law_draw T.d__law_draw.2 (fun _ => hr.mono (by decide)) (by exact fun _ => rfl) (ra_cons (rv 0) (ra_cons (re_callB (cm_len) (by exact fun _ => rfl) T.n_len (by decide +kernel) (ra_cons (rv 1) (ra_nil))) (ra_nil))))))
theorem sc__law_turned : FnScope ["pool", "many", "left", "found", "turn"] ["pool", "many"] (defScope s__law_turned) := ⟨rfl, rfl, rfl, by decide +kernel, rfl, by decide +kernel, by decide +kernel⟩
theorem ok__law_turned (T : Tops K mg) : FnG P w K mg base CX0 2 T.d__law_turned.1.1 T.d__law_turned.1.2 ["pool", "many"] (spM P w K m__law_turned) := by
  have G__law_draw := ok__law_draw (P := P) (w := w) (base := base) T
  refine fnG (b := b__law_turned) T.d__law_turned.2.fn sc__law_turned rfl rfl (fun cdv A outer s H hr => ?_)
  exact rss_cons (rs_par (i := 2) (j := 3) (fun _ => rfl) (fun _ => sc__law_turned.nd) (fun _ => rfl) (fun _ => rfl) (by decide) (fun _ => rfl) (fun _ => rfl) (ra_cons (re_lstR (fun _ => rfl) T.n_list T.n_range (rv 1)) (ra_cons (re_lst (ra_nil)) (ra_nil))) (fun _ => rfl)) (rss_cons (rs_for (fun _ => PassesOwn.never) (fun _ => rfl) (ri_range1 (by exact fun _ => rfl) T.n_range (ra_cons (rv 1) (ra_nil))) (rgn 4 (fun _ => sc__law_turned.nd)) (rss_one (rs_expr (re_lm PySem.F.plainAttrs_list PySem.F.slot_list_append PySem.F.type_list_append mm_append (rv 3) (ra_cons (re_lm PySem.F.plainAttrs_list PySem.F.slot_list_pop PySem.F.type_list_pop mm_pop (rv 2) (ra_cons (re_call G__law_draw T.d__law_draw.2 (fun _ => hr.mono (by decide)) (by exact fun _ => rfl) (ra_cons (rv 0) (ra_cons (re_callB (cm_len) (by exact fun _ => rfl) T.n_len (by decide +kernel) (ra_cons (rv 2) (ra_nil))) (ra_nil)))) (ra_nil))) (ra_nil)))))) (rss_one (rs_ret (rv 3))))
theorem sc__law_map_named : FnScope ["pool", "places", "roads", "wished", "names", "told", "a", "b"] ["pool", "places", "roads", "wished"] (defScope s__law_map_named) := ⟨rfl, rfl, rfl, by decide +kernel, rfl, by decide +kernel, by decide +kernel⟩
theorem ok__law_map_named (T : Tops K mg) : FnG P w K mg base CX0 3 T.d__law_map_named.1.1 T.d__law_map_named.1.2 ["pool", "places", "roads", "wished"] (spM P w K m__law_map_named) := by
  have G__law_turned := ok__law_turned (P := P) (w := w) (base := base) T
  refine fnG (b := b__law_map_named) T.d__law_map_named.2.fn sc__law_map_named rfl rfl (fun cdv A outer s H hr => ?_)
  exact rss_cons (rset 4 (re_call G__law_turned T.d__law_turned.2 (fun _ => hr.mono (by decide)) (by exact fun _ => rfl) (ra_cons (rv 0) (ra_cons (rv 1) (ra_nil)))) (fun _ => sc__law_map_named.nd)) (rss_cons (rset 5 (re_callTy (cm_tuple) (by exact fun _ => rfl) T.n_tuple (by decide +kernel) (ra_cons (re_callB (cm_sorted (fun _ => rfl) (fun _ => (hr.mono (Nat.zero_le _)).rm)) (by exact fun _ => rfl) T.n_sorted (by decide +kernel) (ra_cons (re_callTy (cm_set (fun _ => rfl) (fun _ => (hr.mono (Nat.zero_le _)).rm)) (by exact fun _ => rfl) T.n_set (by decide +kernel) (ra_cons (re_lc (own := [("a", 6), ("b", 7)]) (fun _ => rfl) (fun _ => sc__law_map_named.nd) (ri_seq (rv 2)) (blk1 (N := ["pool", "places", "roads", "wished", "names", "told", "a", "b"]) (sc0 := defScope s__law_map_named) (by decide +kernel)) (rgo_tup (n := 2) (fun _ => rfl) (rgos_cons (rgon 6 (fun _ => sc__law_map_named.nd)) (rgos_cons (rgon 7 (fun _ => sc__law_map_named.nd)) (rgos_nil))) rfl) (rts_nil) (re_tup (ra_cons (re_ix (rv 4) (rv 6)) (ra_cons (re_ix (rv 4) (rv 7)) (ra_nil))))) (ra_nil))) (ra_nil))) (ra_nil))) (fun _ => sc__law_map_named.nd)) (rss_one (rs_ret (re_lst (ra_cons (re_tup (ra_cons (rv 1) (ra_cons (rv 5) (ra_cons (re_callTy (cm_tuple) (by exact fun _ => rfl) T.n_tuple (by decide +kernel) (ra_cons (re_callB (cm_sorted (fun _ => rfl) (fun _ => (hr.mono (Nat.zero_le _)).rm)) (by exact fun _ => rfl) T.n_sorted (by decide +kernel) (ra_cons (re_callTy (cm_set (fun _ => rfl) (fun _ => (hr.mono (Nat.zero_le _)).rm)) (by exact fun _ => rfl) T.n_set (by decide +kernel) (ra_cons (re_lc (own := [("a", 6)]) (fun _ => rfl) (fun _ => sc__law_map_named.nd) (ri_seq (rv 3)) (blk1 (N := ["pool", "places", "roads", "wished", "names", "told", "a", "b"]) (sc0 := defScope s__law_map_named) (by decide +kernel)) (rgon 6 (fun _ => sc__law_map_named.nd)) (rts_nil) (re_ix (rv 4) (rv 6))) (ra_nil))) (ra_nil))) (ra_nil))) (ra_nil))))) (ra_cons (rv 4) (ra_nil)))))))
theorem sc__law_map_some_wished : FnScope ["pool", "places", "roads", "way", "last", "road", "a"] ["pool", "places", "roads"] (defScope s__law_map_some_wished) := ⟨rfl, rfl, rfl, by decide +kernel, rfl, by decide +kernel, by decide +kernel⟩
theorem ok__law_map_some_wished (T : Tops K mg) : FnG P w K mg base CX0 2 T.d__law_map_some_wished.1.1 T.d__law_map_some_wished.1.2 ["pool", "places", "roads"] (spM P w K m__law_map_some_wished) := by
  have G__law_draw := ok__law_draw (P := P) (w := w) (base := base) T
  refine fnG (b := b__law_map_some_wished) T.d__law_map_some_wished.2.fn sc__law_map_some_wished rfl rfl (fun cdv A outer s H hr => ?_)
  exact rss_cons (rs_asg (re_tup (ra_cons (re_call G__law_draw T.d__law_draw.2 (fun _ => hr.mono (by decide)) (by exact fun _ => rfl) (ra_cons (rv 0) (ra_cons (re_int) (ra_nil)))) (ra_cons (re_lc (own := [("a", 6)]) (fun _ => rfl) (fun _ => sc__law_map_some_wished.nd) (ri_range1 (by exact fun _ => rfl) T.n_range (ra_cons (rv 1) (ra_nil))) (blk1 (N := ["pool", "places", "roads", "way", "last", "road", "a"]) (sc0 := defScope s__law_map_some_wished) (by decide +kernel)) (rgon 6 (fun _ => sc__law_map_some_wished.nd)) (rts_one (rt_cmp (opm_eq (fun _ => (hr.mono (Nat.zero_le _)).rm)) (re_lc (own := [("road", 5)]) (fun _ => rfl) (fun _ => sc__law_map_some_wished.nd) (ri_seq (rv 2)) (blk2 (N := ["pool", "places", "roads", "way", "last", "road", "a"]) (sc0 := defScope s__law_map_some_wished) (by decide +kernel)) (rgon 5 (fun _ => sc__law_map_some_wished.nd)) (rts_one (rt_cmp (opm_eq (fun _ => (hr.mono (Nat.zero_le _)).rm)) (re_ix (rv 5) (re_int)) (rv 6) (nomark _))) (rv 5)) (re_lst (ra_nil)) (nomark _))) (rv 6)) (ra_nil)))) (rg_unp (n := 2) (fun _ => rfl) (rgs_cons (rgn 3 (fun _ => sc__law_map_some_wished.nd)) (rgs_cons (rgn 4 (fun _ => sc__law_map_some_wished.nd)) (rgs_nil))) rfl)) (rss_cons (rs_if (rt_cmp (opm_lt (fun _ => (hr.mono (Nat.zero_le _)).rm)) (rv 3) (re_int) (nomark _)) (rss_one (rs_ret (re_op opm_add (rv 4) (re_lc (own := [("a", 6)]) (fun _ => rfl) (fun _ => sc__law_map_some_wished.nd) (ri_range1 (by exact fun _ => rfl) T.n_range (ra_cons (rv 1) (ra_nil))) (blk1 (N := ["pool", "places", "roads", "way", "last", "road", "a"]) (sc0 := defScope s__law_map_some_wished) (by decide +kernel)) (rgon 6 (fun _ => sc__law_map_some_wished.nd)) (rts_one ((rw_and (rt_cmp (opm_notin (fun _ => (hr.mono (Nat.zero_le _)).rm)) (rv 6) (rv 4) rfl) (rw_and (rt_cmp (opm_gt (fun _ => (hr.mono (Nat.zero_le _)).rm)) (rv 3) (re_int) (nomark _)) (rw_and1 (rt_cmp (opm_eq (fun _ => (hr.mono (Nat.zero_le _)).rm)) (re_call G__law_draw T.d__law_draw.2 (fun _ => hr.mono (by decide)) (by exact fun _ => rfl) (ra_cons (rv 0) (ra_cons (re_int) (ra_nil)))) (re_int) (nomark _))))).rt)) (rv 6))))) (rss_nil)) (rss_cons (rs_if (rt_cmp (opm_lt (fun _ => (hr.mono (Nat.zero_le _)).rm)) (rv 3) (re_int) (nomark _)) (rss_one (rs_ret (re_lc (own := [("a", 6)]) (fun _ => rfl) (fun _ => sc__law_map_some_wished.nd) (ri_range1 (by exact fun _ => rfl) T.n_range (ra_cons (rv 1) (ra_nil))) (blk1 (N := ["pool", "places", "roads", "way", "last", "road", "a"]) (sc0 := defScope s__law_map_some_wished) (by decide +kernel)) (rgon 6 (fun _ => sc__law_map_some_wished.nd)) (rts_one (rt_cmp (opm_eq (fun _ => (hr.mono (Nat.zero_le _)).rm)) (re_call G__law_draw T.d__law_draw.2 (fun _ => hr.mono (by decide)) (by exact fun _ => rfl) (ra_cons (rv 0) (ra_cons (re_op opm_sub (rv 3) (re_int)) (ra_nil)))) (re_int) (nomark _))) (rv 6)))) (rss_nil)) (rss_one (rs_ret (re_ite (rt_cmp (opm_gt (fun _ => (hr.mono (Nat.zero_le _)).rm)) (re_call G__law_draw T.d__law_draw.2 (fun _ => hr.mono (by decide)) (by exact fun _ => rfl) (ra_cons (rv 0) (ra_cons (re_int) (ra_nil)))) (re_int) (nomark _)) (re_lst (ra_nil)) (re_lstR (fun _ => rfl) T.n_list T.n_range (rv 1)))))))
theorem sc__law_map_drawn : FnScope ["pool", "most", "places", "way", "roads", "turn", "a", "b", "ahead", "size"] ["pool", "most"] (defScope s__law_map_drawn) := ⟨rfl, rfl, rfl, by decide +kernel, rfl, by decide +kernel, by decide +kernel⟩
theorem ok__law_map_drawn (T : Tops K mg) : FnG P w K mg base CX0 4 T.d__law_map_drawn.1.1 T.d__law_map_drawn.1.2 ["pool", "most"] (spM P w K m__law_map_drawn) := by
  have G__law_draw := ok__law_draw (P := P) (w := w) (base := base) T
  have G__law_map_some_wished := ok__law_map_some_wished (P := P) (w := w) (base := base) T
  have G__law_map_named := ok__law_map_named (P := P) (w := w) (base := base) T
  refine fnG (b := b__law_map_drawn) T.d__law_map_drawn.2.fn sc__law_map_drawn rfl rfl (fun cdv A outer s H hr => ?_)
  exact rss_cons (rset 2 (re_call G__law_draw T.d__law_draw.2 (fun _ => hr.mono (by decide)) (by exact fun _ => rfl) (ra_cons (rv 0) (ra_cons (re_op opm_add (rv 1) (re_int)) (ra_nil)))) (fun _ => sc__law_map_drawn.nd)) (rss_cons (rs_if (rt_cmp (opm_eq (fun _ => (hr.mono (Nat.zero_le _)).rm)) (rv 2) (re_int) (nomark _)) (rss_one (rs_ret (re_tup (ra_cons (re_int) (ra_cons (re_tup (ra_nil)) (ra_cons (re_tup (ra_nil)) (ra_nil))))))) (rss_nil)) (rss_cons (rs_par (i := 3) (j := 4) (fun _ => rfl) (fun _ => sc__law_map_drawn.nd) (fun _ => rfl) (fun _ => rfl) (by decide) (fun _ => rfl) (fun _ => rfl) (ra_cons (re_call G__law_draw T.d__law_draw.2 (fun _ => hr.mono (by decide)) (by exact fun _ => rfl) (ra_cons (rv 0) (ra_cons (re_int) (ra_nil)))) (ra_cons (re_lst (ra_nil)) (ra_nil))) (fun _ => rfl)) (rss_cons (rs_for (fun _ => PassesOwn.never) (fun _ => rfl) (ri_range1 (by exact fun _ => rfl) T.n_range (ra_cons (re_call G__law_draw T.d__law_draw.2 (fun _ => hr.mono (by decide)) (by exact fun _ => rfl) (ra_cons (rv 0) (ra_cons (re_op opm_add (re_op opm_mul (re_int) (rv 2)) (re_int)) (ra_nil)))) (ra_nil))) (rgn 5 (fun _ => sc__law_map_drawn.nd)) (rss_cons (rs_par (i := 6) (j := 7) (fun _ => rfl) (fun _ => sc__law_map_drawn.nd) (fun _ => rfl) (fun _ => rfl) (by decide) (fun _ => rfl) (fun _ => rfl) (ra_cons (re_call G__law_draw T.d__law_draw.2 (fun _ => hr.mono (by decide)) (by exact fun _ => rfl) (ra_cons (rv 0) (ra_cons (rv 2) (ra_nil)))) (ra_cons (re_call G__law_draw T.d__law_draw.2 (fun _ => hr.mono (by decide)) (by exact fun _ => rfl) (ra_cons (rv 0) (ra_cons (rv 2) (ra_nil)))) (ra_nil))) (fun _ => rfl)) (rss_cons (rset 8 (re_or (re_cmp (opm_eq (fun _ => (hr.mono (Nat.zero_le _)).rm)) (rv 3) (re_int) (nomark _)) (re_one (re_and (re_cmp (opm_gt (fun _ => (hr.mono (Nat.zero_le _)).rm)) (rv 3) (re_int) (nomark _)) (re_one (re_cmp (opm_gt (fun _ => (hr.mono (Nat.zero_le _)).rm)) (re_call G__law_draw T.d__law_draw.2 (fun _ => hr.mono (by decide)) (by exact fun _ => rfl) (ra_cons (rv 0) (ra_cons (re_int) (ra_nil)))) (re_int) (nomark _)))))) (fun _ => sc__law_map_drawn.nd)) (rss_one (rs_expr (re_lm PySem.F.plainAttrs_list PySem.F.slot_list_append PySem.F.type_list_append mm_append (rv 4) (ra_cons (re_ite (rt_tru (rv 8)) (re_tup (ra_cons (re_callB (cm_min2 (fun _ => rfl)) (by exact fun _ => rfl) T.n_min (by decide +kernel) (ra_cons (rv 6) (ra_cons (rv 7) (ra_nil)))) (ra_cons (re_callB (cm_max2 (fun _ => rfl)) (by exact fun _ => rfl) T.n_max (by decide +kernel) (ra_cons (rv 6) (ra_cons (rv 7) (ra_nil)))) (ra_nil)))) (re_tup (ra_cons (rv 6) (ra_cons (rv 7) (ra_nil))))) (ra_nil)))))))) (rss_cons (rs_if (rt_cmp (opm_eq (fun _ => (hr.mono (Nat.zero_le _)).rm)) (rv 3) (re_int) (nomark _)) (rss_cons (rset 9 (re_op opm_add (re_int) (re_call G__law_draw T.d__law_draw.2 (fun _ => hr.mono (by decide)) (by exact fun _ => rfl) (ra_cons (rv 0) (ra_cons (re_int) (ra_nil))))) (fun _ => sc__law_map_drawn.nd)) (rss_one (rset 4 (re_op opm_add (rv 4) (re_lc (own := [("a", 6)]) (fun _ => rfl) (fun _ => sc__law_map_drawn.nd) (ri_range1 (by exact fun _ => rfl) T.n_range (ra_cons (re_op opm_sub (rv 2) (re_int)) (ra_nil))) (blk1 (N := ["pool", "most", "places", "way", "roads", "turn", "a", "b", "ahead", "size"]) (sc0 := defScope s__law_map_drawn) (by decide +kernel)) (rgon 6 (fun _ => sc__law_map_drawn.nd)) (rts_nil) (re_tup (ra_cons (rv 6) (ra_cons (re_ite ((rw_and (rt_cmp (opm_gt (fun _ => (hr.mono (Nat.zero_le _)).rm)) (re_op opm_mod (re_callTy (cm_int) (by exact fun _ => rfl) T.n_int (by decide +kernel) (ra_cons (re_op opm_add (rv 6) (re_int)) (ra_nil))) (rv 9)) (re_int) (nomark _)) (rw_and1 (rt_cmp (opm_lt (fun _ => (hr.mono (Nat.zero_le _)).rm)) (re_op opm_add (rv 6) (re_int)) (rv 2) (nomark _)))).rt) (re_op opm_add (rv 6) (re_int)) (re_op opm_mul (re_op opm_div (rv 6) (rv 9)) (rv 9))) (ra_nil)))))) (fun _ => sc__law_map_drawn.nd)))) (rss_nil)) (rss_one (rs_ret (re_ix (re_call G__law_map_named T.d__law_map_named.2 (fun _ => hr.mono (by decide)) (by exact fun _ => rfl) (ra_cons (rv 0) (ra_cons (rv 2) (ra_cons (rv 4) (ra_cons (re_call G__law_map_some_wished T.d__law_map_some_wished.2 (fun _ => hr.mono (by decide)) (by exact fun _ => rfl) (ra_cons (rv 0) (ra_cons (rv 2) (ra_cons (rv 4) (ra_nil))))) (ra_nil)))))) (re_int))))))))
theorem sc__law_call : FnScope ["way", "chart", "a", "b"] ["way", "chart", "a", "b"] (defScope s__law_call) := ⟨rfl, rfl, rfl, by decide +kernel, rfl, by decide +kernel, by decide +kernel⟩
theorem ok__law_call (T : Tops K mg) : FnG P w K mg base (L2.CX P w) 8 T.d__law_call.1.1 T.d__law_call.1.2 ["way", "chart", "a", "b"] (spE P w K T.ers.cl m__law_call) := by
  have G_with_road := ok_with_road (P := P) (w := w) (base := base) T
  have G_without_road := ok_without_road (P := P) (w := w) (base := base) T
  have G_with_wish := ok_with_wish (P := P) (w := w) (base := base) T
  have G_without_wish := ok_without_wish (P := P) (w := w) (base := base) T
  refine fnE (b := b__law_call) T.d__law_call.2.fn sc__law_call rfl rfl (fun cdv A outer s H E hr => ?_)
  exact rss_cons (rs_if (rt_cmp (opm_eq (fun _ => (hr.mono (Nat.zero_le _)).rm)) (rv 0) (re_int) (nomark _)) (rss_one (rs_ret (re_callE G_with_road T.d_with_road.2 tkB (fun _ => hr.mono (by decide)) (by exact fun _ => rfl) (ra_cons (rv 1) (ra_cons (rv 2) (ra_cons (rv 3) (ra_nil))))))) (rss_nil)) (rss_cons (rs_if (rt_cmp (opm_eq (fun _ => (hr.mono (Nat.zero_le _)).rm)) (rv 0) (re_int) (nomark _)) (rss_one (rs_ret (re_callE G_without_road T.d_without_road.2 tkB (fun _ => hr.mono (by decide)) (by exact fun _ => rfl) (ra_cons (rv 1) (ra_cons (rv 2) (ra_cons (rv 3) (ra_nil))))))) (rss_nil)) (rss_one (rs_ret (re_ite (rt_cmp (opm_eq (fun _ => (hr.mono (Nat.zero_le _)).rm)) (rv 0) (re_int) (nomark _)) (re_callE G_with_wish T.d_with_wish.2 tkB (fun _ => hr.mono (by decide)) (by exact fun _ => rfl) (ra_cons (rv 1) (ra_cons (rv 2) (ra_nil)))) (re_callE G_without_wish T.d_without_wish.2 tkB (fun _ => hr.mono (by decide)) (by exact fun _ => rfl) (ra_cons (rv 1) (ra_cons (rv 2) (ra_nil))))))))
theorem sc__law_heard : FnScope ["way", "chart", "a", "b", "error", "found"] ["way", "chart", "a", "b"] (defScope s__law_heard) := ⟨rfl, rfl, rfl, by decide +kernel, rfl, by decide +kernel, by decide +kernel⟩
theorem ok__law_heard (T : Tops K mg) : FnG P w K mg base CX0 9 T.d__law_heard.1.1 T.d__law_heard.1.2 ["way", "chart", "a", "b"] (spM P w K m__law_heard) := by
  have G__law_call := ok__law_call (P := P) (w := w) (base := base) T
  refine fnG (b := b__law_heard) T.d__law_heard.2.fn sc__law_heard rfl rfl (fun cdv A outer s H hr => ?_)
  exact rss_cons (rs_try (fun _ => rfl) (fun _ => rfl) tkN (fun Wl => by exact (rss_one (rs_ret (re_tup (ra_cons (re_str) (ra_cons (re_callE G__law_call T.d__law_call.2 tkT (fun _ => hr.mono (by decide)) (by exact fun _ => rfl) (ra_cons (rv 0) (ra_cons (rv 1) (ra_cons (rv 2) (ra_cons (rv 3) (ra_nil)))))) (ra_nil))))))) (rh_named (k := 4) (fun _ => sc__law_heard.nd) (fun _ => rfl) (fun _ => rfl) (fun _ => ⟨rfl, by decide, .inl T.g_BadPlace⟩) T.x_BadPlace (rsu_set (i := 5) (rx_tup (rps_cons (rp_str) (rps_cons (rp_what (fun _ => rfl) (by first | exact (fun _ => .inl rfl) | exact (fun _ => .inr (.inl rfl)) | exact (fun _ => .inr (.inr rfl))) T.ers.ec) (rps_cons (rp_isinst (fun _ => rfl) (by first | exact (fun _ => .inl rfl) | exact (fun _ => .inr (.inl rfl)) | exact (fun _ => .inr (.inr rfl))) T.ers.ec (by exact fun _ => rfl) T.n_isinstance (by exact fun _ => rfl) T.g_Refused T.y_Refused) (rps_nil))))) (fun _ => sc__law_heard.nd) (fun _ => rfl) (by first | exact (fun _ => .inl rfl) | exact (fun _ => .inr rfl))) (rh_named (k := 4) (fun _ => sc__law_heard.nd) (fun _ => rfl) (fun _ => rfl) (fun _ => ⟨rfl, by decide, .inl T.g_Twice⟩) T.x_Twice (rsu_set (i := 5) (rx_tup (rps_cons (rp_str) (rps_cons (rp_what (fun _ => rfl) (by first | exact (fun _ => .inl rfl) | exact (fun _ => .inr (.inl rfl)) | exact (fun _ => .inr (.inr rfl))) T.ers.ec) (rps_cons (rp_isinst (fun _ => rfl) (by first | exact (fun _ => .inl rfl) | exact (fun _ => .inr (.inl rfl)) | exact (fun _ => .inr (.inr rfl))) T.ers.ec (by exact fun _ => rfl) T.n_isinstance (by exact fun _ => rfl) T.g_Refused T.y_Refused) (rps_nil))))) (fun _ => sc__law_heard.nd) (fun _ => rfl) (by first | exact (fun _ => .inl rfl) | exact (fun _ => .inr rfl))) (rh_named (k := 4) (fun _ => sc__law_heard.nd) (fun _ => rfl) (fun _ => rfl) (fun _ => ⟨rfl, by decide, .inl T.g_NoRoad⟩) T.x_NoRoad (rsu_set (i := 5) (rx_tup (rps_cons (rp_str) (rps_cons (rp_what (fun _ => rfl) (by first | exact (fun _ => .inl rfl) | exact (fun _ => .inr (.inl rfl)) | exact (fun _ => .inr (.inr rfl))) T.ers.ec) (rps_cons (rp_isinst (fun _ => rfl) (by first | exact (fun _ => .inl rfl) | exact (fun _ => .inr (.inl rfl)) | exact (fun _ => .inr (.inr rfl))) T.ers.ec (by exact fun _ => rfl) T.n_isinstance (by exact fun _ => rfl) T.g_Refused T.y_Refused) (rps_nil))))) (fun _ => sc__law_heard.nd) (fun _ => rfl) (by first | exact (fun _ => .inl rfl) | exact (fun _ => .inr rfl))) (rh_named (k := 4) (fun _ => sc__law_heard.nd) (fun _ => rfl) (fun _ => rfl) (fun _ => ⟨rfl, by decide, .inl T.g_NotWished⟩) T.x_NotWished (rsu_set (i := 5) (rx_tup (rps_cons (rp_str) (rps_cons (rp_what (fun _ => rfl) (by first | exact (fun _ => .inl rfl) | exact (fun _ => .inr (.inl rfl)) | exact (fun _ => .inr (.inr rfl))) T.ers.ec) (rps_cons (rp_isinst (fun _ => rfl) (by first | exact (fun _ => .inl rfl) | exact (fun _ => .inr (.inl rfl)) | exact (fun _ => .inr (.inr rfl))) T.ers.ec (by exact fun _ => rfl) T.n_isinstance (by exact fun _ => rfl) T.g_Refused T.y_Refused) (rps_nil))))) (fun _ => sc__law_heard.nd) (fun _ => rfl) (by first | exact (fun _ => .inl rfl) | exact (fun _ => .inr rfl))) (rh_named (k := 4) (fun _ => sc__law_heard.nd) (fun _ => rfl) (fun _ => rfl) (fun _ => ⟨rfl, by decide, .inl T.g_TooMany⟩) T.x_TooMany (rsu_set (i := 5) (rx_tup (rps_cons (rp_str) (rps_cons (rp_what (fun _ => rfl) (by first | exact (fun _ => .inl rfl) | exact (fun _ => .inr (.inl rfl)) | exact (fun _ => .inr (.inr rfl))) T.ers.ec) (rps_cons (rp_isinst (fun _ => rfl) (by first | exact (fun _ => .inl rfl) | exact (fun _ => .inr (.inl rfl)) | exact (fun _ => .inr (.inr rfl))) T.ers.ec (by exact fun _ => rfl) T.n_isinstance (by exact fun _ => rfl) T.g_Refused T.y_Refused) (rps_nil))))) (fun _ => sc__law_heard.nd) (fun _ => rfl) (by first | exact (fun _ => .inl rfl) | exact (fun _ => .inr rfl))) (rh_plain (fun _ => ⟨rfl, by decide, .inl T.g_Refused⟩) T.x_Refused (rsu_of (rss_one (rset 5 (re_tup (ra_cons (re_str) (ra_cons (re_int) (ra_cons (re_bl) (ra_nil))))) (fun _ => sc__law_heard.nd)))) (rh_nil)))))))) (rss_one (rs_ret (rv 5)))
theorem sc__law_is_place : FnScope ["chart", "a"] ["chart", "a"] (defScope s__law_is_place) := ⟨rfl, rfl, rfl, by decide +kernel, rfl, by decide +kernel, by decide +kernel⟩
theorem ok__law_is_place (T : Tops K mg) : FnG P w K mg base CX0 1 T.d__law_is_place.1.1 T.d__law_is_place.1.2 ["chart", "a"] (spM P w K m__law_is_place) := by
  refine fnG (b := b__law_is_place) T.d__law_is_place.2.fn sc__law_is_place rfl rfl (fun cdv A outer s H hr => ?_)
  exact rss_one (rs_ret (re_and (re_callB (cm_isa) (by exact fun _ => rfl) T.n_isinstance (by decide +kernel) (ra_cons (rv 1) (ra_cons (rty (n := "int") T.n_int) (ra_nil)))) (re_and (re_not (re_callB (cm_isa) (by exact fun _ => rfl) T.n_isinstance (by decide +kernel) (ra_cons (rv 1) (ra_cons (rty (n := "bool") T.n_bool) (ra_nil))))) (re_one (re_chain (opm_le (fun _ => (hr.mono (Nat.zero_le _)).rm)) (opm_lt (fun _ => (hr.mono (Nat.zero_le _)).rm)) (re_int) (rv 1) (re_ix (rv 0) (re_int)))))))
theorem sc__law_due : FnScope ["way", "chart", "a", "b", "places", "roads", "wished", "thing", "before", "longer", "lesser", "road", "c"] ["way", "chart", "a", "b"] (defScope s__law_due) := ⟨rfl, rfl, rfl, by decide +kernel, rfl, by decide +kernel, by decide +kernel⟩
theorem ok__law_due (T : Tops K mg) : FnG P w K mg base CX0 2 T.d__law_due.1.1 T.d__law_due.1.2 ["way", "chart", "a", "b"] (spM P w K m__law_due) := by
  have G__law_is_place := ok__law_is_place (P := P) (w := w) (base := base) T
  refine fnG (b := b__law_due) T.d__law_due.2.fn sc__law_due rfl rfl (fun cdv A outer s H hr => ?_)
  exact rss_cons (rs_asg (rv 1) (rg_unp (n := 3) (fun _ => rfl) (rgs_cons (rgn 4 (fun _ => sc__law_due.nd)) (rgs_cons (rgn 5 (fun _ => sc__law_due.nd)) (rgs_cons (rgn 6 (fun _ => sc__law_due.nd)) (rgs_nil)))) rfl)) (rss_cons (rs_for (fun _ => PassesOwn.never) (fun _ => rfl) (ri_seq (re_ite (rt_cmp (opm_lt (fun _ => (hr.mono (Nat.zero_le _)).rm)) (rv 0) (re_int) (nomark _)) (re_lst (ra_cons (rv 2) (ra_cons (rv 3) (ra_nil)))) (re_lst (ra_cons (rv 2) (ra_nil))))) (rgn 7 (fun _ => sc__law_due.nd)) (rss_one (rs_if (rt_not (rt_tru (re_call G__law_is_place T.d__law_is_place.2 (fun _ => hr.mono (by decide)) (by exact fun _ => rfl) (ra_cons (rv 1) (ra_cons (rv 7) (ra_nil)))))) (rss_one (rs_ret (re_tup (ra_cons (re_str) (ra_cons (rv 7) (ra_cons (re_bl) (ra_nil))))))) (rss_nil)))) (rss_cons (rs_if ((rw_and (rt_cmp (opm_eq (fun _ => (hr.mono (Nat.zero_le _)).rm)) (rv 0) (re_int) (nomark _)) (rw_and1 (rt_cmp (opm_notin (fun _ => (hr.mono (Nat.zero_le _)).rm)) (re_tup (ra_cons (rv 2) (ra_cons (rv 3) (ra_nil)))) (rv 5) rfl))).rt) (rss_cons (rs_setLc (i := 8) (own := [("road", 11)]) (fun _ => rfl) (fun _ => sc__law_due.nd) (fun _ => rfl) (fun _ => rfl) (fun _ => sw_true rfl rfl rfl (by decide +kernel)) (ri_seq (rv 5)) (blk1 (N := ["way", "chart", "a", "b", "places", "roads", "wished", "thing", "before", "longer", "lesser", "road", "c"]) (sc0 := defScope s__law_due) (by decide +kernel)) (rgon 11 (fun _ => sc__law_due.nd)) (rts_one (rt_cmp (opm_lt (fun _ => (hr.mono (Nat.zero_le _)).rm)) (rv 11) (re_tup (ra_cons (rv 2) (ra_cons (rv 3) (ra_nil)))) (nomark _))) (rv 11)) (rss_cons (rset 9 (re_op opm_add (re_op opm_add (rv 8) (re_lst (ra_cons (re_tup (ra_cons (rv 2) (ra_cons (rv 3) (ra_nil)))) (ra_nil)))) (re_lc (own := [("road", 11)]) (fun _ => rfl) (fun _ => sc__law_due.nd) (ri_seq (rv 5)) (blk1 (N := ["way", "chart", "a", "b", "places", "roads", "wished", "thing", "before", "longer", "lesser", "road", "c"]) (sc0 := defScope s__law_due) (by decide +kernel)) (rgon 11 (fun _ => sc__law_due.nd)) (rts_one (rt_cmp (opm_gt (fun _ => (hr.mono (Nat.zero_le _)).rm)) (rv 11) (re_tup (ra_cons (rv 2) (ra_cons (rv 3) (ra_nil)))) (nomark _))) (rv 11))) (fun _ => sc__law_due.nd)) (rss_one (rs_ret (re_ite (rt_cmp (opm_eq (fun _ => (hr.mono (Nat.zero_le _)).rm)) (re_callB (cm_len) (by exact fun _ => rfl) T.n_len (by decide +kernel) (ra_cons (rv 5) (ra_nil))) (re_int) (nomark _)) (re_tup (ra_cons (re_str) (ra_cons (re_int) (ra_cons (re_bl) (ra_nil))))) (re_tup (ra_cons (re_str) (ra_cons (re_tup (ra_cons (rv 4) (ra_cons (re_callTy (cm_tuple) (by exact fun _ => rfl) T.n_tuple (by decide +kernel) (ra_cons (rv 9) (ra_nil))) (ra_cons (rv 6) (ra_nil))))) (ra_nil))))))))) (rss_nil)) (rss_cons (rs_if ((rw_and (rt_cmp (opm_eq (fun _ => (hr.mono (Nat.zero_le _)).rm)) (rv 0) (re_int) (nomark _)) (rw_and1 (rt_cmp (opm_in (fun _ => (hr.mono (Nat.zero_le _)).rm)) (re_tup (ra_cons (rv 2) (ra_cons (rv 3) (ra_nil)))) (rv 5) rfl))).rt) (rss_one (rs_ret (re_tup (ra_cons (re_str) (ra_cons (re_tup (ra_cons (rv 4) (ra_cons (re_callTy (cm_tuple) (by exact fun _ => rfl) T.n_tuple (by decide +kernel) (ra_cons (re_lc (own := [("road", 11)]) (fun _ => rfl) (fun _ => sc__law_due.nd) (ri_seq (rv 5)) (blk1 (N := ["way", "chart", "a", "b", "places", "roads", "wished", "thing", "before", "longer", "lesser", "road", "c"]) (sc0 := defScope s__law_due) (by decide +kernel)) (rgon 11 (fun _ => sc__law_due.nd)) (rts_one (rt_cmp (opm_ne (fun _ => (hr.mono (Nat.zero_le _)).rm)) (rv 11) (re_tup (ra_cons (rv 2) (ra_cons (rv 3) (ra_nil)))) (nomark _))) (rv 11)) (ra_nil))) (ra_cons (rv 6) (ra_nil))))) (ra_nil)))))) (rss_nil)) (rss_cons (rs_if ((rw_and (rt_cmp (opm_eq (fun _ => (hr.mono (Nat.zero_le _)).rm)) (rv 0) (re_int) (nomark _)) (rw_and1 (rt_cmp (opm_notin (fun _ => (hr.mono (Nat.zero_le _)).rm)) (rv 2) (rv 6) rfl))).rt) (rss_cons (rs_setLc (i := 10) (own := [("c", 12)]) (fun _ => rfl) (fun _ => sc__law_due.nd) (fun _ => rfl) (fun _ => rfl) (fun _ => sw_true rfl rfl rfl (by decide +kernel)) (ri_seq (rv 6)) (blk1 (N := ["way", "chart", "a", "b", "places", "roads", "wished", "thing", "before", "longer", "lesser", "road", "c"]) (sc0 := defScope s__law_due) (by decide +kernel)) (rgon 12 (fun _ => sc__law_due.nd)) (rts_one (rt_cmp (opm_lt (fun _ => (hr.mono (Nat.zero_le _)).rm)) (rv 12) (rv 2) (nomark _))) (rv 12)) (rss_one (rs_ret (re_tup (ra_cons (re_str) (ra_cons (re_tup (ra_cons (rv 4) (ra_cons (rv 5) (ra_cons (re_callTy (cm_tuple) (by exact fun _ => rfl) T.n_tuple (by decide +kernel) (ra_cons (re_op opm_add (re_op opm_add (rv 10) (re_lst (ra_cons (rv 2) (ra_nil)))) (re_lc (own := [("c", 12)]) (fun _ => rfl) (fun _ => sc__law_due.nd) (ri_seq (rv 6)) (blk1 (N := ["way", "chart", "a", "b", "places", "roads", "wished", "thing", "before", "longer", "lesser", "road", "c"]) (sc0 := defScope s__law_due) (by decide +kernel)) (rgon 12 (fun _ => sc__law_due.nd)) (rts_one (rt_cmp (opm_gt (fun _ => (hr.mono (Nat.zero_le _)).rm)) (rv 12) (rv 2) (nomark _))) (rv 12))) (ra_nil))) (ra_nil))))) (ra_nil))))))) (rss_nil)) (rss_cons (rs_if ((rw_and (rt_cmp (opm_eq (fun _ => (hr.mono (Nat.zero_le _)).rm)) (rv 0) (re_int) (nomark _)) (rw_and1 (rt_cmp (opm_in (fun _ => (hr.mono (Nat.zero_le _)).rm)) (rv 2) (rv 6) rfl))).rt) (rss_one (rs_ret (re_tup (ra_cons (re_str) (ra_cons (re_tup (ra_cons (rv 4) (ra_cons (rv 5) (ra_cons (re_callTy (cm_tuple) (by exact fun _ => rfl) T.n_tuple (by decide +kernel) (ra_cons (re_lc (own := [("c", 12)]) (fun _ => rfl) (fun _ => sc__law_due.nd) (ri_seq (rv 6)) (blk1 (N := ["way", "chart", "a", "b", "places", "roads", "wished", "thing", "before", "longer", "lesser", "road", "c"]) (sc0 := defScope s__law_due) (by decide +kernel)) (rgon 12 (fun _ => sc__law_due.nd)) (rts_one (rt_cmp (opm_ne (fun _ => (hr.mono (Nat.zero_le _)).rm)) (rv 12) (rv 2) (nomark _))) (rv 12)) (ra_nil))) (ra_nil))))) (ra_nil)))))) (rss_nil)) (rss_one (rs_ret (re_ix (re_lst (ra_cons (re_tup (ra_cons (re_str) (ra_cons (re_int) (ra_cons (re_bl) (ra_nil))))) (ra_cons (re_tup (ra_cons (re_str) (ra_cons (re_int) (ra_cons (re_bl) (ra_nil))))) (ra_cons (re_tup (ra_cons (re_str) (ra_cons (re_int) (ra_cons (re_bl) (ra_nil))))) (ra_cons (re_tup (ra_cons (re_str) (ra_cons (re_int) (ra_cons (re_bl) (ra_nil))))) (ra_nil)))))) (rv 0)))))))))
theorem sc__law_thing : FnScope ["pool", "chart", "known", "way"] ["pool", "chart", "known"] (defScope s__law_thing) := ⟨rfl, rfl, rfl, by decide +kernel, rfl, by decide +kernel, by decide +kernel⟩
theorem ok__law_thing (T : Tops K mg) : FnG P w K mg base CX0 3 T.d__law_thing.1.1 T.d__law_thing.1.2 ["pool", "chart", "known"] (spM P w K m__law_thing) := by
  have G__law_draw := ok__law_draw (P := P) (w := w) (base := base) T
  have G__law_pick := ok__law_pick (P := P) (w := w) (base := base) T
  refine fnG (b := b__law_thing) T.d__law_thing.2.fn sc__law_thing rfl rfl (fun cdv A outer s H hr => ?_)
  exact rss_cons (rset 3 (re_call G__law_draw T.d__law_draw.2 (fun _ => hr.mono (by decide)) (by exact fun _ => rfl) (ra_cons (rv 0) (ra_cons (re_int) (ra_nil)))) (fun _ => sc__law_thing.nd)) (rss_cons (rs_if (rt_cmp (opm_eq (fun _ => (hr.mono (Nat.zero_le _)).rm)) (rv 3) (re_int) (nomark _)) (rss_one (rs_ret (re_call G__law_pick T.d__law_pick.2 (fun _ => hr.mono (by decide)) (by exact fun _ => rfl) (ra_cons (rv 0) (ra_cons (re_lst (ra_cons (re_neg (re_int)) (ra_cons (re_ix (rv 1) (re_int)) (ra_cons (re_bl) (ra_cons (re_bl) (ra_cons (re_non) (ra_cons (re_str) (ra_cons (re_tup (ra_cons (re_int) (ra_nil))) (ra_cons (re_op opm_pow (re_int) (re_int)) (ra_nil)))))))))) (ra_nil)))))) (rss_nil)) (rss_one (rs_ret (re_ite ((rw_or (rt_cmp (opm_lt (fun _ => (hr.mono (Nat.zero_le _)).rm)) (rv 3) (re_int) (nomark _)) (rw_or1 (rt_cmp (opm_eq (fun _ => (hr.mono (Nat.zero_le _)).rm)) (re_ix (rv 1) (re_int)) (re_int) (nomark _)))).rt) (rv 2) (re_call G__law_draw T.d__law_draw.2 (fun _ => hr.mono (by decide)) (by exact fun _ => rfl) (ra_cons (rv 0) (ra_cons (re_ix (rv 1) (re_int)) (ra_nil))))))))
theorem sc_law : FnScope ["script", "pool", "chart", "turn", "way", "pair", "known", "a", "b", "due", "back", "great", "at"] ["script"] (defScope s_law) := ⟨rfl, rfl, rfl, by decide +kernel, rfl, by decide +kernel, by decide +kernel⟩
theorem ok_law (T : Tops K mg) : FnG P w K mg base CX0 10 T.d_law.1.1 T.d_law.1.2 ["script"] (spM P w K m_law) := by
  have G__law_pool := ok__law_pool (P := P) (w := w) (base := base) T
  have G__law_map_drawn := ok__law_map_drawn (P := P) (w := w) (base := base) T
  have G__law_draw := ok__law_draw (P := P) (w := w) (base := base) T
  have G__law_pick := ok__law_pick (P := P) (w := w) (base := base) T
  have G__law_thing := ok__law_thing (P := P) (w := w) (base := base) T
  have G__law_due := ok__law_due (P := P) (w := w) (base := base) T
  have G__law_heard := ok__law_heard (P := P) (w := w) (base := base) T
  refine fnG (b := b_law) T.d_law.2.fn sc_law rfl rfl (fun cdv A outer s H hr => ?_)
  exact rss_cons (rset 1 (re_call G__law_pool T.d__law_pool.2 (fun _ => hr.mono (by decide)) (by exact fun _ => rfl) (ra_cons (rv 0) (ra_nil))) (fun _ => sc_law.nd)) (rss_cons (rset 2 (re_call G__law_map_drawn T.d__law_map_drawn.2 (fun _ => hr.mono (by decide)) (by exact fun _ => rfl) (ra_cons (rv 1) (ra_cons (re_int) (ra_nil)))) (fun _ => sc_law.nd)) (rss_cons (rs_for (fun _ => PassesOwn.never) (fun _ => rfl) (ri_range1 (by exact fun _ => rfl) T.n_range (ra_cons (re_int) (ra_nil))) (rgn 3 (fun _ => sc_law.nd)) (rss_cons (rset 4 (re_call G__law_draw T.d__law_draw.2 (fun _ => hr.mono (by decide)) (by exact fun _ => rfl) (ra_cons (rv 1) (ra_cons (re_int) (ra_nil)))) (fun _ => sc_law.nd)) (rss_cons (rset 5 (re_ite (rt_cmp (opm_ne (fun _ => (hr.mono (Nat.zero_le _)).rm)) (re_ix (rv 2) (re_int)) (re_tup (ra_nil)) (nomark _)) (re_call G__law_pick T.d__law_pick.2 (fun _ => hr.mono (by decide)) (by exact fun _ => rfl) (ra_cons (rv 1) (ra_cons (re_ix (rv 2) (re_int)) (ra_nil)))) (re_tup (ra_cons (re_int) (ra_cons (re_int) (ra_nil))))) (fun _ => sc_law.nd)) (rss_cons (rset 6 (re_ite ((rw_and (rt_cmp (opm_gt (fun _ => (hr.mono (Nat.zero_le _)).rm)) (rv 4) (re_int) (nomark _)) (rw_and1 (rt_cmp (opm_ne (fun _ => (hr.mono (Nat.zero_le _)).rm)) (re_ix (rv 2) (re_int)) (re_tup (ra_nil)) (nomark _)))).rt) (re_call G__law_pick T.d__law_pick.2 (fun _ => hr.mono (by decide)) (by exact fun _ => rfl) (ra_cons (rv 1) (ra_cons (re_ix (rv 2) (re_int)) (ra_nil)))) (re_ix (rv 5) (re_int))) (fun _ => sc_law.nd)) (rss_cons (rs_par (i := 7) (j := 8) (fun _ => rfl) (fun _ => sc_law.nd) (fun _ => rfl) (fun _ => rfl) (by decide) (fun _ => rfl) (fun _ => rfl) (ra_cons (re_call G__law_thing T.d__law_thing.2 (fun _ => hr.mono (by decide)) (by exact fun _ => rfl) (ra_cons (rv 1) (ra_cons (rv 2) (ra_cons (rv 6) (ra_nil))))) (ra_cons (re_call G__law_thing T.d__law_thing.2 (fun _ => hr.mono (by decide)) (by exact fun _ => rfl) (ra_cons (rv 1) (ra_cons (rv 2) (ra_cons (re_ix (rv 5) (re_int)) (ra_nil))))) (ra_nil))) (fun _ => rfl)) (rss_cons (rset 9 (re_call G__law_due T.d__law_due.2 (fun _ => hr.mono (by decide)) (by exact fun _ => rfl) (ra_cons (rv 4) (ra_cons (rv 2) (ra_cons (rv 7) (ra_cons (rv 8) (ra_nil)))))) (fun _ => sc_law.nd)) (rss_cons (rs_if (rt_cmp (opm_ne (fun _ => (hr.mono (Nat.zero_le _)).rm)) (re_callB (cm_repr (fun _ => hr.mono (Nat.zero_le _))) (by exact fun _ => rfl) T.n_repr (by decide +kernel) (ra_cons (re_call G__law_heard T.d__law_heard.2 (fun _ => hr.mono (by decide)) (by exact fun _ => rfl) (ra_cons (rv 4) (ra_cons (rv 2) (ra_cons (rv 7) (ra_cons (rv 8) (ra_nil)))))) (ra_nil))) (re_callB (cm_repr (fun _ => hr.mono (Nat.zero_le _))) (by exact fun _ => rfl) T.n_repr (by decide +kernel) (ra_cons (rv 9) (ra_nil))) (nomark _)) (rss_one (rs_ret (re_bl))) (rss_nil)) (rss_one (rs_if (rt_cmp (opm_eq (fun _ => (hr.mono (Nat.zero_le _)).rm)) (re_ix (rv 9) (re_int)) (re_str) (nomark _)) (rss_cons (rset 10 (re_ix (re_lst (ra_cons (re_int) (ra_cons (re_int) (ra_cons (re_int) (ra_cons (re_int) (ra_nil)))))) (rv 4)) (fun _ => sc_law.nd)) (rss_cons (rs_if (rt_cmp (opm_ne (fun _ => (hr.mono (Nat.zero_le _)).rm)) (re_callB (cm_repr (fun _ => hr.mono (Nat.zero_le _))) (by exact fun _ => rfl) T.n_repr (by decide +kernel) (ra_cons (re_call G__law_heard T.d__law_heard.2 (fun _ => hr.mono (by decide)) (by exact fun _ => rfl) (ra_cons (rv 10) (ra_cons (re_ix (rv 9) (re_int)) (ra_cons (rv 7) (ra_cons (rv 8) (ra_nil)))))) (ra_nil))) (re_callB (cm_repr (fun _ => hr.mono (Nat.zero_le _))) (by exact fun _ => rfl) T.n_repr (by decide +kernel) (ra_cons (re_tup (ra_cons (re_str) (ra_cons (rv 2) (ra_nil)))) (ra_nil))) (nomark _)) (rss_one (rs_ret (re_bl))) (rss_nil)) (rss_cons (rs_if (rt_cmp (opm_ne (fun _ => (hr.mono (Nat.zero_le _)).rm)) (re_callB (cm_repr (fun _ => hr.mono (Nat.zero_le _))) (by exact fun _ => rfl) T.n_repr (by decide +kernel) (ra_cons (re_call G__law_heard T.d__law_heard.2 (fun _ => hr.mono (by decide)) (by exact fun _ => rfl) (ra_cons (rv 4) (ra_cons (re_ix (rv 9) (re_int)) (ra_cons (rv 7) (ra_cons (rv 8) (ra_nil)))))) (ra_nil))) (re_callB (cm_repr (fun _ => hr.mono (Nat.zero_le _))) (by exact fun _ => rfl) T.n_repr (by decide +kernel) (ra_cons (re_call G__law_due T.d__law_due.2 (fun _ => hr.mono (by decide)) (by exact fun _ => rfl) (ra_cons (rv 4) (ra_cons (re_ix (rv 9) (re_int)) (ra_cons (rv 7) (ra_cons (rv 8) (ra_nil)))))) (ra_nil))) (nomark _)) (rss_one (rs_ret (re_bl))) (rss_nil)) (rss_one (rset 2 (re_ix (rv 9) (re_int)) (fun _ => sc_law.nd)))))) (rss_nil)))))))))) (rss_cons (rs_if (rt_cmp (opm_eq (fun _ => (hr.mono (Nat.zero_le _)).rm)) (re_call G__law_draw T.d__law_draw.2 (fun _ => hr.mono (by decide)) (by exact fun _ => rfl) (ra_cons (rv 1) (ra_cons (re_int) (ra_nil)))) (re_int) (nomark _)) (rss_cons (rset 11 (re_tup (ra_cons (re_int) (ra_cons (re_callTy (cm_tuple) (by exact fun _ => rfl) T.n_tuple (by decide +kernel) (ra_cons (re_lc (own := [("at", 12)]) (fun _ => rfl) (fun _ => sc_law.nd) (ri_range1 (by exact fun _ => rfl) T.n_range (ra_cons (re_int) (ra_nil))) (blk1 (N := ["script", "pool", "chart", "turn", "way", "pair", "known", "a", "b", "due", "back", "great", "at"]) (sc0 := defScope s_law) (by decide +kernel)) (rgon 12 (fun _ => sc_law.nd)) (rts_nil) (re_tup (ra_cons (re_op opm_div (rv 12) (re_int)) (ra_cons (re_op opm_mod (re_callTy (cm_int) (by exact fun _ => rfl) T.n_int (by decide +kernel) (ra_cons (rv 12) (ra_nil))) (re_int)) (ra_nil))))) (ra_nil))) (ra_cons (re_tup (ra_nil)) (ra_nil))))) (fun _ => sc_law.nd)) (rss_cons (rs_if (rt_cmp (opm_ne (fun _ => (hr.mono (Nat.zero_le _)).rm)) (re_call G__law_heard T.d__law_heard.2 (fun _ => hr.mono (by decide)) (by exact fun _ => rfl) (ra_cons (re_int) (ra_cons (rv 11) (ra_cons (re_int) (ra_cons (re_call G__law_draw T.d__law_draw.2 (fun _ => hr.mono (by decide)) (by exact fun _ => rfl) (ra_cons (rv 1) (ra_cons (re_int) (ra_nil)))) (ra_nil)))))) (re_tup (ra_cons (re_str) (ra_cons (re_int) (ra_cons (re_bl) (ra_nil))))) (nomark _)) (rss_one (rs_ret (re_bl))) (rss_nil)) (rss_one (rs_if (rt_cmp (opm_ne (fun _ => (hr.mono (Nat.zero_le _)).rm)) (re_call G__law_heard T.d__law_heard.2 (fun _ => hr.mono (by decide)) (by exact fun _ => rfl) (ra_cons (re_int) (ra_cons (rv 11) (ra_cons (re_call G__law_draw T.d__law_draw.2 (fun _ => hr.mono (by decide)) (by exact fun _ => rfl) (ra_cons (rv 1) (ra_cons (re_int) (ra_nil)))) (ra_cons (re_call G__law_draw T.d__law_draw.2 (fun _ => hr.mono (by decide)) (by exact fun _ => rfl) (ra_cons (rv 1) (ra_cons (re_int) (ra_nil)))) (ra_nil)))))) (re_tup (ra_cons (re_str) (ra_cons (re_int) (ra_cons (re_bl) (ra_nil))))) (nomark _)) (rss_one (rs_ret (re_bl))) (rss_nil))))) (rss_nil)) (rss_one (rs_ret (re_bl))))))
end
theorem all_mk {l : PySem.W.OpenLaw} {w : World} {K : PySem.W.Frag} {h : Heap} {mg : Str → Option Value} {fa f0 f1 f2 f3 f4 f5 f6 f7 f8 f9 f10 f11 f12 f13 f14 f15 f16 f17 f18 f19 f20 f21 f22 f23 f24 f25 f26 fI C0 C1 C2 C3 C4 C5 C6 C7 : Addr} {tk_MOST_PLACES tk_MOST_ROADS : Tok} (X : K.In h) (G : h.Ns mainGlobals mg) (hfa : mg "law" = some (.ref fa))
    {od0 an0 : Option Addr} {sl0 : Array (Option Value)} {oc0 kV0 dc0 pm0 cd0 ct0 : Value}
    {od1 an1 : Option Addr} {sl1 : Array (Option Value)} {oc1 kV1 dc1 pm1 cd1 ct1 : Value}
    {od2 an2 : Option Addr} {sl2 : Array (Option Value)} {oc2 kV2 dc2 pm2 cd2 ct2 : Value}
    {od3 an3 : Option Addr} {sl3 : Array (Option Value)} {oc3 kV3 dc3 pm3 cd3 ct3 : Value}
    {od4 an4 : Option Addr} {sl4 : Array (Option Value)} {oc4 kV4 dc4 pm4 cd4 ct4 : Value}
    {od5 an5 : Option Addr} {sl5 : Array (Option Value)} {oc5 kV5 dc5 pm5 cd5 ct5 : Value}
    {od6 an6 : Option Addr} {sl6 : Array (Option Value)} {oc6 kV6 dc6 pm6 cd6 ct6 : Value}
    {od7 an7 : Option Addr} {sl7 : Array (Option Value)} {oc7 kV7 dc7 pm7 cd7 ct7 : Value}
    {od8 an8 : Option Addr} {sl8 : Array (Option Value)} {oc8 kV8 dc8 pm8 cd8 ct8 : Value}
    {od9 an9 : Option Addr} {sl9 : Array (Option Value)} {oc9 kV9 dc9 pm9 cd9 ct9 : Value}
    {od10 an10 : Option Addr} {sl10 : Array (Option Value)} {oc10 kV10 dc10 pm10 cd10 ct10 : Value}
    {od11 an11 : Option Addr} {sl11 : Array (Option Value)} {oc11 kV11 dc11 pm11 cd11 ct11 : Value}
    {od12 an12 : Option Addr} {sl12 : Array (Option Value)} {oc12 kV12 dc12 pm12 cd12 ct12 : Value}
    {od13 an13 : Option Addr} {sl13 : Array (Option Value)} {oc13 kV13 dc13 pm13 cd13 ct13 : Value}
    {od14 an14 : Option Addr} {sl14 : Array (Option Value)} {oc14 kV14 dc14 pm14 cd14 ct14 : Value}
    {od15 an15 : Option Addr} {sl15 : Array (Option Value)} {oc15 kV15 dc15 pm15 cd15 ct15 : Value}
    {od16 an16 : Option Addr} {sl16 : Array (Option Value)} {oc16 kV16 dc16 pm16 cd16 ct16 : Value}
    {od17 an17 : Option Addr} {sl17 : Array (Option Value)} {oc17 kV17 dc17 pm17 cd17 ct17 : Value}
    {od18 an18 : Option Addr} {sl18 : Array (Option Value)} {oc18 kV18 dc18 pm18 cd18 ct18 : Value}
    {od19 an19 : Option Addr} {sl19 : Array (Option Value)} {oc19 kV19 dc19 pm19 cd19 ct19 : Value}
    {od20 an20 : Option Addr} {sl20 : Array (Option Value)} {oc20 kV20 dc20 pm20 cd20 ct20 : Value}
    {od21 an21 : Option Addr} {sl21 : Array (Option Value)} {oc21 kV21 dc21 pm21 cd21 ct21 : Value}
    {od22 an22 : Option Addr} {sl22 : Array (Option Value)} {oc22 kV22 dc22 pm22 cd22 ct22 : Value}
    {od23 an23 : Option Addr} {sl23 : Array (Option Value)} {oc23 kV23 dc23 pm23 cd23 ct23 : Value}
    {od24 an24 : Option Addr} {sl24 : Array (Option Value)} {oc24 kV24 dc24 pm24 cd24 ct24 : Value}
    {od25 an25 : Option Addr} {sl25 : Array (Option Value)} {oc25 kV25 dc25 pm25 cd25 ct25 : Value}
    {od26 an26 : Option Addr} {sl26 : Array (Option Value)} {oc26 kV26 dc26 pm26 cd26 ct26 : Value}
    {odI anI : Option Addr} {slI : Array (Option Value)} {ocI kVI dcI pmI cdI ctI : Value}
    {nm0 q0 : Str} {N0 : Addr} {bs0 : List Value} {sn0 : List Str} {sub0 : List Value} {ab0 : Bool} {col0 : Option Bool} {dd0 : Option Addr} {m00 m10 m20 m30 m50 : Option Value}
    {nm1 q1 : Str} {N1 : Addr} {bs1 : List Value} {sn1 : List Str} {sub1 : List Value} {ab1 : Bool} {col1 : Option Bool} {dd1 : Option Addr} {m01 m11 m21 m31 m51 : Option Value}
    {nm2 q2 : Str} {N2 : Addr} {bs2 : List Value} {sn2 : List Str} {sub2 : List Value} {ab2 : Bool} {col2 : Option Bool} {dd2 : Option Addr} {m02 m12 m22 m32 m52 : Option Value}
    {nm3 q3 : Str} {N3 : Addr} {bs3 : List Value} {sn3 : List Str} {sub3 : List Value} {ab3 : Bool} {col3 : Option Bool} {dd3 : Option Addr} {m03 m13 m23 m33 m53 : Option Value}
    {nm4 q4 : Str} {N4 : Addr} {bs4 : List Value} {sn4 : List Str} {sub4 : List Value} {ab4 : Bool} {col4 : Option Bool} {dd4 : Option Addr} {m04 m14 m24 m34 m54 : Option Value}
    {nm5 q5 : Str} {N5 : Addr} {bs5 : List Value} {sn5 : List Str} {sub5 : List Value} {ab5 : Bool} {col5 : Option Bool} {dd5 : Option Addr} {m05 m15 m25 m35 m55 : Option Value}
    {nm6 q6 : Str} {N6 : Addr} {bs6 : List Value} {sn6 : List Str} {sub6 : List Value} {ab6 : Bool} {col6 : Option Bool} {dd6 : Option Addr} {m06 m16 m26 m36 m56 : Option Value}
    {nm7 q7 : Str} {N7 : Addr} {bs7 : List Value} {sn7 : List Str} {sub7 : List Value} {ab7 : Bool} {col7 : Option Bool} {dd7 : Option Addr} {m07 m17 m27 m37 m57 : Option Value}
    (a0 : PySem.W.nsIn K mainGlobals "is_whole" = some (some (.ref f0)))
    (l0 : K.lookup f0 = some ⟨oc0, od0, .func (PySem.W.fnOf "is_whole" "is_whole" (defArgs s_is_whole) (defBody s_is_whole) (defScope s_is_whole) .none kV0 dc0 pm0 an0 cd0 ct0), sl0⟩)
    (c0 : PySem.W.codeIn K cd0 "is_whole" = true)
    (k0 : PySem.W.keepIn K (.ref f0) = true)
    (a1 : PySem.W.nsIn K mainGlobals "is_road" = some (some (.ref f1)))
    (l1 : K.lookup f1 = some ⟨oc1, od1, .func (PySem.W.fnOf "is_road" "is_road" (defArgs s_is_road) (defBody s_is_road) (defScope s_is_road) .none kV1 dc1 pm1 an1 cd1 ct1), sl1⟩)
    (c1 : PySem.W.codeIn K cd1 "is_road" = true)
    (k1 : PySem.W.keepIn K (.ref f1) = true)
    (a2 : PySem.W.nsIn K mainGlobals "first_bad_place" = some (some (.ref f2)))
    (l2 : K.lookup f2 = some ⟨oc2, od2, .func (PySem.W.fnOf "first_bad_place" "first_bad_place" (defArgs s_first_bad_place) (defBody s_first_bad_place) (defScope s_first_bad_place) .none kV2 dc2 pm2 an2 cd2 ct2), sl2⟩)
    (c2 : PySem.W.codeIn K cd2 "first_bad_place" = true)
    (k2 : PySem.W.keepIn K (.ref f2) = true)
    (a3 : PySem.W.nsIn K mainGlobals "first_bad_road" = some (some (.ref f3)))
    (l3 : K.lookup f3 = some ⟨oc3, od3, .func (PySem.W.fnOf "first_bad_road" "first_bad_road" (defArgs s_first_bad_road) (defBody s_first_bad_road) (defScope s_first_bad_road) .none kV3 dc3 pm3 an3 cd3 ct3), sl3⟩)
    (c3 : PySem.W.codeIn K cd3 "first_bad_road" = true)
    (k3 : PySem.W.keepIn K (.ref f3) = true)
    (a4 : PySem.W.nsIn K mainGlobals "wrong_roads" = some (some (.ref f4)))
    (l4 : K.lookup f4 = some ⟨oc4, od4, .func (PySem.W.fnOf "wrong_roads" "wrong_roads" (defArgs s_wrong_roads) (defBody s_wrong_roads) (defScope s_wrong_roads) .none kV4 dc4 pm4 an4 cd4 ct4), sl4⟩)
    (c4 : PySem.W.codeIn K cd4 "wrong_roads" = true)
    (k4 : PySem.W.keepIn K (.ref f4) = true)
    (a5 : PySem.W.nsIn K mainGlobals "wrong_wishes" = some (some (.ref f5)))
    (l5 : K.lookup f5 = some ⟨oc5, od5, .func (PySem.W.fnOf "wrong_wishes" "wrong_wishes" (defArgs s_wrong_wishes) (defBody s_wrong_wishes) (defScope s_wrong_wishes) .none kV5 dc5 pm5 an5 cd5 ct5), sl5⟩)
    (c5 : PySem.W.codeIn K cd5 "wrong_wishes" = true)
    (k5 : PySem.W.keepIn K (.ref f5) = true)
    (a6 : PySem.W.nsIn K mainGlobals "made_map" = some (some (.ref f6)))
    (l6 : K.lookup f6 = some ⟨oc6, od6, .func (PySem.W.fnOf "made_map" "made_map" (defArgs s_made_map) (defBody s_made_map) (defScope s_made_map) .none kV6 dc6 pm6 an6 cd6 ct6), sl6⟩)
    (c6 : PySem.W.codeIn K cd6 "made_map" = true)
    (k6 : PySem.W.keepIn K (.ref f6) = true)
    (a7 : PySem.W.nsIn K mainGlobals "is_place" = some (some (.ref f7)))
    (l7 : K.lookup f7 = some ⟨oc7, od7, .func (PySem.W.fnOf "is_place" "is_place" (defArgs s_is_place) (defBody s_is_place) (defScope s_is_place) .none kV7 dc7 pm7 an7 cd7 ct7), sl7⟩)
    (c7 : PySem.W.codeIn K cd7 "is_place" = true)
    (k7 : PySem.W.keepIn K (.ref f7) = true)
    (a8 : PySem.W.nsIn K mainGlobals "check_place" = some (some (.ref f8)))
    (l8 : K.lookup f8 = some ⟨oc8, od8, .func (PySem.W.fnOf "check_place" "check_place" (defArgs s_check_place) (defBody s_check_place) (defScope s_check_place) .none kV8 dc8 pm8 an8 cd8 ct8), sl8⟩)
    (c8 : PySem.W.codeIn K cd8 "check_place" = true)
    (k8 : PySem.W.keepIn K (.ref f8) = true)
    (a9 : PySem.W.nsIn K mainGlobals "check_ends" = some (some (.ref f9)))
    (l9 : K.lookup f9 = some ⟨oc9, od9, .func (PySem.W.fnOf "check_ends" "check_ends" (defArgs s_check_ends) (defBody s_check_ends) (defScope s_check_ends) .none kV9 dc9 pm9 an9 cd9 ct9), sl9⟩)
    (c9 : PySem.W.codeIn K cd9 "check_ends" = true)
    (k9 : PySem.W.keepIn K (.ref f9) = true)
    (a10 : PySem.W.nsIn K mainGlobals "with_road" = some (some (.ref f10)))
    (l10 : K.lookup f10 = some ⟨oc10, od10, .func (PySem.W.fnOf "with_road" "with_road" (defArgs s_with_road) (defBody s_with_road) (defScope s_with_road) .none kV10 dc10 pm10 an10 cd10 ct10), sl10⟩)
    (c10 : PySem.W.codeIn K cd10 "with_road" = true)
    (k10 : PySem.W.keepIn K (.ref f10) = true)
    (a11 : PySem.W.nsIn K mainGlobals "without_road" = some (some (.ref f11)))
    (l11 : K.lookup f11 = some ⟨oc11, od11, .func (PySem.W.fnOf "without_road" "without_road" (defArgs s_without_road) (defBody s_without_road) (defScope s_without_road) .none kV11 dc11 pm11 an11 cd11 ct11), sl11⟩)
    (c11 : PySem.W.codeIn K cd11 "without_road" = true)
    (k11 : PySem.W.keepIn K (.ref f11) = true)
    (a12 : PySem.W.nsIn K mainGlobals "with_wish" = some (some (.ref f12)))
    (l12 : K.lookup f12 = some ⟨oc12, od12, .func (PySem.W.fnOf "with_wish" "with_wish" (defArgs s_with_wish) (defBody s_with_wish) (defScope s_with_wish) .none kV12 dc12 pm12 an12 cd12 ct12), sl12⟩)
    (c12 : PySem.W.codeIn K cd12 "with_wish" = true)
    (k12 : PySem.W.keepIn K (.ref f12) = true)
    (a13 : PySem.W.nsIn K mainGlobals "without_wish" = some (some (.ref f13)))
    (l13 : K.lookup f13 = some ⟨oc13, od13, .func (PySem.W.fnOf "without_wish" "without_wish" (defArgs s_without_wish) (defBody s_without_wish) (defScope s_without_wish) .none kV13 dc13 pm13 an13 cd13 ct13), sl13⟩)
    (c13 : PySem.W.codeIn K cd13 "without_wish" = true)
    (k13 : PySem.W.keepIn K (.ref f13) = true)
    (a14 : PySem.W.nsIn K mainGlobals "_law_pool" = some (some (.ref f14)))
    (l14 : K.lookup f14 = some ⟨oc14, od14, .func (PySem.W.fnOf "_law_pool" "_law_pool" (defArgs s__law_pool) (defBody s__law_pool) (defScope s__law_pool) .none kV14 dc14 pm14 an14 cd14 ct14), sl14⟩)
    (c14 : PySem.W.codeIn K cd14 "_law_pool" = true)
    (k14 : PySem.W.keepIn K (.ref f14) = true)
    (a15 : PySem.W.nsIn K mainGlobals "_law_draw" = some (some (.ref f15)))
    (l15 : K.lookup f15 = some ⟨oc15, od15, .func (PySem.W.fnOf "_law_draw" "_law_draw" (defArgs s__law_draw) (defBody s__law_draw) (defScope s__law_draw) .none kV15 dc15 pm15 an15 cd15 ct15), sl15⟩)
    (c15 : PySem.W.codeIn K cd15 "_law_draw" = true)
    (k15 : PySem.W.keepIn K (.ref f15) = true)
    (a16 : PySem.W.nsIn K mainGlobals "_law_pick" = some (some (.ref f16)))
    (l16 : K.lookup f16 = some ⟨oc16, od16, .func (PySem.W.fnOf "_law_pick" "_law_pick" (defArgs s__law_pick) (defBody s__law_pick) (defScope s__law_pick) .none kV16 dc16 pm16 an16 cd16 ct16), sl16⟩)
    (c16 : PySem.W.codeIn K cd16 "_law_pick" = true)
    (k16 : PySem.W.keepIn K (.ref f16) = true)
    (a17 : PySem.W.nsIn K mainGlobals "_law_turned" = some (some (.ref f17)))
    (l17 : K.lookup f17 = some ⟨oc17, od17, .func (PySem.W.fnOf "_law_turned" "_law_turned" (defArgs s__law_turned) (defBody s__law_turned) (defScope s__law_turned) .none kV17 dc17 pm17 an17 cd17 ct17), sl17⟩)
    (c17 : PySem.W.codeIn K cd17 "_law_turned" = true)
    (k17 : PySem.W.keepIn K (.ref f17) = true)
    (a18 : PySem.W.nsIn K mainGlobals "_law_map_named" = some (some (.ref f18)))
    (l18 : K.lookup f18 = some ⟨oc18, od18, .func (PySem.W.fnOf "_law_map_named" "_law_map_named" (defArgs s__law_map_named) (defBody s__law_map_named) (defScope s__law_map_named) .none kV18 dc18 pm18 an18 cd18 ct18), sl18⟩)
    (c18 : PySem.W.codeIn K cd18 "_law_map_named" = true)
    (k18 : PySem.W.keepIn K (.ref f18) = true)
    (a19 : PySem.W.nsIn K mainGlobals "_law_map_some_wished" = some (some (.ref f19)))
    (l19 : K.lookup f19 = some ⟨oc19, od19, .func (PySem.W.fnOf "_law_map_some_wished" "_law_map_some_wished" (defArgs s__law_map_some_wished) (defBody s__law_map_some_wished) (defScope s__law_map_some_wished) .none kV19 dc19 pm19 an19 cd19 ct19), sl19⟩)
    (c19 : PySem.W.codeIn K cd19 "_law_map_some_wished" = true)
    (k19 : PySem.W.keepIn K (.ref f19) = true)
    (a20 : PySem.W.nsIn K mainGlobals "_law_map_drawn" = some (some (.ref f20)))
    (l20 : K.lookup f20 = some ⟨oc20, od20, .func (PySem.W.fnOf "_law_map_drawn" "_law_map_drawn" (defArgs s__law_map_drawn) (defBody s__law_map_drawn) (defScope s__law_map_drawn) .none kV20 dc20 pm20 an20 cd20 ct20), sl20⟩)
    (c20 : PySem.W.codeIn K cd20 "_law_map_drawn" = true)
    (k20 : PySem.W.keepIn K (.ref f20) = true)
    (a21 : PySem.W.nsIn K mainGlobals "_law_call" = some (some (.ref f21)))
    (l21 : K.lookup f21 = some ⟨oc21, od21, .func (PySem.W.fnOf "_law_call" "_law_call" (defArgs s__law_call) (defBody s__law_call) (defScope s__law_call) .none kV21 dc21 pm21 an21 cd21 ct21), sl21⟩)
    (c21 : PySem.W.codeIn K cd21 "_law_call" = true)
    (k21 : PySem.W.keepIn K (.ref f21) = true)
    (a22 : PySem.W.nsIn K mainGlobals "_law_heard" = some (some (.ref f22)))
    (l22 : K.lookup f22 = some ⟨oc22, od22, .func (PySem.W.fnOf "_law_heard" "_law_heard" (defArgs s__law_heard) (defBody s__law_heard) (defScope s__law_heard) .none kV22 dc22 pm22 an22 cd22 ct22), sl22⟩)
    (c22 : PySem.W.codeIn K cd22 "_law_heard" = true)
    (k22 : PySem.W.keepIn K (.ref f22) = true)
    (a23 : PySem.W.nsIn K mainGlobals "_law_is_place" = some (some (.ref f23)))
    (l23 : K.lookup f23 = some ⟨oc23, od23, .func (PySem.W.fnOf "_law_is_place" "_law_is_place" (defArgs s__law_is_place) (defBody s__law_is_place) (defScope s__law_is_place) .none kV23 dc23 pm23 an23 cd23 ct23), sl23⟩)
    (c23 : PySem.W.codeIn K cd23 "_law_is_place" = true)
    (k23 : PySem.W.keepIn K (.ref f23) = true)
    (a24 : PySem.W.nsIn K mainGlobals "_law_due" = some (some (.ref f24)))
    (l24 : K.lookup f24 = some ⟨oc24, od24, .func (PySem.W.fnOf "_law_due" "_law_due" (defArgs s__law_due) (defBody s__law_due) (defScope s__law_due) .none kV24 dc24 pm24 an24 cd24 ct24), sl24⟩)
    (c24 : PySem.W.codeIn K cd24 "_law_due" = true)
    (k24 : PySem.W.keepIn K (.ref f24) = true)
    (a25 : PySem.W.nsIn K mainGlobals "_law_thing" = some (some (.ref f25)))
    (l25 : K.lookup f25 = some ⟨oc25, od25, .func (PySem.W.fnOf "_law_thing" "_law_thing" (defArgs s__law_thing) (defBody s__law_thing) (defScope s__law_thing) .none kV25 dc25 pm25 an25 cd25 ct25), sl25⟩)
    (c25 : PySem.W.codeIn K cd25 "_law_thing" = true)
    (k25 : PySem.W.keepIn K (.ref f25) = true)
    (a26 : PySem.W.nsIn K mainGlobals "law" = some (some (.ref f26)))
    (l26 : K.lookup f26 = some ⟨oc26, od26, .func (PySem.W.fnOf "law" "law" (defArgs s_law) (defBody s_law) (defScope s_law) .none kV26 dc26 pm26 an26 cd26 ct26), sl26⟩)
    (c26 : PySem.W.codeIn K cd26 "law" = true)
    (k26 : PySem.W.keepIn K (.ref f26) = true)
    (z_int : PySem.W.nsIn K mainGlobals "int" = some none)
    (z_isinstance : PySem.W.nsIn K mainGlobals "isinstance" = some none)
    (z_bool : PySem.W.nsIn K mainGlobals "bool" = some none)
    (z_tuple : PySem.W.nsIn K mainGlobals "tuple" = some none)
    (z_len : PySem.W.nsIn K mainGlobals "len" = some none)
    (z_range : PySem.W.nsIn K mainGlobals "range" = some none)
    (z_sorted : PySem.W.nsIn K mainGlobals "sorted" = some none)
    (z_list : PySem.W.nsIn K mainGlobals "list" = some none)
    (z_set : PySem.W.nsIn K mainGlobals "set" = some none)
    (z_min : PySem.W.nsIn K mainGlobals "min" = some none)
    (z_max : PySem.W.nsIn K mainGlobals "max" = some none)
    (z_repr : PySem.W.nsIn K mainGlobals "repr" = some none)
    (q_MOST_PLACES : PySem.W.nsIn K mainGlobals "MOST_PLACES" = some (some (.int 60 tk_MOST_PLACES)))
    (q_MOST_ROADS : PySem.W.nsIn K mainGlobals "MOST_ROADS" = some (some (.int 240 tk_MOST_ROADS)))
    (gs : PySem.W.specialIn K (.builtin "object.__class__") "__get__" = some (some (.builtin "getset_descriptor.__get__")))
    (tkc : PySem.W.takesIn K (.builtin "object.__class__") = some true)
    (aC0 : PySem.W.nsIn K mainGlobals "Refused" = some (some (.ref C0)))
    (xC0 : K.lookup C0 = some (excClassObj nm0 q0 C0 N0 bs0 [.type "ValueError", .type "Exception", .type "BaseException", .type "object"] true sn0 sub0 ab0 col0 dd0 m00 m10 m20 m30 m50 "ValueError.__new__"))
    (sa0 : PySem.W.findIn K (.ref C0) "__setattr__" = some (some (.builtin "object.__setattr__")))
    (ga0 : PySem.W.findIn K (.ref C0) "__getattribute__" = some (some (.builtin "BaseException.__getattribute__")))
    (gg0 : PySem.W.findIn K (.ref C0) "__getattr__" = some none)
    (nw0 : PySem.W.findIn K (.ref C0) "what" = some none)
    (it0 : PySem.W.findIn K (.ref C0) "__init__" = some (some (.ref fI)))
    (kC0 : PySem.W.keepIn K (.ref C0) = true)
    (eC0 : PySem.W.subIn K (.ref C0) (.type "BaseException") = some true)
    (tC0 : PySem.W.typeIn K (.ref C0) = some (.type "type"))
    (hC0 : PySem.W.hasDictIn K C0 = true)
    (iC0 : PySem.W.isClsIn K C0 = true)
    (ca0 : PySem.W.findIn K (.ref C0) "__class__" = some (some (.builtin "object.__class__")))
    (mo0 : PySem.W.mroIn K C0 (.type "object") = some true)
    (aC1 : PySem.W.nsIn K mainGlobals "BadMap" = some (some (.ref C1)))
    (xC1 : K.lookup C1 = some (excClassObj nm1 q1 C1 N1 bs1 [.ref C0, .type "ValueError", .type "Exception", .type "BaseException", .type "object"] true sn1 sub1 ab1 col1 dd1 m01 m11 m21 m31 m51 "ValueError.__new__"))
    (sa1 : PySem.W.findIn K (.ref C1) "__setattr__" = some (some (.builtin "object.__setattr__")))
    (ga1 : PySem.W.findIn K (.ref C1) "__getattribute__" = some (some (.builtin "BaseException.__getattribute__")))
    (gg1 : PySem.W.findIn K (.ref C1) "__getattr__" = some none)
    (nw1 : PySem.W.findIn K (.ref C1) "what" = some none)
    (it1 : PySem.W.findIn K (.ref C1) "__init__" = some (some (.ref fI)))
    (kC1 : PySem.W.keepIn K (.ref C1) = true)
    (eC1 : PySem.W.subIn K (.ref C1) (.type "BaseException") = some true)
    (tC1 : PySem.W.typeIn K (.ref C1) = some (.type "type"))
    (hC1 : PySem.W.hasDictIn K C1 = true)
    (iC1 : PySem.W.isClsIn K C1 = true)
    (ca1 : PySem.W.findIn K (.ref C1) "__class__" = some (some (.builtin "object.__class__")))
    (mo1 : PySem.W.mroIn K C1 (.type "object") = some true)
    (aC2 : PySem.W.nsIn K mainGlobals "BadWish" = some (some (.ref C2)))
    (xC2 : K.lookup C2 = some (excClassObj nm2 q2 C2 N2 bs2 [.ref C0, .type "ValueError", .type "Exception", .type "BaseException", .type "object"] true sn2 sub2 ab2 col2 dd2 m02 m12 m22 m32 m52 "ValueError.__new__"))
    (sa2 : PySem.W.findIn K (.ref C2) "__setattr__" = some (some (.builtin "object.__setattr__")))
    (ga2 : PySem.W.findIn K (.ref C2) "__getattribute__" = some (some (.builtin "BaseException.__getattribute__")))
    (gg2 : PySem.W.findIn K (.ref C2) "__getattr__" = some none)
    (nw2 : PySem.W.findIn K (.ref C2) "what" = some none)
    (it2 : PySem.W.findIn K (.ref C2) "__init__" = some (some (.ref fI)))
    (kC2 : PySem.W.keepIn K (.ref C2) = true)
    (eC2 : PySem.W.subIn K (.ref C2) (.type "BaseException") = some true)
    (tC2 : PySem.W.typeIn K (.ref C2) = some (.type "type"))
    (hC2 : PySem.W.hasDictIn K C2 = true)
    (iC2 : PySem.W.isClsIn K C2 = true)
    (ca2 : PySem.W.findIn K (.ref C2) "__class__" = some (some (.builtin "object.__class__")))
    (mo2 : PySem.W.mroIn K C2 (.type "object") = some true)
    (aC3 : PySem.W.nsIn K mainGlobals "BadPlace" = some (some (.ref C3)))
    (xC3 : K.lookup C3 = some (excClassObj nm3 q3 C3 N3 bs3 [.ref C0, .type "ValueError", .type "Exception", .type "BaseException", .type "object"] true sn3 sub3 ab3 col3 dd3 m03 m13 m23 m33 m53 "ValueError.__new__"))
    (sa3 : PySem.W.findIn K (.ref C3) "__setattr__" = some (some (.builtin "object.__setattr__")))
    (ga3 : PySem.W.findIn K (.ref C3) "__getattribute__" = some (some (.builtin "BaseException.__getattribute__")))
    (gg3 : PySem.W.findIn K (.ref C3) "__getattr__" = some none)
    (nw3 : PySem.W.findIn K (.ref C3) "what" = some none)
    (it3 : PySem.W.findIn K (.ref C3) "__init__" = some (some (.ref fI)))
    (kC3 : PySem.W.keepIn K (.ref C3) = true)
    (eC3 : PySem.W.subIn K (.ref C3) (.type "BaseException") = some true)
    (tC3 : PySem.W.typeIn K (.ref C3) = some (.type "type"))
    (hC3 : PySem.W.hasDictIn K C3 = true)
    (iC3 : PySem.W.isClsIn K C3 = true)
    (ca3 : PySem.W.findIn K (.ref C3) "__class__" = some (some (.builtin "object.__class__")))
    (mo3 : PySem.W.mroIn K C3 (.type "object") = some true)
    (aC4 : PySem.W.nsIn K mainGlobals "TooMany" = some (some (.ref C4)))
    (xC4 : K.lookup C4 = some (excClassObj nm4 q4 C4 N4 bs4 [.ref C0, .type "ValueError", .type "Exception", .type "BaseException", .type "object"] true sn4 sub4 ab4 col4 dd4 m04 m14 m24 m34 m54 "ValueError.__new__"))
    (sa4 : PySem.W.findIn K (.ref C4) "__setattr__" = some (some (.builtin "object.__setattr__")))
    (ga4 : PySem.W.findIn K (.ref C4) "__getattribute__" = some (some (.builtin "BaseException.__getattribute__")))
    (gg4 : PySem.W.findIn K (.ref C4) "__getattr__" = some none)
    (nw4 : PySem.W.findIn K (.ref C4) "what" = some none)
    (it4 : PySem.W.findIn K (.ref C4) "__init__" = some (some (.ref fI)))
    (kC4 : PySem.W.keepIn K (.ref C4) = true)
    (eC4 : PySem.W.subIn K (.ref C4) (.type "BaseException") = some true)
    (tC4 : PySem.W.typeIn K (.ref C4) = some (.type "type"))
    (hC4 : PySem.W.hasDictIn K C4 = true)
    (iC4 : PySem.W.isClsIn K C4 = true)
    (ca4 : PySem.W.findIn K (.ref C4) "__class__" = some (some (.builtin "object.__class__")))
    (mo4 : PySem.W.mroIn K C4 (.type "object") = some true)
    (aC5 : PySem.W.nsIn K mainGlobals "Twice" = some (some (.ref C5)))
    (xC5 : K.lookup C5 = some (excClassObj nm5 q5 C5 N5 bs5 [.ref C0, .type "ValueError", .type "Exception", .type "BaseException", .type "object"] true sn5 sub5 ab5 col5 dd5 m05 m15 m25 m35 m55 "ValueError.__new__"))
    (sa5 : PySem.W.findIn K (.ref C5) "__setattr__" = some (some (.builtin "object.__setattr__")))
    (ga5 : PySem.W.findIn K (.ref C5) "__getattribute__" = some (some (.builtin "BaseException.__getattribute__")))
    (gg5 : PySem.W.findIn K (.ref C5) "__getattr__" = some none)
    (nw5 : PySem.W.findIn K (.ref C5) "what" = some none)
    (it5 : PySem.W.findIn K (.ref C5) "__init__" = some (some (.ref fI)))
    (kC5 : PySem.W.keepIn K (.ref C5) = true)
    (eC5 : PySem.W.subIn K (.ref C5) (.type "BaseException") = some true)
    (tC5 : PySem.W.typeIn K (.ref C5) = some (.type "type"))
    (hC5 : PySem.W.hasDictIn K C5 = true)
    (iC5 : PySem.W.isClsIn K C5 = true)
    (ca5 : PySem.W.findIn K (.ref C5) "__class__" = some (some (.builtin "object.__class__")))
    (mo5 : PySem.W.mroIn K C5 (.type "object") = some true)
    (aC6 : PySem.W.nsIn K mainGlobals "NoRoad" = some (some (.ref C6)))
    (xC6 : K.lookup C6 = some (excClassObj nm6 q6 C6 N6 bs6 [.ref C0, .type "ValueError", .type "Exception", .type "BaseException", .type "object"] true sn6 sub6 ab6 col6 dd6 m06 m16 m26 m36 m56 "ValueError.__new__"))
    (sa6 : PySem.W.findIn K (.ref C6) "__setattr__" = some (some (.builtin "object.__setattr__")))
    (ga6 : PySem.W.findIn K (.ref C6) "__getattribute__" = some (some (.builtin "BaseException.__getattribute__")))
    (gg6 : PySem.W.findIn K (.ref C6) "__getattr__" = some none)
    (nw6 : PySem.W.findIn K (.ref C6) "what" = some none)
    (it6 : PySem.W.findIn K (.ref C6) "__init__" = some (some (.ref fI)))
    (kC6 : PySem.W.keepIn K (.ref C6) = true)
    (eC6 : PySem.W.subIn K (.ref C6) (.type "BaseException") = some true)
    (tC6 : PySem.W.typeIn K (.ref C6) = some (.type "type"))
    (hC6 : PySem.W.hasDictIn K C6 = true)
    (iC6 : PySem.W.isClsIn K C6 = true)
    (ca6 : PySem.W.findIn K (.ref C6) "__class__" = some (some (.builtin "object.__class__")))
    (mo6 : PySem.W.mroIn K C6 (.type "object") = some true)
    (aC7 : PySem.W.nsIn K mainGlobals "NotWished" = some (some (.ref C7)))
    (xC7 : K.lookup C7 = some (excClassObj nm7 q7 C7 N7 bs7 [.ref C0, .type "ValueError", .type "Exception", .type "BaseException", .type "object"] true sn7 sub7 ab7 col7 dd7 m07 m17 m27 m37 m57 "ValueError.__new__"))
    (sa7 : PySem.W.findIn K (.ref C7) "__setattr__" = some (some (.builtin "object.__setattr__")))
    (ga7 : PySem.W.findIn K (.ref C7) "__getattribute__" = some (some (.builtin "BaseException.__getattribute__")))
    (gg7 : PySem.W.findIn K (.ref C7) "__getattr__" = some none)
    (nw7 : PySem.W.findIn K (.ref C7) "what" = some none)
    (it7 : PySem.W.findIn K (.ref C7) "__init__" = some (some (.ref fI)))
    (kC7 : PySem.W.keepIn K (.ref C7) = true)
    (eC7 : PySem.W.subIn K (.ref C7) (.type "BaseException") = some true)
    (tC7 : PySem.W.typeIn K (.ref C7) = some (.type "type"))
    (hC7 : PySem.W.hasDictIn K C7 = true)
    (iC7 : PySem.W.isClsIn K C7 = true)
    (ca7 : PySem.W.findIn K (.ref C7) "__class__" = some (some (.builtin "object.__class__")))
    (mo7 : PySem.W.mroIn K C7 (.type "object") = some true)
    (lI : K.lookup fI = some ⟨ocI, odI, .func (PySem.W.fnOf "__init__" "Refused.__init__" (defArgs s_init) (defBody s_init) (defScope s_init) .none kVI dcI pmI anI cdI ctI), slI⟩)
    (cI : PySem.W.codeIn K cdI "Refused.__init__" = true)
    (kI : PySem.W.keepIn K (.ref fI) = true)
    (tI : PySem.W.typeIn K (.ref fI) = some (.type "function"))
    (s0_1 : PySem.W.subIn K (.ref C0) (.ref C1) = some false)
    (s1_1 : PySem.W.subIn K (.ref C1) (.ref C1) = some true)
    (s2_1 : PySem.W.subIn K (.ref C2) (.ref C1) = some false)
    (s3_1 : PySem.W.subIn K (.ref C3) (.ref C1) = some false)
    (s4_1 : PySem.W.subIn K (.ref C4) (.ref C1) = some false)
    (s5_1 : PySem.W.subIn K (.ref C5) (.ref C1) = some false)
    (s6_1 : PySem.W.subIn K (.ref C6) (.ref C1) = some false)
    (s7_1 : PySem.W.subIn K (.ref C7) (.ref C1) = some false)
    (s0_2 : PySem.W.subIn K (.ref C0) (.ref C2) = some false)
    (s1_2 : PySem.W.subIn K (.ref C1) (.ref C2) = some false)
    (s2_2 : PySem.W.subIn K (.ref C2) (.ref C2) = some true)
    (s3_2 : PySem.W.subIn K (.ref C3) (.ref C2) = some false)
    (s4_2 : PySem.W.subIn K (.ref C4) (.ref C2) = some false)
    (s5_2 : PySem.W.subIn K (.ref C5) (.ref C2) = some false)
    (s6_2 : PySem.W.subIn K (.ref C6) (.ref C2) = some false)
    (s7_2 : PySem.W.subIn K (.ref C7) (.ref C2) = some false)
    (s0_3 : PySem.W.subIn K (.ref C0) (.ref C3) = some false)
    (s1_3 : PySem.W.subIn K (.ref C1) (.ref C3) = some false)
    (s2_3 : PySem.W.subIn K (.ref C2) (.ref C3) = some false)
    (s3_3 : PySem.W.subIn K (.ref C3) (.ref C3) = some true)
    (s4_3 : PySem.W.subIn K (.ref C4) (.ref C3) = some false)
    (s5_3 : PySem.W.subIn K (.ref C5) (.ref C3) = some false)
    (s6_3 : PySem.W.subIn K (.ref C6) (.ref C3) = some false)
    (s7_3 : PySem.W.subIn K (.ref C7) (.ref C3) = some false)
    (s0_5 : PySem.W.subIn K (.ref C0) (.ref C5) = some false)
    (s1_5 : PySem.W.subIn K (.ref C1) (.ref C5) = some false)
    (s2_5 : PySem.W.subIn K (.ref C2) (.ref C5) = some false)
    (s3_5 : PySem.W.subIn K (.ref C3) (.ref C5) = some false)
    (s4_5 : PySem.W.subIn K (.ref C4) (.ref C5) = some false)
    (s5_5 : PySem.W.subIn K (.ref C5) (.ref C5) = some true)
    (s6_5 : PySem.W.subIn K (.ref C6) (.ref C5) = some false)
    (s7_5 : PySem.W.subIn K (.ref C7) (.ref C5) = some false)
    (s0_4 : PySem.W.subIn K (.ref C0) (.ref C4) = some false)
    (s1_4 : PySem.W.subIn K (.ref C1) (.ref C4) = some false)
    (s2_4 : PySem.W.subIn K (.ref C2) (.ref C4) = some false)
    (s3_4 : PySem.W.subIn K (.ref C3) (.ref C4) = some false)
    (s4_4 : PySem.W.subIn K (.ref C4) (.ref C4) = some true)
    (s5_4 : PySem.W.subIn K (.ref C5) (.ref C4) = some false)
    (s6_4 : PySem.W.subIn K (.ref C6) (.ref C4) = some false)
    (s7_4 : PySem.W.subIn K (.ref C7) (.ref C4) = some false)
    (s0_6 : PySem.W.subIn K (.ref C0) (.ref C6) = some false)
    (s1_6 : PySem.W.subIn K (.ref C1) (.ref C6) = some false)
    (s2_6 : PySem.W.subIn K (.ref C2) (.ref C6) = some false)
    (s3_6 : PySem.W.subIn K (.ref C3) (.ref C6) = some false)
    (s4_6 : PySem.W.subIn K (.ref C4) (.ref C6) = some false)
    (s5_6 : PySem.W.subIn K (.ref C5) (.ref C6) = some false)
    (s6_6 : PySem.W.subIn K (.ref C6) (.ref C6) = some true)
    (s7_6 : PySem.W.subIn K (.ref C7) (.ref C6) = some false)
    (s0_7 : PySem.W.subIn K (.ref C0) (.ref C7) = some false)
    (s1_7 : PySem.W.subIn K (.ref C1) (.ref C7) = some false)
    (s2_7 : PySem.W.subIn K (.ref C2) (.ref C7) = some false)
    (s3_7 : PySem.W.subIn K (.ref C3) (.ref C7) = some false)
    (s4_7 : PySem.W.subIn K (.ref C4) (.ref C7) = some false)
    (s5_7 : PySem.W.subIn K (.ref C5) (.ref C7) = some false)
    (s6_7 : PySem.W.subIn K (.ref C6) (.ref C7) = some false)
    (s7_7 : PySem.W.subIn K (.ref C7) (.ref C7) = some true)
    (s0_0 : PySem.W.subIn K (.ref C0) (.ref C0) = some true)
    (s1_0 : PySem.W.subIn K (.ref C1) (.ref C0) = some true)
    (s2_0 : PySem.W.subIn K (.ref C2) (.ref C0) = some true)
    (s3_0 : PySem.W.subIn K (.ref C3) (.ref C0) = some true)
    (s4_0 : PySem.W.subIn K (.ref C4) (.ref C0) = some true)
    (s5_0 : PySem.W.subIn K (.ref C5) (.ref C0) = some true)
    (s6_0 : PySem.W.subIn K (.ref C6) (.ref C0) = some true)
    (s7_0 : PySem.W.subIn K (.ref C7) (.ref C0) = some true)
    (y0_0 : PySem.W.kitOne K (.ref C0) (.ref C0) = some true)
    (y1_0 : PySem.W.kitOne K (.ref C1) (.ref C0) = some true)
    (y2_0 : PySem.W.kitOne K (.ref C2) (.ref C0) = some true)
    (y3_0 : PySem.W.kitOne K (.ref C3) (.ref C0) = some true)
    (y4_0 : PySem.W.kitOne K (.ref C4) (.ref C0) = some true)
    (y5_0 : PySem.W.kitOne K (.ref C5) (.ref C0) = some true)
    (y6_0 : PySem.W.kitOne K (.ref C6) (.ref C0) = some true)
    (y7_0 : PySem.W.kitOne K (.ref C7) (.ref C0) = some true) :
    ∃ fd : FuncData, (∀ (s : Shared) (v : Value), BindsTo s fd ⟨[v], []⟩ [("script", v)]) ∧ ∀ base : Heap, K.In base → base.Ns mainGlobals mg → FnG l.prog w K mg base CX0 10 fa fd ["script"] (spM l.prog w K m_law) := by
  have e := hfa.symm.trans (PySem.W.mg_of X G a26)
  cases e
  obtain ⟨T, hT⟩ : ∃ T : Tops K mg, T.d_law.1 = (fa, PySem.W.fnOf "law" "law" (defArgs s_law) (defBody s_law) (defScope s_law) .none kV26 dc26 pm26 an26 cd26 ct26) := ⟨
    { d_is_whole := ⟨(_, _), PySem.W.mg_of X G a0, fun_mk (st := s_is_whole) l0 c0 k0, (fun_mk (st := s_is_whole) l0 c0 k0).binds (ps := ["thing", "low", "high"]) fun _ _ _ _ _ _ us hl => match us, hl with | [_, _, _], _ => rfl⟩,
      d_is_road := ⟨(_, _), PySem.W.mg_of X G a1, fun_mk (st := s_is_road) l1 c1 k1, (fun_mk (st := s_is_road) l1 c1 k1).binds (ps := ["thing", "places"]) fun _ _ _ _ _ _ us hl => match us, hl with | [_, _], _ => rfl⟩,
      d_first_bad_place := ⟨(_, _), PySem.W.mg_of X G a2, fun_mk (st := s_first_bad_place) l2 c2 k2, (fun_mk (st := s_first_bad_place) l2 c2 k2).binds (ps := ["things", "places"]) fun _ _ _ _ _ _ us hl => match us, hl with | [_, _], _ => rfl⟩,
      d_first_bad_road := ⟨(_, _), PySem.W.mg_of X G a3, fun_mk (st := s_first_bad_road) l3 c3 k3, (fun_mk (st := s_first_bad_road) l3 c3 k3).binds (ps := ["things", "places"]) fun _ _ _ _ _ _ us hl => match us, hl with | [_, _], _ => rfl⟩,
      d_wrong_roads := ⟨(_, _), PySem.W.mg_of X G a4, fun_mk (st := s_wrong_roads) l4 c4 k4, (fun_mk (st := s_wrong_roads) l4 c4 k4).binds (ps := ["thing"]) fun _ _ _ _ _ _ us hl => match us, hl with | [_], _ => rfl⟩,
      d_wrong_wishes := ⟨(_, _), PySem.W.mg_of X G a5, fun_mk (st := s_wrong_wishes) l5 c5 k5, (fun_mk (st := s_wrong_wishes) l5 c5 k5).binds (ps := ["thing"]) fun _ _ _ _ _ _ us hl => match us, hl with | [_], _ => rfl⟩,
      d_made_map := ⟨(_, _), PySem.W.mg_of X G a6, fun_mk (st := s_made_map) l6 c6 k6, (fun_mk (st := s_made_map) l6 c6 k6).binds (ps := ["thing"]) fun _ _ _ _ _ _ us hl => match us, hl with | [_], _ => rfl⟩,
      d_is_place := ⟨(_, _), PySem.W.mg_of X G a7, fun_mk (st := s_is_place) l7 c7 k7, (fun_mk (st := s_is_place) l7 c7 k7).binds (ps := ["chart", "thing"]) fun _ _ _ _ _ _ us hl => match us, hl with | [_, _], _ => rfl⟩,
      d_check_place := ⟨(_, _), PySem.W.mg_of X G a8, fun_mk (st := s_check_place) l8 c8 k8, (fun_mk (st := s_check_place) l8 c8 k8).binds (ps := ["chart", "a"]) fun _ _ _ _ _ _ us hl => match us, hl with | [_, _], _ => rfl⟩,
      d_check_ends := ⟨(_, _), PySem.W.mg_of X G a9, fun_mk (st := s_check_ends) l9 c9 k9, (fun_mk (st := s_check_ends) l9 c9 k9).binds (ps := ["chart", "a", "b"]) fun _ _ _ _ _ _ us hl => match us, hl with | [_, _, _], _ => rfl⟩,
      d_with_road := ⟨(_, _), PySem.W.mg_of X G a10, fun_mk (st := s_with_road) l10 c10 k10, (fun_mk (st := s_with_road) l10 c10 k10).binds (ps := ["chart", "a", "b"]) fun _ _ _ _ _ _ us hl => match us, hl with | [_, _, _], _ => rfl⟩,
      d_without_road := ⟨(_, _), PySem.W.mg_of X G a11, fun_mk (st := s_without_road) l11 c11 k11, (fun_mk (st := s_without_road) l11 c11 k11).binds (ps := ["chart", "a", "b"]) fun _ _ _ _ _ _ us hl => match us, hl with | [_, _, _], _ => rfl⟩,
      d_with_wish := ⟨(_, _), PySem.W.mg_of X G a12, fun_mk (st := s_with_wish) l12 c12 k12, (fun_mk (st := s_with_wish) l12 c12 k12).binds (ps := ["chart", "a"]) fun _ _ _ _ _ _ us hl => match us, hl with | [_, _], _ => rfl⟩,
      d_without_wish := ⟨(_, _), PySem.W.mg_of X G a13, fun_mk (st := s_without_wish) l13 c13 k13, (fun_mk (st := s_without_wish) l13 c13 k13).binds (ps := ["chart", "a"]) fun _ _ _ _ _ _ us hl => match us, hl with | [_, _], _ => rfl⟩,
      d__law_pool := ⟨(_, _), PySem.W.mg_of X G a14, fun_mk (st := s__law_pool) l14 c14 k14, (fun_mk (st := s__law_pool) l14 c14 k14).binds (ps := ["script"]) fun _ _ _ _ _ _ us hl => match us, hl with | [_], _ => rfl⟩,
      d__law_draw := ⟨(_, _), PySem.W.mg_of X G a15, fun_mk (st := s__law_draw) l15 c15 k15, (fun_mk (st := s__law_draw) l15 c15 k15).binds (ps := ["pool", "many"]) fun _ _ _ _ _ _ us hl => match us, hl with | [_, _], _ => rfl⟩,
      d__law_pick := ⟨(_, _), PySem.W.mg_of X G a16, fun_mk (st := s__law_pick) l16 c16 k16, (fun_mk (st := s__law_pick) l16 c16 k16).binds (ps := ["pool", "things"]) fun _ _ _ _ _ _ us hl => match us, hl with | [_, _], _ => rfl⟩,
      d__law_turned := ⟨(_, _), PySem.W.mg_of X G a17, fun_mk (st := s__law_turned) l17 c17 k17, (fun_mk (st := s__law_turned) l17 c17 k17).binds (ps := ["pool", "many"]) fun _ _ _ _ _ _ us hl => match us, hl with | [_, _], _ => rfl⟩,
      d__law_map_named := ⟨(_, _), PySem.W.mg_of X G a18, fun_mk (st := s__law_map_named) l18 c18 k18, (fun_mk (st := s__law_map_named) l18 c18 k18).binds (ps := ["pool", "places", "roads", "wished"]) fun _ _ _ _ _ _ us hl => match us, hl with | [_, _, _, _], _ => rfl⟩,
      d__law_map_some_wished := ⟨(_, _), PySem.W.mg_of X G a19, fun_mk (st := s__law_map_some_wished) l19 c19 k19, (fun_mk (st := s__law_map_some_wished) l19 c19 k19).binds (ps := ["pool", "places", "roads"]) fun _ _ _ _ _ _ us hl => match us, hl with | [_, _, _], _ => rfl⟩,
      d__law_map_drawn := ⟨(_, _), PySem.W.mg_of X G a20, fun_mk (st := s__law_map_drawn) l20 c20 k20, (fun_mk (st := s__law_map_drawn) l20 c20 k20).binds (ps := ["pool", "most"]) fun _ _ _ _ _ _ us hl => match us, hl with | [_, _], _ => rfl⟩,
      d__law_call := ⟨(_, _), PySem.W.mg_of X G a21, fun_mk (st := s__law_call) l21 c21 k21, (fun_mk (st := s__law_call) l21 c21 k21).binds (ps := ["way", "chart", "a", "b"]) fun _ _ _ _ _ _ us hl => match us, hl with | [_, _, _, _], _ => rfl⟩,
      d__law_heard := ⟨(_, _), PySem.W.mg_of X G a22, fun_mk (st := s__law_heard) l22 c22 k22, (fun_mk (st := s__law_heard) l22 c22 k22).binds (ps := ["way", "chart", "a", "b"]) fun _ _ _ _ _ _ us hl => match us, hl with | [_, _, _, _], _ => rfl⟩,
      d__law_is_place := ⟨(_, _), PySem.W.mg_of X G a23, fun_mk (st := s__law_is_place) l23 c23 k23, (fun_mk (st := s__law_is_place) l23 c23 k23).binds (ps := ["chart", "a"]) fun _ _ _ _ _ _ us hl => match us, hl with | [_, _], _ => rfl⟩,
      d__law_due := ⟨(_, _), PySem.W.mg_of X G a24, fun_mk (st := s__law_due) l24 c24 k24, (fun_mk (st := s__law_due) l24 c24 k24).binds (ps := ["way", "chart", "a", "b"]) fun _ _ _ _ _ _ us hl => match us, hl with | [_, _, _, _], _ => rfl⟩,
      d__law_thing := ⟨(_, _), PySem.W.mg_of X G a25, fun_mk (st := s__law_thing) l25 c25 k25, (fun_mk (st := s__law_thing) l25 c25 k25).binds (ps := ["pool", "chart", "known"]) fun _ _ _ _ _ _ us hl => match us, hl with | [_, _, _], _ => rfl⟩,
      d_law := ⟨(_, _), PySem.W.mg_of X G a26, fun_mk (st := s_law) l26 c26 k26, (fun_mk (st := s_law) l26 c26 k26).binds (ps := ["script"]) fun _ _ _ _ _ _ us hl => match us, hl with | [_], _ => rfl⟩,
      n_int := PySem.W.mg_none_of X G z_int,
      n_isinstance := PySem.W.mg_none_of X G z_isinstance,
      n_bool := PySem.W.mg_none_of X G z_bool,
      n_tuple := PySem.W.mg_none_of X G z_tuple,
      n_len := PySem.W.mg_none_of X G z_len,
      n_range := PySem.W.mg_none_of X G z_range,
      n_sorted := PySem.W.mg_none_of X G z_sorted,
      n_list := PySem.W.mg_none_of X G z_list,
      n_set := PySem.W.mg_none_of X G z_set,
      n_min := PySem.W.mg_none_of X G z_min,
      n_max := PySem.W.mg_none_of X G z_max,
      n_repr := PySem.W.mg_none_of X G z_repr,
      c_MOST_PLACES := ⟨_, PySem.W.mg_of X G q_MOST_PLACES⟩,
      c_MOST_ROADS := ⟨_, PySem.W.mg_of X G q_MOST_ROADS⟩,
      ers := { cl := fun j => ([C0, C1, C2, C3, C4, C5, C6, C7] : List Addr).getD j C0, fI := fI, fd := _, fn := fun_mk (st := s_init) lI cI kI, bd := ((fun_mk (st := s_init) lI cI kI).binds (ps := ["self", "what"]) (fun _ _ _ _ _ _ us hl => match us, hl with | [_, _], _ => rfl)), ox := (fun j => match j with | 0 => ⟨⟨_, _, _, _, _, _, _, _, _, _, _, _, _, _, _, xC0, by rfl⟩, sa0, eC0, tC0, kC0⟩ | 1 => ⟨⟨_, _, _, _, _, _, _, _, _, _, _, _, _, _, _, xC1, by rfl⟩, sa1, eC1, tC1, kC1⟩ | 2 => ⟨⟨_, _, _, _, _, _, _, _, _, _, _, _, _, _, _, xC2, by rfl⟩, sa2, eC2, tC2, kC2⟩ | 3 => ⟨⟨_, _, _, _, _, _, _, _, _, _, _, _, _, _, _, xC3, by rfl⟩, sa3, eC3, tC3, kC3⟩ | 4 => ⟨⟨_, _, _, _, _, _, _, _, _, _, _, _, _, _, _, xC4, by rfl⟩, sa4, eC4, tC4, kC4⟩ | 5 => ⟨⟨_, _, _, _, _, _, _, _, _, _, _, _, _, _, _, xC5, by rfl⟩, sa5, eC5, tC5, kC5⟩ | 6 => ⟨⟨_, _, _, _, _, _, _, _, _, _, _, _, _, _, _, xC6, by rfl⟩, sa6, eC6, tC6, kC6⟩ | 7 => ⟨⟨_, _, _, _, _, _, _, _, _, _, _, _, _, _, _, xC7, by rfl⟩, sa7, eC7, tC7, kC7⟩ | _ + 8 => ⟨⟨_, _, _, _, _, _, _, _, _, _, _, _, _, _, _, xC0, by rfl⟩, sa0, eC0, tC0, kC0⟩), it := (fun j => match j with | 0 => it0 | 1 => it1 | 2 => it2 | 3 => it3 | 4 => it4 | 5 => it5 | 6 => it6 | 7 => it7 | _ + 8 => it0), tI := tI, ec := (fun j => match j with | 0 => ⟨⟨ga0, gg0, eC0, hC0⟩, nw0, iC0, ca0, gs, tkc, mo0⟩ | 1 => ⟨⟨ga1, gg1, eC1, hC1⟩, nw1, iC1, ca1, gs, tkc, mo1⟩ | 2 => ⟨⟨ga2, gg2, eC2, hC2⟩, nw2, iC2, ca2, gs, tkc, mo2⟩ | 3 => ⟨⟨ga3, gg3, eC3, hC3⟩, nw3, iC3, ca3, gs, tkc, mo3⟩ | 4 => ⟨⟨ga4, gg4, eC4, hC4⟩, nw4, iC4, ca4, gs, tkc, mo4⟩ | 5 => ⟨⟨ga5, gg5, eC5, hC5⟩, nw5, iC5, ca5, gs, tkc, mo5⟩ | 6 => ⟨⟨ga6, gg6, eC6, hC6⟩, nw6, iC6, ca6, gs, tkc, mo6⟩ | 7 => ⟨⟨ga7, gg7, eC7, hC7⟩, nw7, iC7, ca7, gs, tkc, mo7⟩ | _ + 8 => ⟨⟨ga0, gg0, eC0, hC0⟩, nw0, iC0, ca0, gs, tkc, mo0⟩) },
      g_BadMap := PySem.W.mg_of X G aC1,
      g_BadWish := PySem.W.mg_of X G aC2,
      g_BadPlace := PySem.W.mg_of X G aC3,
      g_Twice := PySem.W.mg_of X G aC5,
      g_TooMany := PySem.W.mg_of X G aC4,
      g_NoRoad := PySem.W.mg_of X G aC6,
      g_NotWished := PySem.W.mg_of X G aC7,
      g_Refused := PySem.W.mg_of X G aC0,
      x_BadMap := (fun j => match j with | 0 => PySem.W.exm_ref eC1 hC1 tC1 s0_1 | 1 => PySem.W.exm_ref eC1 hC1 tC1 s1_1 | 2 => PySem.W.exm_ref eC1 hC1 tC1 s2_1 | 3 => PySem.W.exm_ref eC1 hC1 tC1 s3_1 | 4 => PySem.W.exm_ref eC1 hC1 tC1 s4_1 | 5 => PySem.W.exm_ref eC1 hC1 tC1 s5_1 | 6 => PySem.W.exm_ref eC1 hC1 tC1 s6_1 | 7 => PySem.W.exm_ref eC1 hC1 tC1 s7_1 | _ + 8 => PySem.W.exm_ref eC1 hC1 tC1 s0_1),
      x_BadWish := (fun j => match j with | 0 => PySem.W.exm_ref eC2 hC2 tC2 s0_2 | 1 => PySem.W.exm_ref eC2 hC2 tC2 s1_2 | 2 => PySem.W.exm_ref eC2 hC2 tC2 s2_2 | 3 => PySem.W.exm_ref eC2 hC2 tC2 s3_2 | 4 => PySem.W.exm_ref eC2 hC2 tC2 s4_2 | 5 => PySem.W.exm_ref eC2 hC2 tC2 s5_2 | 6 => PySem.W.exm_ref eC2 hC2 tC2 s6_2 | 7 => PySem.W.exm_ref eC2 hC2 tC2 s7_2 | _ + 8 => PySem.W.exm_ref eC2 hC2 tC2 s0_2),
      x_BadPlace := (fun j => match j with | 0 => PySem.W.exm_ref eC3 hC3 tC3 s0_3 | 1 => PySem.W.exm_ref eC3 hC3 tC3 s1_3 | 2 => PySem.W.exm_ref eC3 hC3 tC3 s2_3 | 3 => PySem.W.exm_ref eC3 hC3 tC3 s3_3 | 4 => PySem.W.exm_ref eC3 hC3 tC3 s4_3 | 5 => PySem.W.exm_ref eC3 hC3 tC3 s5_3 | 6 => PySem.W.exm_ref eC3 hC3 tC3 s6_3 | 7 => PySem.W.exm_ref eC3 hC3 tC3 s7_3 | _ + 8 => PySem.W.exm_ref eC3 hC3 tC3 s0_3),
      x_Twice := (fun j => match j with | 0 => PySem.W.exm_ref eC5 hC5 tC5 s0_5 | 1 => PySem.W.exm_ref eC5 hC5 tC5 s1_5 | 2 => PySem.W.exm_ref eC5 hC5 tC5 s2_5 | 3 => PySem.W.exm_ref eC5 hC5 tC5 s3_5 | 4 => PySem.W.exm_ref eC5 hC5 tC5 s4_5 | 5 => PySem.W.exm_ref eC5 hC5 tC5 s5_5 | 6 => PySem.W.exm_ref eC5 hC5 tC5 s6_5 | 7 => PySem.W.exm_ref eC5 hC5 tC5 s7_5 | _ + 8 => PySem.W.exm_ref eC5 hC5 tC5 s0_5),
      x_TooMany := (fun j => match j with | 0 => PySem.W.exm_ref eC4 hC4 tC4 s0_4 | 1 => PySem.W.exm_ref eC4 hC4 tC4 s1_4 | 2 => PySem.W.exm_ref eC4 hC4 tC4 s2_4 | 3 => PySem.W.exm_ref eC4 hC4 tC4 s3_4 | 4 => PySem.W.exm_ref eC4 hC4 tC4 s4_4 | 5 => PySem.W.exm_ref eC4 hC4 tC4 s5_4 | 6 => PySem.W.exm_ref eC4 hC4 tC4 s6_4 | 7 => PySem.W.exm_ref eC4 hC4 tC4 s7_4 | _ + 8 => PySem.W.exm_ref eC4 hC4 tC4 s0_4),
      x_NoRoad := (fun j => match j with | 0 => PySem.W.exm_ref eC6 hC6 tC6 s0_6 | 1 => PySem.W.exm_ref eC6 hC6 tC6 s1_6 | 2 => PySem.W.exm_ref eC6 hC6 tC6 s2_6 | 3 => PySem.W.exm_ref eC6 hC6 tC6 s3_6 | 4 => PySem.W.exm_ref eC6 hC6 tC6 s4_6 | 5 => PySem.W.exm_ref eC6 hC6 tC6 s5_6 | 6 => PySem.W.exm_ref eC6 hC6 tC6 s6_6 | 7 => PySem.W.exm_ref eC6 hC6 tC6 s7_6 | _ + 8 => PySem.W.exm_ref eC6 hC6 tC6 s0_6),
      x_NotWished := (fun j => match j with | 0 => PySem.W.exm_ref eC7 hC7 tC7 s0_7 | 1 => PySem.W.exm_ref eC7 hC7 tC7 s1_7 | 2 => PySem.W.exm_ref eC7 hC7 tC7 s2_7 | 3 => PySem.W.exm_ref eC7 hC7 tC7 s3_7 | 4 => PySem.W.exm_ref eC7 hC7 tC7 s4_7 | 5 => PySem.W.exm_ref eC7 hC7 tC7 s5_7 | 6 => PySem.W.exm_ref eC7 hC7 tC7 s6_7 | 7 => PySem.W.exm_ref eC7 hC7 tC7 s7_7 | _ + 8 => PySem.W.exm_ref eC7 hC7 tC7 s0_7),
      x_Refused := (fun j => match j with | 0 => PySem.W.exm_ref eC0 hC0 tC0 s0_0 | 1 => PySem.W.exm_ref eC0 hC0 tC0 s1_0 | 2 => PySem.W.exm_ref eC0 hC0 tC0 s2_0 | 3 => PySem.W.exm_ref eC0 hC0 tC0 s3_0 | 4 => PySem.W.exm_ref eC0 hC0 tC0 s4_0 | 5 => PySem.W.exm_ref eC0 hC0 tC0 s5_0 | 6 => PySem.W.exm_ref eC0 hC0 tC0 s6_0 | 7 => PySem.W.exm_ref eC0 hC0 tC0 s7_0 | _ + 8 => PySem.W.exm_ref eC0 hC0 tC0 s0_0),
      y_Refused := (fun j => match j with | 0 => y0_0 | 1 => y1_0 | 2 => y2_0 | 3 => y3_0 | 4 => y4_0 | 5 => y5_0 | 6 => y6_0 | 7 => y7_0 | _ + 8 => y0_0) }, rfl⟩
  refine ⟨PySem.W.fnOf "law" "law" (defArgs s_law) (defBody s_law) (defScope s_law) .none kV26 dc26 pm26 an26 cd26 ct26, fun s v => .of_eq rfl, fun base _ _ => ?_⟩
  have z := ok_law (P := l.prog) (w := w) (base := base) T
  rw [hT] at z
  exact z
end Rf
/-! SpA: what a mirror does, said by what holds behind it. -/
namespace Sp
open PySem Mi

def W {α : Type} (r : Res α) (Q : α → Sto → Prop) : Prop := match r with
  | .ok a s => Q a s
  | _ => False
def X (r : Fl) (N : En → Sto → Prop) (K : Fl → Prop) : Prop := match r with
  | .nx e s => N e s
  | r => K r
def Wf (r : Fl) (N : En → Sto → Prop) : Prop := match r with
  | .nx e s => N e s
  | _ => False
/-- the ends of a def -/
def KR (Q : AV → Sto → Prop) : Fl → Prop := fun r => match r with
  | .ret v s => Q v s
  | _ => False
def TK (J N : En → Sto → Prop) (K : Fl → Prop) : Fl → Prop := fun r => match r with
  | .cnt e s => J e s
  | .brk e s => N e s
  | r => K r
def onB (x : AV) (f : Bool → Prop) : Prop := match x with
  | .bl b => f b
  | _ => False
@[simp] theorem onB_bl (b : Bool) (f : Bool → Prop) : onB (.bl b) f = f b := (rfl)
section
variable {α β : Type} {Q : AV → Sto → Prop} {N : En → Sto → Prop} {K : Fl → Prop} {en : En} {s : Sto}
@[simp] theorem KR_ret (v : AV) (s : Sto) : KR Q (.ret v s) = Q v s := (rfl)
@[simp] theorem KR_bad : KR Q .bad = False := (rfl)
@[simp] theorem KR_err (C : Nat) (w : AV) (e : En) (s : Sto) : KR Q (.err C w e s) = False := (rfl)
@[simp] theorem KR_brk (e : En) (s : Sto) : KR Q (.brk e s) = False := (rfl)
@[simp] theorem KR_cnt (e : En) (s : Sto) : KR Q (.cnt e s) = False := (rfl)
variable {J : En → Sto → Prop}
@[simp] theorem TK_ret (v : AV) (s : Sto) : TK J N K (.ret v s) = K (.ret v s) := (rfl)
@[simp] theorem TK_bad : TK J N K .bad = K .bad := (rfl)
@[simp] theorem TK_err (C : Nat) (w : AV) (e : En) (s : Sto) : TK J N K (.err C w e s) = K (.err C w e s) := (rfl)
@[simp] theorem TK_brk (e : En) (s : Sto) : TK J N K (.brk e s) = N e s := (rfl)
@[simp] theorem TK_cnt (e : En) (s : Sto) : TK J N K (.cnt e s) = J e s := (rfl)
@[simp] theorem W_ok {P : α → Sto → Prop} (a : α) (s : Sto) : W (.ok a s) P = P a s := (rfl)
@[simp] theorem W_bad {P : α → Sto → Prop} : W (.bad : Res α) P = False := (rfl)
@[simp] theorem W_bind {P : β → Sto → Prop} (r : Res α) (f : α → Sto → Res β) : W (r.bind f) P = W r fun a s => W (f a s) P := by cases r <;> rfl
@[simp] theorem W_ne {P : α → Sto → Prop} (r : Res α) : W r.ne P = W r P := by cases r <;> rfl
@[simp] theorem W_ite {P : α → Sto → Prop} (c : Prop) [Decidable c] (a b : Res α) : W (if c then a else b) P = if c then W a P else W b P := by split <;> rfl
theorem W_mono {P P' : α → Sto → Prop} {r : Res α} (h : W r P) (k : ∀ a s, P a s → P' a s) : W r P' := by
  cases r with
  | ok a s => exact k a s h
  | err => exact h
  | bad => exact h
theorem W_ex {P : α → Sto → Prop} {r : Res α} (h : W r P) : ∃ a s, r = .ok a s ∧ P a s := by
  cases r with
  | ok a s => exact ⟨a, s, rfl, h⟩
  | err => exact h.elim
  | bad => exact h.elim
theorem X_mono {N N' : En → Sto → Prop} {K K' : Fl → Prop} {r : Fl} (h : X r N K) (k : ∀ e s, N e s → N' e s) (k' : ∀ r, K r → K' r) : X r N' K' := by
  cases r with
  | nx e s => exact k e s h
  | _ => exact k' _ h
@[simp] theorem X_nx (e : En) (s : Sto) : X (.nx e s) N K = N e s := (rfl)
@[simp] theorem X_ret (v : AV) (s : Sto) : X (.ret v s) N K = K (.ret v s) := (rfl)
@[simp] theorem X_brk (e : En) (s : Sto) : X (.brk e s) N K = K (.brk e s) := (rfl)
@[simp] theorem X_cnt (e : En) (s : Sto) : X (.cnt e s) N K = K (.cnt e s) := (rfl)
@[simp] theorem X_bad : X .bad N K = K .bad := (rfl)
@[simp] theorem X_ite (c : Prop) [Decidable c] (a b : Fl) : X (if c then a else b) N K = if c then X a N K else X b N K := by split <;> rfl
@[simp] theorem Wf_nx (e : En) (s : Sto) : Wf (.nx e s) N = N e s := (rfl)
@[simp] theorem Wf_bad : Wf .bad N = False := (rfl)
@[simp] theorem Wf_ite (c : Prop) [Decidable c] (a b : Fl) : Wf (if c then a else b) N = if c then Wf a N else Wf b N := by split <;> rfl
@[simp] theorem Wf_next (r : Fl) (f : En → Sto → Fl) : Wf (r.next f) N = Wf r fun e s => Wf (f e s) N := by cases r <;> rfl
theorem Wf_fl (r : Res AV) (f : AV → Sto → Fl) : Wf (Res.fl r en f) N = W r fun v s => Wf (f v s) N := by cases r <;> rfl
@[simp] theorem x_seq (a b : MS) : X (S.seq a b en s) N K = X (a en s) (fun e s => X (b e s) N K) K := by
  unfold S.seq; cases a en s <;> rfl
@[simp] theorem x_skip : X (S.skip en s) N K = N en s := (rfl)
theorem x_asg {g : MG} {e : ME} (h : W (e en s) fun v s => Wf (g v en s) N) : X (S.asg g e en s) N K := by
  unfold S.asg; revert h; cases e en s with
  | ok v s => intro h; change Wf (g v en s) N at h; change X (S.gx (g v en s)) N K; revert h; cases g v en s <;> first | exact fun h => h | exact fun h => h.elim
  | _ => exact fun h => h.elim
theorem x_expr {e : ME} (h : W (e en s) fun v s => N en s) : X (S.expr e en s) N K := by
  unfold S.expr; revert h; cases e en s <;> first | exact fun h => h | exact fun h => h.elim
theorem x_ret {e : ME} (h : W (e en s) fun v s => K (.ret v s)) : X (S.ret e en s) N K := by
  unfold S.ret; revert h; cases e en s <;> first | exact fun h => h | exact fun h => h.elim
theorem x_ife {t : MT} {a b : MS} (h : W (t en s) fun x s => if x = true then X (a en s) N K else X (b en s) N K) : X (S.ife t a b en s) N K := by
  unfold S.ife; revert h; cases t en s with
  | ok v s => intro h; change X (if v = true then a en s else b en s) N K; cases v <;> exact h
  | _ => exact fun h => h.elim
@[simp] theorem x_brk : X (S.brk en s) N K = K (.brk en s) := (rfl)
@[simp] theorem x_cnt : X (S.cnt en s) N K = K (.cnt en s) := (rfl)
theorem x_turn {r : Fl} {go : En → Sto → Fl} {J : En → Sto → Prop} (h : X r J (TK J N K)) (k : ∀ e s, J e s → X (go e s) N K) : X (S.turn r go) N K := by
  cases r with
  | nx e s => exact k e s h
  | cnt e s => exact k e s h
  | brk e s => exact h
  | _ => exact h
/-! expressions -/
theorem w_var {v : AV} (i : Nat) (h : en[i]? = some (some v)) (k : Q v s) : W (E.var i en s) Q := by
  unfold E.var; rw [h]; exact k
@[simp] theorem w_var0 (v : AV) (e : En) : W (E.var 0 (some v :: e) s) Q = Q v s := (rfl)
@[simp] theorem w_varS (i : Nat) (o : Option AV) (e : En) : W (E.var (i + 1) (o :: e) s) Q = W (E.var i e s) Q := (rfl)
@[simp] theorem w_c (v : AV) : W (E.c v en s) Q = Q v s := (rfl)
@[simp] theorem w_un (f : AV → Sto → Res AV) (a : ME) : W (E.un f a en s) Q = W (a en s) fun x s => W (f x s) Q := by unfold E.un; rw [W_bind]
@[simp] theorem w_op (f : O2) (a b : ME) : W (E.op f a b en s) Q = W (a en s) fun x s => W (b en s) fun y s => W (f x y s) Q := by unfold E.op; simp only [W_bind]
@[simp] theorem w_nil {P : List AV → Sto → Prop} : W (E.nil en s) P = P [] s := (rfl)
@[simp] theorem w_cons {P : List AV → Sto → Prop} (a : ME) (r : MA) : W (E.cons a r en s) P = W (a en s) fun x s => W (r en s) fun xs s => P (x :: xs) s := by unfold E.cons; simp only [W_bind, W_ok]
@[simp] theorem w_tup (a : MA) : W (E.tup a en s) Q = W (a en s) fun xs s => if xs.length ≤ lineZ then Q (.tup xs) s else False := by unfold E.tup; simp only [W_bind, W_ite, W_ok, W_bad]
@[simp] theorem w_lst (a : MA) : W (E.lst a en s) Q = W (a en s) fun xs s => if xs.length ≤ lineZ then Q (.ref s.length) (s ++ [.lst xs]) else False := by unfold E.lst newLst; simp only [W_bind, W_ite, W_ok, W_bad]
@[simp] theorem w_call (f : MF) (a : MA) : W (E.call f a en s) Q = W (a en s) fun xs s => W (f xs s) Q := by unfold E.call; simp only [W_bind]
@[simp] theorem w_calln (f : MF) (a : MA) : W (E.calln f a en s) Q = W (a en s) fun xs s => W (f xs s) Q := by unfold E.calln; simp only [W_bind, W_ne]
@[simp] theorem w_lmeth (f : AV → MF) (o : ME) (a : MA) : W (E.lmeth f o a en s) Q = W (o en s) fun x s => if isLst s x = true then W (a en s) fun xs s => W (f x xs s) Q else False := by unfold E.lmeth; simp only [W_bind, W_ite, W_bad]
@[simp] theorem w_and (a b : ME) : W (E.and a b en s) Q = W (a en s) fun x s => onB x fun c => if c = true then W (b en s) Q else Q (.bl false) s := by
  unfold E.and; rw [W_bind]; congr; funext x s; cases x with
  | bl c => cases c <;> rfl
  | _ => rfl
@[simp] theorem w_or (a b : ME) : W (E.or a b en s) Q = W (a en s) fun x s => onB x fun c => if c = true then Q (.bl true) s else W (b en s) Q := by
  unfold E.or; rw [W_bind]; congr; funext x s; cases x with
  | bl c => cases c <;> rfl
  | _ => rfl
@[simp] theorem w_not (a : ME) : W (E.not a en s) Q = W (a en s) fun x s => onB x fun c => Q (.bl (!c)) s := by
  unfold E.not; rw [W_bind]; congr; funext x s; cases x <;> rfl
@[simp] theorem w_iteE (t : MT) (a b : ME) : W (E.ite t a b en s) Q = W (t en s) fun x s => if x = true then W (a en s) Q else W (b en s) Q := by
  unfold E.ite; simp only [W_bind, W_ite]
@[simp] theorem w_chain (f g : O2) (a b c : ME) : W (E.chain f g a b c en s) Q = W (a en s) fun x s => W (b en s) fun y s => W (f x y s) fun z s => onB z fun d => if d = true then W (c en s) fun w s => W (g y w s) Q else Q (.bl false) s := by
  unfold E.chain; simp only [W_bind]; congr; funext x s; congr; funext y s; congr; funext z s; cases z with
  | bl d => cases d with
    | false => rfl
    | true => change W (Res.bind _ _) Q = _; rw [W_bind]; rfl
  | _ => rfl
variable {P : Bool → Sto → Prop}
@[simp] theorem t_val (a : ME) : W (T.val a en s) P = W (a en s) fun x s => onB x fun c => P c s := by
  unfold T.val; rw [W_bind]; congr; funext x s; cases x <;> rfl
@[simp] theorem t_tru (a : ME) : W (T.tru a en s) P = W (a en s) fun x s => W (truth x s) P := by unfold T.tru; rw [W_bind]
@[simp] theorem t_and (a b : MT) : W (T.and a b en s) P = W (a en s) fun x s => if x = true then W (b en s) P else P false s := by
  unfold T.and; simp only [W_bind, W_ite, W_ok]
@[simp] theorem t_or (a b : MT) : W (T.or a b en s) P = W (a en s) fun x s => if x = true then P true s else W (b en s) P := by
  unfold T.or; simp only [W_bind, W_ite, W_ok]
@[simp] theorem t_not (a : MT) : W (T.not a en s) P = W (a en s) fun x s => P (!x) s := by
  unfold T.not; simp only [W_bind, W_ok]
@[simp] theorem t_yes : W (T.yes en s) P = P true s := (rfl)
@[simp] theorem truth_bl (b : Bool) : W (truth (.bl b) s) P = P b s := (rfl)
/-! targets -/
@[simp] theorem g_name (i : Nat) (v : AV) : Wf (G.name i v en s) N = N (en.set i (some v)) s := (rfl)
@[simp] theorem g_unp (gs : List MG) (xs : List AV) : Wf (G.unp gs (.tup xs) en s) N = if xs.length = gs.length then Wf (G.all gs xs en s) N else False := by
  unfold G.unp; simp only [Wf_ite, Wf_bad]
theorem g_unpL (gs : List MG) (l : Nat) (xs : List AV) (h : seqAt s l = some xs) : Wf (G.unp gs (.ref l) en s) N = if xs.length = gs.length then Wf (G.all gs xs en s) N else False := by
  unfold G.unp; simp only [h, Wf_ite, Wf_bad]
@[simp] theorem g_all0 : Wf (G.all [] [] en s) N = N en s := (rfl)
@[simp] theorem g_allS (g : MG) (gs : List MG) (v : AV) (vs : List AV) : Wf (G.all (g :: gs) (v :: vs) en s) N = Wf (g v en s) fun e s => Wf (G.all gs vs e s) N := by
  change Wf (Fl.next _ _) N = _; rw [Wf_next]
@[simp] theorem g_sub (o i : ME) (v : AV) : Wf (G.sub o i v en s) N = W (o en s) fun x s => W (i en s) fun y s => Wf (G.setIx x y v en s) N := by
  unfold G.sub; rw [Wf_fl]; congr; funext x s; rw [Wf_fl]
/-! walked things -/
variable {PI : It → Sto → Prop}
theorem i_seq_tup {a : ME} (h : W (a en s) fun x s => match x with
  | .tup xs => PI (.fix xs) s
  | .ref l => ∃ xs, seqAt s l = some xs ∧ PI (.lst l) s
  | _ => False) : W (I.seq a en s) PI := by
  unfold I.seq
  revert h
  cases a en s with
  | ok v s =>
    cases v with
    | tup xs => exact fun h => h
    | ref l => rintro ⟨xs, h, k⟩; simp only [h]; exact k
    | _ => exact fun h => h.elim
  | _ => exact fun h => h.elim
/-! a def -/
theorem d_runn {np n : Nat} {b : MS} {vs : List AV} (hl : vs.length = np) (h : X (b (vs.map some ++ List.replicate (n - vs.length) none) s) (fun _ s => Q .non s) (KR Q)) : W (runDefn np n b vs s) Q := by
  unfold runDefn
  rw [if_neg (by rw [hl]; exact fun h => h rfl)]
  revert h
  generalize b (vs.map some ++ List.replicate (n - vs.length) none) s = r
  cases r <;> first | exact fun h => h | exact fun h => h.elim
/-! loops -/
theorem forT_w {body : AV → MS} {N : En → Sto → Prop} {K : Fl → Prop} (I : Nat → En → Sto → Prop) : ∀ (xs : List AV) (k0 : Nat) (en : En) (s : Sto), I k0 en s →
    (∀ k x en s, xs[k]? = some x → I (k0 + k) en s → X (body x en s) (I (k0 + k + 1)) (TK (I (k0 + k + 1)) N K)) → (∀ en s, I (k0 + xs.length) en s → N en s) → X (S.forT body xs en s) N K
  | [], k0, en, s, h0, _, fin => fin en s h0
  | x :: xs, k0, en, s, h0, st, fin => x_turn (st 0 x en s rfl h0) fun e s h => forT_w I xs (k0 + 1) e s h (fun k y e s hy hi => by
      have := st (k + 1) y e s hy (by rw [show k0 + (k + 1) = k0 + 1 + k by omega]; exact hi)
      rw [show k0 + (k + 1) + 1 = k0 + 1 + k + 1 by omega] at this; exact this) (fun e s h => fin e s (by rw [List.length_cons, show k0 + (xs.length + 1) = k0 + 1 + xs.length by omega]; exact h))
theorem forL_w {body : AV → MS} {N : En → Sto → Prop} {K : Fl → Prop} (I : Nat → En → Sto → Prop) (xs : List AV) (l : Nat) (hseq : ∀ k en s, k ≤ xs.length → I k en s → seqAt s l = some xs)
    (st : ∀ k x en s, xs[k]? = some x → I k en s → X (body x en s) (I (k + 1)) (TK (I (k + 1)) N K)) (fin : ∀ en s, I xs.length en s → N en s) : ∀ (d k f : Nat) (en : En) (s : Sto), k + d = xs.length → d < f → I k en s → X (S.forL body l f k en s) N K
  | 0, k, 0, _, _, _, hf, _ => absurd hf (Nat.lt_irrefl _)
  | 0, k, f + 1, en, s, hk, _, h => by
    unfold S.forL; simp only [hseq k en s (by omega) h]
    rw [List.getElem?_eq_none (by omega)]
    have : k = xs.length := by omega
    subst this
    exact fin en s h
  | d + 1, k, 0, _, _, _, hf, _ => absurd hf (Nat.not_lt_zero _)
  | d + 1, k, f + 1, en, s, hk, hf, h => by
    unfold S.forL; simp only [hseq k en s (by omega) h]
    have hlt : k < xs.length := by omega
    rw [List.getElem?_eq_getElem hlt]
    exact x_turn (st k _ en s (List.getElem?_eq_getElem hlt) h) fun e s h => forL_w I xs l hseq st fin d (k + 1) f e s (by omega) (by omega) h
theorem loop_w {t : MT} {b : MS} {N : En → Sto → Prop} {K : Fl → Prop} (I : Nat → En → Sto → Prop)
    (st : ∀ m en s, I m en s → W (t en s) fun x s => if x = true then X (b en s) (fun e s => ∃ m', m' < m ∧ I m' e s) (TK (fun e s => ∃ m', m' < m ∧ I m' e s) N K) else N en s) : ∀ (f m : Nat) (en : En) (s : Sto), m < f → I m en s → X (S.loop t b f en s) N K
  | 0, _, _, _, h, _ => absurd h (Nat.not_lt_zero _)
  | f + 1, m, en, s, h, hi => by
    have h0 := st m en s hi
    unfold S.loop
    revert h0
    cases t en s with
    | ok x s =>
      intro h0
      change X (if x = true then _ else _) N K
      cases x with
      | true =>
        rw [if_pos rfl]
        exact x_turn h0 fun e s ⟨m', hm, hi'⟩ => loop_w I st f m' e s (by omega) hi'
      | false => exact h0
    | _ => exact fun h => h.elim
theorem while_w {t : MT} {b : MS} {N : En → Sto → Prop} {K : Fl → Prop} (I : Nat → En → Sto → Prop) (m : Nat) (hm : m < 1000000000) (h0 : I m en s)
    (st : ∀ m en s, I m en s → W (t en s) fun x s => if x = true then X (b en s) (fun e s => ∃ m', m' < m ∧ I m' e s) (TK (fun e s => ∃ m', m' < m ∧ I m' e s) N K) else N en s) : X (S.while_ t b en s) N K :=
  loop_w I st S.fuel m en s (by unfold S.fuel; omega) h0
/-- a for over fixed items -/
theorem for_fix {src : MI} {g : MG} {b : MS} {N : En → Sto → Prop} {K : Fl → Prop} (h : W (src en s) fun j s => ∃ (xs : List AV) (I : Nat → En → Sto → Prop), j = .fix xs ∧ I 0 en s ∧
    (∀ k x en s, xs[k]? = some x → I k en s → Wf (g x en s) fun en s => X (b en s) (I (k + 1)) (TK (I (k + 1)) N K)) ∧ (∀ en s, I xs.length en s → N en s)) : X (S.for_ src g b en s) N K := by
  unfold S.for_
  revert h
  cases src en s with
  | ok j s =>
    rintro ⟨xs, I, rfl, h0, st, fin⟩
    refine forT_w I xs 0 en s h0 (fun k x en s hx hi => ?_) (fun en s h => fin en s (by rw [Nat.zero_add] at h; exact h))
    have := st k x en s hx (by rw [Nat.zero_add] at hi; exact hi)
    rw [Nat.zero_add]
    revert this
    cases g x en s with
    | nx e s => exact fun h => h
    | _ => exact fun h => h.elim
  | _ => exact fun h => h.elim
/-- a for over a list -/
theorem for_lst {src : MI} {g : MG} {b : MS} {N : En → Sto → Prop} {K : Fl → Prop} (h : W (src en s) fun j s => ∃ (l : Nat) (xs : List AV) (I : Nat → En → Sto → Prop), j = .lst l ∧ xs.length < 1000000000 ∧ I 0 en s ∧
    (∀ k en s, k ≤ xs.length → I k en s → seqAt s l = some xs) ∧
    (∀ k x en s, xs[k]? = some x → I k en s → Wf (g x en s) fun en s => X (b en s) (I (k + 1)) (TK (I (k + 1)) N K)) ∧ (∀ en s, I xs.length en s → N en s)) : X (S.for_ src g b en s) N K := by
  unfold S.for_
  revert h
  cases src en s with
  | ok j s =>
    rintro ⟨l, xs, I, rfl, hl, h0, hq, st, fin⟩
    change X (S.forI (fun v en s => (S.gx (g v en s)).next fun en s => b en s) (It.lst l) en s) N K
    unfold S.forI
    simp only
    refine forL_w I xs l hq (fun k x en s hx hi => ?_) fin xs.length 0 S.fuel en s (by omega) (by unfold S.fuel; omega) h0
    have := st k x en s hx hi
    revert this
    cases g x en s with
    | nx e s => exact fun h => h
    | _ => exact fun h => h.elim
  | _ => exact fun h => h.elim
/-! comprehensions -/
theorem lcT_w {g : MG} {t : MT} {e : ME} {own : List Nat} {D : Nat} {x : AV} {P : Unit → Sto → Prop} (h : Wf (g x (wipe en own) s) fun en' s' => W (t en' s') fun b s' => if b = true then W (e en' s') fun y s' => ∃ acc, s'[D]? = some (.lst acc) ∧ acc.length < lineZ ∧ P () (s'.set D (.lst (acc ++ [y]))) else P () s') : W (E.lcT g t e own en D x s) P := by
  unfold E.lcT
  revert h
  cases g x (wipe en own) s with
  | nx en' s' =>
    intro h
    change W (t en' s') _ at h
    change W ((t en' s').ne.bind _) P
    rw [W_bind, W_ne]
    refine W_mono h fun b s' h => ?_
    cases b with
    | false => exact h
    | true =>
      rw [if_pos rfl, W_bind, W_ne]
      refine W_mono h fun y s' ⟨acc, h1, h2, h3⟩ => ?_
      unfold E.grow; rw [h1]; simp only; rw [if_pos h2]; exact h3
  | _ => exact fun h => h.elim
theorem lcFix_w {turn : AV → Sto → Res Unit} {P : Unit → Sto → Prop} (I : Nat → Sto → Prop) : ∀ (xs : List AV) (k0 : Nat) (s : Sto), I k0 s → (∀ k x s, xs[k]? = some x → I (k0 + k) s → W (turn x s) fun _ s => I (k0 + k + 1) s) → (∀ s, I (k0 + xs.length) s → P () s) → W (E.lcFix turn xs s) P
  | [], k0, s, h0, _, fin => fin s h0
  | x :: xs, k0, s, h0, st, fin => by
    unfold E.lcFix; rw [W_bind]
    refine W_mono (st 0 x s rfl h0) fun _ s h => lcFix_w I xs (k0 + 1) s h (fun k y s hy hi => ?_) (fun s h => fin s (by rw [List.length_cons, show k0 + (xs.length + 1) = k0 + 1 + xs.length by omega]; exact h))
    have := st (k + 1) y s hy (by rw [show k0 + (k + 1) = k0 + 1 + k by omega]; exact hi)
    rw [show k0 + (k + 1) + 1 = k0 + 1 + k + 1 by omega] at this; exact this
theorem lcLst_w {turn : AV → Sto → Res Unit} {P : Unit → Sto → Prop} (I : Nat → Sto → Prop) (xs : List AV) (l : Nat) (hseq : ∀ k s, k ≤ xs.length → I k s → seqAt s l = some xs)
    (st : ∀ k x s, xs[k]? = some x → I k s → W (turn x s) fun _ s => I (k + 1) s) (fin : ∀ s, I xs.length s → P () s) : ∀ (d k f : Nat) (s : Sto), k + d = xs.length → d < f → I k s → W (E.lcLst turn l f k s) P
  | 0, k, 0, _, _, hf, _ => absurd hf (Nat.lt_irrefl _)
  | 0, k, f + 1, s, hk, _, h => by
    unfold E.lcLst; simp only [hseq k s (by omega) h]
    rw [List.getElem?_eq_none (by omega)]
    have : k = xs.length := by omega
    subst this
    exact fin s h
  | d + 1, k, 0, _, _, hf, _ => absurd hf (Nat.not_lt_zero _)
  | d + 1, k, f + 1, s, hk, hf, h => by
    unfold E.lcLst; simp only [hseq k s (by omega) h]
    have hlt : k < xs.length := by omega
    rw [List.getElem?_eq_getElem hlt]
    change W (Res.bind _ _) P
    rw [W_bind]
    exact W_mono (st k _ s (List.getElem?_eq_getElem hlt) h) fun _ s h => lcLst_w I xs l hseq st fin d (k + 1) f s (by omega) (by omega) h
/-- a comprehension by an invariant over what was taken; D is the list -/
inductive LcW (g : MG) (t : MT) (e : ME) (own : List Nat) (en : En) (Q : AV → Sto → Prop) (j : It) (s : Sto) : Prop
  | mk (xs : List AV) (I : Nat → List AV → Sto → Prop) (hl : xs.length < lineZ) (hj : j = .fix xs ∨ ∃ l, j = .lst l ∧ ∀ k acc s, I k acc s → seqAt s l = some xs) (h0 : I 0 [] (s ++ [.lst []]))
    (st : ∀ k x acc s', xs[k]? = some x → acc.length ≤ k → I k acc s' → s'[s.length]? = some (.lst acc) → Wf (g x (wipe en own) s') fun en' s1 => W (t en' s1) fun b s1 => if b = true then W (e en' s1) fun y s1 => s1[s.length]? = some (.lst acc) ∧ I (k + 1) (acc ++ [y]) (s1.set s.length (.lst (acc ++ [y]))) else s1[s.length]? = some (.lst acc) ∧ I (k + 1) acc s1)
    (fin : ∀ acc s', I xs.length acc s' → s'[s.length]? = some (.lst acc) → Q (.ref s.length) s')
theorem lc_w {src : MI} {g : MG} {t : MT} {e : ME} {own : List Nat} (h : W (src en s) (LcW g t e own en Q)) : W (E.lc src g t e own en s) Q := by
  unfold E.lc
  rw [W_bind]
  refine W_mono h ?_
  rintro j s ⟨xs, I, hxs, hj, h0, st, fin⟩
  have key : ∀ k x s', xs[k]? = some x → (∃ acc, acc.length ≤ k ∧ s'[s.length]? = some (.lst acc) ∧ I k acc s') → W (E.lcT g t e own en s.length x s') fun _ s' => ∃ acc, acc.length ≤ k + 1 ∧ s'[s.length]? = some (.lst acc) ∧ I (k + 1) acc s' := by
    rintro k x s' hx ⟨acc, hl, ha, hi⟩
    have hk : k < xs.length := by
      rcases Nat.lt_or_ge k xs.length with h | h
      · exact h
      · rw [List.getElem?_eq_none h] at hx; exact nomatch hx
    refine lcT_w ?_
    have h1 := st k x acc s' hx hl hi ha
    revert h1
    cases g x (wipe en own) s' with
    | nx en' s1 =>
      intro h1
      refine W_mono (r := t en' s1) h1 fun b s1 h1 => ?_
      cases b with
      | false => exact ⟨acc, by omega, h1.1, h1.2⟩
      | true =>
        refine W_mono (r := e en' s1) h1 fun y s1 h1 => ⟨acc, h1.1, by omega, acc ++ [y], by simp; omega, ?_, h1.2⟩
        have hlt : s.length < s1.length := by
          rcases Nat.lt_or_ge s.length s1.length with h | h
          · exact h
          · have h2 := h1.1; rw [List.getElem?_eq_none h] at h2; exact nomatch h2
        simp [hlt]
    | _ => exact fun h => h.elim
  have h00 : ∃ acc : List AV, acc.length ≤ 0 ∧ (s ++ [MO.lst []])[s.length]? = some (.lst acc) ∧ I 0 acc (s ++ [MO.lst []]) := ⟨[], Nat.le_refl _, by simp, h0⟩
  have hfin : ∀ s', (∃ acc, acc.length ≤ xs.length ∧ s'[s.length]? = some (.lst acc) ∧ I xs.length acc s') → Q (.ref s.length) s' := fun s' ⟨acc, _, ha, hi⟩ => fin acc s' hi ha
  change W (Res.bind _ _) Q
  rw [W_bind]
  rcases hj with rfl | ⟨l, rfl, hseq⟩
  · refine lcFix_w (fun k s' => ∃ acc, acc.length ≤ k ∧ s'[s.length]? = some (.lst acc) ∧ I k acc s') xs 0 _ h00 (fun k x s' hx hi => ?_) (fun s' h => ?_)
    · have := key k x s' hx (by rw [Nat.zero_add] at hi; exact hi)
      rw [Nat.zero_add]; exact this
    · rw [Nat.zero_add] at h; exact hfin s' h
  · exact lcLst_w (fun k s' => ∃ acc, acc.length ≤ k ∧ s'[s.length]? = some (.lst acc) ∧ I k acc s') xs l (fun k s' _ ⟨acc, _, _, hi⟩ => hseq k acc s' hi) key (fun s' h => hfin s' h) xs.length 0 S.fuel _ (by omega) (by unfold S.fuel; unfold lineZ at hxs; omega) h00
end
/-! the store keeps -/
def Kp (L : List Nat) (s s' : Sto) : Prop := s.length ≤ s'.length ∧ ∀ l o, l ∉ L → s[l]? = some o → s'[l]? = some o
theorem lt_of_get {s : Sto} {l : Nat} {o : MO} (h : s[l]? = some o) : l < s.length := by
  rcases Nat.lt_or_ge l s.length with k | k
  · exact k
  · rw [List.getElem?_eq_none k] at h; exact nomatch h
theorem Kp.refl {L : List Nat} (s : Sto) : Kp L s s := ⟨Nat.le_refl _, fun _ _ _ h => h⟩
theorem Kp.trans {L : List Nat} {a b c : Sto} (h : Kp L a b) (k : Kp L b c) : Kp L a c := ⟨Nat.le_trans h.1 k.1, fun l o hl ho => k.2 l o hl (h.2 l o hl ho)⟩
theorem Kp.mono {L L' : List Nat} {a b : Sto} (h : Kp L a b) (k : ∀ l ∈ L, l ∈ L') : Kp L' a b := ⟨h.1, fun l o hl ho => h.2 l o (fun hh => hl (k l hh)) ho⟩
theorem Kp.nil {L : List Nat} {a b : Sto} (h : Kp [] a b) : Kp L a b := h.mono fun _ h => nomatch h
theorem Kp.app {L : List Nat} {a b : Sto} (t : Sto) (h : Kp L a b) : Kp L a (b ++ t) := ⟨by rw [List.length_append]; have := h.1; omega, fun l o hl ho => by
  have h1 := h.2 l o hl ho
  rw [List.getElem?_append_left (lt_of_get h1)]; exact h1⟩
theorem Kp.setN {L : List Nat} {a b : Sto} (l : Nat) (o : MO) (h : Kp L a b) (hl : a.length ≤ l) : Kp L a (b.set l o) := ⟨by rw [List.length_set]; exact h.1, fun m o' hm ho => by
  rw [List.getElem?_set_ne (by have := lt_of_get ho; omega)]; exact h.2 m o' hm ho⟩
theorem Kp.setM {L : List Nat} {a b : Sto} (l : Nat) (o : MO) (h : Kp L a b) (hl : l ∈ L) : Kp L a (b.set l o) := ⟨by rw [List.length_set]; exact h.1, fun m o' hm ho => by
  rw [List.getElem?_set_ne (fun e => hm (by rw [← e]; exact hl))]; exact h.2 m o' hm ho⟩
/-- keeping, where what was cut off is new -/
theorem Kp.weak {L L' : List Nat} {a b c : Sto} (h : Kp L' a b) (k : Kp L b c) (hn : ∀ l ∈ L, l ∈ L' ∨ a.length ≤ l) : Kp L' a c := ⟨Nat.le_trans h.1 k.1, fun l o hl ho => k.2 l o (fun hh => (hn l hh).elim hl (fun e => by have := lt_of_get ho; omega)) (h.2 l o hl ho)⟩
theorem seqAt_lst {s : Sto} {l : Nat} {xs : List AV} (h : s[l]? = some (.lst xs)) : seqAt s l = some xs := by unfold seqAt; rw [h]
theorem seqAt_rol {s : Sto} {l : Nat} {xs : List AV} (h : s[l]? = some (.rol xs)) : seqAt s l = some xs := by unfold seqAt; rw [h]
end Sp
/-! SpB: operations at plain values. -/
namespace Sp
open PySem Mi

abbrev nv (k : Nat) : AV := .int (k : Int)
/-- a tuple of numbers -/
def tn (xs : List Nat) : AV := .tup (xs.map nv)
def pr (x : Nat × Nat) : AV := .tup [nv x.1, nv x.2]
/-- a map -/
def CH (n : Nat) (rs : List (Nat × Nat)) (ws : List Nat) : AV := .tup [nv n, .tup (rs.map pr), .tup (ws.map nv)]
section
variable {Q : AV → Sto → Prop} {N : En → Sto → Prop} {s : Sto}
theorem lz0 : (0 ≤ lineZ) ↔ True := by simp [lineZ]
theorem lz1 : (1 ≤ lineZ) ↔ True := by simp [lineZ]
theorem lz2 : (2 ≤ lineZ) ↔ True := by simp [lineZ]
theorem lz3 : (3 ≤ lineZ) ↔ True := by simp [lineZ]
theorem lz4 : (4 ≤ lineZ) ↔ True := by simp [lineZ]
theorem lz5 : (5 ≤ lineZ) ↔ True := by simp [lineZ]
theorem lz6 : (6 ≤ lineZ) ↔ True := by simp [lineZ]
theorem lz7 : (7 ≤ lineZ) ↔ True := by simp [lineZ]
theorem lz8 : (8 ≤ lineZ) ↔ True := by simp [lineZ]
theorem lz9 : (9 ≤ lineZ) ↔ True := by simp [lineZ]
@[simp] theorem w_add (i j : Int) : W (addAV (.int i) (.int j) s) Q = Q (.int (i + j)) s := (rfl)
@[simp] theorem w_sub (i j : Int) : W (subAV (.int i) (.int j) s) Q = Q (.int (i - j)) s := (rfl)
@[simp] theorem w_lt (i j : Int) : W (ltAV (.int i) (.int j) s) Q = Q (.bl (decide (i < j))) s := (rfl)
@[simp] theorem w_le (i j : Int) : W (leAV (.int i) (.int j) s) Q = Q (.bl (decide (i ≤ j))) s := (rfl)
@[simp] theorem w_gt (i j : Int) : W (gtAV (.int i) (.int j) s) Q = Q (.bl (decide (j < i))) s := (rfl)
@[simp] theorem w_ge (i j : Int) : W (geAV (.int i) (.int j) s) Q = Q (.bl (decide (j ≤ i))) s := (rfl)
@[simp] theorem w_neg (i : Int) : W (negAV (.int i) s) Q = Q (.int (-i)) s := (rfl)
@[simp] theorem w_mod (i j : Int) : W (modAV (.int i) (.int j) s) Q = if 0 < j then Q (.int (i % j)) s else False := by
  change W (if _ then _ else _) Q = _; rw [W_ite]; rfl
@[simp] theorem w_div (i j : Int) : W (divAV (.int i) (.int j) s) Q = if 0 < j ∧ j < 1073741824 then Q (.int (i / j)) s else False := by
  change W (if _ then _ else _) Q = _; rw [W_ite]; rfl
@[simp] theorem w_mul (i j : Int) : W (mulAV (.int i) (.int j) s) Q = if (small i || small j) = true then Q (.int (i * j)) s else False := by
  change W (if _ then _ else _) Q = _; rw [W_ite]; rfl
@[simp] theorem w_pow18 : W (powAV (.int 10) (.int 18) s) Q = Q (.int 1000000000000000000) s := (rfl)
@[simp] theorem w_isNon (neg : Bool) (x : AV) : W (isAV neg x .non s) Q = Q (.bl (neg != decide (x = .non))) s := (rfl)
@[simp] theorem w_lenT (xs : List AV) : W (B.len [.tup xs] s) Q = Q (.int xs.length) s := (rfl)
theorem w_lenL {l : Nat} {xs : List AV} (h : s[l]? = some (.lst xs)) : W (B.len [.ref l] s) Q = Q (.int xs.length) s := by
  unfold B.len; simp only [h]; rfl
theorem w_lenR {l : Nat} {xs : List AV} (h : s[l]? = some (.rol xs)) : W (B.len [.ref l] s) Q = Q (.int xs.length) s := by
  unfold B.len; simp only [h]; rfl
@[simp] theorem w_int (i : Int) : W (B.int_ [.int i] s) Q = Q (.int i) s := (rfl)
@[simp] theorem w_min (i j : Int) : W (B.min2 [.int i, .int j] s) Q = Q (.int (if j < i then j else i)) s := (rfl)
@[simp] theorem w_max (i j : Int) : W (B.max2 [.int i, .int j] s) Q = Q (.int (if j > i then j else i)) s := (rfl)
@[simp] theorem w_tupT (xs : List AV) : W (B.tuple_ [.tup xs] s) Q = Q (.tup xs) s := (rfl)
theorem w_tupL {l : Nat} {xs : List AV} (h : seqAt s l = some xs) : W (B.tuple_ [.ref l] s) Q = Q (.tup xs) s := by
  unfold B.tuple_ items?; simp only [h]; rfl
@[simp] theorem w_lstT (xs : List AV) : W (B.list_ [.tup xs] s) Q = Q (.ref s.length) (s ++ [.lst xs]) := (rfl)
theorem w_lstL {l : Nat} {xs : List AV} (h : seqAt s l = some xs) : W (B.list_ [.ref l] s) Q = Q (.ref s.length) (s ++ [.lst xs]) := by
  unfold B.list_ items?; simp only [h]; rfl
@[simp] theorem w_isa_int (i : Int) : W (B.isa [.int i, .ty "int"] s) Q = Q (.bl true) s := (rfl)
@[simp] theorem w_isa_intb (i : Int) : W (B.isa [.int i, .ty "bool"] s) Q = Q (.bl false) s := (rfl)
@[simp] theorem w_isa_tup (xs : List AV) : W (B.isa [.tup xs, .ty "tuple"] s) Q = Q (.bl true) s := (rfl)
/-! index -/
theorem ixN_nat {n k : Nat} (h : k < n) : ixN n (k : Int) = some k := by
  unfold ixN; rw [if_pos (by omega), if_pos (by omega)]; simp
theorem w_ixT {xs : List AV} {k : Nat} {v : AV} (h : xs[k]? = some v) : W (ixAV (.tup xs) (nv k) s) Q = Q v s := by
  have hk : k < xs.length := by
    rcases Nat.lt_or_ge k xs.length with g | g
    · exact g
    · rw [List.getElem?_eq_none g] at h; exact nomatch h
  unfold ixAV items?; simp only [nv, ixN_nat hk, Option.bind_some, h]; rfl
theorem w_ixL {xs : List AV} {l k : Nat} {v : AV} (hl : seqAt s l = some xs) (h : xs[k]? = some v) : W (ixAV (.ref l) (nv k) s) Q = Q v s := by
  have hk : k < xs.length := by
    rcases Nat.lt_or_ge k xs.length with g | g
    · exact g
    · rw [List.getElem?_eq_none g] at h; exact nomatch h
  unfold ixAV items?; simp only [nv, hl, ixN_nat hk, Option.bind_some, h]; rfl
@[simp] theorem w_ix20 (a b : AV) : W (ixAV (.tup [a, b]) (.int 0) s) Q = Q a s := (rfl)
@[simp] theorem w_ix21 (a b : AV) : W (ixAV (.tup [a, b]) (.int 1) s) Q = Q b s := (rfl)
@[simp] theorem w_ix30 (a b c : AV) : W (ixAV (.tup [a, b, c]) (.int 0) s) Q = Q a s := (rfl)
@[simp] theorem w_ix31 (a b c : AV) : W (ixAV (.tup [a, b, c]) (.int 1) s) Q = Q b s := (rfl)
@[simp] theorem w_ix32 (a b c : AV) : W (ixAV (.tup [a, b, c]) (.int 2) s) Q = Q c s := (rfl)
@[simp] theorem w_pr0 (x : Nat × Nat) : W (ixAV (pr x) (.int 0) s) Q = Q (nv x.1) s := (rfl)
@[simp] theorem w_pr1 (x : Nat × Nat) : W (ixAV (pr x) (.int 1) s) Q = Q (nv x.2) s := (rfl)
@[simp] theorem w_ch0 (n : Nat) (rs : List (Nat × Nat)) (ws : List Nat) : W (ixAV (CH n rs ws) (.int 0) s) Q = Q (nv n) s := (rfl)
@[simp] theorem w_ch1 (n : Nat) (rs : List (Nat × Nat)) (ws : List Nat) : W (ixAV (CH n rs ws) (.int 1) s) Q = Q (.tup (rs.map pr)) s := (rfl)
@[simp] theorem w_ch2 (n : Nat) (rs : List (Nat × Nat)) (ws : List Nat) : W (ixAV (CH n rs ws) (.int 2) s) Q = Q (.tup (ws.map nv)) s := (rfl)
/-! in -/
theorem any_nv (k : Nat) : ∀ ws : List Nat, ((ws.map nv).any fun y => eqF y (nv k)) = decide (k ∈ ws)
  | [] => rfl
  | w :: ws => by
    rw [List.map_cons, List.any_cons, any_nv k ws]
    have : eqF (nv w) (nv k) = decide (k = w) := by
      change ((w : Int) == (k : Int)) = _
      by_cases h : k = w
      · subst h; simp
      · rw [decide_eq_false h]; exact beq_eq_false_iff_ne.mpr fun e => h (by omega)
    rw [this]; by_cases h : k = w <;> simp [h]
theorem all_flat (ws : List Nat) : (ws.map nv).all flat = true := by simp [nv, flat]
@[simp] theorem w_inT (neg : Bool) (k : Nat) (ws : List Nat) : W (inAV neg (nv k) (.tup (ws.map nv)) s) Q = Q (.bl (neg != decide (k ∈ ws))) s := by
  unfold inAV items?; simp only [all_flat, flat, any_nv]; rfl
theorem w_inL (neg : Bool) (k l : Nat) (ws : List Nat) (h : seqAt s l = some (ws.map nv)) : W (inAV neg (nv k) (.ref l) s) Q = Q (.bl (neg != decide (k ∈ ws))) s := by
  unfold inAV items?; simp only [h, all_flat, flat, any_nv]; rfl
/-! plain data -/
def dat : Nat → AV → PyData
  | _, .int i => .int i
  | _, .non => .none
  | _, .bl b => .bool b
  | _, .str x => .str x
  | n + 1, .tup xs => .tuple (xs.map (dat n))
  | _, _ => .none
def sok (x : Str) : Bool := PyData.strOk x && PyData.strOk (reprText x)
def pln : Nat → AV → Bool
  | _, .int i => true
  | _, .non => true
  | _, .bl _ => true
  | _, .str x => sok x
  | n + 1, .tup xs => xs.all (pln n)
  | _, _ => false
theorem mapM_all {α β : Type} {f : α → Option β} {g : α → β} : ∀ xs : List α, (∀ x ∈ xs, f x = some (g x)) → xs.mapM f = some (xs.map g)
  | [], _ => rfl
  | x :: xs, h => by
    rw [List.mapM_cons, h x (List.mem_cons_self ..), mapM_all xs fun y hy => h y (List.mem_cons_of_mem _ hy)]; rfl
theorem pd_dat (s : Sto) : ∀ (n m : Nat) (x : AV), pln n x = true → n ≤ m → pd s m x = some (dat n x)
  | n, m, .int i, _, _ => by cases n <;> cases m <;> rfl
  | n, m, .non, _, _ => by cases n <;> cases m <;> rfl
  | n, m, .bl i, _, _ => by cases n <;> cases m <;> rfl
  | n, m, .str i, _, _ => by cases n <;> cases m <;> rfl
  | n + 1, m + 1, .tup xs, h, hm => by
    have h' : ∀ x ∈ xs, pln n x = true := List.all_eq_true.mp h
    change (xs.mapM (pd s m)).map PyData.tuple = _
    rw [mapM_all xs fun x hx => pd_dat s n m x (h' x hx) (by omega)]; rfl
  | n + 1, 0, .tup xs, _, hm => absurd hm (by omega)
  | 0, _, .tup _, h, _ => nomatch h
  | 0, _, .ref _, h, _ => nomatch h
  | 0, _, .adr _, h, _ => nomatch h
  | 0, _, .ty _, h, _ => nomatch h
  | _ + 1, _, .ref _, h, _ => nomatch h
  | _ + 1, _, .adr _, h, _ => nomatch h
  | _ + 1, _, .ty _, h, _ => nomatch h
theorem canAll {α : Type} {f : α → PyData} : ∀ xs : List α, (∀ x ∈ xs, (f x).canLay0 = true) → PyData.canLayAll0 (xs.map f) = true
  | [], _ => rfl
  | x :: xs, h => by
    rw [List.map_cons, PyData.canLayAll0, h x (List.mem_cons_self ..), canAll xs fun y hy => h y (List.mem_cons_of_mem _ hy)]; rfl
theorem depAll {α : Type} {f : α → PyData} {n : Nat} : ∀ xs : List α, (∀ x ∈ xs, (f x).depth ≤ n) → PyData.depthAll (xs.map f) ≤ n
  | [], _ => Nat.zero_le _
  | x :: xs, h => by
    rw [List.map_cons, PyData.depthAll]
    exact Nat.max_le.mpr ⟨h x (List.mem_cons_self ..), depAll xs fun y hy => h y (List.mem_cons_of_mem _ hy)⟩
theorem dat_lay : ∀ (n : Nat) (x : AV), pln n x = true → (dat n x).canLay0 = true ∧ (dat n x).depth ≤ n
  | n, .int i, _ => by cases n <;> exact ⟨rfl, Nat.zero_le _⟩
  | n, .non, _ => by cases n <;> exact ⟨rfl, Nat.zero_le _⟩
  | n, .bl i, _ => by cases n <;> exact ⟨rfl, Nat.zero_le _⟩
  | n, .str i, h => by
    have h : sok i = true := by cases n <;> exact h
    cases n <;> exact ⟨(Bool.and_eq_true_iff.mp h).1, Nat.zero_le _⟩
  | n + 1, .tup xs, h => by
    have h' : ∀ x ∈ xs, pln n x = true := List.all_eq_true.mp h
    refine ⟨?_, ?_⟩
    · change PyData.canLayAll0 (xs.map (dat n)) = true
      exact canAll xs fun x hx => (dat_lay n x (h' x hx)).1
    · change PyData.depthAll (xs.map (dat n)) + 1 ≤ n + 1
      exact Nat.succ_le_succ (depAll xs fun x hx => (dat_lay n x (h' x hx)).2)
  | 0, .tup _, h => nomatch h
  | 0, .ref _, h => nomatch h
  | 0, .adr _, h => nomatch h
  | 0, .ty _, h => nomatch h
  | _ + 1, .ref _, h => nomatch h
  | _ + 1, .adr _, h => nomatch h
  | _ + 1, .ty _, h => nomatch h
theorem shaped_dat {n : Nat} {x : AV} (h : pln n x = true) (hn : n ≤ 60) : SeqAt.shaped (dat n x) = true := by
  have := dat_lay n x h
  unfold SeqAt.shaped; rw [this.1, decide_eq_true (by omega)]; rfl
theorem shaped_list {n : Nat} {xs : List AV} (h : xs.all (pln n) = true) (hn : n ≤ 60) : SeqAt.shaped (.list (xs.map (dat n))) = true := by
  have h' : ∀ x ∈ xs, pln n x = true := List.all_eq_true.mp h
  have c : (PyData.list (xs.map (dat n))).canLay0 = true := by
    change PyData.canLayAll0 (xs.map (dat n)) = true; exact canAll xs fun x hx => (dat_lay n x (h' x hx)).1
  have d : (PyData.list (xs.map (dat n))).depth ≤ 61 := by
    change PyData.depthAll (xs.map (dat n)) + 1 ≤ 61; exact Nat.le_trans (Nat.succ_le_succ (depAll xs fun x hx => (dat_lay n x (h' x hx)).2)) (by omega)
  unfold SeqAt.shaped; rw [c, decide_eq_true (by omega)]; rfl
@[simp] theorem w_eqI (neg : Bool) (i j : Int) : W (eqAV neg (.int i) (.int j) s) Q = Q (.bl (neg != decide (i = j))) s := by
  have : W (eqAV neg (.int i) (.int j) s) Q = Q (.bl (neg != (i == j))) s := rfl
  rw [this]; congr
/-- a tuple against the empty one -/
theorem w_eqT0 (neg : Bool) (xs : List Nat) : W (eqAV neg (.tup (xs.map nv)) (.tup []) s) Q = Q (.bl (neg != xs.isEmpty)) s := by
  have h1 : pln 1 (.tup (xs.map nv)) = true := by simp [pln, nv]
  have h2 : pln 1 (.tup []) = true := rfl
  unfold eqAV
  rw [pd_dat s 1 deepN _ h1 (by decide), pd_dat s 1 deepN _ h2 (by decide)]
  simp only [shaped_dat h1 (by decide), shaped_dat h2 (by decide)]
  cases xs <;> rfl
/-- a list against an empty list -/
theorem w_eqL0 (neg : Bool) (l m n : Nat) (hn : n ≤ 58) (xs : List AV) (h : xs.all (pln n) = true) (hl : seqAt s l = some xs) (hm : seqAt s m = some []) : W (eqAV neg (.ref l) (.ref m) s) Q = Q (.bl (neg != xs.isEmpty)) s := by
  have h' : ∀ x ∈ xs, pln n x = true := List.all_eq_true.mp h
  have e1 : pd s deepN (.ref l) = some (.list (xs.map (dat n))) := by
    change (match seqAt s l with | some xs => (xs.mapM (pd s 59)).map PyData.list | none => none) = _
    rw [hl]; change (xs.mapM (pd s 59)).map PyData.list = _
    rw [mapM_all xs fun x hx => pd_dat s n 59 x (h' x hx) (by omega)]; rfl
  have e2 : pd s deepN (.ref m) = some (.list []) := by
    change (match seqAt s m with | some xs => (xs.mapM (pd s 59)).map PyData.list | none => none) = _
    rw [hm]; rfl
  unfold eqAV
  rw [e1, e2]
  simp only [shaped_list h (by omega)]
  have e3 : SeqAt.shaped (.list []) = true := by decide
  rw [e3]
  cases xs <;> rfl
/-! texts -/
def zok (x : Str) : Bool := sok x && decide ((reprText x).length ≤ 20)
def plz : Nat → AV → Bool
  | _, .int i => decide (i.natAbs < 10 ^ 21)
  | _, .non => true
  | _, .bl _ => true
  | _, .str x => zok x
  | n + 1, .tup xs => decide (xs.length ≤ 64) && xs.all (plz n)
  | _, _ => false
def lenz : Nat → Nat
  | 0 => 22
  | n + 1 => 64 * (lenz n + 2) + 22
theorem pln_of : ∀ (n : Nat) (x : AV), plz n x = true → pln n x = true
  | n, .int i, _ => by cases n <;> rfl
  | n, .non, _ => by cases n <;> rfl
  | n, .bl i, _ => by cases n <;> rfl
  | n, .str i, h => by
    have h : zok i = true := by cases n <;> exact h
    cases n <;> exact (Bool.and_eq_true_iff.mp h).1
  | n + 1, .tup xs, h => by
    have h2 := (Bool.and_eq_true_iff.mp h).2
    exact List.all_eq_true.mpr fun x hx => pln_of n x (List.all_eq_true.mp h2 x hx)
  | 0, .tup _, h => nomatch h
  | 0, .ref _, h => nomatch h
  | 0, .adr _, h => nomatch h
  | 0, .ty _, h => nomatch h
  | _ + 1, .ref _, h => nomatch h
  | _ + 1, .adr _, h => nomatch h
  | _ + 1, .ty _, h => nomatch h
theorem showAll {α : Type} {f : α → PyData} : ∀ xs : List α, (∀ x ∈ xs, (f x).showable = true) → PyData.showableAll (xs.map f) = true
  | [], _ => rfl
  | x :: xs, h => by
    rw [List.map_cons, PyData.showableAll, h x (List.mem_cons_self ..), showAll xs fun y hy => h y (List.mem_cons_of_mem _ hy)]; rfl
theorem piled_le {α : Type} {f : α → PyData} {n : Nat} : ∀ xs : List α, (∀ x ∈ xs, (f x).shown.length ≤ n) → piled (PyData.shownAll (xs.map f)) ≤ xs.length * (n + 2)
  | [], _ => Nat.zero_le _
  | x :: xs, h => by
    rw [List.map_cons, PyData.shownAll, piled_cons, List.length_cons, Nat.succ_mul]
    have := h x (List.mem_cons_self ..)
    have := piled_le xs fun y hy => h y (List.mem_cons_of_mem _ hy)
    omega
theorem tupleText_le (ts : List Str) : (tupleText ts).length ≤ piled ts + 3 := by
  unfold tupleText
  rw [strLen_append, strLen_append]
  have e1 : ((("(" : String) : Str)).length = 1 := rfl
  have e3 : (((if ts.length == 1 then ",)" else ")" : String) : Str)).length ≤ 2 := by split <;> decide
  rw [e1]
  cases ts with
  | nil => have : (Str.join ", " ([] : List Str)).length = 0 := rfl
           omega
  | cons t ts => have := join_length_add (t :: ts) (by simp); omega
theorem lenz_ge : ∀ n : Nat, 22 ≤ lenz n
  | 0 => Nat.le_refl _
  | n + 1 => by unfold lenz; omega
theorem dat_shown : ∀ (n : Nat) (x : AV), plz n x = true → (dat n x).showable = true ∧ (dat n x).shown.length ≤ lenz n
  | n, .int i, h => by
    have h' : i.natAbs < 10 ^ 21 := by cases n <;> exact of_decide_eq_true h
    have e : dat n (.int i) = .int i := by cases n <;> rfl
    rw [e]
    refine ⟨?_, ?_⟩
    · change decide (i.natAbs.log2 < 1920) = true
      refine decide_eq_true ?_
      rcases Nat.eq_zero_or_pos i.natAbs with h0 | h0
      · rw [h0]; decide
      · have h64 : i.natAbs.log2 < 70 := (Nat.log2_lt (by omega)).mpr (Nat.lt_trans h' (by decide))
        omega
    · change (Str.ofString (toString i)).length ≤ _
      rw [ofString_length]
      have := int_text_length_le10 (k := 21) (by decide) h'
      exact Nat.le_trans this (lenz_ge n)
  | n, .non, _ => by
    have e : dat n .non = .none := by cases n <;> rfl
    rw [e]; exact ⟨rfl, Nat.le_trans (by decide) (lenz_ge n)⟩
  | n, .bl b, _ => by
    have e : dat n (.bl b) = .bool b := by cases n <;> rfl
    rw [e]; exact ⟨rfl, Nat.le_trans (by cases b <;> decide) (lenz_ge n)⟩
  | n, .str x, h => by
    have h : zok x = true := by cases n <;> exact h
    have e : dat n (.str x) = .str x := by cases n <;> rfl
    rw [e]; exact ⟨rfl, Nat.le_trans (of_decide_eq_true (Bool.and_eq_true_iff.mp h).2) (Nat.le_trans (by decide) (lenz_ge n))⟩
  | n + 1, .tup xs, h => by
    have h1 : xs.length ≤ 64 := of_decide_eq_true (Bool.and_eq_true_iff.mp h).1
    have h' : ∀ x ∈ xs, plz n x = true := List.all_eq_true.mp (Bool.and_eq_true_iff.mp h).2
    refine ⟨?_, ?_⟩
    · change PyData.showableAll (xs.map (dat n)) = true
      exact showAll xs fun x hx => (dat_shown n x (h' x hx)).1
    · change (tupleText (PyData.shownAll (xs.map (dat n)))).length ≤ _
      have a := tupleText_le (PyData.shownAll (xs.map (dat n)))
      have b := piled_le (f := dat n) (n := lenz n) xs fun x hx => (dat_shown n x (h' x hx)).2
      have c : xs.length * (lenz n + 2) ≤ 64 * (lenz n + 2) := Nat.mul_le_mul_right _ h1
      unfold lenz; omega
  | 0, .tup _, h => nomatch h
  | 0, .ref _, h => nomatch h
  | 0, .adr _, h => nomatch h
  | 0, .ty _, h => nomatch h
  | _ + 1, .ref _, h => nomatch h
  | _ + 1, .adr _, h => nomatch h
  | _ + 1, .ty _, h => nomatch h
/-- the text of a tuple of tuples, to depth three -/
theorem w_repr (xs : List AV) (h : plz 3 (.tup xs) = true) : W (B.repr_ [.tup xs] s) Q = Q (.str (dat 3 (.tup xs)).shown) s := by
  unfold B.repr_
  have a := dat_shown 3 _ h
  have b : lenz 3 ≤ lineZ := by decide
  simp only [pd_dat s 3 deepN _ (pln_of 3 _ h) (by decide), a.1, decide_eq_true (Nat.le_trans a.2 b)]
  rfl
/-! signs -/
theorem strOk_app {a b : Str} (ha : PyData.strOk a = true) (hb : PyData.strOk b = true) : PyData.strOk (a ++ b) = true := by
  have e : (a ++ b).cps = a.cps ++ b.cps := rfl
  unfold PyData.strOk at *
  rw [e, Array.all_append, ha, hb]; rfl
theorem strOk_of (x : String) : PyData.strOk (Str.ofString x) = true := by
  unfold PyData.strOk
  rw [Str.ofString_eq_toList]
  simp only [List.all_toArray, List.all_map, List.all_eq_true]
  intro c _
  have := c.valid
  refine decide_eq_true ?_
  change c.val.toNat < 1114112
  rcases this with h | h
  · have : c.val.toNat < 55296 := h
    omega
  · exact h.2
theorem strOk_join {sep : Str} (hs : PyData.strOk sep = true) : ∀ ts : List Str, (∀ t ∈ ts, PyData.strOk t = true) → PyData.strOk (Str.join sep ts) = true
  | [], _ => by unfold Str.join PyData.strOk Str.empty; simp
  | [t], h => h t (List.mem_cons_self ..)
  | t :: u :: r, h => strOk_app (strOk_app (h t (List.mem_cons_self ..)) hs) (strOk_join hs (u :: r) fun x hx => h x (List.mem_cons_of_mem _ hx))
theorem okAll {α : Type} {f : α → PyData} : ∀ xs : List α, (∀ x ∈ xs, PyData.strOk (f x).shown = true) → ∀ t ∈ PyData.shownAll (xs.map f), PyData.strOk t = true
  | [], _, t, ht => nomatch ht
  | x :: xs, h, t, ht => by
    rw [List.map_cons, PyData.shownAll] at ht
    rcases List.mem_cons.mp ht with rfl | h'
    · exact h x (List.mem_cons_self ..)
    · exact okAll xs (fun y hy => h y (List.mem_cons_of_mem _ hy)) t h'
theorem dat_ok : ∀ (n : Nat) (x : AV), pln n x = true → PyData.strOk (dat n x).shown = true
  | n, .int i, h => by
    have e : dat n (.int i) = .int i := by cases n <;> rfl
    rw [e]; exact strOk_of _
  | n, .non, h => by
    have e : dat n .non = .none := by cases n <;> rfl
    rw [e]; exact strOk_of _
  | n, .bl b, h => by
    have e : dat n (.bl b) = .bool b := by cases n <;> rfl
    rw [e]; cases b <;> exact strOk_of _
  | n, .str x, h => by
    have h : sok x = true := by cases n <;> exact h
    have e : dat n (.str x) = .str x := by cases n <;> rfl
    rw [e]; exact (Bool.and_eq_true_iff.mp h).2
  | n + 1, .tup xs, h => by
    have h' : ∀ x ∈ xs, pln n x = true := List.all_eq_true.mp h
    change PyData.strOk (tupleText (PyData.shownAll (xs.map (dat n)))) = true
    unfold tupleText
    exact strOk_app (strOk_app (strOk_of _) (strOk_join (strOk_of _) _ (okAll xs fun x hx => dat_ok n x (h' x hx)))) (strOk_of _)
  | 0, .tup _, h => nomatch h
  | 0, .ref _, h => nomatch h
  | 0, .adr _, h => nomatch h
  | 0, .ty _, h => nomatch h
  | _ + 1, .ref _, h => nomatch h
  | _ + 1, .adr _, h => nomatch h
  | _ + 1, .ty _, h => nomatch h
theorem w_reprN (n : Nat) (hn : n ≤ 40) (xs : List AV) (h : xs.all (plz n) = true) (hl : xs.length * (lenz n + 2) + 3 ≤ lineZ) : W (B.repr_ [.tup xs] s) Q = Q (.str (dat (n + 1) (.tup xs)).shown) s := by
  have h' : ∀ x ∈ xs, plz n x = true := List.all_eq_true.mp h
  have hp : pln (n + 1) (.tup xs) = true := List.all_eq_true.mpr fun x hx => pln_of n x (h' x hx)
  have a1 : (dat (n + 1) (.tup xs)).showable = true := showAll xs fun x hx => (dat_shown n x (h' x hx)).1
  have a2 : (dat (n + 1) (.tup xs)).shown.length ≤ lineZ := by
    have a := tupleText_le (PyData.shownAll (xs.map (dat n)))
    have b := piled_le (f := dat n) (n := lenz n) xs fun x hx => (dat_shown n x (h' x hx)).2
    exact Nat.le_trans a (Nat.le_trans (Nat.add_le_add_right b 3) hl)
  unfold B.repr_
  simp only [pd_dat s (n + 1) deepN _ hp (by unfold deepN; omega), a1, decide_eq_true a2]
  rfl
/-- equality of plain things -/
theorem w_eqP (neg : Bool) (n : Nat) (hn : n ≤ 60) (x y : AV) (hx : pln n x = true) (hy : pln n y = true) : W (eqAV neg x y s) Q = Q (.bl (neg != PyData.eqv (dat n x) (dat n y))) s := by
  unfold eqAV
  simp only [pd_dat s n deepN _ hx (by unfold deepN; omega), pd_dat s n deepN _ hy (by unfold deepN; omega), shaped_dat hx hn, shaped_dat hy hn]
  rfl
/-- texts are alike, if what is told is -/
theorem w_eqS (neg : Bool) (x : Str) (hx : PyData.strOk x = true) : W (eqAV neg (.str x) (.str x) s) Q = Q (.bl (neg != true)) s := by
  have e : pd s deepN (.str x) = some (.str x) := rfl
  unfold eqAV
  have c : SeqAt.shaped (.str x) = true := by
    unfold SeqAt.shaped; rw [PyData.canLay0, hx]; rfl
  simp only [e, c]
  have : PyData.eqv (.str x) (.str x) = true := by simp [PyData.eqv]
  rw [this]; rfl
end
end Sp
/-! SpC: loops over things, sorts, walks. -/
namespace Sp
open PySem Mi
/-- what stands in a list or tuple -/
def Lk (s : Sto) (v : AV) (xs : List AV) : Prop := v = .tup xs ∨ ∃ l, v = .ref l ∧ seqAt s l = some xs
theorem Lk.tup (s : Sto) (xs : List AV) : Lk s (.tup xs) xs := Or.inl rfl
theorem Lk.lst {s : Sto} {l : Nat} {xs : List AV} (h : s[l]? = some (.lst xs)) : Lk s (.ref l) xs := Or.inr ⟨l, rfl, seqAt_lst h⟩
theorem seqAt_keep {L : List Nat} {s s' : Sto} {l : Nat} {xs : List AV} (h : seqAt s l = some xs) (hl : l ∉ L) (k : Kp L s s') : seqAt s' l = some xs := by
  unfold seqAt at *
  revert h
  cases e : s[l]? with
  | none => exact fun h => nomatch h
  | some o => rw [k.2 l o hl e]; exact fun h => h
theorem Lk.keep {s s' : Sto} {v : AV} {xs : List AV} (h : Lk s v xs) (k : Kp [] s s') : Lk s' v xs := by
  rcases h with h | ⟨l, h, e⟩
  · exact Or.inl h
  · exact Or.inr ⟨l, h, seqAt_keep e (by simp) k⟩
theorem ints0 (n : Nat) : I.iot 0 n = (List.range n).map nv := by
  unfold I.iot
  refine List.map_congr_left fun k _ => ?_
  change AV.int (0 + (k : Int)) = AV.int (k : Int)
  rw [Int.zero_add]
theorem getR {n k : Nat} {x : AV} (h : ((List.range n).map nv)[k]? = some x) : k < n ∧ x = nv k := by
  rw [List.getElem?_map] at h
  rcases Nat.lt_or_ge k n with g | g
  · rw [List.getElem?_range g] at h; exact ⟨g, (Option.some.inj h).symm⟩
  · rw [List.getElem?_eq_none (by simpa using g)] at h; exact nomatch h
section
variable {Q : AV → Sto → Prop} {N : En → Sto → Prop} {K : Fl → Prop} {en : En} {s : Sto}
inductive ISq (PI : It → Sto → Prop) (v : AV) (s : Sto) : Prop
  | mk (xs : List AV) (hv : Lk s v xs) (h1 : v = .tup xs → PI (.fix xs) s) (h2 : ∀ l, v = .ref l → seqAt s l = some xs → PI (.lst l) s)
theorem i_seq {a : ME} {PI : It → Sto → Prop} (h : W (a en s) (ISq PI)) : W (I.seq a en s) PI := by
  refine i_seq_tup (W_mono h ?_)
  rintro v s ⟨xs, hv, h1, h2⟩
  rcases hv with rfl | ⟨l, rfl, e⟩
  · exact h1 rfl
  · exact ⟨xs, e, h2 l rfl e⟩
inductive IRg (PI : It → Sto → Prop) (xs : List AV) (s : Sto) : Prop
  | mk (n : Nat) (e : xs = [nv n]) (hn : n < 1000000000) (h : PI (.fix ((List.range n).map nv)) s)
theorem i_range {a : MA} {PI : It → Sto → Prop} (h : W (a en s) (IRg PI)) : W (I.range1 a en s) PI := by
  unfold I.range1
  rw [W_bind]
  refine W_mono h ?_
  intro xs s hh
  obtain ⟨n, e, hn, h⟩ := hh
  rw [e]; clear e
  have : I.inR (n : Int) = true := by
    unfold I.inR
    have h1 : -(2 ^ 62 : Int) ≤ (n : Int) ∧ (n : Int) < 2 ^ 62 := by
      have : (2 ^ 62 : Int) = 4611686018427387904 := by decide
      omega
    exact decide_eq_true h1
  simp only [nv, this, Int.toNat_natCast, if_true]
  rw [ints0]; exact h
/-- a for over a list or a tuple -/
inductive ForW (g : MG) (b : MS) (N : En → Sto → Prop) (K : Fl → Prop) (en : En) (v : AV) (s : Sto) : Prop
  | mk (xs : List AV) (I : Nat → En → Sto → Prop) (hv : Lk s v xs) (hl : xs.length < 1000000000) (h0 : I 0 en s) (hk : ∀ k en s', I k en s' → Lk s' v xs)
    (st : ∀ k x en s, xs[k]? = some x → I k en s → Wf (g x en s) fun en s => X (b en s) (I (k + 1)) (TK (I (k + 1)) N K)) (fin : ∀ en s, I xs.length en s → N en s)
theorem for_w {a : ME} {g : MG} {b : MS} (h : W (a en s) (ForW g b N K en)) : X (S.for_ (I.seq a) g b en s) N K := by
  have key : W (I.seq a en s) fun j s => ∃ (xs : List AV) (I : Nat → En → Sto → Prop), xs.length < 1000000000 ∧ I 0 en s ∧ (j = .fix xs ∨ ∃ l, j = .lst l ∧ ∀ k en s, I k en s → seqAt s l = some xs) ∧
      (∀ k x en s, xs[k]? = some x → I k en s → Wf (g x en s) fun en s => X (b en s) (I (k + 1)) (TK (I (k + 1)) N K)) ∧ (∀ en s, I xs.length en s → N en s) := by
    refine i_seq (W_mono h ?_)
    rintro v s ⟨xs, I, hv, hl, h0, hk, st, fin⟩
    refine ⟨xs, hv, fun _ => ⟨xs, I, hl, h0, Or.inl rfl, st, fin⟩, fun l e _ => ⟨xs, I, hl, h0, Or.inr ⟨l, rfl, fun k en s hi => ?_⟩, st, fin⟩⟩
    rcases hk k en s hi with h | ⟨m, h, e'⟩
    · subst e; exact nomatch h
    · subst e; cases h; exact e'
  clear h
  unfold S.for_
  revert key
  cases I.seq a en s with
  | ok j s =>
    rintro ⟨xs, I, hl, h0, hj, st, fin⟩
    have st' : ∀ k x en s, xs[k]? = some x → I k en s → X ((fun v en s => (S.gx (g v en s)).next fun en s => b en s) x en s) (I (k + 1)) (TK (I (k + 1)) N K) := by
      intro k x en s hx hi
      have := st k x en s hx hi
      revert this
      change Wf (g x en s) _ → X ((S.gx (g x en s)).next _) _ _
      cases g x en s with
      | nx e s => exact fun h => h
      | _ => exact fun h => h.elim
    rcases hj with rfl | ⟨l, rfl, hq⟩
    · refine forT_w I xs 0 en s h0 (fun k x en s hx hi => ?_) (fun en s h => fin en s (by rw [Nat.zero_add] at h; exact h))
      rw [Nat.zero_add] at hi ⊢
      exact st' k x en s hx hi
    · change X (S.forI (fun v en s => (S.gx (g v en s)).next fun en s => b en s) (It.lst l) en s) N K
      unfold S.forI
      simp only
      exact forL_w I xs l (fun k en s _ hi => hq k en s hi) st' fin xs.length 0 S.fuel en s (by omega) (by unfold S.fuel; omega) h0
  | _ => exact fun h => h.elim
/-- a for over a range -/
inductive ForR (g : MG) (b : MS) (N : En → Sto → Prop) (K : Fl → Prop) (en : En) (xs : List AV) (s : Sto) : Prop
  | mk (n : Nat) (I : Nat → En → Sto → Prop) (e : xs = [nv n]) (hn : n < 1000000000) (h0 : I 0 en s)
    (st : ∀ k en s, k < n → I k en s → Wf (g (nv k) en s) fun en s => X (b en s) (I (k + 1)) (TK (I (k + 1)) N K)) (fin : ∀ en s, I n en s → N en s)
theorem for_r {a : MA} {g : MG} {b : MS} (h : W (a en s) (ForR g b N K en)) : X (S.for_ (I.range1 a) g b en s) N K := by
  refine for_fix (i_range (W_mono h ?_))
  rintro xs s ⟨n, I, rfl, hn, h0, st, fin⟩
  refine ⟨n, rfl, hn, _, I, rfl, h0, fun k x en s hx hi => ?_, fun en s h => fin en s (by simpa using h)⟩
  obtain ⟨hk, rfl⟩ := getR hx
  exact st k en s hk hi
/-- a comprehension that changes nothing but its own list -/
inductive LcP (g : MG) (t : MT) (e : ME) (own : List Nat) (en : En) (Q : AV → Sto → Prop) {α : Type} (zs : List α) (emb : α → AV) (P : α → Bool) (F : α → AV) (j : It) (s0 : Sto) : Prop
  | mk (hz : zs.length < lineZ) (hj : j = .fix (zs.map emb) ∨ ∃ l, j = .lst l ∧ seqAt s0 l = some (zs.map emb))
      (st : ∀ z ∈ zs, ∀ s', Kp [] s0 s' → Wf (g (emb z) (wipe en own) s') fun en' s1 => W (t en' s1) fun b s2 => b = P z ∧ Kp [] s' s2 ∧ (P z = true → W (e en' s2) fun y s3 => y = F z ∧ Kp [] s' s3))
      (fin : ∀ s', Kp [] s0 s' → s'[s0.length]? = some (.lst ((zs.filter P).map F)) → Q (.ref s0.length) s')
theorem lc_pure {α : Type} {src : MI} {g : MG} {t : MT} {e : ME} {own : List Nat} (zs : List α) (emb : α → AV) (P : α → Bool) (F : α → AV)
    (h : W (src en s) (LcP g t e own en Q zs emb P F)) : W (E.lc src g t e own en s) Q := by
  refine lc_w (W_mono h ?_)
  rintro j s0 ⟨hz, hj, st, fin⟩
  refine ⟨zs.map emb, fun k acc s' => Kp [] s0 s' ∧ acc = (((zs.take k).filter P).map F), by simpa using hz, ?_, ⟨Kp.app _ (Kp.refl _), by simp⟩, ?_, ?_⟩
  · rcases hj with rfl | ⟨l, rfl, e⟩
    · exact Or.inl rfl
    · exact Or.inr ⟨l, rfl, fun k acc s' hi => seqAt_keep e (by simp) hi.1⟩
  · rintro k x acc s' hx hl ⟨hk, rfl⟩ hD
    rw [List.getElem?_map] at hx
    cases hz' : zs[k]? with
    | none => rw [hz'] at hx; exact nomatch hx
    | some z =>
      rw [hz'] at hx
      cases hx
      have hm : z ∈ zs := List.mem_of_getElem? hz'
      have ht : zs.take (k + 1) = zs.take k ++ [z] := by rw [List.take_add_one, hz']; rfl
      have := st z hm s' hk
      revert this
      cases g (emb z) (wipe en own) s' with
      | nx en' s1 =>
        intro h1
        refine W_mono (r := t en' s1) h1 ?_
        rintro b s2 ⟨rfl, k2, h2⟩
        by_cases hp : P z = true
        · rw [if_pos hp]
          refine W_mono (h2 hp) ?_
          rintro y s3 ⟨rfl, k3⟩
          refine ⟨k3.2 _ _ (by simp) hD, (hk.trans k3).setN _ _ (Nat.le_refl _), ?_⟩
          rw [ht, List.filter_append, List.map_append]; simp [hp]
        · rw [if_neg hp]
          refine ⟨k2.2 _ _ (by simp) hD, hk.trans k2, ?_⟩
          rw [ht, List.filter_append, List.map_append]; simp [hp]
      | _ => exact fun h => h.elim
  · rintro acc s' ⟨hk, rfl⟩ hD
    refine fin s' hk ?_
    rw [hD]; simp
/-- .. that keeps to J -/
inductive LcS (g : MG) (t : MT) (e : ME) (own : List Nat) (en : En) (Q : AV → Sto → Prop) {α : Type} (zs : List α) (emb : α → AV) (F : α → AV) (J : Sto → Prop) (j : It) (s0 : Sto) : Prop
  | mk (hz : zs.length < lineZ) (hj : j = .fix (zs.map emb)) (hJ : J (s0 ++ [.lst []])) (hset : ∀ s' o, J s' → J (s'.set s0.length o))
      (st : ∀ z ∈ zs, ∀ s' acc, J s' → s'[s0.length]? = some (.lst acc) → Wf (g (emb z) (wipe en own) s') fun en' s1 => W (t en' s1) fun b s2 => J s2 ∧ s2[s0.length]? = some (.lst acc) ∧ (b = true → W (e en' s2) fun y s3 => y = F z ∧ J s3 ∧ s3[s0.length]? = some (.lst acc)))
      (fin : ∀ s' (ys : List α), J s' → ys.Sublist zs → s'[s0.length]? = some (.lst (ys.map F)) → Q (.ref s0.length) s')
theorem lc_sub {α : Type} {src : MI} {g : MG} {t : MT} {e : ME} {own : List Nat} (zs : List α) (emb : α → AV) (F : α → AV) (J : Sto → Prop)
    (h : W (src en s) (LcS g t e own en Q zs emb F J)) : W (E.lc src g t e own en s) Q := by
  refine lc_w (W_mono h ?_)
  rintro j s0 ⟨hz, hj, hJ, hset, st, fin⟩
  subst hj
  refine ⟨zs.map emb, fun k acc s' => J s' ∧ ∃ ys : List α, ys.Sublist (zs.take k) ∧ acc = ys.map F, by simpa using hz, Or.inl rfl, ⟨hJ, [], by simp, rfl⟩, ?_, ?_⟩
  · rintro k x acc s' hx hl ⟨hk, ys, hys, rfl⟩ hD
    rw [List.getElem?_map] at hx
    cases hz' : zs[k]? with
    | none => rw [hz'] at hx; exact nomatch hx
    | some z =>
      rw [hz'] at hx
      cases hx
      have hm : z ∈ zs := List.mem_of_getElem? hz'
      have ht : zs.take (k + 1) = zs.take k ++ [z] := by rw [List.take_add_one, hz']; rfl
      have := st z hm s' _ hk hD
      revert this
      cases g (emb z) (wipe en own) s' with
      | nx en' s1 =>
        intro h1
        refine W_mono (r := t en' s1) h1 ?_
        rintro b s2 ⟨j2, d2, h2⟩
        cases b with
        | true =>
          rw [if_pos rfl]
          refine W_mono (h2 rfl) ?_
          rintro y s3 ⟨rfl, j3, d3⟩
          refine ⟨d3, hset _ _ j3, ys ++ [z], ?_, by simp⟩
          rw [ht]; exact hys.append (List.Sublist.refl _)
        | false =>
          rw [if_neg (by simp)]
          refine ⟨d2, j2, ys, ?_, rfl⟩
          rw [ht]; exact hys.trans (List.sublist_append_left _ _)
      | _ => exact fun h => h.elim
  · rintro acc s' ⟨hk, ys, hys, rfl⟩ hD
    exact fin s' ys hk (by simpa using hys) hD
end
/-! ### sorts -/
section
variable {α : Type} [DecidableEq α]
def dd (acc xs : List α) : List α := xs.foldl (fun acc x => if x ∈ acc then acc else acc ++ [x]) acc
theorem dd_mem : ∀ (xs acc : List α) (x : α), x ∈ dd acc xs ↔ x ∈ acc ∨ x ∈ xs
  | [], acc, x => by simp [dd]
  | y :: xs, acc, x => by
    change x ∈ dd (if y ∈ acc then acc else acc ++ [y]) xs ↔ _
    rw [dd_mem xs]
    by_cases h : y ∈ acc
    · rw [if_pos h, List.mem_cons]
      constructor
      · exact fun g => g.elim Or.inl fun h => Or.inr (Or.inr h)
      · exact fun g => g.elim Or.inl fun g => g.elim (fun e => Or.inl (e ▸ h)) Or.inr
    · rw [if_neg h, List.mem_append, List.mem_singleton, List.mem_cons]
      constructor
      · exact fun g => g.elim (fun g => g.elim Or.inl fun h => Or.inr (Or.inl h)) fun h => Or.inr (Or.inr h)
      · exact fun g => g.elim (fun h => Or.inl (Or.inl h)) fun g => g.elim (fun h => Or.inl (Or.inr h)) Or.inr
theorem dd_nodup : ∀ (xs acc : List α), acc.Nodup → (dd acc xs).Nodup
  | [], acc, h => h
  | y :: xs, acc, h => by
    change (dd (if y ∈ acc then acc else acc ++ [y]) xs).Nodup
    by_cases hy : y ∈ acc
    · rw [if_pos hy]; exact dd_nodup xs acc h
    · rw [if_neg hy]; refine dd_nodup xs _ ?_
      rw [List.nodup_append]
      refine ⟨h, by simp, fun a ha b hb => ?_⟩
      rw [List.mem_singleton.mp hb]; rintro rfl; exact hy ha
theorem dd_len : ∀ (xs acc : List α), (dd acc xs).length ≤ acc.length + xs.length
  | [], acc => by simp [dd]
  | y :: xs, acc => by
    change (dd (if y ∈ acc then acc else acc ++ [y]) xs).length ≤ _
    have := dd_len xs (if y ∈ acc then acc else acc ++ [y])
    by_cases hy : y ∈ acc
    · rw [if_pos hy] at this ⊢; simp; omega
    · rw [if_neg hy] at this ⊢; simp at this ⊢; omega
theorem dedup_emb {emb : α → AV} (inj : ∀ a b, emb a = emb b → a = b) : ∀ (xs acc : List α), (xs.map emb).foldl (fun acc x => if x ∈ acc then acc else acc ++ [x]) (acc.map emb) = (dd acc xs).map emb
  | [], acc => rfl
  | y :: xs, acc => by
    rw [List.map_cons, List.foldl_cons]
    have e : (emb y ∈ acc.map emb) ↔ y ∈ acc := by
      constructor
      · intro h; obtain ⟨z, hz, e⟩ := List.mem_map.mp h; rw [← inj _ _ e]; exact hz
      · exact fun h => List.mem_map_of_mem h
    change _ = (dd (if y ∈ acc then acc else acc ++ [y]) xs).map emb
    by_cases h : y ∈ acc
    · rw [if_pos h, if_pos (e.mpr h)]; exact dedup_emb inj xs acc
    · rw [if_neg h, if_neg (fun h' => h (e.mp h'))]
      have := dedup_emb inj xs (acc ++ [y])
      rw [List.map_append] at this
      exact this
/-- an order -/
structure Ord (le : α → α → Bool) : Prop where
  tr : ∀ a b c, le a b = true → le b c = true → le a c = true
  tot : ∀ a b, (le a b || le b a) = true
  anti : ∀ a b, le a b = true → le b a = true → a = b
/-- strictly ascending -/
def Asc (le : α → α → Bool) (xs : List α) : Prop := xs.Pairwise fun a b => le a b = true ∧ a ≠ b
theorem Asc.nodup {le : α → α → Bool} {xs : List α} (h : Asc le xs) : xs.Nodup := List.Pairwise.imp (fun h => h.2) h
theorem Asc.ext {le : α → α → Bool} (O : Ord le) {xs ys : List α} (h : Asc le xs) (k : Asc le ys) (e : ∀ x, x ∈ xs ↔ x ∈ ys) : xs = ys :=
  List.Perm.eq_of_pairwise (le := fun a b => le a b = true) (fun a b _ _ h1 h2 => O.anti a b h1 h2) (List.Pairwise.imp (fun h => h.1) h) (List.Pairwise.imp (fun h => h.1) k) ((List.perm_ext_iff_of_nodup h.nodup k.nodup).mpr e)
theorem sort_asc {le : α → α → Bool} (O : Ord le) {xs : List α} (h : xs.Nodup) : Asc le (xs.mergeSort le) := by
  have a := List.pairwise_mergeSort O.tr O.tot xs
  have b : (xs.mergeSort le).Nodup := (List.mergeSort_perm xs le).nodup_iff.mpr h
  exact a.imp₂ (fun _ _ h1 h2 => ⟨h1, h2⟩) b
theorem sorted_emb {le : α → α → Bool} {emb : α → AV} (hs : ∀ a b, le a b = B.sLe (emb a) (emb b)) (xs : List α) : (xs.map emb).mergeSort B.sLe = (xs.mergeSort le).map emb :=
  (List.map_mergeSort fun a _ b _ => hs a b).symm
theorem set_sorted {le : α → α → Bool} (O : Ord le) {emb : α → AV} (inj : ∀ a b, emb a = emb b → a = b) (hs : ∀ a b, le a b = B.sLe (emb a) (emb b)) (xs : List α) :
    ∃ ys : List α, (B.dedup (xs.map emb)).mergeSort B.sLe = ys.map emb ∧ Asc le ys ∧ (∀ x, x ∈ ys ↔ x ∈ xs) ∧ ys.length ≤ xs.length := by
  refine ⟨(dd [] xs).mergeSort le, ?_, sort_asc O (dd_nodup xs [] (by simp)), fun x => ?_, ?_⟩
  · have : B.dedup (xs.map emb) = (dd [] xs).map emb := dedup_emb inj xs []
    rw [this, sorted_emb hs]
  · rw [List.mem_mergeSort, dd_mem]; simp
  · rw [List.length_mergeSort]; have := dd_len xs []; simpa using this
end
/-! the three orders -/
def nle (a b : Nat) : Bool := decide (a ≤ b)
theorem nleO : Ord nle := ⟨fun a b c h k => by unfold nle at *; simp at *; omega, fun a b => by unfold nle; simp; omega, fun a b h k => by unfold nle at *; simp at *; omega⟩
theorem nle_s (a b : Nat) : nle a b = B.sLe (nv a) (nv b) := by
  unfold nle B.sLe; simp
theorem nv_inj (a b : Nat) (h : nv a = nv b) : a = b := by injection h with h; omega
def lle : List Nat → List Nat → Bool
  | [], _ => true
  | _ :: _, [] => false
  | x :: xs, y :: ys => if x = y then lle xs ys else decide (x ≤ y)
theorem lle_tr : ∀ a b c, lle a b = true → lle b c = true → lle a c = true
  | [], _, _, _, _ => by unfold lle; rfl
  | _ :: _, [], _, h, _ => nomatch h
  | _ :: _, _ :: _, [], _, h => nomatch h
  | x :: xs, y :: ys, z :: zs, h, k => by
    unfold lle at *
    by_cases e : x = y
    · subst e
      rw [if_pos rfl] at h
      by_cases e : x = z
      · rw [if_pos e] at k ⊢; exact lle_tr xs ys zs h k
      · rw [if_neg e] at k ⊢; exact k
    · rw [if_neg e] at h
      have h := of_decide_eq_true h
      by_cases e2 : y = z
      · subst e2; rw [if_neg e]; exact decide_eq_true h
      · rw [if_neg e2] at k
        have k := of_decide_eq_true k
        rw [if_neg (by omega)]; exact decide_eq_true (by omega)
theorem lle_tot : ∀ a b, (lle a b || lle b a) = true
  | [], _ => by unfold lle; simp
  | _ :: _, [] => by simp [lle]
  | x :: xs, y :: ys => by
    unfold lle
    by_cases e : x = y
    · subst e; rw [if_pos rfl, if_pos rfl]; exact lle_tot xs ys
    · rw [if_neg e, if_neg (fun h => e h.symm)]; simp; omega
theorem lle_anti : ∀ a b, lle a b = true → lle b a = true → a = b
  | [], [], _, _ => rfl
  | [], _ :: _, _, h => nomatch h
  | _ :: _, [], h, _ => nomatch h
  | x :: xs, y :: ys, h, k => by
    unfold lle at *
    by_cases e : x = y
    · subst e; rw [if_pos rfl] at h k; rw [lle_anti xs ys h k]
    · rw [if_neg e] at h; rw [if_neg (fun h => e h.symm)] at k
      have h := of_decide_eq_true h
      have k := of_decide_eq_true k
      exact absurd (by omega) e
theorem lleO : Ord lle := ⟨lle_tr, lle_tot, lle_anti⟩
theorem ints_nv : ∀ xs : List Nat, ints? (xs.map nv) = some (xs.map fun (k : Nat) => (k : Int))
  | [] => rfl
  | x :: xs => by rw [List.map_cons, ints?, ints_nv xs]; rfl
theorem lexLe_nat : ∀ a b : List Nat, lexLe (a.map fun (k : Nat) => (k : Int)) (b.map fun (k : Nat) => (k : Int)) = lle a b
  | [], [] => rfl
  | [], _ :: _ => rfl
  | _ :: _, [] => rfl
  | x :: xs, y :: ys => by
    rw [List.map_cons, List.map_cons, lexLe, lle]
    by_cases e : x = y
    · subst e; rw [if_pos rfl, if_pos rfl]; exact lexLe_nat xs ys
    · rw [if_neg e, if_neg (by omega)]; simp
theorem lle_s (a b : List Nat) : lle a b = B.sLe (tn a) (tn b) := by
  unfold tn B.sLe; simp only [ints_nv, lexLe_nat]
theorem map_nv_inj : ∀ (a b : List Nat), a.map nv = b.map nv → a = b
  | [], [], _ => rfl
  | [], _ :: _, h => nomatch h
  | _ :: _, [], h => nomatch h
  | x :: xs, y :: ys, h => by
    rw [List.map_cons, List.map_cons] at h
    injection h with h1 h2
    rw [nv_inj _ _ h1, map_nv_inj xs ys h2]
theorem tn_inj (a b : List Nat) (h : tn a = tn b) : a = b := by
  injection h with h; exact map_nv_inj a b h
def ple (a b : Nat × Nat) : Bool := lle [a.1, a.2] [b.1, b.2]
theorem pr_tn (a : Nat × Nat) : pr a = tn [a.1, a.2] := rfl
theorem ple_s (a b : Nat × Nat) : ple a b = B.sLe (pr a) (pr b) := by rw [pr_tn, pr_tn, ← lle_s]; rfl
theorem pr_inj (a b : Nat × Nat) (h : pr a = pr b) : a = b := by
  rw [pr_tn, pr_tn] at h
  have := tn_inj _ _ h
  injection this with h1 h2
  injection h2 with h2 _
  exact Prod.ext h1 h2
theorem pleO : Ord ple := ⟨fun a b c => lle_tr _ _ _, fun a b => lle_tot _ _, fun a b h k => pr_inj a b (by rw [pr_tn, pr_tn, lle_anti _ _ h k])⟩
theorem asc_range (n : Nat) : Asc nle (List.range n) := by
  refine List.Pairwise.imp ?_ (List.pairwise_lt_range (n := n))
  intro a b h; exact ⟨decide_eq_true (by omega), by omega⟩
theorem Asc.filter {α : Type} [DecidableEq α] {le : α → α → Bool} {xs : List α} (p : α → Bool) (h : Asc le xs) : Asc le (xs.filter p) := List.Pairwise.filter p h
/-! ### walks -/
/-- walks of one road or more, whose inner places are unwished -/
inductive Met (rs : List (Nat × Nat)) (ws : List Nat) (a : Nat) : Nat → Prop
  | one {b : Nat} : (a, b) ∈ rs → Met rs ws a b
  | more {c b : Nat} : Met rs ws a c → c ∉ ws → (c, b) ∈ rs → Met rs ws a b
variable {rs : List (Nat × Nat)} {ws : List Nat}
theorem Met.tr {a b c : Nat} (h : Met rs ws a b) (hb : b ∉ ws) (k : Met rs ws b c) : Met rs ws a c := by
  induction k with
  | one e => exact .more h hb e
  | more _ hc e ih => exact .more ih hc e
theorem Met.head {a b c : Nat} (h : (a, b) ∈ rs) (hb : b ∉ ws) (k : Met rs ws b c) : Met rs ws a c := Met.tr (.one h) hb k
def rev (rs : List (Nat × Nat)) : List (Nat × Nat) := rs.map fun r => (r.2, r.1)
theorem mem_rev {a b : Nat} : (a, b) ∈ rev rs ↔ (b, a) ∈ rs := by
  unfold rev
  constructor
  · intro h; obtain ⟨⟨x, y⟩, h2, e⟩ := List.mem_map.mp h; cases e; exact h2
  · intro h; exact List.mem_map.mpr ⟨(b, a), h, rfl⟩
theorem Met.flip {a b : Nat} (h : Met (rev rs) ws a b) : Met rs ws b a := by
  induction h with
  | one e => exact .one (mem_rev.mp e)
  | more _ hc e ih => exact Met.head (mem_rev.mp e) hc ih
theorem met_rev {a b : Nat} : Met (rev rs) ws a b ↔ Met rs ws b a := by
  refine ⟨Met.flip, fun h => ?_⟩
  refine Met.flip (rs := rev rs) ?_
  have : rev (rev rs) = rs := by unfold rev; rw [List.map_map]; simp [Function.comp_def]
  rw [this]; exact h
theorem Met.into {a b : Nat} (h : Met rs ws a b) : ∃ c, (c, b) ∈ rs := by cases h <;> exact ⟨_, by assumption⟩
end Sp
/-! SpE: words that speak of errors. -/
namespace Sp
open PySem Mi
def We {α : Type} (r : Res α) (Q : α → Sto → Prop) (Er : Nat → AV → Sto → Prop) : Prop := match r with
  | .ok a s => Q a s
  | .err C w s => Er C w s
  | .bad => False
/-- the ends of a def that may raise -/
def KE (Q : AV → Sto → Prop) (Er : Nat → AV → Sto → Prop) : Fl → Prop := fun r => match r with
  | .ret v s => Q v s
  | .err C w _ s => Er C w s
  | _ => False
section
variable {α β : Type} {Q : AV → Sto → Prop} {Er : Nat → AV → Sto → Prop} {N : En → Sto → Prop} {K : Fl → Prop} {en : En} {s : Sto}
@[simp] theorem KE_ret (v : AV) (s : Sto) : KE Q Er (.ret v s) = Q v s := (rfl)
@[simp] theorem KE_err (C : Nat) (w : AV) (e : En) (s : Sto) : KE Q Er (.err C w e s) = Er C w s := (rfl)
@[simp] theorem KE_bad : KE Q Er .bad = False := (rfl)
@[simp] theorem We_ok {P : α → Sto → Prop} (a : α) (s : Sto) : We (.ok a s) P Er = P a s := (rfl)
@[simp] theorem We_err {P : α → Sto → Prop} (C : Nat) (w : AV) (s : Sto) : We (.err C w s) P Er = Er C w s := (rfl)
@[simp] theorem We_bad {P : α → Sto → Prop} : We (.bad : Res α) P Er = False := (rfl)
theorem We_bind {P : β → Sto → Prop} (r : Res α) (f : α → Sto → Res β) : We (r.bind f) P Er = We r (fun a s => We (f a s) P Er) Er := by cases r <;> rfl
theorem We_of {P : α → Sto → Prop} {r : Res α} (h : W r P) : We r P Er := by
  cases r with
  | ok a s => exact h
  | err => exact h.elim
  | bad => exact h.elim
theorem W_of_We {P : α → Sto → Prop} {r : Res α} (h : We r P fun _ _ _ => False) : W r P := by
  cases r with
  | ok a s => exact h
  | err => exact h.elim
  | bad => exact h.elim
theorem We_mono {P P' : α → Sto → Prop} {Er' : Nat → AV → Sto → Prop} {r : Res α} (h : We r P Er) (k : ∀ a s, P a s → P' a s) (k' : ∀ C w s, Er C w s → Er' C w s) : We r P' Er' := by
  cases r with
  | ok a s => exact k a s h
  | err C w s => exact k' C w s h
  | bad => exact h
theorem eq_of_We {r : Res α} {a : α} {s : Sto} (h : We r (fun v s' => v = a ∧ s' = s) fun _ _ _ => False) : r = .ok a s := by
  cases r with
  | ok v s' => obtain ⟨rfl, rfl⟩ := h; rfl
  | err => exact h.elim
  | bad => exact h.elim
theorem err_of_We {r : Res α} {C : Nat} {w : AV} {s : Sto} (h : We r (fun _ _ => False) fun C' w' s' => C' = C ∧ w' = w ∧ s' = s) : r = .err C w s := by
  cases r with
  | ok v s' => exact h.elim
  | err C' w' s' => obtain ⟨rfl, rfl, rfl⟩ := h; rfl
  | bad => exact h.elim
theorem We_of_eq {r : Res α} {a : α} {s : Sto} (h : r = .ok a s) {P : α → Sto → Prop} : We r P Er = P a s := by rw [h, We_ok]
theorem We_of_err {r : Res α} {C : Nat} {w : AV} {s : Sto} (h : r = .err C w s) {P : α → Sto → Prop} : We r P Er = Er C w s := by rw [h, We_err]
/-! expressions -/
@[simp] theorem we_c (v : AV) : We (E.c v en s) Q Er = Q v s := (rfl)
theorem we_call {f : MF} {a : MA} (h : W (a en s) fun xs s => We (f xs s) Q Er) : We (E.call f a en s) Q Er := by
  unfold E.call; rw [We_bind]; exact We_of h
theorem we_callE (f : MF) (a : MA) : We (E.call f a en s) Q Er = We (a en s) (fun xs s => We (f xs s) Q Er) Er := by
  unfold E.call; rw [We_bind]
@[simp] theorem we_nil {P : List AV → Sto → Prop} : We (E.nil en s) P Er = P [] s := (rfl)
theorem we_cons {P : List AV → Sto → Prop} (a : ME) (r : MA) : We (E.cons a r en s) P Er = We (a en s) (fun x s => We (r en s) (fun xs s => P (x :: xs) s) Er) Er := by unfold E.cons; simp only [We_bind, We_ok]
theorem we_tup (a : MA) : We (E.tup a en s) Q Er = We (a en s) (fun xs s => if xs.length ≤ lineZ then Q (.tup xs) s else False) Er := by
  unfold E.tup; rw [We_bind]; congr; funext xs s; split <;> rfl
theorem we_iteE {t : MT} {a b : ME} (h : W (t en s) fun x s => if x = true then We (a en s) Q Er else We (b en s) Q Er) : We (E.ite t a b en s) Q Er := by
  unfold E.ite; rw [We_bind]; refine We_of (W_mono h fun x s h => ?_)
  cases x <;> exact h
/-! statements -/
theorem x_exprE {e : ME} (h : We (e en s) (fun _ s => N en s) fun C w s => K (.err C w en s)) : X (S.expr e en s) N K := by
  unfold S.expr; revert h; cases e en s <;> first | exact fun h => h | exact fun h => h.elim
theorem x_retE {e : ME} (h : We (e en s) (fun v s => K (.ret v s)) fun C w s => K (.err C w en s)) : X (S.ret e en s) N K := by
  unfold S.ret; revert h; cases e en s <;> first | exact fun h => h | exact fun h => h.elim
theorem x_asgE {g : MG} {e : ME} (h : We (e en s) (fun v s => Wf (g v en s) N) fun C w s => K (.err C w en s)) : X (S.asg g e en s) N K := by
  unfold S.asg; revert h; cases e en s with
  | ok v s => intro h; change Wf (g v en s) N at h; change X (S.gx (g v en s)) N K; revert h; cases g v en s <;> first | exact fun h => h | exact fun h => h.elim
  | err C w s => exact fun h => h
  | bad => exact fun h => h.elim
theorem x_raise {j : Nat} {a : ME} (h : W (a en s) fun v s => K (.err j v en s)) : X (S.raise j a en s) N K := by
  unfold S.raise; revert h; cases a en s <;> first | exact fun h => h | exact fun h => h.elim
def TY (cs : List S.Cl) (N : En → Sto → Prop) (K : Fl → Prop) : Fl → Prop := fun r => match r with
  | .err j w e s => X (S.hand cs j w e s) N K
  | r => K r
@[simp] theorem TY_err (cs : List S.Cl) (j : Nat) (w : AV) (e : En) (s : Sto) : TY cs N K (.err j w e s) = X (S.hand cs j w e s) N K := (rfl)
@[simp] theorem TY_ret (cs : List S.Cl) (v : AV) (s : Sto) : TY cs N K (.ret v s) = K (.ret v s) := (rfl)
@[simp] theorem TY_bad (cs : List S.Cl) : TY cs N K .bad = K .bad := (rfl)
theorem x_try {b : MS} {cs : List S.Cl} (h : X (b en s) N (TY cs N K)) : X (S.try_ b cs en s) N K := by
  unfold S.try_; revert h
  cases b en s <;> exact fun h => h
theorem x_miss {c : S.Cl} {cs : List S.Cl} {j : Nat} {w : AV} (hp : c.p j = false) (h : X (S.hand cs j w en s) N K) : X (S.hand (c :: cs) j w en s) N K := by
  unfold S.hand; rw [if_neg (by rw [hp]; decide)]; exact h
theorem x_out {j : Nat} {w : AV} (h : K (.err j w en s)) : X (S.hand [] j w en s) N K := h
/-- a clause without a name -/
theorem x_hit {c : S.Cl} {cs : List S.Cl} {j : Nat} {w : AV} (hp : c.p j = true) (hi : c.i = none) (hb : ¬ K .bad) (h : X (c.m j w en s) N K) (hn : ∀ C w e s, ¬ K (.err C w e s)) : X (S.hand (c :: cs) j w en s) N K := by
  unfold S.hand; rw [if_pos hp, hi]
  change X (S.hand.gxS (c.m j w en s)) N K
  revert h; cases hm : c.m j w en s with
  | err C w e s => exact fun h => absurd h (hn _ _ _ _)
  | _ => exact fun h => h
/-- the ends behind a clause with a name -/
def CK (i : Nat) (K : Fl → Prop) : Fl → Prop := fun r => match r with
  | .brk e s => K (.brk (e.set i none) s)
  | .cnt e s => K (.cnt (e.set i none) s)
  | .ret v s => K (.ret v s)
  | _ => False
@[simp] theorem CK_ret (i : Nat) (v : AV) (s : Sto) : CK i K (.ret v s) = K (.ret v s) := (rfl)
theorem x_hitN {c : S.Cl} {cs : List S.Cl} {j i : Nat} {w : AV} (hp : c.p j = true) (hi : c.i = some i) (hl : i < en.length) (h : X (c.m j w (en.set i none) s) (fun e s => N (e.set i none) s) (CK i K)) : X (S.hand (c :: cs) j w en s) N K := by
  unfold S.hand; rw [if_pos hp, hi]; simp only; rw [if_pos hl]
  revert h; cases hm : c.m j w (en.set i none) s <;> first | exact fun h => h | exact fun h => h.elim
/-! a def -/
theorem d_run {np n : Nat} {b : MS} {vs : List AV} (hl : vs.length = np) (h : X (b (vs.map some ++ List.replicate (n - vs.length) none) s) (fun _ s => Q .non s) (KE Q Er)) : We (runDef np n b vs s) Q Er := by
  unfold runDef
  rw [if_neg (by rw [hl]; exact fun h => h rfl)]
  revert h
  generalize b (vs.map some ++ List.replicate (n - vs.length) none) s = r
  cases r <;> first | exact fun h => h | exact fun h => h.elim
end
end Sp
/-! SpF: insertions, tuples in tuples, plain equalities. -/
namespace Sp
open PySem Mi
section
variable {α : Type} [DecidableEq α] {le : α → α → Bool}
/-- x set in where it belongs -/
def insA (le : α → α → Bool) (x : α) (xs : List α) : List α := xs.filter (fun y => !le x y) ++ [x] ++ xs.filter (fun y => !le y x)
def delA (x : α) (xs : List α) : List α := xs.filter fun y => !decide (y = x)
theorem Ord.lt {a b : α} (O : Ord le) (h : (!le b a) = true) : le a b = true ∧ a ≠ b := by
  have h : le b a = false := by simpa using h
  refine ⟨?_, ?_⟩
  · have := O.tot a b; rw [h, Bool.or_false] at this; exact this
  · rintro rfl; have := O.tot a a; rw [h] at this; exact nomatch this
theorem Ord.ne {a b : α} (O : Ord le) (h : a ≠ b) : (!le a b) = true ∨ (!le b a) = true := by
  cases h1 : le a b with
  | false => exact Or.inl rfl
  | true => cases h2 : le b a with
    | false => exact Or.inr rfl
    | true => exact absurd (O.anti _ _ h1 h2) h
theorem asc_ins (O : Ord le) {x : α} {xs : List α} (h : Asc le xs) : Asc le (insA le x xs) := by
  unfold insA
  refine List.pairwise_append.mpr ⟨List.pairwise_append.mpr ⟨h.filter _, List.pairwise_singleton .., ?_⟩, h.filter _, ?_⟩
  · intro a ha b hb
    rw [List.mem_singleton.mp hb]
    exact O.lt (List.mem_filter.mp ha).2
  · intro a ha b hb
    have hb := O.lt (List.mem_filter.mp hb).2
    rcases List.mem_append.mp ha with h' | h'
    · have ha := O.lt (List.mem_filter.mp h').2
      refine ⟨O.tr _ _ _ ha.1 hb.1, ?_⟩
      rintro rfl; exact ha.2 (O.anti _ _ ha.1 hb.1)
    · rw [List.mem_singleton.mp h']; exact hb
theorem mem_ins (O : Ord le) {x y : α} {xs : List α} : y ∈ insA le x xs ↔ y = x ∨ y ∈ xs := by
  unfold insA
  rw [List.mem_append, List.mem_append, List.mem_singleton, List.mem_filter, List.mem_filter]
  constructor
  · rintro ((h | h) | h)
    · exact Or.inr h.1
    · exact Or.inl h
    · exact Or.inr h.1
  · rintro (h | h)
    · exact Or.inl (Or.inr h)
    · by_cases e : y = x
      · exact Or.inl (Or.inr e)
      · rcases O.ne e with g | g
        · exact Or.inr ⟨h, g⟩
        · exact Or.inl (Or.inl ⟨h, g⟩)
theorem ins_sorted (O : Ord le) {x : α} {xs : List α} (h : Asc le xs) (hx : x ∉ xs) : (xs ++ [x]).mergeSort le = insA le x xs := by
  have hn : (xs ++ [x]).Nodup := by
    rw [List.nodup_append]
    exact ⟨h.nodup, by simp, fun a ha b hb => by rw [List.mem_singleton.mp hb]; rintro rfl; exact hx ha⟩
  refine Asc.ext O (sort_asc O hn) (asc_ins O h) fun y => ?_
  rw [List.mem_mergeSort, mem_ins O, List.mem_append, List.mem_singleton]; exact Or.comm
theorem len_ins (O : Ord le) {x : α} {xs : List α} (h : Asc le xs) (hx : x ∉ xs) : (insA le x xs).length = xs.length + 1 := by
  rw [← ins_sorted O h hx, List.length_mergeSort]; simp
theorem mem_del {x y : α} {xs : List α} : y ∈ delA x xs ↔ y ∈ xs ∧ y ≠ x := by
  unfold delA; rw [List.mem_filter]; simp
theorem asc_del {x : α} {xs : List α} (h : Asc le xs) : Asc le (delA x xs) := h.filter _
theorem len_del {x : α} {xs : List α} (hx : x ∈ xs) : (delA x xs).length < xs.length := by
  unfold delA
  rcases Nat.lt_or_ge (xs.filter fun y => !decide (y = x)).length xs.length with h | h
  · exact h
  · have := List.length_filter_eq_length_iff.mp (Nat.le_antisymm (List.length_filter_le _ _) h) x hx
    simp at this
theorem del_ins (O : Ord le) {x : α} {xs : List α} (h : Asc le xs) (hx : x ∉ xs) : delA x (insA le x xs) = xs :=
  Asc.ext O (asc_del (asc_ins O h)) h fun y => by
    rw [mem_del, mem_ins O]
    constructor
    · exact fun ⟨h1, h2⟩ => h1.elim (fun e => absurd e h2) id
    · exact fun h1 => ⟨Or.inr h1, fun e => hx (e ▸ h1)⟩
theorem ins_del (O : Ord le) {x : α} {xs : List α} (h : Asc le xs) (hx : x ∈ xs) : insA le x (delA x xs) = xs :=
  Asc.ext O (asc_ins O (asc_del h)) h fun y => by
    rw [mem_ins O, mem_del]
    constructor
    · exact fun h1 => h1.elim (fun e => e ▸ hx) fun h => h.1
    · intro h1
      by_cases e : y = x
      · exact Or.inl e
      · exact Or.inr ⟨h1, e⟩
end
section
variable {Q : AV → Sto → Prop} {s : Sto}
theorem lexLt_nat : ∀ a b : List Nat, Mi.lexLt (a.map fun (k : Nat) => (k : Int)) (b.map fun (k : Nat) => (k : Int)) = !lle b a
  | [], [] => rfl
  | [], _ :: _ => rfl
  | _ :: _, [] => rfl
  | x :: xs, y :: ys => by
    rw [List.map_cons, List.map_cons, Mi.lexLt, lle]
    by_cases e : x = y
    · subst e; rw [if_pos rfl, if_pos rfl]; exact lexLt_nat xs ys
    · rw [if_neg (by omega), if_neg (fun h => e h.symm)]
      by_cases h : x < y
      · rw [decide_eq_true (by omega), decide_eq_false (by omega)]; rfl
      · rw [decide_eq_false (by omega), decide_eq_true (by omega)]; rfl
theorem lt_pr (a b : Nat × Nat) : W (ltAV (pr a) (pr b) s) Q = Q (.bl (!ple b a)) s := by
  have h1 : ints? [nv a.1, nv a.2] = some [(a.1 : Int), (a.2 : Int)] := rfl
  have h2 : ints? [nv b.1, nv b.2] = some [(b.1 : Int), (b.2 : Int)] := rfl
  have h3 : Mi.lexLt [(a.1 : Int), (a.2 : Int)] [(b.1 : Int), (b.2 : Int)] = !ple b a := lexLt_nat [a.1, a.2] [b.1, b.2]
  unfold ltAV cmpAV pr
  simp only [h1, h2, h3, W_ok]
theorem gt_pr (a b : Nat × Nat) : W (gtAV (pr a) (pr b) s) Q = Q (.bl (!ple a b)) s := by
  have h1 : ints? [nv a.1, nv a.2] = some [(a.1 : Int), (a.2 : Int)] := rfl
  have h2 : ints? [nv b.1, nv b.2] = some [(b.1 : Int), (b.2 : Int)] := rfl
  have h3 : Mi.lexLt [(b.1 : Int), (b.2 : Int)] [(a.1 : Int), (a.2 : Int)] = !ple a b := lexLt_nat [b.1, b.2] [a.1, a.2]
  unfold gtAV cmpAV pr
  simp only [h1, h2, h3, W_ok]
theorem pln_pr (a : Nat × Nat) : pln 1 (pr a) = true := rfl
theorem dat_pr (a : Nat × Nat) : dat 1 (pr a) = .tuple [.int a.1, .int a.2] := rfl
theorem eqv_pr (a b : Nat × Nat) : PyData.eqv (dat 1 (pr a)) (dat 1 (pr b)) = decide (a = b) := by
  rw [dat_pr, dat_pr]
  have e : PyData.eqv (.tuple [.int a.1, .int a.2]) (.tuple [.int b.1, .int b.2]) = (((a.1 : Int) == (b.1 : Int)) && (((a.2 : Int) == (b.2 : Int)) && true)) := rfl
  rw [e, Bool.and_true]
  by_cases h : a = b
  · subst h; simp
  · rw [decide_eq_false h]
    by_cases h1 : a.1 = b.1
    · have h2 : a.2 ≠ b.2 := fun h2 => h (Prod.ext h1 h2)
      have : ((a.2 : Int) == (b.2 : Int)) = false := beq_eq_false_iff_ne.mpr fun e => h2 (by omega)
      rw [this, Bool.and_false]
    · have : ((a.1 : Int) == (b.1 : Int)) = false := beq_eq_false_iff_ne.mpr fun e => h1 (by omega)
      rw [this, Bool.false_and]
theorem w_eqPr (neg : Bool) (a b : Nat × Nat) : W (eqAV neg (pr a) (pr b) s) Q = Q (.bl (neg != decide (a = b))) s := by
  rw [w_eqP neg 1 (by decide) _ _ (pln_pr a) (pln_pr b), eqv_pr]
theorem pln_prT (rs : List (Nat × Nat)) : pln 2 (.tup (rs.map pr)) = true := by
  refine List.all_eq_true.mpr fun x hx => ?_
  obtain ⟨r, _, rfl⟩ := List.mem_map.mp hx
  rfl
theorem any_pr (r : Nat × Nat) : ∀ rs : List (Nat × Nat), (((rs.map pr).map (dat 1)).any fun z => PyData.eqv z (dat 1 (pr r))) = decide (r ∈ rs)
  | [] => rfl
  | w :: rs => by
    rw [List.map_cons, List.map_cons, List.any_cons, any_pr r rs, eqv_pr]
    by_cases h : w = r
    · subst h; simp
    · have h' : ¬ r = w := fun e => h e.symm
      simp [h, h']
theorem w_inP (neg : Bool) (r : Nat × Nat) (rs : List (Nat × Nat)) : W (inAV neg (pr r) (.tup (rs.map pr)) s) Q = Q (.bl (neg != decide (r ∈ rs))) s := by
  unfold inAV items?
  simp only
  rw [if_neg (by simp [pr, flat])]
  have e1 : pd s deepN (pr r) = some (dat 1 (pr r)) := pd_dat s 1 deepN _ (pln_pr r) (by decide)
  have e2 : pd s deepN (.tup (rs.map pr)) = some (.tuple ((rs.map pr).map (dat 1))) := pd_dat s 2 deepN _ (pln_prT rs) (by decide)
  have e3 : SeqAt.shaped (.tuple ((rs.map pr).map (dat 1))) = true := shaped_dat (n := 2) (pln_prT rs) (by decide)
  simp only [e1, e2, e3, shaped_dat (pln_pr r) (by decide), any_pr]
  rfl
theorem w_addT (xs ys : List AV) (h : xs.length + ys.length ≤ 1000000) : W (addAV (.tup xs) (.tup ys) s) Q = Q (.tup (xs ++ ys)) s := by
  unfold addAV; simp only; rw [if_pos (by unfold lineZ; omega), W_ok]
theorem w_eqTE (neg : Bool) (n : Nat) (hn : n ≤ 59) (xs : List AV) (h : xs.all (pln n) = true) : W (eqAV neg (.tup xs) (.tup []) s) Q = Q (.bl (neg != xs.isEmpty)) s := by
  rw [w_eqP neg (n + 1) (by omega) (.tup xs) (.tup []) h rfl]
  cases xs <;> rfl
theorem sortedT_w {α : Type} [DecidableEq α] {le : α → α → Bool} {emb : α → AV} (hs : ∀ a b, le a b = B.sLe (emb a) (emb b)) {xs : List α} (hl : xs.length ≤ 1000000) (hso : B.sorts (xs.map emb) = true) :
    W (B.sorted [.tup (xs.map emb)] s) Q = Q (.ref s.length) (s ++ [.lst ((xs.mergeSort le).map emb)]) := by
  have e : B.sorted [.tup (xs.map emb)] s = newLst ((xs.mergeSort le).map emb) s := by
    unfold B.sorted; simp only [hso, if_true]; rw [sorted_emb hs]
  rw [e]; unfold newLst
  rw [if_pos (by rw [List.length_map, List.length_mergeSort]; unfold lineZ; omega), W_ok]
end
end Sp
namespace Sp
open PySem Mi Mr
theorem eq_of_W {α : Type} {r : Res α} {a : α} {s : Sto} (h : W r fun v s' => v = a ∧ s' = s) : r = .ok a s := by
  obtain ⟨v, s', e, rfl, rfl⟩ := W_ex h; exact e
theorem W_of_eq {α : Type} {r : Res α} {a : α} {s : Sto} (h : r = .ok a s) {Q : α → Sto → Prop} : W r Q = Q a s := by rw [h, W_ok]
section
variable {Q : AV → Sto → Prop} {s : Sto}
theorem whole_e (k : Nat) (hi : Int) : m_is_whole [nv k, .int 0, .int hi] s = .ok (.bl (decide ((k : Int) ≤ hi))) s := by
  have hk : (0 : Int) ≤ (k : Int) := by omega
  unfold m_is_whole b_is_whole
  refine eq_of_W ?_; refine d_runn (by rfl) (x_ret ?_)
  simp [hk]
@[simp] theorem whole_w (k : Nat) (hi : Int) : W (m_is_whole [nv k, .int 0, .int hi] s) Q = Q (.bl (decide ((k : Int) ≤ hi))) s := W_of_eq (whole_e k hi)
theorem road_e (r : Nat × Nat) (n : Nat) (h1 : r.1 < n) (h2 : r.2 < n) : m_is_road [pr r, nv n] s = .ok (.bl true) s := by
  unfold m_is_road b_is_road
  refine eq_of_W ?_; refine d_runn (by rfl) ?_
  rw [x_seq]
  refine x_ife ?_
  have a1 : (r.1 : Int) ≤ (n : Int) - 1 := by omega
  have a2 : (r.2 : Int) ≤ (n : Int) - 1 := by omega
  simp [pr]
  refine x_ret ?_
  simp [a1, a2]
theorem getM {α : Type} {f : α → AV} {xs : List α} {k : Nat} (h : k < xs.length) : (xs.map f)[k]? = some (f xs[k]) := by
  rw [List.getElem?_map, List.getElem?_eq_getElem h]; rfl
theorem fbp {n : Nat} {ws : List Nat} (h1 : ∀ w ∈ ws, w < n) (h2 : Asc nle ws) (hl : ws.length < 1000000000) : m_first_bad_place [.tup (ws.map nv), nv n] s = .ok .non s := by
  unfold m_first_bad_place b_first_bad_place
  refine eq_of_W ?_; refine d_runn (by rfl) ?_
  rw [x_seq]
  refine for_r ?_
  simp
  refine .mk ws.length (fun k en s' => s' = s ∧ ∃ o, en = [some (.tup (ws.map nv)), some (nv n), o]) rfl hl ⟨rfl, _, rfl⟩ ?_ ?_
  · rintro k en s' hk ⟨rfl, o, rfl⟩
    simp
    refine x_ife ?_
    have a1 : (ws[k] : Int) ≤ (n : Int) - 1 := by have := h1 _ (List.getElem_mem hk); omega
    simp [w_ixT (getM (f := nv) hk), a1]
    cases k with
    | zero => simp
    | succ k =>
      simp
      have e1 : ((k : Int) + 1) - 1 = ((k : Nat) : Int) := by omega
      have hk' : k < ws.length := by omega
      have a3 := List.pairwise_iff_getElem.mp h2 k (k + 1) hk' hk (by omega)
      have a4 : ¬ ((ws[k + 1] : Int) ≤ (ws[k] : Int)) := by have := of_decide_eq_true a3.1; have := a3.2; omega
      rw [show (AV.int (k : Int)) = nv k from rfl, w_ixT (getM (f := nv) hk')]
      simp [a4]
  · rintro en s' ⟨rfl, o, rfl⟩
    refine x_ret ?_
    simp
theorem le_pr (a b : Nat × Nat) : W (leAV (pr a) (pr b) s) Q = Q (.bl (ple a b)) s := by
  have h1 : ints? [nv a.1, nv a.2] = some [(a.1 : Int), (a.2 : Int)] := rfl
  have h2 : ints? [nv b.1, nv b.2] = some [(b.1 : Int), (b.2 : Int)] := rfl
  have h3 : lexLe [(a.1 : Int), (a.2 : Int)] [(b.1 : Int), (b.2 : Int)] = ple a b := lexLe_nat [a.1, a.2] [b.1, b.2]
  unfold leAV cmpAV pr
  simp only [h1, h2, h3, W_ok]
theorem fbr {n : Nat} {rs : List (Nat × Nat)} (h1 : ∀ r ∈ rs, r.1 < n ∧ r.2 < n) (h2 : Asc ple rs) (hl : rs.length < 1000000000) : m_first_bad_road [.tup (rs.map pr), nv n] s = .ok .non s := by
  unfold m_first_bad_road b_first_bad_road
  refine eq_of_W ?_; refine d_runn (by rfl) ?_
  rw [x_seq]
  refine for_r ?_
  simp
  refine .mk rs.length (fun k en s' => s' = s ∧ ∃ o, en = [some (.tup (rs.map pr)), some (nv n), o]) rfl hl ⟨rfl, _, rfl⟩ ?_ ?_
  · rintro k en s' hk ⟨rfl, o, rfl⟩
    simp
    refine x_ife ?_
    have a1 := h1 _ (List.getElem_mem hk)
    simp [w_ixT (getM (f := pr) hk), W_of_eq (road_e (s := s') _ n a1.1 a1.2)]
    cases k with
    | zero => simp
    | succ k =>
      simp
      have e1 : ((k : Int) + 1) - 1 = ((k : Nat) : Int) := by omega
      have hk' : k < rs.length := by omega
      have a3 := List.pairwise_iff_getElem.mp h2 k (k + 1) hk' hk (by omega)
      have a4 : ple rs[k + 1] rs[k] = false := by
        cases h : ple rs[k + 1] rs[k] with
        | false => rfl
        | true => exact absurd (pleO.anti _ _ a3.1 h) a3.2
      rw [show (AV.int (k : Int)) = nv k from rfl, w_ixT (getM (f := pr) hk'), le_pr]
      simp [a4]
  · rintro en s' ⟨rfl, o, rfl⟩
    refine x_ret ?_
    simp
/-- right maps -/
structure VM (n : Nat) (rs : List (Nat × Nat)) (ws : List Nat) : Prop where
  hn : n ≤ 60
  hr : rs.length ≤ 240
  inr : ∀ r ∈ rs, r.1 < n ∧ r.2 < n
  ar : Asc ple rs
  inw : ∀ w ∈ ws, w < n
  aw : Asc nle ws
variable {n : Nat} {rs : List (Nat × Nat)} {ws : List Nat}
theorem asc_len (V : VM n rs ws) : ws.length ≤ 60 := by
  have := V.aw.nodup.length_le_of_subset (l₂ := List.range n) fun w hw => List.mem_range.mpr (V.inw w hw)
  rw [List.length_range] at this
  have := V.hn; omega
theorem wrong_roads_e (V : VM n rs ws) : m_wrong_roads [CH n rs ws] s = .ok .non s := by
  have hn := V.hn
  have hr := V.hr
  unfold m_wrong_roads b_wrong_roads
  refine eq_of_W ?_; refine d_runn (by rfl) ?_
  rw [x_seq]
  refine x_ife ?_
  simp [CH]
  refine x_ife ?_
  simp
  rw [if_pos (by omega)]
  refine x_ife ?_
  simp
  rw [if_neg (by omega)]
  refine x_ret ?_
  simp [W_of_eq (fbr (s := s) V.inr V.ar (by omega))]
theorem wrong_wishes_e (V : VM n rs ws) : m_wrong_wishes [CH n rs ws] s = .ok .non s := by
  have hw := asc_len V
  unfold m_wrong_wishes b_wrong_wishes
  refine eq_of_W ?_; refine d_runn (by rfl) ?_
  rw [x_seq]
  refine x_ife ?_
  simp [CH]
  refine x_ret ?_
  simp [W_of_eq (fbp (s := s) V.inw V.aw (by omega))]
theorem made_e (V : VM n rs ws) : m_made_map [CH n rs ws] s = .ok (CH n rs ws) s := by
  unfold m_made_map b_made_map
  refine eq_of_We ?_; refine d_run (by rfl) ?_
  rw [x_seq]
  refine x_asg ?_
  simp [W_of_eq (wrong_roads_e V)]
  refine x_ife ?_
  simp
  refine x_asg ?_
  simp [W_of_eq (wrong_wishes_e V)]
  refine x_ife ?_
  simp
  refine x_ret ?_
  simp
/-- things whose kind is known -/
def kd : AV → Bool
  | .ref _ => false
  | .adr _ => false
  | .ty _ => false
  | _ => true
/-- a place below n -/
def plI (n : Nat) : AV → Bool
  | .int i => decide (0 ≤ i ∧ i < n)
  | _ => false
theorem plI_nv (n k : Nat) : plI n (nv k) = decide (k < n) := by
  change decide ((0 : Int) ≤ (k : Int) ∧ (k : Int) < (n : Int)) = decide (k < n)
  exact decide_eq_decide.mpr ⟨fun h => by omega, fun h => by omega⟩
theorem of_plI {n : Nat} {x : AV} (h : plI n x = true) : ∃ k, x = nv k ∧ k < n := by
  unfold plI at h
  split at h
  · rename_i i
    have h := of_decide_eq_true h
    exact ⟨i.toNat, by unfold nv; rw [Int.toNat_of_nonneg h.1], by omega⟩
  · exact nomatch h
@[simp] theorem w_isa_kint {x : AV} (b : Bool) (s : Sto) : W (Mi.B.isa [.bl b, .ty "int"] s) Q = Q (.bl true) s := (rfl)
theorem is_place_e {x : AV} (hx : kd x = true) : m_is_place [CH n rs ws, x] s = .ok (.bl (plI n x)) s := by
  have w0 : m_is_whole [x, .int 0, .int ((n : Int) - 1)] s = .ok (.bl (plI n x)) s := by
    unfold m_is_whole b_is_whole
    cases x with
    | int i =>
      refine eq_of_W ?_; refine d_runn (by rfl) (x_ret ?_)
      simp only [List.length_cons, List.length_nil, List.map_cons, List.map_nil, Nat.reduceAdd, Nat.reduceSub, List.replicate_zero, List.append_nil, w_and, w_call, w_cons, w_nil, w_var0, w_varS, w_c, w_isa_int, w_isa_intb, w_not, w_chain, w_le, onB_bl, Bool.not_false, if_true, KR_ret]
      by_cases h0 : 0 ≤ i
      · by_cases h1 : i < n
        · simp [plI, h0, h1, show i ≤ (n : Int) - 1 by omega]
        · simp [plI, h0, h1, show ¬ (i ≤ (n : Int) - 1) by omega]
      · simp [plI, h0]
    | ref l => exact nomatch hx
    | adr l => exact nomatch hx
    | ty l => exact nomatch hx
    | _ => rfl
  unfold m_is_place b_is_place
  refine eq_of_W ?_; refine d_runn (by rfl) (x_ret ?_)
  simp [W_of_eq w0]
theorem check_we {x : AV} {Er : Nat → AV → Sto → Prop} (hx : kd x = true) (h : if plI n x = true then Q .non s else Er 3 x s) : We (m_check_place [CH n rs ws, x] s) Q Er := by
  unfold m_check_place b_check_place
  refine d_run (by rfl) ?_
  refine x_ife ?_
  simp [W_of_eq (is_place_e (s := s) (rs := rs) (ws := ws) hx)]
  cases hp : plI n x with
  | true => rw [hp] at h; simpa using h
  | false =>
    rw [hp] at h
    simp
    refine x_raise ?_
    simpa using h
end
end Sp
namespace Sp
open PySem Mi Mr
section
variable {Q : AV → Sto → Prop} {s : Sto}
theorem isLst_of {l : Nat} {xs : List AV} (h : s[l]? = some (.lst xs)) : isLst s (.ref l) = true := by unfold isLst; simp only [h]
theorem w_append {l : Nat} {xs : List AV} {y : AV} (h : s[l]? = some (.lst xs)) (hl : xs.length < lineZ) : W (B.append (.ref l) [y] s) Q = Q .non (s.set l (.lst (xs ++ [y]))) := by
  unfold B.append; simp only [h, hl, if_true, W_ok]
theorem w_pop {l : Nat} {ys : List AV} {y : AV} (h : s[l]? = some (.lst (ys ++ [y]))) : W (B.pop (.ref l) [] s) Q = Q y (s.set l (.lst ys)) := by
  unfold B.pop; simp only [h]; simp
theorem w_popI {l k : Nat} {xs : List AV} {y : AV} (h : s[l]? = some (.lst xs)) (hy : xs[k]? = some y) (hk : k < 1000000000) : W (B.pop (.ref l) [nv k] s) Q = Q y (s.set l (.lst (xs.eraseIdx k))) := by
  have hlt : k < xs.length := by
    rcases Nat.lt_or_ge k xs.length with g | g
    · exact g
    · rw [List.getElem?_eq_none g] at hy; exact nomatch hy
  have hc : decide (-(2 ^ 63 : Int) ≤ (k : Int) ∧ (k : Int) < 2 ^ 63) = true := by
    have : (2 ^ 63 : Int) = 9223372036854775808 := by decide
    exact decide_eq_true (by omega)
  unfold B.pop; simp only [h, hc, ixN_nat hlt, hy, if_true, W_ok]
theorem w_setIx {N : En → Sto → Prop} {en : En} {l k : Nat} {xs : List AV} {v : AV} (h : s[l]? = some (.lst xs)) (hk : k < xs.length) : Wf (G.setIx (.ref l) (nv k) v en s) N = N en (s.set l (.lst (xs.set k v))) := by
  unfold G.setIx; simp only [nv, h, ixN_nat hk, Wf_nx]
theorem flat_rep {α : Type} (x : α) : ∀ k : Nat, (List.replicate k [x]).flatten = List.replicate k x
  | 0 => rfl
  | k + 1 => by rw [List.replicate_succ, List.flatten_cons, flat_rep x k]; rfl
theorem w_rep {l k : Nat} {x : AV} (h : s[l]? = some (.lst [x])) (hk : k ≤ 1000000) : W (mulAV (.ref l) (nv k) s) Q = Q (.ref s.length) (s ++ [.lst (List.replicate k x)]) := by
  have hc : decide (-(2 ^ 63 : Int) ≤ (k : Int) ∧ (k : Int) < 2 ^ 63) = true := by
    have : (2 ^ 63 : Int) = 9223372036854775808 := by decide
    exact decide_eq_true (by omega)
  have h2 : decide ([x].length * (k : Int).toNat ≤ lineZ) = true := decide_eq_true (by unfold lineZ; simp; omega)
  have h3 : repL [x] (k : Int).toNat = List.replicate k x := by
    unfold repL; rw [Int.toNat_natCast]
    exact flat_rep x k
  have h4 : (List.replicate k x).length ≤ lineZ := by unfold lineZ; simp; omega
  have h5 : mulAV (.ref l) (nv k) s = newLst (List.replicate k x) s := by
    unfold mulAV; simp only [nv, h, hc, h2, h3, Bool.and_self, if_true]
  rw [h5]; unfold newLst; rw [if_pos h4, W_ok]
theorem nodup_inj {ls : List Nat} (h : ls.Nodup) {i j : Nat} (hi : i < ls.length) (hj : j < ls.length) (e : ls[i] = ls[j]) : i = j := by
  have hp := List.pairwise_iff_getElem.mp h
  rcases Nat.lt_trichotomy i j with g | g | g
  · exact absurd e (hp i j hi hj g)
  · exact g
  · exact absurd e.symm (hp j i hj hi g)
end
end Sp
namespace Sp
open PySem Mi Mr
section
variable {Q : AV → Sto → Prop} {s : Sto}
/-- the pool of draws -/
def PoolA (s : Sto) (p q : Nat) (ga gb : Int) (ys : List Int) : Prop := p ≠ q ∧ s[p]? = some (.lst [.int ga, .int gb, .ref q]) ∧ s[q]? = some (.lst (ys.map AV.int)) ∧ 0 ≤ ga ∧ 0 ≤ gb ∧ gb < 4294967296
def Pool (s : Sto) (p q : Nat) : Prop := ∃ (ga gb : Int) (ys : List Int), PoolA s p q ga gb ys
theorem Pool.keep {s s' : Sto} {p q : Nat} (h : Pool s p q) (k : Kp [] s s') : Pool s' p q := by
  obtain ⟨ga, gb, ys, a, b, c, d⟩ := h
  exact ⟨ga, gb, ys, a, k.2 _ _ (by simp) b, k.2 _ _ (by simp) c, d⟩
theorem Pool.lt {s : Sto} {p q : Nat} (h : Pool s p q) : p < s.length ∧ q < s.length := by
  obtain ⟨ga, gb, ys, a, b, c, d⟩ := h
  exact ⟨lt_of_get b, lt_of_get c⟩
theorem Pool.setN {s : Sto} {p q l : Nat} {o : MO} (h : Pool s p q) (hp : l ≠ p) (hq : l ≠ q) : Pool (s.set l o) p q := by
  obtain ⟨ga, gb, ys, a, b, c, d⟩ := h
  exact ⟨ga, gb, ys, a, by rw [List.getElem?_set_ne hp]; exact b, by rw [List.getElem?_set_ne hq]; exact c, d⟩
theorem w_pop0 {l : Nat} {xs : List AV} {y : AV} (h : s[l]? = some (.lst xs)) (hy : xs[0]? = some y) : W (Mi.B.pop (.ref l) [.int 0] s) Q = Q y (s.set l (.lst (xs.eraseIdx 0))) := w_popI (k := 0) h hy (by omega)
theorem small48 : small 48271 = true := by decide
theorem small69 : small 69621 = true := by decide
theorem small2 : small 2 = true := by decide
theorem ix_r {l : Nat} {a b c : AV} (h : s[l]? = some (.lst [a, b, c])) : W (ixAV (.ref l) (.int 0) s) Q = Q a s ∧ W (ixAV (.ref l) (.int 1) s) Q = Q b s ∧ W (ixAV (.ref l) (.int 2) s) Q = Q c s :=
  ⟨w_ixL (k := 0) (seqAt_lst h) rfl, w_ixL (k := 1) (seqAt_lst h) rfl, w_ixL (k := 2) (seqAt_lst h) rfl⟩
theorem set_r {N : En → Sto → Prop} {en : En} {l : Nat} {a b c v : AV} (h : s[l]? = some (.lst [a, b, c])) :
    Wf (G.setIx (.ref l) (.int 0) v en s) N = N en (s.set l (.lst [v, b, c])) ∧ Wf (G.setIx (.ref l) (.int 1) v en s) N = N en (s.set l (.lst [a, v, c])) :=
  ⟨w_setIx (k := 0) h (by simp), w_setIx (k := 1) h (by simp)⟩
theorem pln_ints (ys : List Int) : (ys.map AV.int).all (pln 0) = true := by simp [pln]
theorem nv_toNat {z : Int} (h : 0 ≤ z) : nv z.toNat = AV.int z := by unfold nv; rw [Int.toNat_of_nonneg h]
theorem draw_w {p q : Nat} {m : Int} (P : Pool s p q) (h0 : 0 < m) (h1 : m < 1073741824)
    (k : ∀ (r : Nat) s', (r : Int) < m → Pool s' p q → Kp [p, q] s s' → Q (nv r) s') : W (m__law_draw [.ref p, .int m] s) Q := by
  obtain ⟨ga, gb, ys, PA⟩ := P
  unfold m__law_draw b__law_draw
  refine d_runn (by rfl) ?_
  simp only [w_calln, w_call, w_cons, w_nil, w_tup, w_lst, w_op, w_un, w_c, w_var0, w_varS, w_and, w_or, w_not, w_iteE, w_lmeth, t_val, t_tru, t_and, t_or, t_not, t_yes, w_ch0, w_ch1, w_ch2, w_pr0, w_pr1, w_ix20, w_ix21, w_ix30, w_ix31, w_ix32, w_inT, w_eqI, w_add, w_sub, w_lt, w_le, w_gt, w_ge, w_neg, w_lenT, w_int, w_min, w_max, w_tupT, onB_bl, truth_bl, x_seq, x_skip, KR_ret, TK_ret, TK_brk, TK_cnt, g_name, g_unp, g_allS, g_all0, g_sub, lz0, lz1, lz2, lz3, lz4, lz5, lz6, lz7, lz8, List.set, wipe, List.map_cons, List.map_nil, List.cons_append, List.nil_append, List.length_cons, List.length_nil, Nat.reduceAdd, Nat.reduceSub, List.replicate_succ, List.replicate_zero, eq_self, Bool.false_eq_true, if_true, if_false]
  refine X_mono (N := fun en s1 => ∃ (o2 o3 : Option AV) (ga gb : Int) (ys : List Int), en = [some (.ref p), some (.int m), o2, o3, none] ∧ PoolA s1 p q ga gb ys ∧ Kp [p, q] s s1) (K := fun _ => False) ?_ ?_ (fun _ h => h.elim)
  · obtain ⟨hpq, hp, hq, hA, hB, hB2⟩ := PA
    have lp := lt_of_get hp
    have lq := lt_of_get hq
    refine x_ife ?_
    simp only [w_calln, w_call, w_cons, w_nil, w_tup, w_lst, w_op, w_un, w_c, w_var0, w_varS, w_and, w_or, w_not, w_iteE, w_lmeth, t_val, t_tru, t_and, t_or, t_not, t_yes, w_ch0, w_ch1, w_ch2, w_pr0, w_pr1, w_ix20, w_ix21, w_ix30, w_ix31, w_ix32, w_inT, w_eqI, w_add, w_sub, w_lt, w_le, w_gt, w_ge, w_neg, w_lenT, w_int, w_min, w_max, w_tupT, onB_bl, truth_bl, x_seq, x_skip, KR_ret, TK_ret, TK_brk, TK_cnt, g_name, g_unp, g_allS, g_all0, g_sub, lz0, lz1, lz2, lz3, lz4, lz5, lz6, lz7, lz8, List.set, wipe, List.map_cons, List.map_nil, List.cons_append, List.nil_append, List.length_cons, List.length_nil, Nat.reduceAdd, Nat.reduceSub, List.replicate_succ, List.replicate_zero, eq_self, Bool.false_eq_true, if_true, if_false, (ix_r hp).1]
    by_cases hA0 : ga = 0
    · rw [if_pos (by simp [hA0]), (ix_r hp).2.2]
      have hq' : (s ++ [MO.lst []])[q]? = some (.lst (ys.map AV.int)) := (Kp.app _ (Kp.refl (L := []) s)).2 _ _ (by simp) hq
      have hp' : (s ++ [MO.lst []])[p]? = some (.lst [.int ga, .int gb, .ref q]) := (Kp.app _ (Kp.refl (L := []) s)).2 _ _ (by simp) hp
      rw [w_eqL0 true q s.length 0 (by omega) (ys.map AV.int) (pln_ints ys) (seqAt_lst hq') (seqAt_lst (by simp)), onB_bl]
      have kp1 : Kp [p, q] s (s ++ [MO.lst []]) := Kp.app _ (Kp.refl _)
      cases ys with
      | nil =>
        rw [if_neg (by simp)]
        exact ⟨_, _, ga, gb, [], rfl, ⟨hpq, hp', hq', hA, hB, hB2⟩, kp1⟩
      | cons y ys =>
        rw [if_pos (by simp)]
        refine x_asg ?_
        simp only [w_calln, w_call, w_cons, w_nil, w_tup, w_lst, w_op, w_un, w_c, w_var0, w_varS, w_and, w_or, w_not, w_iteE, w_lmeth, t_val, t_tru, t_and, t_or, t_not, t_yes, w_ch0, w_ch1, w_ch2, w_pr0, w_pr1, w_ix20, w_ix21, w_ix30, w_ix31, w_ix32, w_inT, w_eqI, w_add, w_sub, w_lt, w_le, w_gt, w_ge, w_neg, w_lenT, w_int, w_min, w_max, w_tupT, onB_bl, truth_bl, x_seq, x_skip, KR_ret, TK_ret, TK_brk, TK_cnt, g_name, g_unp, g_allS, g_all0, g_sub, lz0, lz1, lz2, lz3, lz4, lz5, lz6, lz7, lz8, List.set, wipe, List.map_cons, List.map_nil, List.cons_append, List.nil_append, List.length_cons, List.length_nil, Nat.reduceAdd, Nat.reduceSub, List.replicate_succ, List.replicate_zero, eq_self, Bool.false_eq_true, if_true, if_false, (ix_r hp').2.2]
        rw [if_pos (isLst_of hq'), w_pop0 (y := .int y) hq' rfl]
        have lq' := lt_of_get hq'
        have e0 : ((y :: ys).map AV.int).eraseIdx 0 = ys.map AV.int := rfl
        rw [e0]
        generalize hs2 : (s ++ [MO.lst []]).set q (.lst (ys.map AV.int)) = s2
        have hq2 : s2[q]? = some (.lst (ys.map AV.int)) := by subst hs2; rw [List.getElem?_set_self lq']
        have hp2 : s2[p]? = some (.lst [.int ga, .int gb, .ref q]) := by subst hs2; rw [List.getElem?_set_ne (fun e => hpq e.symm)]; exact hp'
        have kp2 : Kp [p, q] s s2 := by subst hs2; exact kp1.setM _ _ (by simp)
        clear hs2
        simp only [w_calln, w_call, w_cons, w_nil, w_tup, w_lst, w_op, w_un, w_c, w_var0, w_varS, w_and, w_or, w_not, w_iteE, w_lmeth, t_val, t_tru, t_and, t_or, t_not, t_yes, w_ch0, w_ch1, w_ch2, w_pr0, w_pr1, w_ix20, w_ix21, w_ix30, w_ix31, w_ix32, w_inT, w_eqI, w_add, w_sub, w_lt, w_le, w_gt, w_ge, w_neg, w_lenT, w_int, w_min, w_max, w_tupT, onB_bl, truth_bl, x_seq, x_skip, KR_ret, TK_ret, TK_brk, TK_cnt, g_name, g_unp, g_allS, g_all0, g_sub, lz0, lz1, lz2, lz3, lz4, lz5, lz6, lz7, lz8, List.set, wipe, List.map_cons, List.map_nil, List.cons_append, List.nil_append, List.length_cons, List.length_nil, Nat.reduceAdd, Nat.reduceSub, List.replicate_succ, List.replicate_zero, eq_self, Bool.false_eq_true, if_true, if_false]
        -- the size that goes in
        have size : ∃ z : Int, 0 ≤ z ∧ ∀ (Q : AV → Sto → Prop), Q (.int z) s2 → W (E.ite (T.val (E.op geAV (E.var 2) (E.c (.int 0)))) (E.op mulAV (E.c (.int 2)) (E.var 2)) (E.op subAV (E.un negAV (E.c (.int 1))) (E.op mulAV (E.c (.int 2)) (E.var 2))) [some (.ref p), some (.int m), some (.int y), none, none] s2) Q := by
          by_cases hy : 0 ≤ y
          · refine ⟨2 * y, by omega, fun Q h => ?_⟩
            simp only [w_calln, w_call, w_cons, w_nil, w_tup, w_lst, w_op, w_un, w_c, w_var0, w_varS, w_and, w_or, w_not, w_iteE, w_lmeth, t_val, t_tru, t_and, t_or, t_not, t_yes, w_ch0, w_ch1, w_ch2, w_pr0, w_pr1, w_ix20, w_ix21, w_ix30, w_ix31, w_ix32, w_inT, w_eqI, w_add, w_sub, w_lt, w_le, w_gt, w_ge, w_neg, w_lenT, w_int, w_min, w_max, w_tupT, onB_bl, truth_bl, x_seq, x_skip, KR_ret, TK_ret, TK_brk, TK_cnt, g_name, g_unp, g_allS, g_all0, g_sub, lz0, lz1, lz2, lz3, lz4, lz5, lz6, lz7, lz8, List.set, wipe, List.map_cons, List.map_nil, List.cons_append, List.nil_append, List.length_cons, List.length_nil, Nat.reduceAdd, Nat.reduceSub, List.replicate_succ, List.replicate_zero, eq_self, Bool.false_eq_true, if_true, if_false, w_mul, small2, Bool.true_or, decide_eq_true hy]
            exact h
          · refine ⟨-1 - 2 * y, by omega, fun Q h => ?_⟩
            simp only [w_calln, w_call, w_cons, w_nil, w_tup, w_lst, w_op, w_un, w_c, w_var0, w_varS, w_and, w_or, w_not, w_iteE, w_lmeth, t_val, t_tru, t_and, t_or, t_not, t_yes, w_ch0, w_ch1, w_ch2, w_pr0, w_pr1, w_ix20, w_ix21, w_ix30, w_ix31, w_ix32, w_inT, w_eqI, w_add, w_sub, w_lt, w_le, w_gt, w_ge, w_neg, w_lenT, w_int, w_min, w_max, w_tupT, onB_bl, truth_bl, x_seq, x_skip, KR_ret, TK_ret, TK_brk, TK_cnt, g_name, g_unp, g_allS, g_all0, g_sub, lz0, lz1, lz2, lz3, lz4, lz5, lz6, lz7, lz8, List.set, wipe, List.map_cons, List.map_nil, List.cons_append, List.nil_append, List.length_cons, List.length_nil, Nat.reduceAdd, Nat.reduceSub, List.replicate_succ, List.replicate_zero, eq_self, Bool.false_eq_true, if_true, if_false, w_mul, small2, Bool.true_or, decide_eq_false hy]
            exact h
        obtain ⟨z, hz, size⟩ := size
        refine x_asg (size _ ?_)
        simp only [w_calln, w_call, w_cons, w_nil, w_tup, w_lst, w_op, w_un, w_c, w_var0, w_varS, w_and, w_or, w_not, w_iteE, w_lmeth, t_val, t_tru, t_and, t_or, t_not, t_yes, w_ch0, w_ch1, w_ch2, w_pr0, w_pr1, w_ix20, w_ix21, w_ix30, w_ix31, w_ix32, w_inT, w_eqI, w_add, w_sub, w_lt, w_le, w_gt, w_ge, w_neg, w_lenT, w_int, w_min, w_max, w_tupT, onB_bl, truth_bl, x_seq, x_skip, KR_ret, TK_ret, TK_brk, TK_cnt, g_name, g_unp, g_allS, g_all0, g_sub, lz0, lz1, lz2, lz3, lz4, lz5, lz6, lz7, lz8, List.set, wipe, List.map_cons, List.map_nil, List.cons_append, List.nil_append, List.length_cons, List.length_nil, Nat.reduceAdd, Nat.reduceSub, List.replicate_succ, List.replicate_zero, eq_self, Bool.false_eq_true, if_true, if_false]
        refine x_asg ?_
        simp only [w_calln, w_call, w_cons, w_nil, w_tup, w_lst, w_op, w_un, w_c, w_var0, w_varS, w_and, w_or, w_not, w_iteE, w_lmeth, t_val, t_tru, t_and, t_or, t_not, t_yes, w_ch0, w_ch1, w_ch2, w_pr0, w_pr1, w_ix20, w_ix21, w_ix30, w_ix31, w_ix32, w_inT, w_eqI, w_add, w_sub, w_lt, w_le, w_gt, w_ge, w_neg, w_lenT, w_int, w_min, w_max, w_tupT, onB_bl, truth_bl, x_seq, x_skip, KR_ret, TK_ret, TK_brk, TK_cnt, g_name, g_unp, g_allS, g_all0, g_sub, lz0, lz1, lz2, lz3, lz4, lz5, lz6, lz7, lz8, List.set, wipe, List.map_cons, List.map_nil, List.cons_append, List.nil_append, List.length_cons, List.length_nil, Nat.reduceAdd, Nat.reduceSub, List.replicate_succ, List.replicate_zero, eq_self, Bool.false_eq_true, if_true, if_false, w_pow18]
        have fin : ∀ ga' : Int, 0 ≤ ga' → X (S.asg (G.sub (E.var 0) (E.c (.int 1))) (E.op addAV (E.op modAV (E.call Mi.B.int_ (E.cons (E.op addAV (E.op ixAV (E.var 0) (E.c (.int 1))) (E.op mulAV (E.var 3) (E.c (.int 69621)))) (E.nil))) (E.c (.int 2147483629))) (E.c (.int 3))) [some (.ref p), some (.int m), some (.int y), some (.int z), none] (s2.set p (.lst [.int ga', .int gb, .ref q])))
            (fun en s1 => ∃ (o2 o3 : Option AV) (ga gb : Int) (ys : List Int), en = [some (.ref p), some (.int m), o2, o3, none] ∧ PoolA s1 p q ga gb ys ∧ Kp [p, q] s s1) (fun _ => False) := by
          intro ga' hga
          have lp2 := lt_of_get hp2
          have hp3 : (s2.set p (.lst [.int ga', .int gb, .ref q]))[p]? = some (.lst [.int ga', .int gb, .ref q]) := by rw [List.getElem?_set_self lp2]
          refine x_asg ?_
          simp only [w_calln, w_call, w_cons, w_nil, w_tup, w_lst, w_op, w_un, w_c, w_var0, w_varS, w_and, w_or, w_not, w_iteE, w_lmeth, t_val, t_tru, t_and, t_or, t_not, t_yes, w_ch0, w_ch1, w_ch2, w_pr0, w_pr1, w_ix20, w_ix21, w_ix30, w_ix31, w_ix32, w_inT, w_eqI, w_add, w_sub, w_lt, w_le, w_gt, w_ge, w_neg, w_lenT, w_int, w_min, w_max, w_tupT, onB_bl, truth_bl, x_seq, x_skip, KR_ret, TK_ret, TK_brk, TK_cnt, g_name, g_unp, g_allS, g_all0, g_sub, lz0, lz1, lz2, lz3, lz4, lz5, lz6, lz7, lz8, List.set, wipe, List.map_cons, List.map_nil, List.cons_append, List.nil_append, List.length_cons, List.length_nil, Nat.reduceAdd, Nat.reduceSub, List.replicate_succ, List.replicate_zero, eq_self, Bool.false_eq_true, if_true, if_false, (ix_r hp3).2.1, w_mul, small69, Bool.or_true, w_mod]
          rw [if_pos (by omega), (set_r hp3).2]
          have b0 : 0 ≤ (gb + z * 69621) % 2147483629 := Int.emod_nonneg _ (by omega)
          have b1 : (gb + z * 69621) % 2147483629 < 2147483629 := Int.emod_lt_of_pos _ (by omega)
          refine ⟨_, _, ga', (gb + z * 69621) % 2147483629 + 3, ys, rfl, ⟨hpq, ?_, ?_, hga, by omega, by omega⟩, (kp2.setM _ _ (by simp)).setM _ _ (by simp)⟩
          · rw [List.getElem?_set_self (by rw [List.length_set]; exact lp2)]
          · rw [List.getElem?_set_ne hpq, List.getElem?_set_ne hpq]; exact hq2
        by_cases hz18 : (1000000000000000000 : Int) ≤ z
        · rw [if_pos (by simp [hz18]), (set_r hp2).1]
          exact fin z hz
        · rw [if_neg (by simp [hz18]), (set_r hp2).1]
          exact fin 0 (by omega)
    · rw [if_neg (by simp [hA0])]
      exact ⟨_, _, ga, gb, ys, rfl, ⟨hpq, hp, hq, hA, hB, hB2⟩, Kp.refl _⟩
  · clear PA
    rintro en s1 ⟨o2, o3, ga, gb, ys, rfl, ⟨hpq, hp, hq, hA, hB, hB2⟩, hk⟩
    have lp := lt_of_get hp
    refine x_ife ?_
    simp only [w_calln, w_call, w_cons, w_nil, w_tup, w_lst, w_op, w_un, w_c, w_var0, w_varS, w_and, w_or, w_not, w_iteE, w_lmeth, t_val, t_tru, t_and, t_or, t_not, t_yes, w_ch0, w_ch1, w_ch2, w_pr0, w_pr1, w_ix20, w_ix21, w_ix30, w_ix31, w_ix32, w_inT, w_eqI, w_add, w_sub, w_lt, w_le, w_gt, w_ge, w_neg, w_lenT, w_int, w_min, w_max, w_tupT, onB_bl, truth_bl, x_seq, x_skip, KR_ret, TK_ret, TK_brk, TK_cnt, g_name, g_unp, g_allS, g_all0, g_sub, lz0, lz1, lz2, lz3, lz4, lz5, lz6, lz7, lz8, List.set, wipe, List.map_cons, List.map_nil, List.cons_append, List.nil_append, List.length_cons, List.length_nil, Nat.reduceAdd, Nat.reduceSub, List.replicate_succ, List.replicate_zero, eq_self, Bool.false_eq_true, if_true, if_false, (ix_r hp).1]
    by_cases hA0 : 0 < ga
    · rw [if_pos (by simp [hA0])]
      refine x_asg ?_
      simp only [w_calln, w_call, w_cons, w_nil, w_tup, w_lst, w_op, w_un, w_c, w_var0, w_varS, w_and, w_or, w_not, w_iteE, w_lmeth, t_val, t_tru, t_and, t_or, t_not, t_yes, w_ch0, w_ch1, w_ch2, w_pr0, w_pr1, w_ix20, w_ix21, w_ix30, w_ix31, w_ix32, w_inT, w_eqI, w_add, w_sub, w_lt, w_le, w_gt, w_ge, w_neg, w_lenT, w_int, w_min, w_max, w_tupT, onB_bl, truth_bl, x_seq, x_skip, KR_ret, TK_ret, TK_brk, TK_cnt, g_name, g_unp, g_allS, g_all0, g_sub, lz0, lz1, lz2, lz3, lz4, lz5, lz6, lz7, lz8, List.set, wipe, List.map_cons, List.map_nil, List.cons_append, List.nil_append, List.length_cons, List.length_nil, Nat.reduceAdd, Nat.reduceSub, List.replicate_succ, List.replicate_zero, eq_self, Bool.false_eq_true, if_true, if_false, (ix_r hp).1, w_mod, if_pos h0]
      refine x_asg ?_
      simp only [w_calln, w_call, w_cons, w_nil, w_tup, w_lst, w_op, w_un, w_c, w_var0, w_varS, w_and, w_or, w_not, w_iteE, w_lmeth, t_val, t_tru, t_and, t_or, t_not, t_yes, w_ch0, w_ch1, w_ch2, w_pr0, w_pr1, w_ix20, w_ix21, w_ix30, w_ix31, w_ix32, w_inT, w_eqI, w_add, w_sub, w_lt, w_le, w_gt, w_ge, w_neg, w_lenT, w_int, w_min, w_max, w_tupT, onB_bl, truth_bl, x_seq, x_skip, KR_ret, TK_ret, TK_brk, TK_cnt, g_name, g_unp, g_allS, g_all0, g_sub, lz0, lz1, lz2, lz3, lz4, lz5, lz6, lz7, lz8, List.set, wipe, List.map_cons, List.map_nil, List.cons_append, List.nil_append, List.length_cons, List.length_nil, Nat.reduceAdd, Nat.reduceSub, List.replicate_succ, List.replicate_zero, eq_self, Bool.false_eq_true, if_true, if_false, (ix_r hp).1, w_div, if_pos (And.intro h0 h1), (set_r hp).1]
      refine x_ret ?_
      simp only [w_calln, w_call, w_cons, w_nil, w_tup, w_lst, w_op, w_un, w_c, w_var0, w_varS, w_and, w_or, w_not, w_iteE, w_lmeth, t_val, t_tru, t_and, t_or, t_not, t_yes, w_ch0, w_ch1, w_ch2, w_pr0, w_pr1, w_ix20, w_ix21, w_ix30, w_ix31, w_ix32, w_inT, w_eqI, w_add, w_sub, w_lt, w_le, w_gt, w_ge, w_neg, w_lenT, w_int, w_min, w_max, w_tupT, onB_bl, truth_bl, x_seq, x_skip, KR_ret, TK_ret, TK_brk, TK_cnt, g_name, g_unp, g_allS, g_all0, g_sub, lz0, lz1, lz2, lz3, lz4, lz5, lz6, lz7, lz8, List.set, wipe, List.map_cons, List.map_nil, List.cons_append, List.nil_append, List.length_cons, List.length_nil, Nat.reduceAdd, Nat.reduceSub, List.replicate_succ, List.replicate_zero, eq_self, Bool.false_eq_true, if_true, if_false]
      have r0 : 0 ≤ ga % m := Int.emod_nonneg _ (by omega)
      have r1 : ga % m < m := Int.emod_lt_of_pos _ h0
      have := k (ga % m).toNat (s1.set p (.lst [.int (ga / m), .int gb, .ref q])) (by omega) ⟨ga / m, gb, ys, hpq, by rw [List.getElem?_set_self lp], by rw [List.getElem?_set_ne hpq]; exact hq, Int.ediv_nonneg hA (by omega), hB, hB2⟩ (hk.setM _ _ (by simp))
      rw [nv_toNat r0] at this
      exact this
    · rw [if_neg (by simp [hA0])]
      refine x_asg ?_
      simp only [w_calln, w_call, w_cons, w_nil, w_tup, w_lst, w_op, w_un, w_c, w_var0, w_varS, w_and, w_or, w_not, w_iteE, w_lmeth, t_val, t_tru, t_and, t_or, t_not, t_yes, w_ch0, w_ch1, w_ch2, w_pr0, w_pr1, w_ix20, w_ix21, w_ix30, w_ix31, w_ix32, w_inT, w_eqI, w_add, w_sub, w_lt, w_le, w_gt, w_ge, w_neg, w_lenT, w_int, w_min, w_max, w_tupT, onB_bl, truth_bl, x_seq, x_skip, KR_ret, TK_ret, TK_brk, TK_cnt, g_name, g_unp, g_allS, g_all0, g_sub, lz0, lz1, lz2, lz3, lz4, lz5, lz6, lz7, lz8, List.set, wipe, List.map_cons, List.map_nil, List.cons_append, List.nil_append, List.length_cons, List.length_nil, Nat.reduceAdd, Nat.reduceSub, List.replicate_succ, List.replicate_zero, eq_self, Bool.false_eq_true, if_true, if_false, (ix_r hp).2.1, w_mul, small48, Bool.or_true, w_mod]
      rw [if_pos (by omega), (set_r hp).2]
      refine x_ret ?_
      have b0 : 0 ≤ (gb * 48271 + 11) % 2147483647 := Int.emod_nonneg _ (by omega)
      have b1 : (gb * 48271 + 11) % 2147483647 < 2147483647 := Int.emod_lt_of_pos _ (by omega)
      generalize (gb * 48271 + 11) % 2147483647 = gc at b0 b1
      have hp1 : (s1.set p (.lst [.int ga, .int gc, .ref q]))[p]? = some (.lst [.int ga, .int gc, .ref q]) := by rw [List.getElem?_set_self lp]
      have sm : small gc = true := by
        unfold small
        have e : (2 ^ 64 : Int) = 18446744073709551616 := by decide
        have h2 : -(2 ^ 64 : Int) < gc ∧ gc < 2 ^ 64 := by omega
        exact decide_eq_true h2
      simp only [w_calln, w_call, w_cons, w_nil, w_tup, w_lst, w_op, w_un, w_c, w_var0, w_varS, w_and, w_or, w_not, w_iteE, w_lmeth, t_val, t_tru, t_and, t_or, t_not, t_yes, w_ch0, w_ch1, w_ch2, w_pr0, w_pr1, w_ix20, w_ix21, w_ix30, w_ix31, w_ix32, w_inT, w_eqI, w_add, w_sub, w_lt, w_le, w_gt, w_ge, w_neg, w_lenT, w_int, w_min, w_max, w_tupT, onB_bl, truth_bl, x_seq, x_skip, KR_ret, TK_ret, TK_brk, TK_cnt, g_name, g_unp, g_allS, g_all0, g_sub, lz0, lz1, lz2, lz3, lz4, lz5, lz6, lz7, lz8, List.set, wipe, List.map_cons, List.map_nil, List.cons_append, List.nil_append, List.length_cons, List.length_nil, Nat.reduceAdd, Nat.reduceSub, List.replicate_succ, List.replicate_zero, eq_self, Bool.false_eq_true, if_true, if_false, (ix_r hp1).2.1, w_mul, sm, Bool.or_true, w_mod, w_div]
      rw [if_pos (by omega), if_pos (by omega), if_pos h0]
      generalize gc * gc % 2147483629 / 32 = gz
      have r0 : 0 ≤ gz % m := Int.emod_nonneg _ (by omega)
      have r1 : gz % m < m := Int.emod_lt_of_pos _ h0
      have := k (gz % m).toNat (s1.set p (.lst [.int ga, .int gc, .ref q])) (by omega) ⟨ga, gc, ys, hpq, hp1, by rw [List.getElem?_set_ne hpq]; exact hq, hA, b0, by omega⟩ (hk.setM _ _ (by simp))
      rw [nv_toNat r0] at this
      exact this
end
end Sp
namespace Sp
open PySem Mi Mr
section
variable {Q : AV → Sto → Prop} {s : Sto}
theorem w_slice1 {en : En} {a lo : ME} (h : W (a en s) fun x s => W (lo en s) fun y s => ∃ i, y = .int i ∧ W (sliceAV x (some i) none s) Q) : W (E.slice a (some lo) none en s) Q := by
  unfold E.slice
  rw [W_bind]
  refine W_mono h fun x s h => ?_
  simp only
  unfold E.part
  rw [W_bind]
  refine W_mono h ?_
  rintro y s ⟨i, rfl, h⟩
  exact h
theorem pool_w {ns : List Int} (h0 : s[0]? = some (.rol (ns.map AV.int))) (k : ∀ p q s', Pool s' p q → Kp [] s s' → s.length ≤ p → s.length ≤ q → Q (.ref p) s') : W (m__law_pool [.ref 0] s) Q := by
  unfold m__law_pool b__law_pool
  refine d_runn (by rfl) ?_
  simp only [w_calln, w_call, w_cons, w_nil, w_tup, w_lst, w_op, w_un, w_c, w_var0, w_varS, w_and, w_or, w_not, w_iteE, w_lmeth, t_val, t_tru, t_and, t_or, t_not, t_yes, w_ch0, w_ch1, w_ch2, w_pr0, w_pr1, w_ix20, w_ix21, w_ix30, w_ix31, w_ix32, w_inT, w_eqI, w_add, w_sub, w_lt, w_le, w_gt, w_ge, w_neg, w_lenT, w_int, w_min, w_max, w_tupT, onB_bl, truth_bl, x_seq, x_skip, KR_ret, TK_ret, TK_brk, TK_cnt, g_name, g_unp, g_allS, g_all0, g_sub, lz0, lz1, lz2, lz3, lz4, lz5, lz6, lz7, lz8, List.set, wipe, List.map_cons, List.map_nil, List.cons_append, List.nil_append, List.length_cons, List.length_nil, Nat.reduceAdd, Nat.reduceSub, List.replicate_succ, List.replicate_zero, eq_self, Bool.false_eq_true, if_true, if_false]
  have first : ∃ z : Int, ∀ (Q : AV → Sto → Prop), Q (.int z) s → W (E.ite (T.val (E.op (gtAV) (E.call B.len (E.cons (E.var 0) (E.nil))) (E.c (.int 0)))) (E.call B.int_ (E.cons (E.op ixAV (E.var 0) (E.c (.int 0))) (E.nil))) (E.c (.int 0)) [some (.ref 0), none, none] s) Q := by
    cases ns with
    | nil =>
      refine ⟨0, fun Q h => ?_⟩
      simp only [w_calln, w_call, w_cons, w_nil, w_tup, w_lst, w_op, w_un, w_c, w_var0, w_varS, w_and, w_or, w_not, w_iteE, w_lmeth, t_val, t_tru, t_and, t_or, t_not, t_yes, w_ch0, w_ch1, w_ch2, w_pr0, w_pr1, w_ix20, w_ix21, w_ix30, w_ix31, w_ix32, w_inT, w_eqI, w_add, w_sub, w_lt, w_le, w_gt, w_ge, w_neg, w_lenT, w_int, w_min, w_max, w_tupT, onB_bl, truth_bl, x_seq, x_skip, KR_ret, TK_ret, TK_brk, TK_cnt, g_name, g_unp, g_allS, g_all0, g_sub, lz0, lz1, lz2, lz3, lz4, lz5, lz6, lz7, lz8, List.set, wipe, List.map_cons, List.map_nil, List.cons_append, List.nil_append, List.length_cons, List.length_nil, Nat.reduceAdd, Nat.reduceSub, List.replicate_succ, List.replicate_zero, eq_self, Bool.false_eq_true, if_true, if_false, w_lenR h0]
      rw [if_neg (by simp)]; exact h
    | cons z r =>
      refine ⟨z, fun Q h => ?_⟩
      simp only [w_calln, w_call, w_cons, w_nil, w_tup, w_lst, w_op, w_un, w_c, w_var0, w_varS, w_and, w_or, w_not, w_iteE, w_lmeth, t_val, t_tru, t_and, t_or, t_not, t_yes, w_ch0, w_ch1, w_ch2, w_pr0, w_pr1, w_ix20, w_ix21, w_ix30, w_ix31, w_ix32, w_inT, w_eqI, w_add, w_sub, w_lt, w_le, w_gt, w_ge, w_neg, w_lenT, w_int, w_min, w_max, w_tupT, onB_bl, truth_bl, x_seq, x_skip, KR_ret, TK_ret, TK_brk, TK_cnt, g_name, g_unp, g_allS, g_all0, g_sub, lz0, lz1, lz2, lz3, lz4, lz5, lz6, lz7, lz8, List.set, wipe, List.map_cons, List.map_nil, List.cons_append, List.nil_append, List.length_cons, List.length_nil, Nat.reduceAdd, Nat.reduceSub, List.replicate_succ, List.replicate_zero, eq_self, Bool.false_eq_true, if_true, if_false, w_lenR h0]
      rw [if_pos (by simp), show AV.int 0 = nv 0 from rfl, w_ixL (k := 0) (v := .int z) (seqAt_rol h0) rfl, w_int]
      exact h
  obtain ⟨z, first⟩ := first
  refine x_asg (first _ ?_)
  simp only [w_calln, w_call, w_cons, w_nil, w_tup, w_lst, w_op, w_un, w_c, w_var0, w_varS, w_and, w_or, w_not, w_iteE, w_lmeth, t_val, t_tru, t_and, t_or, t_not, t_yes, w_ch0, w_ch1, w_ch2, w_pr0, w_pr1, w_ix20, w_ix21, w_ix30, w_ix31, w_ix32, w_inT, w_eqI, w_add, w_sub, w_lt, w_le, w_gt, w_ge, w_neg, w_lenT, w_int, w_min, w_max, w_tupT, onB_bl, truth_bl, x_seq, x_skip, KR_ret, TK_ret, TK_brk, TK_cnt, g_name, g_unp, g_allS, g_all0, g_sub, lz0, lz1, lz2, lz3, lz4, lz5, lz6, lz7, lz8, List.set, wipe, List.map_cons, List.map_nil, List.cons_append, List.nil_append, List.length_cons, List.length_nil, Nat.reduceAdd, Nat.reduceSub, List.replicate_succ, List.replicate_zero, eq_self, Bool.false_eq_true, if_true, if_false]
  have size : ∃ y : Int, 0 ≤ y ∧ ∀ (Q : AV → Sto → Prop), Q (.int y) s → W (E.ite (T.val (E.op (geAV) (E.var 1) (E.c (.int 0)))) (E.op mulAV (E.c (.int 2)) (E.var 1)) (E.op subAV (E.un negAV (E.c (.int 1))) (E.op mulAV (E.c (.int 2)) (E.var 1))) [some (.ref 0), some (.int z), none] s) Q := by
    by_cases hy : 0 ≤ z
    · refine ⟨2 * z, by omega, fun Q h => ?_⟩
      simp only [w_calln, w_call, w_cons, w_nil, w_tup, w_lst, w_op, w_un, w_c, w_var0, w_varS, w_and, w_or, w_not, w_iteE, w_lmeth, t_val, t_tru, t_and, t_or, t_not, t_yes, w_ch0, w_ch1, w_ch2, w_pr0, w_pr1, w_ix20, w_ix21, w_ix30, w_ix31, w_ix32, w_inT, w_eqI, w_add, w_sub, w_lt, w_le, w_gt, w_ge, w_neg, w_lenT, w_int, w_min, w_max, w_tupT, onB_bl, truth_bl, x_seq, x_skip, KR_ret, TK_ret, TK_brk, TK_cnt, g_name, g_unp, g_allS, g_all0, g_sub, lz0, lz1, lz2, lz3, lz4, lz5, lz6, lz7, lz8, List.set, wipe, List.map_cons, List.map_nil, List.cons_append, List.nil_append, List.length_cons, List.length_nil, Nat.reduceAdd, Nat.reduceSub, List.replicate_succ, List.replicate_zero, eq_self, Bool.false_eq_true, if_true, if_false, w_mul, small2, Bool.true_or, decide_eq_true hy]
      exact h
    · refine ⟨-1 - 2 * z, by omega, fun Q h => ?_⟩
      simp only [w_calln, w_call, w_cons, w_nil, w_tup, w_lst, w_op, w_un, w_c, w_var0, w_varS, w_and, w_or, w_not, w_iteE, w_lmeth, t_val, t_tru, t_and, t_or, t_not, t_yes, w_ch0, w_ch1, w_ch2, w_pr0, w_pr1, w_ix20, w_ix21, w_ix30, w_ix31, w_ix32, w_inT, w_eqI, w_add, w_sub, w_lt, w_le, w_gt, w_ge, w_neg, w_lenT, w_int, w_min, w_max, w_tupT, onB_bl, truth_bl, x_seq, x_skip, KR_ret, TK_ret, TK_brk, TK_cnt, g_name, g_unp, g_allS, g_all0, g_sub, lz0, lz1, lz2, lz3, lz4, lz5, lz6, lz7, lz8, List.set, wipe, List.map_cons, List.map_nil, List.cons_append, List.nil_append, List.length_cons, List.length_nil, Nat.reduceAdd, Nat.reduceSub, List.replicate_succ, List.replicate_zero, eq_self, Bool.false_eq_true, if_true, if_false, w_mul, small2, Bool.true_or, decide_eq_false hy]
      exact h
  obtain ⟨y, hy, size⟩ := size
  refine x_asg (size _ ?_)
  simp only [w_calln, w_call, w_cons, w_nil, w_tup, w_lst, w_op, w_un, w_c, w_var0, w_varS, w_and, w_or, w_not, w_iteE, w_lmeth, t_val, t_tru, t_and, t_or, t_not, t_yes, w_ch0, w_ch1, w_ch2, w_pr0, w_pr1, w_ix20, w_ix21, w_ix30, w_ix31, w_ix32, w_inT, w_eqI, w_add, w_sub, w_lt, w_le, w_gt, w_ge, w_neg, w_lenT, w_int, w_min, w_max, w_tupT, onB_bl, truth_bl, x_seq, x_skip, KR_ret, TK_ret, TK_brk, TK_cnt, g_name, g_unp, g_allS, g_all0, g_sub, lz0, lz1, lz2, lz3, lz4, lz5, lz6, lz7, lz8, List.set, wipe, List.map_cons, List.map_nil, List.cons_append, List.nil_append, List.length_cons, List.length_nil, Nat.reduceAdd, Nat.reduceSub, List.replicate_succ, List.replicate_zero, eq_self, Bool.false_eq_true, if_true, if_false]
  refine x_ret ?_
  simp only [w_calln, w_call, w_cons, w_nil, w_tup, w_lst, w_op, w_un, w_c, w_var0, w_varS, w_and, w_or, w_not, w_iteE, w_lmeth, t_val, t_tru, t_and, t_or, t_not, t_yes, w_ch0, w_ch1, w_ch2, w_pr0, w_pr1, w_ix20, w_ix21, w_ix30, w_ix31, w_ix32, w_inT, w_eqI, w_add, w_sub, w_lt, w_le, w_gt, w_ge, w_neg, w_lenT, w_int, w_min, w_max, w_tupT, onB_bl, truth_bl, x_seq, x_skip, KR_ret, TK_ret, TK_brk, TK_cnt, g_name, g_unp, g_allS, g_all0, g_sub, lz0, lz1, lz2, lz3, lz4, lz5, lz6, lz7, lz8, List.set, wipe, List.map_cons, List.map_nil, List.cons_append, List.nil_append, List.length_cons, List.length_nil, Nat.reduceAdd, Nat.reduceSub, List.replicate_succ, List.replicate_zero, eq_self, Bool.false_eq_true, if_true, if_false, w_pow18, w_mul, small48, Bool.or_true, w_mod]
  have fin : ∀ ga : Int, 0 ≤ ga → W (E.slice (E.var 0) (some (E.c (AV.int 1))) none [some (.ref 0), some (.int z), some (.int y)] s) (fun x s => W (Mi.B.list_ [x] s) fun x s => Q (.ref s.length) (s ++ [.lst [.int ga, .int ((y * 48271 + 1009) % 2147483629 + 3), x]])) := by
    intro ga hga
    refine w_slice1 ?_
    simp only [w_calln, w_call, w_cons, w_nil, w_tup, w_lst, w_op, w_un, w_c, w_var0, w_varS, w_and, w_or, w_not, w_iteE, w_lmeth, t_val, t_tru, t_and, t_or, t_not, t_yes, w_ch0, w_ch1, w_ch2, w_pr0, w_pr1, w_ix20, w_ix21, w_ix30, w_ix31, w_ix32, w_inT, w_eqI, w_add, w_sub, w_lt, w_le, w_gt, w_ge, w_neg, w_lenT, w_int, w_min, w_max, w_tupT, onB_bl, truth_bl, x_seq, x_skip, KR_ret, TK_ret, TK_brk, TK_cnt, g_name, g_unp, g_allS, g_all0, g_sub, lz0, lz1, lz2, lz3, lz4, lz5, lz6, lz7, lz8, List.set, wipe, List.map_cons, List.map_nil, List.cons_append, List.nil_append, List.length_cons, List.length_nil, Nat.reduceAdd, Nat.reduceSub, List.replicate_succ, List.replicate_zero, eq_self, Bool.false_eq_true, if_true, if_false]
    refine ⟨1, rfl, ?_⟩
    unfold sliceAV
    simp only [seqAt_rol h0, W_ok]
    rw [w_lstL (xs := cut (ns.map AV.int) (some 1) none) (seqAt_lst (by simp))]
    have hc : ∃ ys : List Int, cut (ns.map AV.int) (some 1) none = ys.map AV.int := by
      unfold cut; exact ⟨(ns.drop _).take _, by rw [List.map_take, List.map_drop]⟩
    obtain ⟨ys, hc⟩ := hc
    rw [hc]
    have b0 : 0 ≤ (y * 48271 + 1009) % 2147483629 := Int.emod_nonneg _ (by omega)
    have b1 : (y * 48271 + 1009) % 2147483629 < 2147483629 := Int.emod_lt_of_pos _ (by omega)
    refine k _ (s.length + 1) _ ⟨ga, (y * 48271 + 1009) % 2147483629 + 3, ys, ?_, ?_, ?_, hga, by omega, by omega⟩ ?_ (by simp) (by omega)
    · simp
    · simp
    · simp
    · exact Kp.app _ (Kp.app _ (Kp.app _ (Kp.refl _)))
  by_cases hz18 : (1000000000000000000 : Int) ≤ y
  · rw [if_pos (by simp [hz18]), if_pos (by omega)]
    have := fin y hy
    simpa using this
  · rw [if_neg (by simp [hz18]), if_pos (by omega)]
    have := fin 0 (by omega)
    simpa using this
theorem pick_w {p q l : Nat} {xs : List Nat} (P : Pool s p q) (h : s[l]? = some (.lst (xs.map nv))) (hp : l ≠ p) (hq : l ≠ q) (hx : 0 < xs.length) (hx1 : xs.length < 1000000)
    (k : ∀ x s', x ∈ xs → Pool s' p q → Kp [p, q] s s' → Q (nv x) s') : W (m__law_pick [.ref p, .ref l] s) Q := by
  unfold m__law_pick b__law_pick
  refine d_runn (by rfl) (x_ret ?_)
  simp only [w_calln, w_call, w_cons, w_nil, w_tup, w_lst, w_op, w_un, w_c, w_var0, w_varS, w_and, w_or, w_not, w_iteE, w_lmeth, t_val, t_tru, t_and, t_or, t_not, t_yes, w_ch0, w_ch1, w_ch2, w_pr0, w_pr1, w_ix20, w_ix21, w_ix30, w_ix31, w_ix32, w_inT, w_eqI, w_add, w_sub, w_lt, w_le, w_gt, w_ge, w_neg, w_lenT, w_int, w_min, w_max, w_tupT, onB_bl, truth_bl, x_seq, x_skip, KR_ret, TK_ret, TK_brk, TK_cnt, g_name, g_unp, g_allS, g_all0, g_sub, lz0, lz1, lz2, lz3, lz4, lz5, lz6, lz7, lz8, List.set, wipe, List.map_cons, List.map_nil, List.cons_append, List.nil_append, List.length_cons, List.length_nil, Nat.reduceAdd, Nat.reduceSub, List.replicate_succ, List.replicate_zero, eq_self, Bool.false_eq_true, if_true, if_false, w_lenL h, List.length_map]
  refine draw_w P (by omega) (by omega) fun r s' hr P' k' => ?_
  have hr' : r < xs.length := by omega
  rw [w_ixL (v := nv xs[r]) (seqAt_lst (k'.2 _ _ (by simp [hp, hq]) h)) (getM hr')]
  exact k _ _ (List.getElem_mem hr') P' k'
theorem w_lstR {en : En} {a : ME} {n : Nat} (hn : n ≤ 1000000) (h : W (a en s) fun x s' => x = nv n ∧ Q (.ref s'.length) (s' ++ [.lst ((List.range n).map nv)])) : W (E.lstR a en s) Q := by
  unfold E.lstR
  rw [W_bind]
  refine W_mono h ?_
  rintro x s ⟨rfl, h⟩
  have c : (I.inR (n : Int) && decide ((n : Int).toNat ≤ 16777216)) = true := by
    have : I.inR (n : Int) = true := by
      unfold I.inR
      have h1 : -(2 ^ 62 : Int) ≤ (n : Int) ∧ (n : Int) < 2 ^ 62 := by
        have : (2 ^ 62 : Int) = 4611686018427387904 := by decide
        omega
      exact decide_eq_true h1
    rw [this, Bool.true_and]; exact decide_eq_true (by omega)
  simp only [nv, Int.toNat_natCast] at c ⊢
  rw [if_pos c, W_ok, ints0]; exact h
theorem erase_map {α β : Type} (f : α → β) : ∀ (xs : List α) (r : Nat), (xs.map f).eraseIdx r = (xs.eraseIdx r).map f
  | [], _ => rfl
  | _ :: _, 0 => rfl
  | x :: xs, r + 1 => by
    rw [List.map_cons, List.eraseIdx_cons_succ, List.eraseIdx_cons_succ, List.map_cons, erase_map f xs r]
theorem erase_perm {α : Type} : ∀ (xs : List α) {r : Nat} (h : r < xs.length), ([xs[r]] ++ xs.eraseIdx r).Perm xs
  | [], _, h => absurd h (Nat.not_lt_zero _)
  | x :: xs, 0, _ => List.Perm.refl _
  | x :: xs, r + 1, h => by
    have ih := erase_perm xs (r := r) (by simpa using h)
    rw [List.eraseIdx_cons_succ]
    exact (List.Perm.swap x _ _).trans (List.Perm.cons x ih)
/-- names: all places below n, in some order -/
structure Nm (n : Nat) (nm : List Nat) : Prop where
  len : nm.length = n
  nd : nm.Nodup
  lt : ∀ x ∈ nm, x < n
theorem turned_law_w {p q n : Nat} (P : Pool s p q) (hn : n ≤ 1000) (k : ∀ f s' nm, Nm n nm → Pool s' p q → Kp [p, q] s s' → s.length ≤ f → s'[f]? = some (.lst (nm.map nv)) → Q (.ref f) s') : W (m__law_turned [.ref p, nv n] s) Q := by
  have hpl := P.lt
  unfold m__law_turned b__law_turned
  refine d_runn (by rfl) ?_
  simp only [w_calln, w_call, w_cons, w_nil, w_tup, w_lst, w_op, w_un, w_c, w_var0, w_varS, w_and, w_or, w_not, w_iteE, w_lmeth, t_val, t_tru, t_and, t_or, t_not, t_yes, w_ch0, w_ch1, w_ch2, w_pr0, w_pr1, w_ix20, w_ix21, w_ix30, w_ix31, w_ix32, w_inT, w_eqI, w_add, w_sub, w_lt, w_le, w_gt, w_ge, w_neg, w_lenT, w_int, w_min, w_max, w_tupT, onB_bl, truth_bl, x_seq, x_skip, KR_ret, TK_ret, TK_brk, TK_cnt, g_name, g_unp, g_allS, g_all0, g_sub, lz0, lz1, lz2, lz3, lz4, lz5, lz6, lz7, lz8, List.set, wipe, List.map_cons, List.map_nil, List.cons_append, List.nil_append, List.length_cons, List.length_nil, Nat.reduceAdd, Nat.reduceSub, List.replicate_succ, List.replicate_zero, eq_self, Bool.false_eq_true, if_true, if_false]
  refine x_asg ?_
  simp only [w_calln, w_call, w_cons, w_nil, w_tup, w_lst, w_op, w_un, w_c, w_var0, w_varS, w_and, w_or, w_not, w_iteE, w_lmeth, t_val, t_tru, t_and, t_or, t_not, t_yes, w_ch0, w_ch1, w_ch2, w_pr0, w_pr1, w_ix20, w_ix21, w_ix30, w_ix31, w_ix32, w_inT, w_eqI, w_add, w_sub, w_lt, w_le, w_gt, w_ge, w_neg, w_lenT, w_int, w_min, w_max, w_tupT, onB_bl, truth_bl, x_seq, x_skip, KR_ret, TK_ret, TK_brk, TK_cnt, g_name, g_unp, g_allS, g_all0, g_sub, lz0, lz1, lz2, lz3, lz4, lz5, lz6, lz7, lz8, List.set, wipe, List.map_cons, List.map_nil, List.cons_append, List.nil_append, List.length_cons, List.length_nil, Nat.reduceAdd, Nat.reduceSub, List.replicate_succ, List.replicate_zero, eq_self, Bool.false_eq_true, if_true, if_false]
  refine w_lstR (n := n) (by omega) ?_
  simp only [w_calln, w_call, w_cons, w_nil, w_tup, w_lst, w_op, w_un, w_c, w_var0, w_varS, w_and, w_or, w_not, w_iteE, w_lmeth, t_val, t_tru, t_and, t_or, t_not, t_yes, w_ch0, w_ch1, w_ch2, w_pr0, w_pr1, w_ix20, w_ix21, w_ix30, w_ix31, w_ix32, w_inT, w_eqI, w_add, w_sub, w_lt, w_le, w_gt, w_ge, w_neg, w_lenT, w_int, w_min, w_max, w_tupT, onB_bl, truth_bl, x_seq, x_skip, KR_ret, TK_ret, TK_brk, TK_cnt, g_name, g_unp, g_allS, g_all0, g_sub, lz0, lz1, lz2, lz3, lz4, lz5, lz6, lz7, lz8, List.set, wipe, List.map_cons, List.map_nil, List.cons_append, List.nil_append, List.length_cons, List.length_nil, Nat.reduceAdd, Nat.reduceSub, List.replicate_succ, List.replicate_zero, eq_self, Bool.false_eq_true, if_true, if_false]
  refine ⟨trivial, ?_⟩
  refine for_r ?_
  simp only [w_calln, w_call, w_cons, w_nil, w_tup, w_lst, w_op, w_un, w_c, w_var0, w_varS, w_and, w_or, w_not, w_iteE, w_lmeth, t_val, t_tru, t_and, t_or, t_not, t_yes, w_ch0, w_ch1, w_ch2, w_pr0, w_pr1, w_ix20, w_ix21, w_ix30, w_ix31, w_ix32, w_inT, w_eqI, w_add, w_sub, w_lt, w_le, w_gt, w_ge, w_neg, w_lenT, w_int, w_min, w_max, w_tupT, onB_bl, truth_bl, x_seq, x_skip, KR_ret, TK_ret, TK_brk, TK_cnt, g_name, g_unp, g_allS, g_all0, g_sub, lz0, lz1, lz2, lz3, lz4, lz5, lz6, lz7, lz8, List.set, wipe, List.map_cons, List.map_nil, List.cons_append, List.nil_append, List.length_cons, List.length_nil, Nat.reduceAdd, Nat.reduceSub, List.replicate_succ, List.replicate_zero, eq_self, Bool.false_eq_true, if_true, if_false]
  refine .mk n (fun j en s' => (∃ o4 : Option AV, en = [some (.ref p), some (nv n), some (.ref s.length), some (.ref (s.length + 1)), o4]) ∧ Pool s' p q ∧ Kp [p, q] s s' ∧ ∃ fd L : List Nat, s'[s.length]? = some (.lst (L.map nv)) ∧ s'[s.length + 1]? = some (.lst (fd.map nv)) ∧ fd.length = j ∧ (fd ++ L).Perm (List.range n)) rfl (by omega) ⟨⟨none, by simp⟩, ?_, ?_, [], List.range n, by simp, by simp, rfl, by simp⟩ ?_ ?_
  · exact P.keep (Kp.app _ (Kp.app _ (Kp.refl _)))
  · exact Kp.app _ (Kp.app _ (Kp.refl _))
  · rintro j en s1 hj ⟨⟨o4, rfl⟩, P1, k1, fd, L, hL, hfd, hfl, hperm⟩
    have hll : fd.length + L.length = n := by have := hperm.length_eq; simpa using this
    simp only [w_calln, w_call, w_cons, w_nil, w_tup, w_lst, w_op, w_un, w_c, w_var0, w_varS, w_and, w_or, w_not, w_iteE, w_lmeth, t_val, t_tru, t_and, t_or, t_not, t_yes, w_ch0, w_ch1, w_ch2, w_pr0, w_pr1, w_ix20, w_ix21, w_ix30, w_ix31, w_ix32, w_inT, w_eqI, w_add, w_sub, w_lt, w_le, w_gt, w_ge, w_neg, w_lenT, w_int, w_min, w_max, w_tupT, onB_bl, truth_bl, x_seq, x_skip, KR_ret, TK_ret, TK_brk, TK_cnt, g_name, g_unp, g_allS, g_all0, g_sub, lz0, lz1, lz2, lz3, lz4, lz5, lz6, lz7, lz8, List.set, wipe, List.map_cons, List.map_nil, List.cons_append, List.nil_append, List.length_cons, List.length_nil, Nat.reduceAdd, Nat.reduceSub, List.replicate_succ, List.replicate_zero, eq_self, Bool.false_eq_true, if_true, if_false]
    refine x_expr ?_
    simp only [w_calln, w_call, w_cons, w_nil, w_tup, w_lst, w_op, w_un, w_c, w_var0, w_varS, w_and, w_or, w_not, w_iteE, w_lmeth, t_val, t_tru, t_and, t_or, t_not, t_yes, w_ch0, w_ch1, w_ch2, w_pr0, w_pr1, w_ix20, w_ix21, w_ix30, w_ix31, w_ix32, w_inT, w_eqI, w_add, w_sub, w_lt, w_le, w_gt, w_ge, w_neg, w_lenT, w_int, w_min, w_max, w_tupT, onB_bl, truth_bl, x_seq, x_skip, KR_ret, TK_ret, TK_brk, TK_cnt, g_name, g_unp, g_allS, g_all0, g_sub, lz0, lz1, lz2, lz3, lz4, lz5, lz6, lz7, lz8, List.set, wipe, List.map_cons, List.map_nil, List.cons_append, List.nil_append, List.length_cons, List.length_nil, Nat.reduceAdd, Nat.reduceSub, List.replicate_succ, List.replicate_zero, eq_self, Bool.false_eq_true, if_true, if_false]
    rw [if_pos (isLst_of hfd), if_pos (isLst_of hL), w_lenL hL, List.length_map]
    refine draw_w P1 (by omega) (by omega) fun r s2 hr P2 k2 => ?_
    have hr' : r < L.length := by omega
    have hL2 := k2.2 _ _ (by simp; omega) hL
    have hfd2 := k2.2 _ _ (by simp; omega) hfd
    rw [w_popI (y := nv L[r]) hL2 (getM hr') (by omega)]
    have hfd3 : (s2.set s.length (.lst ((L.map nv).eraseIdx r)))[s.length + 1]? = some (.lst (fd.map nv)) := by rw [List.getElem?_set_ne (by omega)]; exact hfd2
    rw [w_append hfd3 (by simp; unfold lineZ; omega)]
    refine ⟨⟨_, rfl⟩, (P2.setN (by omega) (by omega)).setN (by omega) (by omega), ((k1.trans k2).setN _ _ (by omega)).setN _ _ (by omega), fd ++ [L[r]], L.eraseIdx r, ?_, ?_, by simp; omega, ?_⟩
    · rw [List.getElem?_set_ne (by omega), List.getElem?_set_self (lt_of_get hL2), erase_map]
    · rw [List.getElem?_set_self (by rw [List.length_set]; exact lt_of_get hfd2)]; simp
    · refine List.Perm.trans ?_ hperm
      rw [List.append_assoc]
      exact List.Perm.append_left _ (erase_perm L hr')
  · rintro en s1 ⟨⟨o4, rfl⟩, P1, k1, fd, L, hL, hfd, hfl, hperm⟩
    have hll : fd.length + L.length = n := by have := hperm.length_eq; simpa using this
    have hL0 : L = [] := List.eq_nil_of_length_eq_zero (by omega)
    subst hL0
    rw [List.append_nil] at hperm
    refine x_ret ?_
    simp only [w_calln, w_call, w_cons, w_nil, w_tup, w_lst, w_op, w_un, w_c, w_var0, w_varS, w_and, w_or, w_not, w_iteE, w_lmeth, t_val, t_tru, t_and, t_or, t_not, t_yes, w_ch0, w_ch1, w_ch2, w_pr0, w_pr1, w_ix20, w_ix21, w_ix30, w_ix31, w_ix32, w_inT, w_eqI, w_add, w_sub, w_lt, w_le, w_gt, w_ge, w_neg, w_lenT, w_int, w_min, w_max, w_tupT, onB_bl, truth_bl, x_seq, x_skip, KR_ret, TK_ret, TK_brk, TK_cnt, g_name, g_unp, g_allS, g_all0, g_sub, lz0, lz1, lz2, lz3, lz4, lz5, lz6, lz7, lz8, List.set, wipe, List.map_cons, List.map_nil, List.cons_append, List.nil_append, List.length_cons, List.length_nil, Nat.reduceAdd, Nat.reduceSub, List.replicate_succ, List.replicate_zero, eq_self, Bool.false_eq_true, if_true, if_false]
    refine k _ _ fd ⟨hfl, hperm.nodup_iff.mpr List.nodup_range, fun x hx => List.mem_range.mp (hperm.mem_iff.mp hx)⟩ P1 k1 (by omega) hfd
end
end Sp
namespace Sp
open PySem Mi Mr
section
variable {Q : AV → Sto → Prop} {s : Sto}
theorem srt_nv (xs : List Nat) : Mi.B.sorts (xs.map nv) = true := by
  unfold Mi.B.sorts
  have : (xs.map nv).all Mi.B.isInt = true := by simp [nv, Mi.B.isInt]
  rw [this]; rfl
theorem tupI_tn {x : List Nat} (h : x ≠ []) : Mi.B.isTupI (tn x) = true := by
  unfold tn Mi.B.isTupI
  have : (x.map nv).all Mi.B.isInt = true := by simp [nv, Mi.B.isInt]
  simp only [this, Bool.and_true]
  cases x with
  | nil => exact absurd rfl h
  | cons => rfl
theorem srt_tn (xs : List (List Nat)) (h : ∀ x ∈ xs, x ≠ []) : Mi.B.sorts (xs.map tn) = true := by
  unfold Mi.B.sorts
  have : (xs.map tn).all Mi.B.isTupI = true := by
    rw [List.all_eq_true]
    intro y hy
    obtain ⟨x, hx, rfl⟩ := List.mem_map.mp hy
    exact tupI_tn (h x hx)
  rw [this, Bool.or_true]
theorem srt_pr (xs : List (Nat × Nat)) : Mi.B.sorts (xs.map pr) = true := by
  have e : xs.map pr = (xs.map fun r => [r.1, r.2]).map tn := by rw [List.map_map]; rfl
  rw [e]; exact srt_tn _ fun x hx => by obtain ⟨r, _, rfl⟩ := List.mem_map.mp hx; simp
theorem sorted_w {α : Type} [DecidableEq α] {le : α → α → Bool} {emb : α → AV} (hs : ∀ a b, le a b = Mi.B.sLe (emb a) (emb b)) {l : Nat} {xs : List α} (h : s[l]? = some (.lst (xs.map emb))) (hl : xs.length ≤ 1000000) (hso : Mi.B.sorts (xs.map emb) = true) :
    W (Mi.B.sorted [.ref l] s) Q = Q (.ref s.length) (s ++ [.lst ((xs.mergeSort le).map emb)]) := by
  have e : Mi.B.sorted [.ref l] s = newLst ((xs.mergeSort le).map emb) s := by
    unfold Mi.B.sorted; simp only [h, hso, if_true]; rw [sorted_emb hs]
  rw [e]; unfold newLst
  rw [if_pos (by rw [List.length_map, List.length_mergeSort]; unfold lineZ; omega), W_ok]
theorem sset_w {α : Type} [DecidableEq α] {le : α → α → Bool} (O : Ord le) {emb : α → AV} (inj : ∀ a b, emb a = emb b → a = b) (hs : ∀ a b, le a b = Mi.B.sLe (emb a) (emb b)) {l : Nat} {xs : List α} (h : s[l]? = some (.lst (xs.map emb))) (hl : xs.length < 64)
    (hso : ∀ ys : List α, (∀ y ∈ ys, y ∈ xs) → Mi.B.sorts (ys.map emb) = true) (k : ∀ l' s' (ys : List α), Kp [] s s' → s.length ≤ l' → Asc le ys → (∀ x, x ∈ ys ↔ x ∈ xs) → ys.length ≤ xs.length → s'[l']? = some (.lst (ys.map emb)) → Q (.ref l') s') :
    W (Mi.B.set_ [.ref l] s) (fun v s => W (Mi.B.sorted [v] s) Q) := by
  have e1 : Mi.B.set_ [.ref l] s = .ok (.ref s.length) (s ++ [.set (Mi.B.dedup (xs.map emb))]) := by
    unfold Mi.B.set_; simp only [h, hso xs (fun _ h => h), Bool.true_and]
    rw [if_pos (decide_eq_true (by rw [List.length_map]; exact hl))]
  rw [e1, W_ok]
  obtain ⟨ys, h1, h2, h3, h4⟩ := set_sorted O inj hs xs
  have hd : Mi.B.dedup (xs.map emb) = (dd [] xs).map emb := dedup_emb inj xs []
  have e2 : Mi.B.sorted [.ref s.length] (s ++ [.set (Mi.B.dedup (xs.map emb))]) = newLst (ys.map emb) (s ++ [.set (Mi.B.dedup (xs.map emb))]) := by
    have g : (s ++ [MO.set (Mi.B.dedup (xs.map emb))])[s.length]? = some (.set (Mi.B.dedup (xs.map emb))) := by simp
    have so : Mi.B.sorts (Mi.B.dedup (xs.map emb)) = true := by
      rw [hd]; exact hso _ fun y hy => by have := (dd_mem xs [] y).mp hy; simpa using this
    unfold Mi.B.sorted; simp only [g, so, if_true]; rw [h1]
  rw [e2]; unfold newLst
  rw [if_pos (by rw [List.length_map]; unfold lineZ; omega), W_ok]
  exact k _ _ ys (Kp.app _ (Kp.app _ (Kp.refl _))) (by simp) h2 h3 h4 (by simp)
/-- the name of a place -/
def nmf (nm : List Nat) (a : Nat) : Nat := nm.getD a 0
theorem nmf_get {nm : List Nat} {a : Nat} (h : a < nm.length) : nm[a]? = some (nmf nm a) := by
  unfold nmf; rw [List.getD_eq_getElem?_getD, List.getElem?_eq_getElem h]; rfl
theorem Nm.get {n : Nat} {nm : List Nat} (N : Nm n nm) {a : Nat} (h : a < n) : nm[a]? = some (nmf nm a) := nmf_get (by rw [N.len]; exact h)
theorem Nm.lt' {n : Nat} {nm : List Nat} (N : Nm n nm) {a : Nat} (h : a < n) : nmf nm a < n := N.lt _ (List.mem_of_getElem? (N.get h))
theorem Nm.inj {n : Nat} {nm : List Nat} (N : Nm n nm) {a b : Nat} (ha : a < n) (hb : b < n) (e : nmf nm a = nmf nm b) : a = b := by
  have h1 : a < nm.length := by rw [N.len]; exact ha
  have h2 : b < nm.length := by rw [N.len]; exact hb
  have e1 := N.get ha
  have e2 := N.get hb
  rw [List.getElem?_eq_getElem h1] at e1
  rw [List.getElem?_eq_getElem h2] at e2
  exact nodup_inj N.nd h1 h2 ((Option.some.inj e1).trans (e.trans (Option.some.inj e2).symm))
theorem Nm.surj {n : Nat} {nm : List Nat} (N : Nm n nm) {x : Nat} (h : x < n) : ∃ a, a < n ∧ nmf nm a = x := by
  have hp : nm.Perm (List.range n) := by
    refine (List.perm_ext_iff_of_nodup N.nd List.nodup_range).mpr fun y => ⟨fun hy => List.mem_range.mpr (N.lt y hy), fun hy => ?_⟩
    refine Classical.byContradiction fun hn => ?_
    have : (y :: nm).length ≤ (List.range n).length := (List.nodup_cons.mpr ⟨hn, N.nd⟩).length_le_of_subset (by
      intro z hz
      rcases List.mem_cons.mp hz with rfl | hz
      · exact hy
      · exact List.mem_range.mpr (N.lt z hz))
    rw [List.length_cons, N.len, List.length_range] at this; omega
  have hx : x ∈ nm := hp.mem_iff.mpr (List.mem_range.mpr h)
  obtain ⟨i, hi, e⟩ := List.mem_iff_getElem.mp hx
  have hi' : i < n := by rw [← N.len]; exact hi
  refine ⟨i, hi', ?_⟩
  have := N.get hi'
  rw [List.getElem?_eq_getElem hi] at this
  rw [← e]; exact (Option.some.inj this).symm
theorem map_named_w {p q n lr lw : Nat} {rs0 : List (Nat × Nat)} {ws0 : List Nat} (P : Pool s p q) (hn : n ≤ 60) (hr : s[lr]? = some (.lst (rs0.map pr))) (hrp : lr ≠ p) (hrq : lr ≠ q) (hw : s[lw]? = some (.lst (ws0.map nv))) (hwp : lw ≠ p) (hwq : lw ≠ q)
    (hri : ∀ r ∈ rs0, r.1 < n ∧ r.2 < n) (hwi : ∀ w ∈ ws0, w < n) (hrl : rs0.length < 64) (hwl : ws0.length < 64)
    (k : ∀ l f s' nm rs ws, Nm n nm → VM n rs ws → rs.length < 64 → (∀ x y, (x, y) ∈ rs ↔ ∃ r ∈ rs0, x = nmf nm r.1 ∧ y = nmf nm r.2) → (∀ x, x ∈ ws ↔ ∃ w ∈ ws0, x = nmf nm w) → Pool s' p q → Kp [p, q] s s' → s.length ≤ l → s.length ≤ f → s'[l]? = some (.lst [CH n rs ws, .ref f]) → s'[f]? = some (.lst (nm.map nv)) → Q (.ref l) s') :
    W (m__law_map_named [.ref p, nv n, .ref lr, .ref lw] s) Q := by
  unfold m__law_map_named b__law_map_named
  refine d_runn (by rfl) ?_
  simp only [w_calln, w_call, w_cons, w_nil, w_tup, w_lst, w_op, w_un, w_c, w_var0, w_varS, w_and, w_or, w_not, w_iteE, w_lmeth, t_val, t_tru, t_and, t_or, t_not, t_yes, w_ch0, w_ch1, w_ch2, w_pr0, w_pr1, w_ix20, w_ix21, w_ix30, w_ix31, w_ix32, w_inT, w_eqI, w_add, w_sub, w_lt, w_le, w_gt, w_ge, w_neg, w_lenT, w_int, w_min, w_max, w_tupT, onB_bl, truth_bl, x_seq, x_skip, KR_ret, TK_ret, TK_brk, TK_cnt, g_name, g_unp, g_allS, g_all0, g_sub, lz0, lz1, lz2, lz3, lz4, lz5, lz6, lz7, lz8, List.set, wipe, List.map_cons, List.map_nil, List.cons_append, List.nil_append, List.length_cons, List.length_nil, Nat.reduceAdd, Nat.reduceSub, List.replicate_succ, List.replicate_zero, eq_self, Bool.false_eq_true, if_true, if_false]
  refine x_asg ?_
  simp only [w_calln, w_call, w_cons, w_nil, w_tup, w_lst, w_op, w_un, w_c, w_var0, w_varS, w_and, w_or, w_not, w_iteE, w_lmeth, t_val, t_tru, t_and, t_or, t_not, t_yes, w_ch0, w_ch1, w_ch2, w_pr0, w_pr1, w_ix20, w_ix21, w_ix30, w_ix31, w_ix32, w_inT, w_eqI, w_add, w_sub, w_lt, w_le, w_gt, w_ge, w_neg, w_lenT, w_int, w_min, w_max, w_tupT, onB_bl, truth_bl, x_seq, x_skip, KR_ret, TK_ret, TK_brk, TK_cnt, g_name, g_unp, g_allS, g_all0, g_sub, lz0, lz1, lz2, lz3, lz4, lz5, lz6, lz7, lz8, List.set, wipe, List.map_cons, List.map_nil, List.cons_append, List.nil_append, List.length_cons, List.length_nil, Nat.reduceAdd, Nat.reduceSub, List.replicate_succ, List.replicate_zero, eq_self, Bool.false_eq_true, if_true, if_false]
  refine turned_law_w P (by omega) fun f s1 nm N P1 k1 hf hnm => ?_
  have hr1 := k1.2 _ _ (by simp [hrp, hrq]) hr
  have hw1 := k1.2 _ _ (by simp [hwp, hwq]) hw
  refine x_asg ?_
  simp only [w_calln, w_call, w_cons, w_nil, w_tup, w_lst, w_op, w_un, w_c, w_var0, w_varS, w_and, w_or, w_not, w_iteE, w_lmeth, t_val, t_tru, t_and, t_or, t_not, t_yes, w_ch0, w_ch1, w_ch2, w_pr0, w_pr1, w_ix20, w_ix21, w_ix30, w_ix31, w_ix32, w_inT, w_eqI, w_add, w_sub, w_lt, w_le, w_gt, w_ge, w_neg, w_lenT, w_int, w_min, w_max, w_tupT, onB_bl, truth_bl, x_seq, x_skip, KR_ret, TK_ret, TK_brk, TK_cnt, g_name, g_unp, g_allS, g_all0, g_sub, lz0, lz1, lz2, lz3, lz4, lz5, lz6, lz7, lz8, List.set, wipe, List.map_cons, List.map_nil, List.cons_append, List.nil_append, List.length_cons, List.length_nil, Nat.reduceAdd, Nat.reduceSub, List.replicate_succ, List.replicate_zero, eq_self, Bool.false_eq_true, if_true, if_false]
  refine lc_pure rs0 pr (fun _ => true) (fun r => pr (nmf nm r.1, nmf nm r.2)) (i_seq ?_)
  simp only [w_calln, w_call, w_cons, w_nil, w_tup, w_lst, w_op, w_un, w_c, w_var0, w_varS, w_and, w_or, w_not, w_iteE, w_lmeth, t_val, t_tru, t_and, t_or, t_not, t_yes, w_ch0, w_ch1, w_ch2, w_pr0, w_pr1, w_ix20, w_ix21, w_ix30, w_ix31, w_ix32, w_inT, w_eqI, w_add, w_sub, w_lt, w_le, w_gt, w_ge, w_neg, w_lenT, w_int, w_min, w_max, w_tupT, onB_bl, truth_bl, x_seq, x_skip, KR_ret, TK_ret, TK_brk, TK_cnt, g_name, g_unp, g_allS, g_all0, g_sub, lz0, lz1, lz2, lz3, lz4, lz5, lz6, lz7, lz8, List.set, wipe, List.map_cons, List.map_nil, List.cons_append, List.nil_append, List.length_cons, List.length_nil, Nat.reduceAdd, Nat.reduceSub, List.replicate_succ, List.replicate_zero, eq_self, Bool.false_eq_true, if_true, if_false]
  refine .mk _ (Lk.lst hr1) (fun e => nomatch e) (fun l e he => ?_)
  cases e
  refine .mk (by unfold lineZ; omega) (Or.inr ⟨_, rfl, he⟩) ?_ ?_
  · intro r hrm s' hk
    have hri' := hri r hrm
    have hf' := hk.2 _ _ (by simp) hnm
    unfold pr
    simp only [w_calln, w_call, w_cons, w_nil, w_tup, w_lst, w_op, w_un, w_c, w_var0, w_varS, w_and, w_or, w_not, w_iteE, w_lmeth, t_val, t_tru, t_and, t_or, t_not, t_yes, w_ch0, w_ch1, w_ch2, w_pr0, w_pr1, w_ix20, w_ix21, w_ix30, w_ix31, w_ix32, w_inT, w_eqI, w_add, w_sub, w_lt, w_le, w_gt, w_ge, w_neg, w_lenT, w_int, w_min, w_max, w_tupT, onB_bl, truth_bl, x_seq, x_skip, KR_ret, TK_ret, TK_brk, TK_cnt, g_name, g_unp, g_allS, g_all0, g_sub, lz0, lz1, lz2, lz3, lz4, lz5, lz6, lz7, lz8, List.set, wipe, List.map_cons, List.map_nil, List.cons_append, List.nil_append, List.length_cons, List.length_nil, Nat.reduceAdd, Nat.reduceSub, List.replicate_succ, List.replicate_zero, eq_self, Bool.false_eq_true, if_true, if_false]
    rw [w_ixL (v := nv (nmf nm r.1)) (seqAt_lst hf') (by rw [List.getElem?_map, N.get hri'.1]; rfl), w_ixL (v := nv (nmf nm r.2)) (seqAt_lst hf') (by rw [List.getElem?_map, N.get hri'.2]; rfl)]
    simp [Kp.refl]
  intro s2 k2 h2
  have e2 : ((rs0.filter fun _ => true).map fun r => pr (nmf nm r.1, nmf nm r.2)) = (rs0.map fun r => (nmf nm r.1, nmf nm r.2)).map pr := by
    rw [List.filter_eq_self.mpr (fun _ _ => rfl), List.map_map]; rfl
  rw [e2] at h2
  refine sset_w pleO pr_inj ple_s h2 (by rw [List.length_map]; exact hrl) (fun ys _ => srt_pr ys) fun l3 s3 rs k3 hl3 hasc hmem hlen h3 => ?_
  rw [w_tupL (seqAt_lst h3)]
  refine x_ret ?_
  simp only [w_calln, w_call, w_cons, w_nil, w_tup, w_lst, w_op, w_un, w_c, w_var0, w_varS, w_and, w_or, w_not, w_iteE, w_lmeth, t_val, t_tru, t_and, t_or, t_not, t_yes, w_ch0, w_ch1, w_ch2, w_pr0, w_pr1, w_ix20, w_ix21, w_ix30, w_ix31, w_ix32, w_inT, w_eqI, w_add, w_sub, w_lt, w_le, w_gt, w_ge, w_neg, w_lenT, w_int, w_min, w_max, w_tupT, onB_bl, truth_bl, x_seq, x_skip, KR_ret, TK_ret, TK_brk, TK_cnt, g_name, g_unp, g_allS, g_all0, g_sub, lz0, lz1, lz2, lz3, lz4, lz5, lz6, lz7, lz8, List.set, wipe, List.map_cons, List.map_nil, List.cons_append, List.nil_append, List.length_cons, List.length_nil, Nat.reduceAdd, Nat.reduceSub, List.replicate_succ, List.replicate_zero, eq_self, Bool.false_eq_true, if_true, if_false]
  refine lc_pure ws0 nv (fun _ => true) (fun w => nv (nmf nm w)) (i_seq ?_)
  simp only [w_calln, w_call, w_cons, w_nil, w_tup, w_lst, w_op, w_un, w_c, w_var0, w_varS, w_and, w_or, w_not, w_iteE, w_lmeth, t_val, t_tru, t_and, t_or, t_not, t_yes, w_ch0, w_ch1, w_ch2, w_pr0, w_pr1, w_ix20, w_ix21, w_ix30, w_ix31, w_ix32, w_inT, w_eqI, w_add, w_sub, w_lt, w_le, w_gt, w_ge, w_neg, w_lenT, w_int, w_min, w_max, w_tupT, onB_bl, truth_bl, x_seq, x_skip, KR_ret, TK_ret, TK_brk, TK_cnt, g_name, g_unp, g_allS, g_all0, g_sub, lz0, lz1, lz2, lz3, lz4, lz5, lz6, lz7, lz8, List.set, wipe, List.map_cons, List.map_nil, List.cons_append, List.nil_append, List.length_cons, List.length_nil, Nat.reduceAdd, Nat.reduceSub, List.replicate_succ, List.replicate_zero, eq_self, Bool.false_eq_true, if_true, if_false]
  refine .mk _ (Lk.lst ((k2.trans k3).2 _ _ (by simp) hw1)) (fun e => nomatch e) (fun l e he => ?_)
  cases e
  refine .mk (by unfold lineZ; omega) (Or.inr ⟨_, rfl, he⟩) ?_ ?_
  · intro w hwm s' hk
    have hf' := ((k2.trans k3).trans hk).2 _ _ (by simp) hnm
    simp only [w_calln, w_call, w_cons, w_nil, w_tup, w_lst, w_op, w_un, w_c, w_var0, w_varS, w_and, w_or, w_not, w_iteE, w_lmeth, t_val, t_tru, t_and, t_or, t_not, t_yes, w_ch0, w_ch1, w_ch2, w_pr0, w_pr1, w_ix20, w_ix21, w_ix30, w_ix31, w_ix32, w_inT, w_eqI, w_add, w_sub, w_lt, w_le, w_gt, w_ge, w_neg, w_lenT, w_int, w_min, w_max, w_tupT, onB_bl, truth_bl, x_seq, x_skip, KR_ret, TK_ret, TK_brk, TK_cnt, g_name, g_unp, g_allS, g_all0, g_sub, lz0, lz1, lz2, lz3, lz4, lz5, lz6, lz7, lz8, List.set, wipe, List.map_cons, List.map_nil, List.cons_append, List.nil_append, List.length_cons, List.length_nil, Nat.reduceAdd, Nat.reduceSub, List.replicate_succ, List.replicate_zero, eq_self, Bool.false_eq_true, if_true, if_false]
    rw [w_ixL (v := nv (nmf nm w)) (seqAt_lst hf') (by rw [List.getElem?_map, N.get (hwi w hwm)]; rfl)]
    simp [Kp.refl]
  intro s4 k4 h4
  have e4 : ((ws0.filter fun _ => true).map fun w => nv (nmf nm w)) = (ws0.map (nmf nm)).map nv := by
    rw [List.filter_eq_self.mpr (fun _ _ => rfl), List.map_map]; rfl
  rw [e4] at h4
  refine sset_w nleO nv_inj nle_s h4 (by rw [List.length_map]; exact hwl) (fun ys _ => srt_nv ys) fun l5 s5 ws k5 hl5 hasc5 hmem5 hlen5 h5 => ?_
  rw [w_tupL (seqAt_lst h5)]
  have k15 : Kp [] s1 s5 := ((k2.trans k3).trans k4).trans k5
  have rmem : ∀ x y, (x, y) ∈ rs ↔ ∃ r ∈ rs0, x = nmf nm r.1 ∧ y = nmf nm r.2 := fun x y => by
    rw [hmem, List.mem_map]
    constructor
    · rintro ⟨r, h1, h2⟩; exact ⟨r, h1, (congrArg Prod.fst h2).symm, (congrArg Prod.snd h2).symm⟩
    · rintro ⟨r, h1, rfl, rfl⟩; exact ⟨r, h1, rfl⟩
  have wmem : ∀ x, x ∈ ws ↔ ∃ w ∈ ws0, x = nmf nm w := fun x => by
    rw [hmem5, List.mem_map]
    exact ⟨fun ⟨w, h1, h2⟩ => ⟨w, h1, h2.symm⟩, fun ⟨w, h1, h2⟩ => ⟨w, h1, h2.symm⟩⟩
  refine k _ f _ nm rs ws N ⟨hn, ?_, ?_, hasc, ?_, hasc5⟩ (by rw [List.length_map] at hlen; omega) rmem wmem (P1.keep (Kp.app _ k15)) ((k1.trans k15.nil).app _) ?_ hf ?_ ?_
  · rw [List.length_map] at hlen; omega
  · intro r hr
    obtain ⟨r0, h1, h2, h3⟩ := (rmem r.1 r.2).mp hr
    rw [h2, h3]; exact ⟨N.lt' (hri r0 h1).1, N.lt' (hri r0 h1).2⟩
  · intro w hw
    obtain ⟨w0, h1, h2⟩ := (wmem w).mp hw
    rw [h2]; exact N.lt' (hwi w0 h1)
  · have := k1.1; have := k15.1; omega
  · simp [CH]
  · exact (Kp.app _ k15).2 _ _ (by simp) hnm
end
end Sp
namespace Sp
open PySem Mi Mr
section
variable {Q : AV → Sto → Prop} {s : Sto}
theorem w_addL {a b : Nat} {xs ys : List AV} (ha : s[a]? = some (.lst xs)) (hb : s[b]? = some (.lst ys)) (hl : xs.length + ys.length ≤ 1000000) : W (addAV (.ref a) (.ref b) s) Q = Q (.ref s.length) (s ++ [.lst (xs ++ ys)]) := by
  have e : addAV (.ref a) (.ref b) s = newLst (xs ++ ys) s := by
    unfold addAV; simp only [ha, hb]; rw [if_pos (by unfold lineZ; omega)]
  rw [e]; unfold newLst; rw [if_pos (by rw [List.length_append]; unfold lineZ; omega), W_ok]
theorem pln_prs (rs : List (Nat × Nat)) : (rs.map pr).all (pln 1) = true := by
  rw [List.all_eq_true]
  intro x hx
  obtain ⟨r, _, rfl⟩ := List.mem_map.mp hx
  rfl
theorem sub_le {ys : List Nat} {n : Nat} (h : ys.Sublist (List.range n)) : ys.length ≤ n ∧ ∀ y ∈ ys, y < n := by
  refine ⟨by have := h.length_le; rwa [List.length_range] at this, fun y hy => List.mem_range.mp (h.subset hy)⟩
theorem some_wished_w {p q n lr : Nat} {rs0 : List (Nat × Nat)} (P : Pool s p q) (hn : n ≤ 31) (hr : s[lr]? = some (.lst (rs0.map pr))) (hrp : lr ≠ p) (hrq : lr ≠ q) (hrl : rs0.length < 1000)
    (k : ∀ l s' (ws : List Nat), (∀ w ∈ ws, w < n) → ws.length < 64 → Pool s' p q → Kp [p, q] s s' → s.length ≤ l → s'[l]? = some (.lst (ws.map nv)) → Q (.ref l) s') : W (m__law_map_some_wished [.ref p, nv n, .ref lr] s) Q := by
  have hpl := P.lt
  unfold m__law_map_some_wished b__law_map_some_wished
  refine d_runn (by rfl) ?_
  simp only [w_calln, w_call, w_cons, w_nil, w_tup, w_lst, w_op, w_un, w_c, w_var0, w_varS, w_and, w_or, w_not, w_iteE, w_lmeth, t_val, t_tru, t_and, t_or, t_not, t_yes, w_ch0, w_ch1, w_ch2, w_pr0, w_pr1, w_ix20, w_ix21, w_ix30, w_ix31, w_ix32, w_inT, w_eqI, w_add, w_sub, w_lt, w_le, w_gt, w_ge, w_neg, w_lenT, w_int, w_min, w_max, w_tupT, onB_bl, truth_bl, x_seq, x_skip, KR_ret, TK_ret, TK_brk, TK_cnt, g_name, g_unp, g_allS, g_all0, g_sub, lz0, lz1, lz2, lz3, lz4, lz5, lz6, lz7, lz8, List.set, wipe, List.map_cons, List.map_nil, List.cons_append, List.nil_append, List.length_cons, List.length_nil, Nat.reduceAdd, Nat.reduceSub, List.replicate_succ, List.replicate_zero, eq_self, Bool.false_eq_true, if_true, if_false]
  refine x_asg ?_
  simp only [w_calln, w_call, w_cons, w_nil, w_tup, w_lst, w_op, w_un, w_c, w_var0, w_varS, w_and, w_or, w_not, w_iteE, w_lmeth, t_val, t_tru, t_and, t_or, t_not, t_yes, w_ch0, w_ch1, w_ch2, w_pr0, w_pr1, w_ix20, w_ix21, w_ix30, w_ix31, w_ix32, w_inT, w_eqI, w_add, w_sub, w_lt, w_le, w_gt, w_ge, w_neg, w_lenT, w_int, w_min, w_max, w_tupT, onB_bl, truth_bl, x_seq, x_skip, KR_ret, TK_ret, TK_brk, TK_cnt, g_name, g_unp, g_allS, g_all0, g_sub, lz0, lz1, lz2, lz3, lz4, lz5, lz6, lz7, lz8, List.set, wipe, List.map_cons, List.map_nil, List.cons_append, List.nil_append, List.length_cons, List.length_nil, Nat.reduceAdd, Nat.reduceSub, List.replicate_succ, List.replicate_zero, eq_self, Bool.false_eq_true, if_true, if_false]
  refine draw_w P (by omega) (by omega) fun way s1 hway P1 k1 => ?_
  have hr1 := k1.2 _ _ (by simp [hrp, hrq]) hr
  have hl1 := k1.1
  refine lc_pure (List.range n) nv (fun a => (rs0.filter fun r => decide (r.1 = a)).isEmpty) nv (i_range ?_)
  simp only [w_calln, w_call, w_cons, w_nil, w_tup, w_lst, w_op, w_un, w_c, w_var0, w_varS, w_and, w_or, w_not, w_iteE, w_lmeth, t_val, t_tru, t_and, t_or, t_not, t_yes, w_ch0, w_ch1, w_ch2, w_pr0, w_pr1, w_ix20, w_ix21, w_ix30, w_ix31, w_ix32, w_inT, w_eqI, w_add, w_sub, w_lt, w_le, w_gt, w_ge, w_neg, w_lenT, w_int, w_min, w_max, w_tupT, onB_bl, truth_bl, x_seq, x_skip, KR_ret, TK_ret, TK_brk, TK_cnt, g_name, g_unp, g_allS, g_all0, g_sub, lz0, lz1, lz2, lz3, lz4, lz5, lz6, lz7, lz8, List.set, wipe, List.map_cons, List.map_nil, List.cons_append, List.nil_append, List.length_cons, List.length_nil, Nat.reduceAdd, Nat.reduceSub, List.replicate_succ, List.replicate_zero, eq_self, Bool.false_eq_true, if_true, if_false]
  refine .mk n rfl (by omega) ?_
  refine .mk (by unfold lineZ; simp; omega) (Or.inl rfl) ?_ ?_
  · intro a ha s' hk
    simp only [w_calln, w_call, w_cons, w_nil, w_tup, w_lst, w_op, w_un, w_c, w_var0, w_varS, w_and, w_or, w_not, w_iteE, w_lmeth, t_val, t_tru, t_and, t_or, t_not, t_yes, w_ch0, w_ch1, w_ch2, w_pr0, w_pr1, w_ix20, w_ix21, w_ix30, w_ix31, w_ix32, w_inT, w_eqI, w_add, w_sub, w_lt, w_le, w_gt, w_ge, w_neg, w_lenT, w_int, w_min, w_max, w_tupT, onB_bl, truth_bl, x_seq, x_skip, KR_ret, TK_ret, TK_brk, TK_cnt, g_name, g_unp, g_allS, g_all0, g_sub, lz0, lz1, lz2, lz3, lz4, lz5, lz6, lz7, lz8, List.set, wipe, List.map_cons, List.map_nil, List.cons_append, List.nil_append, List.length_cons, List.length_nil, Nat.reduceAdd, Nat.reduceSub, List.replicate_succ, List.replicate_zero, eq_self, Bool.false_eq_true, if_true, if_false]
    have hr' := hk.2 _ _ (by simp) hr1
    refine lc_pure rs0 pr (fun r => decide (r.1 = a)) pr (i_seq ?_)
    simp only [w_calln, w_call, w_cons, w_nil, w_tup, w_lst, w_op, w_un, w_c, w_var0, w_varS, w_and, w_or, w_not, w_iteE, w_lmeth, t_val, t_tru, t_and, t_or, t_not, t_yes, w_ch0, w_ch1, w_ch2, w_pr0, w_pr1, w_ix20, w_ix21, w_ix30, w_ix31, w_ix32, w_inT, w_eqI, w_add, w_sub, w_lt, w_le, w_gt, w_ge, w_neg, w_lenT, w_int, w_min, w_max, w_tupT, onB_bl, truth_bl, x_seq, x_skip, KR_ret, TK_ret, TK_brk, TK_cnt, g_name, g_unp, g_allS, g_all0, g_sub, lz0, lz1, lz2, lz3, lz4, lz5, lz6, lz7, lz8, List.set, wipe, List.map_cons, List.map_nil, List.cons_append, List.nil_append, List.length_cons, List.length_nil, Nat.reduceAdd, Nat.reduceSub, List.replicate_succ, List.replicate_zero, eq_self, Bool.false_eq_true, if_true, if_false]
    refine .mk _ (Lk.lst hr') (fun e => nomatch e) (fun l e he => ?_)
    cases e
    refine .mk (by unfold lineZ; omega) (Or.inr ⟨_, rfl, he⟩) ?_ ?_
    · intro r hrm s2 hk2
      simp only [w_calln, w_call, w_cons, w_nil, w_tup, w_lst, w_op, w_un, w_c, w_var0, w_varS, w_and, w_or, w_not, w_iteE, w_lmeth, t_val, t_tru, t_and, t_or, t_not, t_yes, w_ch0, w_ch1, w_ch2, w_pr0, w_pr1, w_ix20, w_ix21, w_ix30, w_ix31, w_ix32, w_inT, w_eqI, w_add, w_sub, w_lt, w_le, w_gt, w_ge, w_neg, w_lenT, w_int, w_min, w_max, w_tupT, onB_bl, truth_bl, x_seq, x_skip, KR_ret, TK_ret, TK_brk, TK_cnt, g_name, g_unp, g_allS, g_all0, g_sub, lz0, lz1, lz2, lz3, lz4, lz5, lz6, lz7, lz8, List.set, wipe, List.map_cons, List.map_nil, List.cons_append, List.nil_append, List.length_cons, List.length_nil, Nat.reduceAdd, Nat.reduceSub, List.replicate_succ, List.replicate_zero, eq_self, Bool.false_eq_true, if_true, if_false]
      by_cases e : r.1 = a
      · subst e; simp [Kp.refl]
      · have : ¬ ((r.1 : Int) = (a : Int)) := by omega
        simp [e, this, Kp.refl]
    · intro s2 k2 h2
      rw [w_eqL0 false s'.length s2.length 1 (by omega) ((rs0.filter fun r => decide (r.1 = a)).map pr) (pln_prs _) (seqAt_lst ((Kp.app [MO.lst []] (Kp.refl (L := []) s2)).2 _ _ (by simp) h2)) (seqAt_lst (by simp))]
      simp only [w_calln, w_call, w_cons, w_nil, w_tup, w_lst, w_op, w_un, w_c, w_var0, w_varS, w_and, w_or, w_not, w_iteE, w_lmeth, t_val, t_tru, t_and, t_or, t_not, t_yes, w_ch0, w_ch1, w_ch2, w_pr0, w_pr1, w_ix20, w_ix21, w_ix30, w_ix31, w_ix32, w_inT, w_eqI, w_add, w_sub, w_lt, w_le, w_gt, w_ge, w_neg, w_lenT, w_int, w_min, w_max, w_tupT, onB_bl, truth_bl, x_seq, x_skip, KR_ret, TK_ret, TK_brk, TK_cnt, g_name, g_unp, g_allS, g_all0, g_sub, lz0, lz1, lz2, lz3, lz4, lz5, lz6, lz7, lz8, List.set, wipe, List.map_cons, List.map_nil, List.cons_append, List.nil_append, List.length_cons, List.length_nil, Nat.reduceAdd, Nat.reduceSub, List.replicate_succ, List.replicate_zero, eq_self, Bool.false_eq_true, if_true, if_false]
      have hk3 : Kp [] s' (s2 ++ [MO.lst []]) := Kp.app _ k2
      refine ⟨?_, hk3, fun _ => ⟨trivial, hk3⟩⟩
      cases rs0.filter fun r => decide (r.1 = a) <;> rfl
  intro s2 k2 h2
  generalize hlast : (List.range n).filter (fun a => (rs0.filter fun r => decide (r.1 = a)).isEmpty) = last at h2
  have hls : last.Sublist (List.range n) := by subst hlast; exact List.filter_sublist
  have hl2 := sub_le hls
  have P2 := P1.keep k2
  have k02 : Kp [p, q] s s2 := k1.trans k2.nil
  have n1p : s1.length ≠ p := by omega
  have n1q : s1.length ≠ q := by omega
  refine x_ife ?_
  simp only [w_calln, w_call, w_cons, w_nil, w_tup, w_lst, w_op, w_un, w_c, w_var0, w_varS, w_and, w_or, w_not, w_iteE, w_lmeth, t_val, t_tru, t_and, t_or, t_not, t_yes, w_ch0, w_ch1, w_ch2, w_pr0, w_pr1, w_ix20, w_ix21, w_ix30, w_ix31, w_ix32, w_inT, w_eqI, w_add, w_sub, w_lt, w_le, w_gt, w_ge, w_neg, w_lenT, w_int, w_min, w_max, w_tupT, onB_bl, truth_bl, x_seq, x_skip, KR_ret, TK_ret, TK_brk, TK_cnt, g_name, g_unp, g_allS, g_all0, g_sub, lz0, lz1, lz2, lz3, lz4, lz5, lz6, lz7, lz8, List.set, wipe, List.map_cons, List.map_nil, List.cons_append, List.nil_append, List.length_cons, List.length_nil, Nat.reduceAdd, Nat.reduceSub, List.replicate_succ, List.replicate_zero, eq_self, Bool.false_eq_true, if_true, if_false]
  by_cases h4 : way < 4
  · rw [if_pos (decide_eq_true (by omega))]
    refine x_ret ?_
    simp only [w_calln, w_call, w_cons, w_nil, w_tup, w_lst, w_op, w_un, w_c, w_var0, w_varS, w_and, w_or, w_not, w_iteE, w_lmeth, t_val, t_tru, t_and, t_or, t_not, t_yes, w_ch0, w_ch1, w_ch2, w_pr0, w_pr1, w_ix20, w_ix21, w_ix30, w_ix31, w_ix32, w_inT, w_eqI, w_add, w_sub, w_lt, w_le, w_gt, w_ge, w_neg, w_lenT, w_int, w_min, w_max, w_tupT, onB_bl, truth_bl, x_seq, x_skip, KR_ret, TK_ret, TK_brk, TK_cnt, g_name, g_unp, g_allS, g_all0, g_sub, lz0, lz1, lz2, lz3, lz4, lz5, lz6, lz7, lz8, List.set, wipe, List.map_cons, List.map_nil, List.cons_append, List.nil_append, List.length_cons, List.length_nil, Nat.reduceAdd, Nat.reduceSub, List.replicate_succ, List.replicate_zero, eq_self, Bool.false_eq_true, if_true, if_false]
    refine lc_sub (List.range n) nv nv (fun s' => Pool s' p q ∧ Kp [p, q] s2 s') (i_range ?_)
    simp only [w_calln, w_call, w_cons, w_nil, w_tup, w_lst, w_op, w_un, w_c, w_var0, w_varS, w_and, w_or, w_not, w_iteE, w_lmeth, t_val, t_tru, t_and, t_or, t_not, t_yes, w_ch0, w_ch1, w_ch2, w_pr0, w_pr1, w_ix20, w_ix21, w_ix30, w_ix31, w_ix32, w_inT, w_eqI, w_add, w_sub, w_lt, w_le, w_gt, w_ge, w_neg, w_lenT, w_int, w_min, w_max, w_tupT, onB_bl, truth_bl, x_seq, x_skip, KR_ret, TK_ret, TK_brk, TK_cnt, g_name, g_unp, g_allS, g_all0, g_sub, lz0, lz1, lz2, lz3, lz4, lz5, lz6, lz7, lz8, List.set, wipe, List.map_cons, List.map_nil, List.cons_append, List.nil_append, List.length_cons, List.length_nil, Nat.reduceAdd, Nat.reduceSub, List.replicate_succ, List.replicate_zero, eq_self, Bool.false_eq_true, if_true, if_false]
    refine .mk n rfl (by omega) ?_
    have kl2 := k02.1
    refine .mk (by unfold lineZ; simp; omega) rfl ⟨P2.keep (Kp.app _ (Kp.refl _)), Kp.app _ (Kp.refl _)⟩ (fun s' o h => ⟨h.1.setN (by omega) (by omega), h.2.setN _ _ (Nat.le_refl _)⟩) ?_ ?_
    · rintro a ha s' acc ⟨P', k'⟩ hD
      simp only [w_calln, w_call, w_cons, w_nil, w_tup, w_lst, w_op, w_un, w_c, w_var0, w_varS, w_and, w_or, w_not, w_iteE, w_lmeth, t_val, t_tru, t_and, t_or, t_not, t_yes, w_ch0, w_ch1, w_ch2, w_pr0, w_pr1, w_ix20, w_ix21, w_ix30, w_ix31, w_ix32, w_inT, w_eqI, w_add, w_sub, w_lt, w_le, w_gt, w_ge, w_neg, w_lenT, w_int, w_min, w_max, w_tupT, onB_bl, truth_bl, x_seq, x_skip, KR_ret, TK_ret, TK_brk, TK_cnt, g_name, g_unp, g_allS, g_all0, g_sub, lz0, lz1, lz2, lz3, lz4, lz5, lz6, lz7, lz8, List.set, wipe, List.map_cons, List.map_nil, List.cons_append, List.nil_append, List.length_cons, List.length_nil, Nat.reduceAdd, Nat.reduceSub, List.replicate_succ, List.replicate_zero, eq_self, Bool.false_eq_true, if_true, if_false]
      rw [w_inL true a s1.length last (seqAt_lst (k'.2 _ _ (by simp [n1p, n1q]) h2))]
      simp only [w_calln, w_call, w_cons, w_nil, w_tup, w_lst, w_op, w_un, w_c, w_var0, w_varS, w_and, w_or, w_not, w_iteE, w_lmeth, t_val, t_tru, t_and, t_or, t_not, t_yes, w_ch0, w_ch1, w_ch2, w_pr0, w_pr1, w_ix20, w_ix21, w_ix30, w_ix31, w_ix32, w_inT, w_eqI, w_add, w_sub, w_lt, w_le, w_gt, w_ge, w_neg, w_lenT, w_int, w_min, w_max, w_tupT, onB_bl, truth_bl, x_seq, x_skip, KR_ret, TK_ret, TK_brk, TK_cnt, g_name, g_unp, g_allS, g_all0, g_sub, lz0, lz1, lz2, lz3, lz4, lz5, lz6, lz7, lz8, List.set, wipe, List.map_cons, List.map_nil, List.cons_append, List.nil_append, List.length_cons, List.length_nil, Nat.reduceAdd, Nat.reduceSub, List.replicate_succ, List.replicate_zero, eq_self, Bool.false_eq_true, if_true, if_false]
      split
      · split
        · refine draw_w P' (by omega) (by omega) fun r s3 hr P3 k3 => ?_
          simp only [w_calln, w_call, w_cons, w_nil, w_tup, w_lst, w_op, w_un, w_c, w_var0, w_varS, w_and, w_or, w_not, w_iteE, w_lmeth, t_val, t_tru, t_and, t_or, t_not, t_yes, w_ch0, w_ch1, w_ch2, w_pr0, w_pr1, w_ix20, w_ix21, w_ix30, w_ix31, w_ix32, w_inT, w_eqI, w_add, w_sub, w_lt, w_le, w_gt, w_ge, w_neg, w_lenT, w_int, w_min, w_max, w_tupT, onB_bl, truth_bl, x_seq, x_skip, KR_ret, TK_ret, TK_brk, TK_cnt, g_name, g_unp, g_allS, g_all0, g_sub, lz0, lz1, lz2, lz3, lz4, lz5, lz6, lz7, lz8, List.set, wipe, List.map_cons, List.map_nil, List.cons_append, List.nil_append, List.length_cons, List.length_nil, Nat.reduceAdd, Nat.reduceSub, List.replicate_succ, List.replicate_zero, eq_self, Bool.false_eq_true, if_true, if_false]
          exact ⟨⟨P3, k'.trans k3⟩, k3.2 _ _ (by simp; omega) hD, fun _ => ⟨trivial, ⟨P3, k'.trans k3⟩, k3.2 _ _ (by simp; omega) hD⟩⟩
        · exact ⟨⟨P', k'⟩, hD, fun h => nomatch h⟩
      · exact ⟨⟨P', k'⟩, hD, fun h => nomatch h⟩
    · rintro s' ys ⟨P', k'⟩ hys hD
      have hy := sub_le hys
      rw [w_addL (k'.2 _ _ (by simp [n1p, n1q]) h2) hD (by simp; omega), ← List.map_append]
      refine k _ _ (last ++ ys) (fun w hw => ?_) (by rw [List.length_append]; omega) (P'.keep (Kp.app _ (Kp.refl _))) ((k02.trans k').app _) ?_ (by simp)
      · rcases List.mem_append.mp hw with h | h
        · exact hl2.2 w h
        · exact hy.2 w h
      · have := (k02.trans k').1; exact this
  · rw [if_neg (by simp; omega)]
    refine x_ife ?_
    simp only [w_calln, w_call, w_cons, w_nil, w_tup, w_lst, w_op, w_un, w_c, w_var0, w_varS, w_and, w_or, w_not, w_iteE, w_lmeth, t_val, t_tru, t_and, t_or, t_not, t_yes, w_ch0, w_ch1, w_ch2, w_pr0, w_pr1, w_ix20, w_ix21, w_ix30, w_ix31, w_ix32, w_inT, w_eqI, w_add, w_sub, w_lt, w_le, w_gt, w_ge, w_neg, w_lenT, w_int, w_min, w_max, w_tupT, onB_bl, truth_bl, x_seq, x_skip, KR_ret, TK_ret, TK_brk, TK_cnt, g_name, g_unp, g_allS, g_all0, g_sub, lz0, lz1, lz2, lz3, lz4, lz5, lz6, lz7, lz8, List.set, wipe, List.map_cons, List.map_nil, List.cons_append, List.nil_append, List.length_cons, List.length_nil, Nat.reduceAdd, Nat.reduceSub, List.replicate_succ, List.replicate_zero, eq_self, Bool.false_eq_true, if_true, if_false]
    by_cases h7 : way < 7
    · rw [if_pos (decide_eq_true (by omega))]
      refine x_ret ?_
      refine lc_sub (List.range n) nv nv (fun s' => Pool s' p q ∧ Kp [p, q] s2 s') (i_range ?_)
      simp only [w_calln, w_call, w_cons, w_nil, w_tup, w_lst, w_op, w_un, w_c, w_var0, w_varS, w_and, w_or, w_not, w_iteE, w_lmeth, t_val, t_tru, t_and, t_or, t_not, t_yes, w_ch0, w_ch1, w_ch2, w_pr0, w_pr1, w_ix20, w_ix21, w_ix30, w_ix31, w_ix32, w_inT, w_eqI, w_add, w_sub, w_lt, w_le, w_gt, w_ge, w_neg, w_lenT, w_int, w_min, w_max, w_tupT, onB_bl, truth_bl, x_seq, x_skip, KR_ret, TK_ret, TK_brk, TK_cnt, g_name, g_unp, g_allS, g_all0, g_sub, lz0, lz1, lz2, lz3, lz4, lz5, lz6, lz7, lz8, List.set, wipe, List.map_cons, List.map_nil, List.cons_append, List.nil_append, List.length_cons, List.length_nil, Nat.reduceAdd, Nat.reduceSub, List.replicate_succ, List.replicate_zero, eq_self, Bool.false_eq_true, if_true, if_false]
      refine .mk n rfl (by omega) ?_
      have kl2 := k02.1
      refine .mk (by unfold lineZ; simp; omega) rfl ⟨P2.keep (Kp.app _ (Kp.refl _)), Kp.app _ (Kp.refl _)⟩ (fun s' o h => ⟨h.1.setN (by omega) (by omega), h.2.setN _ _ (Nat.le_refl _)⟩) ?_ ?_
      · rintro a ha s' acc ⟨P', k'⟩ hD
        simp only [w_calln, w_call, w_cons, w_nil, w_tup, w_lst, w_op, w_un, w_c, w_var0, w_varS, w_and, w_or, w_not, w_iteE, w_lmeth, t_val, t_tru, t_and, t_or, t_not, t_yes, w_ch0, w_ch1, w_ch2, w_pr0, w_pr1, w_ix20, w_ix21, w_ix30, w_ix31, w_ix32, w_inT, w_eqI, w_add, w_sub, w_lt, w_le, w_gt, w_ge, w_neg, w_lenT, w_int, w_min, w_max, w_tupT, onB_bl, truth_bl, x_seq, x_skip, KR_ret, TK_ret, TK_brk, TK_cnt, g_name, g_unp, g_allS, g_all0, g_sub, lz0, lz1, lz2, lz3, lz4, lz5, lz6, lz7, lz8, List.set, wipe, List.map_cons, List.map_nil, List.cons_append, List.nil_append, List.length_cons, List.length_nil, Nat.reduceAdd, Nat.reduceSub, List.replicate_succ, List.replicate_zero, eq_self, Bool.false_eq_true, if_true, if_false]
        refine draw_w P' (by omega) (by omega) fun r s3 hr P3 k3 => ?_
        simp only [w_calln, w_call, w_cons, w_nil, w_tup, w_lst, w_op, w_un, w_c, w_var0, w_varS, w_and, w_or, w_not, w_iteE, w_lmeth, t_val, t_tru, t_and, t_or, t_not, t_yes, w_ch0, w_ch1, w_ch2, w_pr0, w_pr1, w_ix20, w_ix21, w_ix30, w_ix31, w_ix32, w_inT, w_eqI, w_add, w_sub, w_lt, w_le, w_gt, w_ge, w_neg, w_lenT, w_int, w_min, w_max, w_tupT, onB_bl, truth_bl, x_seq, x_skip, KR_ret, TK_ret, TK_brk, TK_cnt, g_name, g_unp, g_allS, g_all0, g_sub, lz0, lz1, lz2, lz3, lz4, lz5, lz6, lz7, lz8, List.set, wipe, List.map_cons, List.map_nil, List.cons_append, List.nil_append, List.length_cons, List.length_nil, Nat.reduceAdd, Nat.reduceSub, List.replicate_succ, List.replicate_zero, eq_self, Bool.false_eq_true, if_true, if_false]
        exact ⟨⟨P3, k'.trans k3⟩, k3.2 _ _ (by simp; omega) hD, fun _ => ⟨trivial, ⟨P3, k'.trans k3⟩, k3.2 _ _ (by simp; omega) hD⟩⟩
      · rintro s' ys ⟨P', k'⟩ hys hD
        have hy := sub_le hys
        exact k _ _ ys hy.2 (by omega) P' (k02.trans k') kl2 hD
    · rw [if_neg (by simp; omega)]
      refine x_ret ?_
      simp only [w_calln, w_call, w_cons, w_nil, w_tup, w_lst, w_op, w_un, w_c, w_var0, w_varS, w_and, w_or, w_not, w_iteE, w_lmeth, t_val, t_tru, t_and, t_or, t_not, t_yes, w_ch0, w_ch1, w_ch2, w_pr0, w_pr1, w_ix20, w_ix21, w_ix30, w_ix31, w_ix32, w_inT, w_eqI, w_add, w_sub, w_lt, w_le, w_gt, w_ge, w_neg, w_lenT, w_int, w_min, w_max, w_tupT, onB_bl, truth_bl, x_seq, x_skip, KR_ret, TK_ret, TK_brk, TK_cnt, g_name, g_unp, g_allS, g_all0, g_sub, lz0, lz1, lz2, lz3, lz4, lz5, lz6, lz7, lz8, List.set, wipe, List.map_cons, List.map_nil, List.cons_append, List.nil_append, List.length_cons, List.length_nil, Nat.reduceAdd, Nat.reduceSub, List.replicate_succ, List.replicate_zero, eq_self, Bool.false_eq_true, if_true, if_false]
      refine draw_w P2 (by omega) (by omega) fun r s3 hr P3 k3 => ?_
      simp only [w_calln, w_call, w_cons, w_nil, w_tup, w_lst, w_op, w_un, w_c, w_var0, w_varS, w_and, w_or, w_not, w_iteE, w_lmeth, t_val, t_tru, t_and, t_or, t_not, t_yes, w_ch0, w_ch1, w_ch2, w_pr0, w_pr1, w_ix20, w_ix21, w_ix30, w_ix31, w_ix32, w_inT, w_eqI, w_add, w_sub, w_lt, w_le, w_gt, w_ge, w_neg, w_lenT, w_int, w_min, w_max, w_tupT, onB_bl, truth_bl, x_seq, x_skip, KR_ret, TK_ret, TK_brk, TK_cnt, g_name, g_unp, g_allS, g_all0, g_sub, lz0, lz1, lz2, lz3, lz4, lz5, lz6, lz7, lz8, List.set, wipe, List.map_cons, List.map_nil, List.cons_append, List.nil_append, List.length_cons, List.length_nil, Nat.reduceAdd, Nat.reduceSub, List.replicate_succ, List.replicate_zero, eq_self, Bool.false_eq_true, if_true, if_false]
      have k03 := k02.trans k3
      split
      · exact k _ _ [] (by simp) (by decide) (P3.keep (Kp.app _ (Kp.refl _))) (k03.app _) k03.1 (by simp)
      · refine w_lstR (n := n) (by omega) ?_
        simp only [w_calln, w_call, w_cons, w_nil, w_tup, w_lst, w_op, w_un, w_c, w_var0, w_varS, w_and, w_or, w_not, w_iteE, w_lmeth, t_val, t_tru, t_and, t_or, t_not, t_yes, w_ch0, w_ch1, w_ch2, w_pr0, w_pr1, w_ix20, w_ix21, w_ix30, w_ix31, w_ix32, w_inT, w_eqI, w_add, w_sub, w_lt, w_le, w_gt, w_ge, w_neg, w_lenT, w_int, w_min, w_max, w_tupT, onB_bl, truth_bl, x_seq, x_skip, KR_ret, TK_ret, TK_brk, TK_cnt, g_name, g_unp, g_allS, g_all0, g_sub, lz0, lz1, lz2, lz3, lz4, lz5, lz6, lz7, lz8, List.set, wipe, List.map_cons, List.map_nil, List.cons_append, List.nil_append, List.length_cons, List.length_nil, Nat.reduceAdd, Nat.reduceSub, List.replicate_succ, List.replicate_zero, eq_self, Bool.false_eq_true, if_true, if_false]
        exact ⟨trivial, k _ _ (List.range n) (fun w hw => List.mem_range.mp hw) (by simp; omega) (P3.keep (Kp.app _ (Kp.refl _))) (k03.app _) k03.1 (by simp)⟩
end
end Sp
namespace Sp
open PySem Mi Mr
section
variable {Q : AV → Sto → Prop} {s : Sto}
theorem small_of {i : Int} (h0 : -1000000 < i) (h1 : i < 1000000) : small i = true := by
  unfold small
  have e : (2 ^ 64 : Int) = 18446744073709551616 := by decide
  have h2 : -(2 ^ 64 : Int) < i ∧ i < 2 ^ 64 := by omega
  exact decide_eq_true h2
theorem map_drawn_w {p q most : Nat} (P : Pool s p q) (hm : most ≤ 20) (k : ∀ s' n rs ws, n ≤ most → VM n rs ws → rs.length < 64 → Pool s' p q → Kp [p, q] s s' → Q (CH n rs ws) s') : W (m__law_map_drawn [.ref p, nv most] s) Q := by
  unfold m__law_map_drawn b__law_map_drawn
  refine d_runn (by rfl) ?_
  simp only [w_calln, w_call, w_cons, w_nil, w_tup, w_lst, w_op, w_un, w_c, w_var0, w_varS, w_and, w_or, w_not, w_iteE, w_lmeth, t_val, t_tru, t_and, t_or, t_not, t_yes, w_ch0, w_ch1, w_ch2, w_pr0, w_pr1, w_ix20, w_ix21, w_ix30, w_ix31, w_ix32, w_inT, w_eqI, w_add, w_sub, w_lt, w_le, w_gt, w_ge, w_neg, w_lenT, w_int, w_min, w_max, w_tupT, onB_bl, truth_bl, x_seq, x_skip, KR_ret, TK_ret, TK_brk, TK_cnt, g_name, g_unp, g_allS, g_all0, g_sub, lz0, lz1, lz2, lz3, lz4, lz5, lz6, lz7, lz8, List.set, wipe, List.map_cons, List.map_nil, List.cons_append, List.nil_append, List.length_cons, List.length_nil, Nat.reduceAdd, Nat.reduceSub, List.replicate_succ, List.replicate_zero, eq_self, Bool.false_eq_true, if_true, if_false]
  refine x_asg ?_
  simp only [w_calln, w_call, w_cons, w_nil, w_tup, w_lst, w_op, w_un, w_c, w_var0, w_varS, w_and, w_or, w_not, w_iteE, w_lmeth, t_val, t_tru, t_and, t_or, t_not, t_yes, w_ch0, w_ch1, w_ch2, w_pr0, w_pr1, w_ix20, w_ix21, w_ix30, w_ix31, w_ix32, w_inT, w_eqI, w_add, w_sub, w_lt, w_le, w_gt, w_ge, w_neg, w_lenT, w_int, w_min, w_max, w_tupT, onB_bl, truth_bl, x_seq, x_skip, KR_ret, TK_ret, TK_brk, TK_cnt, g_name, g_unp, g_allS, g_all0, g_sub, lz0, lz1, lz2, lz3, lz4, lz5, lz6, lz7, lz8, List.set, wipe, List.map_cons, List.map_nil, List.cons_append, List.nil_append, List.length_cons, List.length_nil, Nat.reduceAdd, Nat.reduceSub, List.replicate_succ, List.replicate_zero, eq_self, Bool.false_eq_true, if_true, if_false]
  refine draw_w P (by omega) (by omega) fun n s1 hn P1 k1 => ?_
  have hn' : n ≤ most := by omega
  refine x_ife ?_
  simp only [w_calln, w_call, w_cons, w_nil, w_tup, w_lst, w_op, w_un, w_c, w_var0, w_varS, w_and, w_or, w_not, w_iteE, w_lmeth, t_val, t_tru, t_and, t_or, t_not, t_yes, w_ch0, w_ch1, w_ch2, w_pr0, w_pr1, w_ix20, w_ix21, w_ix30, w_ix31, w_ix32, w_inT, w_eqI, w_add, w_sub, w_lt, w_le, w_gt, w_ge, w_neg, w_lenT, w_int, w_min, w_max, w_tupT, onB_bl, truth_bl, x_seq, x_skip, KR_ret, TK_ret, TK_brk, TK_cnt, g_name, g_unp, g_allS, g_all0, g_sub, lz0, lz1, lz2, lz3, lz4, lz5, lz6, lz7, lz8, List.set, wipe, List.map_cons, List.map_nil, List.cons_append, List.nil_append, List.length_cons, List.length_nil, Nat.reduceAdd, Nat.reduceSub, List.replicate_succ, List.replicate_zero, eq_self, Bool.false_eq_true, if_true, if_false]
  by_cases h0 : n = 0
  · subst h0
    rw [if_pos (by simp)]
    refine x_ret ?_
    simp only [w_calln, w_call, w_cons, w_nil, w_tup, w_lst, w_op, w_un, w_c, w_var0, w_varS, w_and, w_or, w_not, w_iteE, w_lmeth, t_val, t_tru, t_and, t_or, t_not, t_yes, w_ch0, w_ch1, w_ch2, w_pr0, w_pr1, w_ix20, w_ix21, w_ix30, w_ix31, w_ix32, w_inT, w_eqI, w_add, w_sub, w_lt, w_le, w_gt, w_ge, w_neg, w_lenT, w_int, w_min, w_max, w_tupT, onB_bl, truth_bl, x_seq, x_skip, KR_ret, TK_ret, TK_brk, TK_cnt, g_name, g_unp, g_allS, g_all0, g_sub, lz0, lz1, lz2, lz3, lz4, lz5, lz6, lz7, lz8, List.set, wipe, List.map_cons, List.map_nil, List.cons_append, List.nil_append, List.length_cons, List.length_nil, Nat.reduceAdd, Nat.reduceSub, List.replicate_succ, List.replicate_zero, eq_self, Bool.false_eq_true, if_true, if_false]
    exact k s1 0 [] [] (by omega) ⟨by omega, by simp, by simp, List.Pairwise.nil, by simp, List.Pairwise.nil⟩ (by decide) P1 k1
  · rw [if_neg (by simp; omega)]
    refine x_asg ?_
    simp only [w_calln, w_call, w_cons, w_nil, w_tup, w_lst, w_op, w_un, w_c, w_var0, w_varS, w_and, w_or, w_not, w_iteE, w_lmeth, t_val, t_tru, t_and, t_or, t_not, t_yes, w_ch0, w_ch1, w_ch2, w_pr0, w_pr1, w_ix20, w_ix21, w_ix30, w_ix31, w_ix32, w_inT, w_eqI, w_add, w_sub, w_lt, w_le, w_gt, w_ge, w_neg, w_lenT, w_int, w_min, w_max, w_tupT, onB_bl, truth_bl, x_seq, x_skip, KR_ret, TK_ret, TK_brk, TK_cnt, g_name, g_unp, g_allS, g_all0, g_sub, lz0, lz1, lz2, lz3, lz4, lz5, lz6, lz7, lz8, List.set, wipe, List.map_cons, List.map_nil, List.cons_append, List.nil_append, List.length_cons, List.length_nil, Nat.reduceAdd, Nat.reduceSub, List.replicate_succ, List.replicate_zero, eq_self, Bool.false_eq_true, if_true, if_false]
    refine draw_w P1 (by omega) (by omega) fun way s2 hway P2 k2 => ?_
    have hpl := P2.lt
    have k02 := k1.trans k2
    refine for_r ?_
    simp only [w_calln, w_call, w_cons, w_nil, w_tup, w_lst, w_op, w_un, w_c, w_var0, w_varS, w_and, w_or, w_not, w_iteE, w_lmeth, t_val, t_tru, t_and, t_or, t_not, t_yes, w_ch0, w_ch1, w_ch2, w_pr0, w_pr1, w_ix20, w_ix21, w_ix30, w_ix31, w_ix32, w_inT, w_eqI, w_add, w_sub, w_lt, w_le, w_gt, w_ge, w_neg, w_lenT, w_int, w_min, w_max, w_tupT, onB_bl, truth_bl, x_seq, x_skip, KR_ret, TK_ret, TK_brk, TK_cnt, g_name, g_unp, g_allS, g_all0, g_sub, lz0, lz1, lz2, lz3, lz4, lz5, lz6, lz7, lz8, List.set, wipe, List.map_cons, List.map_nil, List.cons_append, List.nil_append, List.length_cons, List.length_nil, Nat.reduceAdd, Nat.reduceSub, List.replicate_succ, List.replicate_zero, eq_self, Bool.false_eq_true, if_true, if_false, w_mul, small2, Bool.true_or]
    have P3 : Pool (s2 ++ [MO.lst []]) p q := P2.keep (Kp.app _ (Kp.refl _))
    refine draw_w P3 (by omega) (by omega) fun cnt s3 hcnt P3 k3 => ?_
    have l2 : s2.length + 1 ≤ s3.length := by have := k3.1; simpa using this
    have hr3 : s3[s2.length]? = some (.lst (([] : List (Nat × Nat)).map pr)) := k3.2 _ _ (by simp; omega) (by simp)
    have k03 : Kp [p, q] s s3 := (k02.app _).trans k3
    refine .mk cnt (fun j en s' => (∃ o5 o6 o7 o8 : Option AV, en = [some (.ref p), some (nv most), some (nv n), some (nv way), some (.ref s2.length), o5, o6, o7, o8, none]) ∧ Pool s' p q ∧ Kp [p, q] s s' ∧ ∃ rs : List (Nat × Nat), s'[s2.length]? = some (.lst (rs.map pr)) ∧ rs.length = j ∧ ∀ r ∈ rs, r.1 < n ∧ r.2 < n) rfl (by omega) ⟨⟨_, _, _, _, rfl⟩, P3, k03, [], hr3, rfl, by simp⟩ ?_ ?_
    · rintro j en s4 hj ⟨⟨o5, o6, o7, o8, rfl⟩, P4, k4, rs, hrs, hlen, hin⟩
      simp only [w_calln, w_call, w_cons, w_nil, w_tup, w_lst, w_op, w_un, w_c, w_var0, w_varS, w_and, w_or, w_not, w_iteE, w_lmeth, t_val, t_tru, t_and, t_or, t_not, t_yes, w_ch0, w_ch1, w_ch2, w_pr0, w_pr1, w_ix20, w_ix21, w_ix30, w_ix31, w_ix32, w_inT, w_eqI, w_add, w_sub, w_lt, w_le, w_gt, w_ge, w_neg, w_lenT, w_int, w_min, w_max, w_tupT, onB_bl, truth_bl, x_seq, x_skip, KR_ret, TK_ret, TK_brk, TK_cnt, g_name, g_unp, g_allS, g_all0, g_sub, lz0, lz1, lz2, lz3, lz4, lz5, lz6, lz7, lz8, List.set, wipe, List.map_cons, List.map_nil, List.cons_append, List.nil_append, List.length_cons, List.length_nil, Nat.reduceAdd, Nat.reduceSub, List.replicate_succ, List.replicate_zero, eq_self, Bool.false_eq_true, if_true, if_false]
      refine x_asg ?_
      simp only [w_calln, w_call, w_cons, w_nil, w_tup, w_lst, w_op, w_un, w_c, w_var0, w_varS, w_and, w_or, w_not, w_iteE, w_lmeth, t_val, t_tru, t_and, t_or, t_not, t_yes, w_ch0, w_ch1, w_ch2, w_pr0, w_pr1, w_ix20, w_ix21, w_ix30, w_ix31, w_ix32, w_inT, w_eqI, w_add, w_sub, w_lt, w_le, w_gt, w_ge, w_neg, w_lenT, w_int, w_min, w_max, w_tupT, onB_bl, truth_bl, x_seq, x_skip, KR_ret, TK_ret, TK_brk, TK_cnt, g_name, g_unp, g_allS, g_all0, g_sub, lz0, lz1, lz2, lz3, lz4, lz5, lz6, lz7, lz8, List.set, wipe, List.map_cons, List.map_nil, List.cons_append, List.nil_append, List.length_cons, List.length_nil, Nat.reduceAdd, Nat.reduceSub, List.replicate_succ, List.replicate_zero, eq_self, Bool.false_eq_true, if_true, if_false]
      refine draw_w P4 (by omega) (by omega) fun a s5 ha P5 k5 => ?_
      refine draw_w P5 (by omega) (by omega) fun b s6 hb P6 k6 => ?_
      have ha : a < n := by omega
      have hb : b < n := by omega
      have hrs6 := (k5.trans k6).2 _ _ (by simp; omega) hrs
      refine X_mono (N := fun en s7 => (∃ c : Bool, en = [some (.ref p), some (nv most), some (nv n), some (nv way), some (.ref s2.length), some (nv j), some (nv a), some (nv b), some (.bl c), none]) ∧ Pool s7 p q ∧ Kp [p, q] s6 s7) (K := fun _ => False) ?_ ?_ (fun _ h => h.elim)
      · refine x_asg ?_
        simp only [w_calln, w_call, w_cons, w_nil, w_tup, w_lst, w_op, w_un, w_c, w_var0, w_varS, w_and, w_or, w_not, w_iteE, w_lmeth, t_val, t_tru, t_and, t_or, t_not, t_yes, w_ch0, w_ch1, w_ch2, w_pr0, w_pr1, w_ix20, w_ix21, w_ix30, w_ix31, w_ix32, w_inT, w_eqI, w_add, w_sub, w_lt, w_le, w_gt, w_ge, w_neg, w_lenT, w_int, w_min, w_max, w_tupT, onB_bl, truth_bl, x_seq, x_skip, KR_ret, TK_ret, TK_brk, TK_cnt, g_name, g_unp, g_allS, g_all0, g_sub, lz0, lz1, lz2, lz3, lz4, lz5, lz6, lz7, lz8, List.set, wipe, List.map_cons, List.map_nil, List.cons_append, List.nil_append, List.length_cons, List.length_nil, Nat.reduceAdd, Nat.reduceSub, List.replicate_succ, List.replicate_zero, eq_self, Bool.false_eq_true, if_true, if_false]
        split
        · exact ⟨⟨_, rfl⟩, P6, Kp.refl _⟩
        · split
          · refine draw_w P6 (by omega) (by omega) fun c s7 hc P7 k7 => ?_
            simp only [w_calln, w_call, w_cons, w_nil, w_tup, w_lst, w_op, w_un, w_c, w_var0, w_varS, w_and, w_or, w_not, w_iteE, w_lmeth, t_val, t_tru, t_and, t_or, t_not, t_yes, w_ch0, w_ch1, w_ch2, w_pr0, w_pr1, w_ix20, w_ix21, w_ix30, w_ix31, w_ix32, w_inT, w_eqI, w_add, w_sub, w_lt, w_le, w_gt, w_ge, w_neg, w_lenT, w_int, w_min, w_max, w_tupT, onB_bl, truth_bl, x_seq, x_skip, KR_ret, TK_ret, TK_brk, TK_cnt, g_name, g_unp, g_allS, g_all0, g_sub, lz0, lz1, lz2, lz3, lz4, lz5, lz6, lz7, lz8, List.set, wipe, List.map_cons, List.map_nil, List.cons_append, List.nil_append, List.length_cons, List.length_nil, Nat.reduceAdd, Nat.reduceSub, List.replicate_succ, List.replicate_zero, eq_self, Bool.false_eq_true, if_true, if_false]
            exact ⟨⟨_, rfl⟩, P7, k7⟩
          · exact ⟨⟨_, rfl⟩, P6, Kp.refl _⟩
      · rintro en s7 ⟨⟨c, rfl⟩, P7, k7⟩
        have hrs7 := k7.2 _ _ (by simp; omega) hrs6
        have key : ∃ r : Nat × Nat, (r.1 < n ∧ r.2 < n) ∧ ∀ Q : AV → Sto → Prop, Q (pr r) s7 → W (E.ite (T.tru (E.var 8)) (E.tup (E.cons (E.call Mi.B.min2 (E.cons (E.var 6) (E.cons (E.var 7) (E.nil)))) (E.cons (E.call Mi.B.max2 (E.cons (E.var 6) (E.cons (E.var 7) (E.nil)))) (E.nil)))) (E.tup (E.cons (E.var 6) (E.cons (E.var 7) (E.nil)))) [some (.ref p), some (nv most), some (nv n), some (nv way), some (.ref s2.length), some (nv j), some (nv a), some (nv b), some (.bl c), none] s7) Q := by
          cases c with
          | false =>
            refine ⟨(a, b), ⟨ha, hb⟩, fun Q h => ?_⟩
            simp only [w_calln, w_call, w_cons, w_nil, w_tup, w_lst, w_op, w_un, w_c, w_var0, w_varS, w_and, w_or, w_not, w_iteE, w_lmeth, t_val, t_tru, t_and, t_or, t_not, t_yes, w_ch0, w_ch1, w_ch2, w_pr0, w_pr1, w_ix20, w_ix21, w_ix30, w_ix31, w_ix32, w_inT, w_eqI, w_add, w_sub, w_lt, w_le, w_gt, w_ge, w_neg, w_lenT, w_int, w_min, w_max, w_tupT, onB_bl, truth_bl, x_seq, x_skip, KR_ret, TK_ret, TK_brk, TK_cnt, g_name, g_unp, g_allS, g_all0, g_sub, lz0, lz1, lz2, lz3, lz4, lz5, lz6, lz7, lz8, List.set, wipe, List.map_cons, List.map_nil, List.cons_append, List.nil_append, List.length_cons, List.length_nil, Nat.reduceAdd, Nat.reduceSub, List.replicate_succ, List.replicate_zero, eq_self, Bool.false_eq_true, if_true, if_false]; exact h
          | true =>
            by_cases hab : b < a
            · refine ⟨(b, a), ⟨hb, ha⟩, fun Q h => ?_⟩
              simp only [w_calln, w_call, w_cons, w_nil, w_tup, w_lst, w_op, w_un, w_c, w_var0, w_varS, w_and, w_or, w_not, w_iteE, w_lmeth, t_val, t_tru, t_and, t_or, t_not, t_yes, w_ch0, w_ch1, w_ch2, w_pr0, w_pr1, w_ix20, w_ix21, w_ix30, w_ix31, w_ix32, w_inT, w_eqI, w_add, w_sub, w_lt, w_le, w_gt, w_ge, w_neg, w_lenT, w_int, w_min, w_max, w_tupT, onB_bl, truth_bl, x_seq, x_skip, KR_ret, TK_ret, TK_brk, TK_cnt, g_name, g_unp, g_allS, g_all0, g_sub, lz0, lz1, lz2, lz3, lz4, lz5, lz6, lz7, lz8, List.set, wipe, List.map_cons, List.map_nil, List.cons_append, List.nil_append, List.length_cons, List.length_nil, Nat.reduceAdd, Nat.reduceSub, List.replicate_succ, List.replicate_zero, eq_self, Bool.false_eq_true, if_true, if_false]
              rw [if_pos (by omega), if_neg (by omega)]; exact h
            · refine ⟨(a, b), ⟨ha, hb⟩, fun Q h => ?_⟩
              simp only [w_calln, w_call, w_cons, w_nil, w_tup, w_lst, w_op, w_un, w_c, w_var0, w_varS, w_and, w_or, w_not, w_iteE, w_lmeth, t_val, t_tru, t_and, t_or, t_not, t_yes, w_ch0, w_ch1, w_ch2, w_pr0, w_pr1, w_ix20, w_ix21, w_ix30, w_ix31, w_ix32, w_inT, w_eqI, w_add, w_sub, w_lt, w_le, w_gt, w_ge, w_neg, w_lenT, w_int, w_min, w_max, w_tupT, onB_bl, truth_bl, x_seq, x_skip, KR_ret, TK_ret, TK_brk, TK_cnt, g_name, g_unp, g_allS, g_all0, g_sub, lz0, lz1, lz2, lz3, lz4, lz5, lz6, lz7, lz8, List.set, wipe, List.map_cons, List.map_nil, List.cons_append, List.nil_append, List.length_cons, List.length_nil, Nat.reduceAdd, Nat.reduceSub, List.replicate_succ, List.replicate_zero, eq_self, Bool.false_eq_true, if_true, if_false]
              rw [if_neg (by omega)]
              by_cases hab2 : a < b
              · rw [if_pos (by omega)]; exact h
              · have : a = b := by omega
                subst this
                rw [if_neg (by omega)]; exact h
        obtain ⟨r, hr, key⟩ := key
        refine x_expr ?_
        simp only [w_lmeth, w_varS, w_var0, w_cons, w_nil]
        rw [if_pos (isLst_of hrs7)]
        refine key _ ?_
        rw [w_append hrs7 (by simp; unfold lineZ; omega)]
        refine ⟨⟨_, _, _, _, rfl⟩, P7.setN (by omega) (by omega), ?_, rs ++ [r], ?_, by simp; omega, ?_⟩
        · have : s.length ≤ s2.length := k02.1
          exact (((k4.trans k5).trans k6).trans k7).setN _ _ this
        · rw [List.getElem?_set_self (lt_of_get hrs7)]; simp
        · intro x hx
          rcases List.mem_append.mp hx with h | h
          · exact hin x h
          · rw [List.mem_singleton.mp h]; exact hr
    · rintro en s4 ⟨⟨o5, o6, o7, o8, rfl⟩, P4, k4, rs, hrs, hlen, hin⟩
      refine X_mono (N := fun en s5 => ∃ (o5 o6 o7 o8 o9 : Option AV) (lr : Nat) (rs : List (Nat × Nat)), en = [some (.ref p), some (nv most), some (nv n), some (nv way), some (.ref lr), o5, o6, o7, o8, o9] ∧ Pool s5 p q ∧ Kp [p, q] s s5 ∧ s5[lr]? = some (.lst (rs.map pr)) ∧ lr ≠ p ∧ lr ≠ q ∧ rs.length < 64 ∧ ∀ r ∈ rs, r.1 < n ∧ r.2 < n) (K := fun _ => False) ?_ ?_ (fun _ h => h.elim)
      · refine x_ife ?_
        simp only [w_calln, w_call, w_cons, w_nil, w_tup, w_lst, w_op, w_un, w_c, w_var0, w_varS, w_and, w_or, w_not, w_iteE, w_lmeth, t_val, t_tru, t_and, t_or, t_not, t_yes, w_ch0, w_ch1, w_ch2, w_pr0, w_pr1, w_ix20, w_ix21, w_ix30, w_ix31, w_ix32, w_inT, w_eqI, w_add, w_sub, w_lt, w_le, w_gt, w_ge, w_neg, w_lenT, w_int, w_min, w_max, w_tupT, onB_bl, truth_bl, x_seq, x_skip, KR_ret, TK_ret, TK_brk, TK_cnt, g_name, g_unp, g_allS, g_all0, g_sub, lz0, lz1, lz2, lz3, lz4, lz5, lz6, lz7, lz8, List.set, wipe, List.map_cons, List.map_nil, List.cons_append, List.nil_append, List.length_cons, List.length_nil, Nat.reduceAdd, Nat.reduceSub, List.replicate_succ, List.replicate_zero, eq_self, Bool.false_eq_true, if_true, if_false]
        split
        · refine x_asg ?_
          simp only [w_calln, w_call, w_cons, w_nil, w_tup, w_lst, w_op, w_un, w_c, w_var0, w_varS, w_and, w_or, w_not, w_iteE, w_lmeth, t_val, t_tru, t_and, t_or, t_not, t_yes, w_ch0, w_ch1, w_ch2, w_pr0, w_pr1, w_ix20, w_ix21, w_ix30, w_ix31, w_ix32, w_inT, w_eqI, w_add, w_sub, w_lt, w_le, w_gt, w_ge, w_neg, w_lenT, w_int, w_min, w_max, w_tupT, onB_bl, truth_bl, x_seq, x_skip, KR_ret, TK_ret, TK_brk, TK_cnt, g_name, g_unp, g_allS, g_all0, g_sub, lz0, lz1, lz2, lz3, lz4, lz5, lz6, lz7, lz8, List.set, wipe, List.map_cons, List.map_nil, List.cons_append, List.nil_append, List.length_cons, List.length_nil, Nat.reduceAdd, Nat.reduceSub, List.replicate_succ, List.replicate_zero, eq_self, Bool.false_eq_true, if_true, if_false]
          refine draw_w P4 (by omega) (by omega) fun z s5 hz P5 k5 => ?_
          have hrs5 := k5.2 _ _ (by simp; omega) hrs
          simp only [w_calln, w_call, w_cons, w_nil, w_tup, w_lst, w_op, w_un, w_c, w_var0, w_varS, w_and, w_or, w_not, w_iteE, w_lmeth, t_val, t_tru, t_and, t_or, t_not, t_yes, w_ch0, w_ch1, w_ch2, w_pr0, w_pr1, w_ix20, w_ix21, w_ix30, w_ix31, w_ix32, w_inT, w_eqI, w_add, w_sub, w_lt, w_le, w_gt, w_ge, w_neg, w_lenT, w_int, w_min, w_max, w_tupT, onB_bl, truth_bl, x_seq, x_skip, KR_ret, TK_ret, TK_brk, TK_cnt, g_name, g_unp, g_allS, g_all0, g_sub, lz0, lz1, lz2, lz3, lz4, lz5, lz6, lz7, lz8, List.set, wipe, List.map_cons, List.map_nil, List.cons_append, List.nil_append, List.length_cons, List.length_nil, Nat.reduceAdd, Nat.reduceSub, List.replicate_succ, List.replicate_zero, eq_self, Bool.false_eq_true, if_true, if_false]
          refine x_asg ?_
          simp only [w_calln, w_call, w_cons, w_nil, w_tup, w_lst, w_op, w_un, w_c, w_var0, w_varS, w_and, w_or, w_not, w_iteE, w_lmeth, t_val, t_tru, t_and, t_or, t_not, t_yes, w_ch0, w_ch1, w_ch2, w_pr0, w_pr1, w_ix20, w_ix21, w_ix30, w_ix31, w_ix32, w_inT, w_eqI, w_add, w_sub, w_lt, w_le, w_gt, w_ge, w_neg, w_lenT, w_int, w_min, w_max, w_tupT, onB_bl, truth_bl, x_seq, x_skip, KR_ret, TK_ret, TK_brk, TK_cnt, g_name, g_unp, g_allS, g_all0, g_sub, lz0, lz1, lz2, lz3, lz4, lz5, lz6, lz7, lz8, List.set, wipe, List.map_cons, List.map_nil, List.cons_append, List.nil_append, List.length_cons, List.length_nil, Nat.reduceAdd, Nat.reduceSub, List.replicate_succ, List.replicate_zero, eq_self, Bool.false_eq_true, if_true, if_false]
          refine lc_pure (List.range (n - 1)) nv (fun _ => true) (fun a => pr (a, if (a + 1) % (1 + z) > 0 ∧ a + 1 < n then a + 1 else a / (1 + z) * (1 + z))) (i_range ?_)
          simp only [w_calln, w_call, w_cons, w_nil, w_tup, w_lst, w_op, w_un, w_c, w_var0, w_varS, w_and, w_or, w_not, w_iteE, w_lmeth, t_val, t_tru, t_and, t_or, t_not, t_yes, w_ch0, w_ch1, w_ch2, w_pr0, w_pr1, w_ix20, w_ix21, w_ix30, w_ix31, w_ix32, w_inT, w_eqI, w_add, w_sub, w_lt, w_le, w_gt, w_ge, w_neg, w_lenT, w_int, w_min, w_max, w_tupT, onB_bl, truth_bl, x_seq, x_skip, KR_ret, TK_ret, TK_brk, TK_cnt, g_name, g_unp, g_allS, g_all0, g_sub, lz0, lz1, lz2, lz3, lz4, lz5, lz6, lz7, lz8, List.set, wipe, List.map_cons, List.map_nil, List.cons_append, List.nil_append, List.length_cons, List.length_nil, Nat.reduceAdd, Nat.reduceSub, List.replicate_succ, List.replicate_zero, eq_self, Bool.false_eq_true, if_true, if_false]
          refine .mk (n - 1) (by rw [show ((n : Int) - 1) = ((n - 1 : Nat) : Int) by omega]) (by omega) ?_
          refine .mk (by unfold lineZ; simp; omega) (Or.inl rfl) ?_ ?_
          · intro a ha s' hk
            have ha := List.mem_range.mp ha
            simp only [w_calln, w_call, w_cons, w_nil, w_tup, w_lst, w_op, w_un, w_c, w_var0, w_varS, w_and, w_or, w_not, w_iteE, w_lmeth, t_val, t_tru, t_and, t_or, t_not, t_yes, w_ch0, w_ch1, w_ch2, w_pr0, w_pr1, w_ix20, w_ix21, w_ix30, w_ix31, w_ix32, w_inT, w_eqI, w_add, w_sub, w_lt, w_le, w_gt, w_ge, w_neg, w_lenT, w_int, w_min, w_max, w_tupT, onB_bl, truth_bl, x_seq, x_skip, KR_ret, TK_ret, TK_brk, TK_cnt, g_name, g_unp, g_allS, g_all0, g_sub, lz0, lz1, lz2, lz3, lz4, lz5, lz6, lz7, lz8, List.set, wipe, List.map_cons, List.map_nil, List.cons_append, List.nil_append, List.length_cons, List.length_nil, Nat.reduceAdd, Nat.reduceSub, List.replicate_succ, List.replicate_zero, eq_self, Bool.false_eq_true, if_true, if_false, w_mod, w_mul, w_div]
            have e1 : ((a : Int) + 1) % (1 + (z : Int)) = (((a + 1) % (1 + z) : Nat) : Int) := by
              rw [Int.natCast_emod]; congr 1
            have e2 : (a : Int) / (1 + (z : Int)) * (1 + (z : Int)) = ((a / (1 + z) * (1 + z) : Nat) : Int) := by
              rw [Int.natCast_mul, Int.natCast_ediv]; congr 1
            have sm : (small ((a : Int) / (1 + (z : Int))) || small (1 + (z : Int))) = true := by
              rw [small_of (i := 1 + (z : Int)) (by omega) (by omega), Bool.or_true]
            rw [if_pos (show (0 : Int) < 1 + (z : Int) by omega), if_pos (show (0 : Int) < 1 + (z : Int) ∧ 1 + (z : Int) < 1073741824 by omega), e1, sm, if_pos rfl, e2]
            refine ⟨trivial, Kp.refl _, fun _ => ?_⟩
            unfold pr
            by_cases c1 : (a + 1) % (1 + z) > 0
            · by_cases c2 : a + 1 < n
              · rw [if_pos (decide_eq_true (by omega)), if_pos (decide_eq_true (by omega))]
                rw [if_pos ⟨c1, c2⟩]; exact ⟨rfl, Kp.refl _⟩
              · rw [if_pos (decide_eq_true (by omega)), if_neg (by simp; omega), if_neg (fun h => c2 h.2)]; exact ⟨rfl, Kp.refl _⟩
            · rw [if_neg (by simp; omega), if_neg (fun h => c1 h.1)]; simp only [Bool.false_eq_true, if_false]; exact ⟨trivial, Kp.refl _⟩
          intro s6 k6 h6
          have e6 : ((List.range (n - 1)).filter fun _ => true) = List.range (n - 1) := List.filter_eq_self.mpr (fun _ _ => rfl)
          rw [e6] at h6
          generalize hF : (fun a : Nat => ((a, if (a + 1) % (1 + z) > 0 ∧ a + 1 < n then a + 1 else a / (1 + z) * (1 + z)) : Nat × Nat)) = F
          have e7 : (List.range (n - 1)).map (fun a => pr (a, if (a + 1) % (1 + z) > 0 ∧ a + 1 < n then a + 1 else a / (1 + z) * (1 + z))) = ((List.range (n - 1)).map F).map pr := by
            rw [List.map_map, ← hF]; rfl
          rw [e7] at h6
          have hrs6 := k6.2 _ _ (by simp) hrs5
          rw [w_addL hrs6 h6 (by simp; omega), ← List.map_append]
          have k06 : Kp [p, q] s s6 := (k4.trans k5).trans k6.nil
          refine ⟨_, _, _, _, _, _, rs ++ (List.range (n - 1)).map F, rfl, P5.keep (Kp.app _ k6), k06.app _, by simp, ?_, ?_, ?_, ?_⟩
          · have := (P5.keep k6).lt; omega
          · have := (P5.keep k6).lt; omega
          · rw [List.length_append, List.length_map, List.length_range]; omega
          · intro r hr
            rcases List.mem_append.mp hr with h | h
            · exact hin r h
            · obtain ⟨a, ha, rfl⟩ := List.mem_map.mp h
              have ha := List.mem_range.mp ha
              subst hF
              refine ⟨by simp only; omega, ?_⟩
              simp only
              split
              · omega
              · have := Nat.div_mul_le_self a (1 + z); omega
        · exact ⟨_, _, _, _, _, _, rs, rfl, P4, k4, hrs, by omega, by omega, by omega, hin⟩
      · clear hrs hin hlen P4 k4
        rintro en s5 ⟨o5, o6, o7, o8, o9, lr, rs, rfl, P5, k5, hrs, np, nq, hl, hin⟩
        refine x_ret ?_
        simp only [w_calln, w_call, w_cons, w_nil, w_tup, w_lst, w_op, w_un, w_c, w_var0, w_varS, w_and, w_or, w_not, w_iteE, w_lmeth, t_val, t_tru, t_and, t_or, t_not, t_yes, w_ch0, w_ch1, w_ch2, w_pr0, w_pr1, w_ix20, w_ix21, w_ix30, w_ix31, w_ix32, w_inT, w_eqI, w_add, w_sub, w_lt, w_le, w_gt, w_ge, w_neg, w_lenT, w_int, w_min, w_max, w_tupT, onB_bl, truth_bl, x_seq, x_skip, KR_ret, TK_ret, TK_brk, TK_cnt, g_name, g_unp, g_allS, g_all0, g_sub, lz0, lz1, lz2, lz3, lz4, lz5, lz6, lz7, lz8, List.set, wipe, List.map_cons, List.map_nil, List.cons_append, List.nil_append, List.length_cons, List.length_nil, Nat.reduceAdd, Nat.reduceSub, List.replicate_succ, List.replicate_zero, eq_self, Bool.false_eq_true, if_true, if_false]
        refine some_wished_w P5 (by omega) hrs np nq (by omega) fun lw s6 ws0 hw1 hw2 P6 k6 hlw h6 => ?_
        have hpl5 := P5.lt
        refine map_named_w P6 (by omega) (k6.2 _ _ (by simp [np, nq]) hrs) np nq h6 (by omega) (by omega) hin hw1 hl hw2 fun l f s7 nm rs' ws' N V rl rmem wmem P7 k7 hl7 hf7 h7 hnm => ?_
        rw [show AV.int 0 = nv 0 from rfl, w_ixL (k := 0) (v := CH n rs' ws') (seqAt_lst h7) rfl]
        exact k s7 n rs' ws' hn' V rl P7 ((k5.trans k6).trans k7)
end
end Sp
namespace Sp
open PySem Mi Mr
/-- what an edit comes to -/
inductive Oc where
  | told (n : Nat) (rs : List (Nat × Nat)) (ws : List Nat)
  | bad (C : Nat) (w : AV)
def vl : AV → Nat
  | .int i => i.toNat
  | _ => 0
def ocA (way n : Nat) (rs : List (Nat × Nat)) (ws : List Nat) (x y : Nat) : Oc :=
  if way = 0 then (if (x, y) ∈ rs then .bad 5 (.int 0) else if 240 ≤ rs.length then .bad 4 (.int 240) else .told n (insA ple (x, y) rs) ws)
  else if way = 1 then (if (x, y) ∈ rs then .told n (delA (x, y) rs) ws else .bad 6 (.int 0))
  else if way = 2 then (if x ∈ ws then .bad 5 (.int 0) else .told n rs (insA nle x ws))
  else (if x ∈ ws then .told n rs (delA x ws) else .bad 7 (.int 0))
def oc (way n : Nat) (rs : List (Nat × Nat)) (ws : List Nat) (a b : AV) : Oc :=
  if plI n a = false then .bad 3 a else if way < 2 ∧ plI n b = false then .bad 3 b else ocA way n rs ws (vl a) (vl b)
def Tl (o : Oc) (v : AV) : Prop := match o with
  | .told n rs ws => v = CH n rs ws
  | .bad _ _ => False
def Bd (o : Oc) (C : Nat) (w : AV) : Prop := match o with
  | .told _ _ _ => False
  | .bad C' w' => C = C' ∧ w = w'
/-- a call answers so -/
def An (o : Oc) (s : Sto) (r : Res AV) : Prop := We r (fun v s' => Tl o v ∧ Kp [] s s') (fun C w s' => Bd o C w ∧ Kp [] s s')
section
variable {Q : AV → Sto → Prop} {s : Sto} {n : Nat} {rs : List (Nat × Nat)} {ws : List Nat} {a b : AV}
theorem ends_we {Er : Nat → AV → Sto → Prop} (V : VM n rs ws) (ha : kd a = true) (hb : kd b = true) (h : if plI n a = true then (if plI n b = true then Q .non s else Er 3 b s) else Er 3 a s) : We (m_check_ends [CH n rs ws, a, b] s) Q Er := by
  unfold m_check_ends b_check_ends
  refine d_run (by rfl) ?_
  simp only [w_calln, w_call, w_cons, w_nil, w_tup, w_lst, w_op, w_un, w_c, w_var0, w_varS, w_and, w_or, w_not, w_iteE, w_lmeth, t_val, t_tru, t_and, t_or, t_not, t_yes, w_ch0, w_ch1, w_ch2, w_pr0, w_pr1, w_ix20, w_ix21, w_ix30, w_ix31, w_ix32, w_inT, w_eqI, w_add, w_sub, w_lt, w_le, w_gt, w_ge, w_neg, w_lenT, w_int, w_min, w_max, w_tupT, onB_bl, truth_bl, x_seq, x_skip, KR_ret, TK_ret, TK_brk, TK_cnt, g_name, g_unp, g_allS, g_all0, g_sub, lz0, lz1, lz2, lz3, lz4, lz5, lz6, lz7, lz8, List.set, wipe, List.map_cons, List.map_nil, List.cons_append, List.nil_append, List.length_cons, List.length_nil, Nat.reduceAdd, Nat.reduceSub, List.replicate_succ, List.replicate_zero, eq_self, Bool.false_eq_true, if_true, if_false]
  refine x_expr ?_
  simp only [w_calln, w_call, w_cons, w_nil, w_tup, w_lst, w_op, w_un, w_c, w_var0, w_varS, w_and, w_or, w_not, w_iteE, w_lmeth, t_val, t_tru, t_and, t_or, t_not, t_yes, w_ch0, w_ch1, w_ch2, w_pr0, w_pr1, w_ix20, w_ix21, w_ix30, w_ix31, w_ix32, w_inT, w_eqI, w_add, w_sub, w_lt, w_le, w_gt, w_ge, w_neg, w_lenT, w_int, w_min, w_max, w_tupT, onB_bl, truth_bl, x_seq, x_skip, KR_ret, TK_ret, TK_brk, TK_cnt, g_name, g_unp, g_allS, g_all0, g_sub, lz0, lz1, lz2, lz3, lz4, lz5, lz6, lz7, lz8, List.set, wipe, List.map_cons, List.map_nil, List.cons_append, List.nil_append, List.length_cons, List.length_nil, Nat.reduceAdd, Nat.reduceSub, List.replicate_succ, List.replicate_zero, eq_self, Bool.false_eq_true, if_true, if_false]
  rw [W_of_eq (made_e V)]
  refine x_exprE ?_
  refine we_call ?_
  simp only [w_calln, w_call, w_cons, w_nil, w_tup, w_lst, w_op, w_un, w_c, w_var0, w_varS, w_and, w_or, w_not, w_iteE, w_lmeth, t_val, t_tru, t_and, t_or, t_not, t_yes, w_ch0, w_ch1, w_ch2, w_pr0, w_pr1, w_ix20, w_ix21, w_ix30, w_ix31, w_ix32, w_inT, w_eqI, w_add, w_sub, w_lt, w_le, w_gt, w_ge, w_neg, w_lenT, w_int, w_min, w_max, w_tupT, onB_bl, truth_bl, x_seq, x_skip, KR_ret, TK_ret, TK_brk, TK_cnt, g_name, g_unp, g_allS, g_all0, g_sub, lz0, lz1, lz2, lz3, lz4, lz5, lz6, lz7, lz8, List.set, wipe, List.map_cons, List.map_nil, List.cons_append, List.nil_append, List.length_cons, List.length_nil, Nat.reduceAdd, Nat.reduceSub, List.replicate_succ, List.replicate_zero, eq_self, Bool.false_eq_true, if_true, if_false]
  refine check_we ha ?_
  cases hp : plI n a with
  | false => rw [hp] at h; simpa using h
  | true =>
    rw [hp] at h
    simp only [if_true] at h ⊢
    refine x_exprE ?_
    refine we_call ?_
    simp only [w_calln, w_call, w_cons, w_nil, w_tup, w_lst, w_op, w_un, w_c, w_var0, w_varS, w_and, w_or, w_not, w_iteE, w_lmeth, t_val, t_tru, t_and, t_or, t_not, t_yes, w_ch0, w_ch1, w_ch2, w_pr0, w_pr1, w_ix20, w_ix21, w_ix30, w_ix31, w_ix32, w_inT, w_eqI, w_add, w_sub, w_lt, w_le, w_gt, w_ge, w_neg, w_lenT, w_int, w_min, w_max, w_tupT, onB_bl, truth_bl, x_seq, x_skip, KR_ret, TK_ret, TK_brk, TK_cnt, g_name, g_unp, g_allS, g_all0, g_sub, lz0, lz1, lz2, lz3, lz4, lz5, lz6, lz7, lz8, List.set, wipe, List.map_cons, List.map_nil, List.cons_append, List.nil_append, List.length_cons, List.length_nil, Nat.reduceAdd, Nat.reduceSub, List.replicate_succ, List.replicate_zero, eq_self, Bool.false_eq_true, if_true, if_false]
    refine check_we hb ?_
    cases hp2 : plI n b with
    | false => rw [hp2] at h; simpa using h
    | true => rw [hp2] at h; simpa using h
theorem vl_nv (k : Nat) : vl (nv k) = k := by unfold vl nv; simp
theorem oc_nn {way x y : Nat} (hx : x < n) (hy : y < n) : oc way n rs ws (nv x) (nv y) = ocA way n rs ws x y := by
  unfold oc
  rw [plI_nv, plI_nv, decide_eq_true hx, decide_eq_true hy, if_neg (by simp), if_neg (by simp), vl_nv, vl_nv]
theorem oc_n {way x : Nat} (hx : x < n) (hw : 2 ≤ way) : oc way n rs ws (nv x) b = ocA way n rs ws x (vl b) := by
  unfold oc
  rw [plI_nv, decide_eq_true hx, if_neg (by simp), if_neg (by omega), vl_nv]
theorem oc_a {way : Nat} (h : plI n a = false) : oc way n rs ws a b = .bad 3 a := by unfold oc; rw [if_pos h]
theorem oc_b {way : Nat} (h0 : plI n a = true) (h : plI n b = false) (hw : way < 2) : oc way n rs ws a b = .bad 3 b := by
  unfold oc; rw [if_neg (by rw [h0]; simp), if_pos ⟨hw, h⟩]
theorem pr_of (x y : Nat) : AV.tup [nv x, nv y] = pr (x, y) := rfl
theorem with_road_an (V : VM n rs ws) (ha : kd a = true) (hb : kd b = true) : An (oc 0 n rs ws a b) s (m_with_road [CH n rs ws, a, b] s) := by
  unfold An m_with_road b_with_road
  have hr := V.hr
  refine d_run (by rfl) ?_
  simp only [w_calln, w_call, w_cons, w_nil, w_tup, w_lst, w_op, w_un, w_c, w_var0, w_varS, w_and, w_or, w_not, w_iteE, w_lmeth, t_val, t_tru, t_and, t_or, t_not, t_yes, w_ch0, w_ch1, w_ch2, w_pr0, w_pr1, w_ix20, w_ix21, w_ix30, w_ix31, w_ix32, w_inT, w_eqI, w_add, w_sub, w_lt, w_le, w_gt, w_ge, w_neg, w_lenT, w_int, w_min, w_max, w_tupT, onB_bl, truth_bl, x_seq, x_skip, KR_ret, TK_ret, TK_brk, TK_cnt, g_name, g_unp, g_allS, g_all0, g_sub, lz0, lz1, lz2, lz3, lz4, lz5, lz6, lz7, lz8, List.set, wipe, List.map_cons, List.map_nil, List.cons_append, List.nil_append, List.length_cons, List.length_nil, Nat.reduceAdd, Nat.reduceSub, List.replicate_succ, List.replicate_zero, eq_self, Bool.false_eq_true, if_true, if_false]
  refine x_exprE ?_
  refine we_call ?_
  simp only [w_calln, w_call, w_cons, w_nil, w_tup, w_lst, w_op, w_un, w_c, w_var0, w_varS, w_and, w_or, w_not, w_iteE, w_lmeth, t_val, t_tru, t_and, t_or, t_not, t_yes, w_ch0, w_ch1, w_ch2, w_pr0, w_pr1, w_ix20, w_ix21, w_ix30, w_ix31, w_ix32, w_inT, w_eqI, w_add, w_sub, w_lt, w_le, w_gt, w_ge, w_neg, w_lenT, w_int, w_min, w_max, w_tupT, onB_bl, truth_bl, x_seq, x_skip, KR_ret, TK_ret, TK_brk, TK_cnt, g_name, g_unp, g_allS, g_all0, g_sub, lz0, lz1, lz2, lz3, lz4, lz5, lz6, lz7, lz8, List.set, wipe, List.map_cons, List.map_nil, List.cons_append, List.nil_append, List.length_cons, List.length_nil, Nat.reduceAdd, Nat.reduceSub, List.replicate_succ, List.replicate_zero, eq_self, Bool.false_eq_true, if_true, if_false]
  refine ends_we V ha hb ?_
  cases hpa : plI n a with
  | false => rw [oc_a hpa]; simp only [Bool.false_eq_true, if_false, KE_err]; exact ⟨⟨rfl, rfl⟩, Kp.refl _⟩
  | true =>
    cases hpb : plI n b with
    | false => rw [oc_b hpa hpb (by decide)]; simp only [Bool.false_eq_true, if_false, if_true, KE_err]; exact ⟨⟨rfl, rfl⟩, Kp.refl _⟩
    | true =>
      obtain ⟨x, rfl, hx⟩ := of_plI hpa
      obtain ⟨y, rfl, hy⟩ := of_plI hpb
      rw [oc_nn hx hy]
      simp only [if_true]
      refine x_asg ?_
      simp only [w_calln, w_call, w_cons, w_nil, w_tup, w_lst, w_op, w_un, w_c, w_var0, w_varS, w_and, w_or, w_not, w_iteE, w_lmeth, t_val, t_tru, t_and, t_or, t_not, t_yes, w_ch0, w_ch1, w_ch2, w_pr0, w_pr1, w_ix20, w_ix21, w_ix30, w_ix31, w_ix32, w_inT, w_eqI, w_add, w_sub, w_lt, w_le, w_gt, w_ge, w_neg, w_lenT, w_int, w_min, w_max, w_tupT, onB_bl, truth_bl, x_seq, x_skip, KR_ret, TK_ret, TK_brk, TK_cnt, g_name, g_unp, g_allS, g_all0, g_sub, lz0, lz1, lz2, lz3, lz4, lz5, lz6, lz7, lz8, List.set, wipe, List.map_cons, List.map_nil, List.cons_append, List.nil_append, List.length_cons, List.length_nil, Nat.reduceAdd, Nat.reduceSub, List.replicate_succ, List.replicate_zero, eq_self, Bool.false_eq_true, if_true, if_false, CH]
      refine x_ife ?_
      simp only [w_calln, w_call, w_cons, w_nil, w_tup, w_lst, w_op, w_un, w_c, w_var0, w_varS, w_and, w_or, w_not, w_iteE, w_lmeth, t_val, t_tru, t_and, t_or, t_not, t_yes, w_ch0, w_ch1, w_ch2, w_pr0, w_pr1, w_ix20, w_ix21, w_ix30, w_ix31, w_ix32, w_inT, w_eqI, w_add, w_sub, w_lt, w_le, w_gt, w_ge, w_neg, w_lenT, w_int, w_min, w_max, w_tupT, onB_bl, truth_bl, x_seq, x_skip, KR_ret, TK_ret, TK_brk, TK_cnt, g_name, g_unp, g_allS, g_all0, g_sub, lz0, lz1, lz2, lz3, lz4, lz5, lz6, lz7, lz8, List.set, wipe, List.map_cons, List.map_nil, List.cons_append, List.nil_append, List.length_cons, List.length_nil, Nat.reduceAdd, Nat.reduceSub, List.replicate_succ, List.replicate_zero, eq_self, Bool.false_eq_true, if_true, if_false, pr_of, w_inP, ocA]
      by_cases hm : (x, y) ∈ rs
      · simp only [hm, decide_true, if_true, Bool.false_bne]
        refine x_raise ?_
        simp only [w_calln, w_call, w_cons, w_nil, w_tup, w_lst, w_op, w_un, w_c, w_var0, w_varS, w_and, w_or, w_not, w_iteE, w_lmeth, t_val, t_tru, t_and, t_or, t_not, t_yes, w_ch0, w_ch1, w_ch2, w_pr0, w_pr1, w_ix20, w_ix21, w_ix30, w_ix31, w_ix32, w_inT, w_eqI, w_add, w_sub, w_lt, w_le, w_gt, w_ge, w_neg, w_lenT, w_int, w_min, w_max, w_tupT, onB_bl, truth_bl, x_seq, x_skip, KR_ret, TK_ret, TK_brk, TK_cnt, g_name, g_unp, g_allS, g_all0, g_sub, lz0, lz1, lz2, lz3, lz4, lz5, lz6, lz7, lz8, List.set, wipe, List.map_cons, List.map_nil, List.cons_append, List.nil_append, List.length_cons, List.length_nil, Nat.reduceAdd, Nat.reduceSub, List.replicate_succ, List.replicate_zero, eq_self, Bool.false_eq_true, if_true, if_false, KE_err]
        exact ⟨⟨rfl, rfl⟩, Kp.refl _⟩
      · simp only [hm, decide_false, if_false, Bool.false_bne, Bool.false_eq_true]
        skip
        refine x_ife ?_
        simp only [w_calln, w_call, w_cons, w_nil, w_tup, w_lst, w_op, w_un, w_c, w_var0, w_varS, w_and, w_or, w_not, w_iteE, w_lmeth, t_val, t_tru, t_and, t_or, t_not, t_yes, w_ch0, w_ch1, w_ch2, w_pr0, w_pr1, w_ix20, w_ix21, w_ix30, w_ix31, w_ix32, w_inT, w_eqI, w_add, w_sub, w_lt, w_le, w_gt, w_ge, w_neg, w_lenT, w_int, w_min, w_max, w_tupT, onB_bl, truth_bl, x_seq, x_skip, KR_ret, TK_ret, TK_brk, TK_cnt, g_name, g_unp, g_allS, g_all0, g_sub, lz0, lz1, lz2, lz3, lz4, lz5, lz6, lz7, lz8, List.set, wipe, List.map_cons, List.map_nil, List.cons_append, List.nil_append, List.length_cons, List.length_nil, Nat.reduceAdd, Nat.reduceSub, List.replicate_succ, List.replicate_zero, eq_self, Bool.false_eq_true, if_true, if_false, List.length_map]
        by_cases hl : 240 ≤ rs.length
        · rw [if_pos (decide_eq_true (by omega))]
          refine x_raise ?_
          simp only [w_calln, w_call, w_cons, w_nil, w_tup, w_lst, w_op, w_un, w_c, w_var0, w_varS, w_and, w_or, w_not, w_iteE, w_lmeth, t_val, t_tru, t_and, t_or, t_not, t_yes, w_ch0, w_ch1, w_ch2, w_pr0, w_pr1, w_ix20, w_ix21, w_ix30, w_ix31, w_ix32, w_inT, w_eqI, w_add, w_sub, w_lt, w_le, w_gt, w_ge, w_neg, w_lenT, w_int, w_min, w_max, w_tupT, onB_bl, truth_bl, x_seq, x_skip, KR_ret, TK_ret, TK_brk, TK_cnt, g_name, g_unp, g_allS, g_all0, g_sub, lz0, lz1, lz2, lz3, lz4, lz5, lz6, lz7, lz8, List.set, wipe, List.map_cons, List.map_nil, List.cons_append, List.nil_append, List.length_cons, List.length_nil, Nat.reduceAdd, Nat.reduceSub, List.replicate_succ, List.replicate_zero, eq_self, Bool.false_eq_true, if_true, if_false, KE_err, hl]
          exact ⟨⟨rfl, rfl⟩, Kp.refl _⟩
        · rw [if_neg (by simp; omega)]
          simp only [w_calln, w_call, w_cons, w_nil, w_tup, w_lst, w_op, w_un, w_c, w_var0, w_varS, w_and, w_or, w_not, w_iteE, w_lmeth, t_val, t_tru, t_and, t_or, t_not, t_yes, w_ch0, w_ch1, w_ch2, w_pr0, w_pr1, w_ix20, w_ix21, w_ix30, w_ix31, w_ix32, w_inT, w_eqI, w_add, w_sub, w_lt, w_le, w_gt, w_ge, w_neg, w_lenT, w_int, w_min, w_max, w_tupT, onB_bl, truth_bl, x_seq, x_skip, KR_ret, TK_ret, TK_brk, TK_cnt, g_name, g_unp, g_allS, g_all0, g_sub, lz0, lz1, lz2, lz3, lz4, lz5, lz6, lz7, lz8, List.set, wipe, List.map_cons, List.map_nil, List.cons_append, List.nil_append, List.length_cons, List.length_nil, Nat.reduceAdd, Nat.reduceSub, List.replicate_succ, List.replicate_zero, eq_self, Bool.false_eq_true, if_true, if_false, hl]
          refine x_ret ?_
          simp only [w_calln, w_call, w_cons, w_nil, w_tup, w_lst, w_op, w_un, w_c, w_var0, w_varS, w_and, w_or, w_not, w_iteE, w_lmeth, t_val, t_tru, t_and, t_or, t_not, t_yes, w_ch0, w_ch1, w_ch2, w_pr0, w_pr1, w_ix20, w_ix21, w_ix30, w_ix31, w_ix32, w_inT, w_eqI, w_add, w_sub, w_lt, w_le, w_gt, w_ge, w_neg, w_lenT, w_int, w_min, w_max, w_tupT, onB_bl, truth_bl, x_seq, x_skip, KR_ret, TK_ret, TK_brk, TK_cnt, g_name, g_unp, g_allS, g_all0, g_sub, lz0, lz1, lz2, lz3, lz4, lz5, lz6, lz7, lz8, List.set, wipe, List.map_cons, List.map_nil, List.cons_append, List.nil_append, List.length_cons, List.length_nil, Nat.reduceAdd, Nat.reduceSub, List.replicate_succ, List.replicate_zero, eq_self, Bool.false_eq_true, if_true, if_false, pr_of]
          rw [w_addT _ _ (by simp; omega)]
          have e : rs.map pr ++ [pr (x, y)] = (rs ++ [(x, y)]).map pr := by simp
          rw [e, sortedT_w ple_s (by simp; omega) (srt_pr _), w_tupL (xs := (((rs ++ [(x, y)]).mergeSort ple).map pr)) (seqAt_lst (by simp)), ins_sorted pleO V.ar hm]
          simp only [KE_ret]
          exact ⟨rfl, Kp.app _ (Kp.refl _)⟩
theorem without_road_an (V : VM n rs ws) (ha : kd a = true) (hb : kd b = true) : An (oc 1 n rs ws a b) s (m_without_road [CH n rs ws, a, b] s) := by
  unfold An m_without_road b_without_road
  have hr := V.hr
  refine d_run (by rfl) ?_
  simp only [w_calln, w_call, w_cons, w_nil, w_tup, w_lst, w_op, w_un, w_c, w_var0, w_varS, w_and, w_or, w_not, w_iteE, w_lmeth, t_val, t_tru, t_and, t_or, t_not, t_yes, w_ch0, w_ch1, w_ch2, w_pr0, w_pr1, w_ix20, w_ix21, w_ix30, w_ix31, w_ix32, w_inT, w_eqI, w_add, w_sub, w_lt, w_le, w_gt, w_ge, w_neg, w_lenT, w_int, w_min, w_max, w_tupT, onB_bl, truth_bl, x_seq, x_skip, KR_ret, TK_ret, TK_brk, TK_cnt, g_name, g_unp, g_allS, g_all0, g_sub, lz0, lz1, lz2, lz3, lz4, lz5, lz6, lz7, lz8, List.set, wipe, List.map_cons, List.map_nil, List.cons_append, List.nil_append, List.length_cons, List.length_nil, Nat.reduceAdd, Nat.reduceSub, List.replicate_succ, List.replicate_zero, eq_self, Bool.false_eq_true, if_true, if_false]
  refine x_exprE ?_
  refine we_call ?_
  simp only [w_calln, w_call, w_cons, w_nil, w_tup, w_lst, w_op, w_un, w_c, w_var0, w_varS, w_and, w_or, w_not, w_iteE, w_lmeth, t_val, t_tru, t_and, t_or, t_not, t_yes, w_ch0, w_ch1, w_ch2, w_pr0, w_pr1, w_ix20, w_ix21, w_ix30, w_ix31, w_ix32, w_inT, w_eqI, w_add, w_sub, w_lt, w_le, w_gt, w_ge, w_neg, w_lenT, w_int, w_min, w_max, w_tupT, onB_bl, truth_bl, x_seq, x_skip, KR_ret, TK_ret, TK_brk, TK_cnt, g_name, g_unp, g_allS, g_all0, g_sub, lz0, lz1, lz2, lz3, lz4, lz5, lz6, lz7, lz8, List.set, wipe, List.map_cons, List.map_nil, List.cons_append, List.nil_append, List.length_cons, List.length_nil, Nat.reduceAdd, Nat.reduceSub, List.replicate_succ, List.replicate_zero, eq_self, Bool.false_eq_true, if_true, if_false]
  refine ends_we V ha hb ?_
  cases hpa : plI n a with
  | false => rw [oc_a hpa]; simp only [Bool.false_eq_true, if_false, KE_err]; exact ⟨⟨rfl, rfl⟩, Kp.refl _⟩
  | true =>
    cases hpb : plI n b with
    | false => rw [oc_b hpa hpb (by decide)]; simp only [Bool.false_eq_true, if_false, if_true, KE_err]; exact ⟨⟨rfl, rfl⟩, Kp.refl _⟩
    | true =>
      obtain ⟨x, rfl, hx⟩ := of_plI hpa
      obtain ⟨y, rfl, hy⟩ := of_plI hpb
      rw [oc_nn hx hy]
      simp only [if_true]
      refine x_asg ?_
      simp only [w_calln, w_call, w_cons, w_nil, w_tup, w_lst, w_op, w_un, w_c, w_var0, w_varS, w_and, w_or, w_not, w_iteE, w_lmeth, t_val, t_tru, t_and, t_or, t_not, t_yes, w_ch0, w_ch1, w_ch2, w_pr0, w_pr1, w_ix20, w_ix21, w_ix30, w_ix31, w_ix32, w_inT, w_eqI, w_add, w_sub, w_lt, w_le, w_gt, w_ge, w_neg, w_lenT, w_int, w_min, w_max, w_tupT, onB_bl, truth_bl, x_seq, x_skip, KR_ret, TK_ret, TK_brk, TK_cnt, g_name, g_unp, g_allS, g_all0, g_sub, lz0, lz1, lz2, lz3, lz4, lz5, lz6, lz7, lz8, List.set, wipe, List.map_cons, List.map_nil, List.cons_append, List.nil_append, List.length_cons, List.length_nil, Nat.reduceAdd, Nat.reduceSub, List.replicate_succ, List.replicate_zero, eq_self, Bool.false_eq_true, if_true, if_false, CH]
      refine x_ife ?_
      simp only [w_calln, w_call, w_cons, w_nil, w_tup, w_lst, w_op, w_un, w_c, w_var0, w_varS, w_and, w_or, w_not, w_iteE, w_lmeth, t_val, t_tru, t_and, t_or, t_not, t_yes, w_ch0, w_ch1, w_ch2, w_pr0, w_pr1, w_ix20, w_ix21, w_ix30, w_ix31, w_ix32, w_inT, w_eqI, w_add, w_sub, w_lt, w_le, w_gt, w_ge, w_neg, w_lenT, w_int, w_min, w_max, w_tupT, onB_bl, truth_bl, x_seq, x_skip, KR_ret, TK_ret, TK_brk, TK_cnt, g_name, g_unp, g_allS, g_all0, g_sub, lz0, lz1, lz2, lz3, lz4, lz5, lz6, lz7, lz8, List.set, wipe, List.map_cons, List.map_nil, List.cons_append, List.nil_append, List.length_cons, List.length_nil, Nat.reduceAdd, Nat.reduceSub, List.replicate_succ, List.replicate_zero, eq_self, Bool.false_eq_true, if_true, if_false, pr_of, w_inP, ocA]
      by_cases hm : (x, y) ∈ rs
      · simp only [hm, decide_true, if_true, Bool.true_bne, Bool.not_true, Bool.false_eq_true, if_false, Nat.one_ne_zero]
        skip
        refine x_ret ?_
        simp only [w_calln, w_call, w_cons, w_nil, w_tup, w_lst, w_op, w_un, w_c, w_var0, w_varS, w_and, w_or, w_not, w_iteE, w_lmeth, t_val, t_tru, t_and, t_or, t_not, t_yes, w_ch0, w_ch1, w_ch2, w_pr0, w_pr1, w_ix20, w_ix21, w_ix30, w_ix31, w_ix32, w_inT, w_eqI, w_add, w_sub, w_lt, w_le, w_gt, w_ge, w_neg, w_lenT, w_int, w_min, w_max, w_tupT, onB_bl, truth_bl, x_seq, x_skip, KR_ret, TK_ret, TK_brk, TK_cnt, g_name, g_unp, g_allS, g_all0, g_sub, lz0, lz1, lz2, lz3, lz4, lz5, lz6, lz7, lz8, List.set, wipe, List.map_cons, List.map_nil, List.cons_append, List.nil_append, List.length_cons, List.length_nil, Nat.reduceAdd, Nat.reduceSub, List.replicate_succ, List.replicate_zero, eq_self, Bool.false_eq_true, if_true, if_false]
        refine lc_pure rs pr (fun r => !decide (r = (x, y))) pr (i_seq ?_)
        simp only [w_calln, w_call, w_cons, w_nil, w_tup, w_lst, w_op, w_un, w_c, w_var0, w_varS, w_and, w_or, w_not, w_iteE, w_lmeth, t_val, t_tru, t_and, t_or, t_not, t_yes, w_ch0, w_ch1, w_ch2, w_pr0, w_pr1, w_ix20, w_ix21, w_ix30, w_ix31, w_ix32, w_inT, w_eqI, w_add, w_sub, w_lt, w_le, w_gt, w_ge, w_neg, w_lenT, w_int, w_min, w_max, w_tupT, onB_bl, truth_bl, x_seq, x_skip, KR_ret, TK_ret, TK_brk, TK_cnt, g_name, g_unp, g_allS, g_all0, g_sub, lz0, lz1, lz2, lz3, lz4, lz5, lz6, lz7, lz8, List.set, wipe, List.map_cons, List.map_nil, List.cons_append, List.nil_append, List.length_cons, List.length_nil, Nat.reduceAdd, Nat.reduceSub, List.replicate_succ, List.replicate_zero, eq_self, Bool.false_eq_true, if_true, if_false]
        refine .mk _ (Lk.tup _ _) (fun _ => ?_) (fun _ e => nomatch e)
        refine .mk (by unfold lineZ; omega) (Or.inl rfl) ?_ ?_
        · intro r hr s' hk
          simp only [w_calln, w_call, w_cons, w_nil, w_tup, w_lst, w_op, w_un, w_c, w_var0, w_varS, w_and, w_or, w_not, w_iteE, w_lmeth, t_val, t_tru, t_and, t_or, t_not, t_yes, w_ch0, w_ch1, w_ch2, w_pr0, w_pr1, w_ix20, w_ix21, w_ix30, w_ix31, w_ix32, w_inT, w_eqI, w_add, w_sub, w_lt, w_le, w_gt, w_ge, w_neg, w_lenT, w_int, w_min, w_max, w_tupT, onB_bl, truth_bl, x_seq, x_skip, KR_ret, TK_ret, TK_brk, TK_cnt, g_name, g_unp, g_allS, g_all0, g_sub, lz0, lz1, lz2, lz3, lz4, lz5, lz6, lz7, lz8, List.set, wipe, List.map_cons, List.map_nil, List.cons_append, List.nil_append, List.length_cons, List.length_nil, Nat.reduceAdd, Nat.reduceSub, List.replicate_succ, List.replicate_zero, eq_self, Bool.false_eq_true, if_true, if_false, pr_of, w_eqPr, Bool.true_bne]
          exact ⟨trivial, Kp.refl _, fun _ => ⟨trivial, Kp.refl _⟩⟩
        · intro s' hk hD
          rw [w_tupL (seqAt_lst hD)]
          simp only [w_calln, w_call, w_cons, w_nil, w_tup, w_lst, w_op, w_un, w_c, w_var0, w_varS, w_and, w_or, w_not, w_iteE, w_lmeth, t_val, t_tru, t_and, t_or, t_not, t_yes, w_ch0, w_ch1, w_ch2, w_pr0, w_pr1, w_ix20, w_ix21, w_ix30, w_ix31, w_ix32, w_inT, w_eqI, w_add, w_sub, w_lt, w_le, w_gt, w_ge, w_neg, w_lenT, w_int, w_min, w_max, w_tupT, onB_bl, truth_bl, x_seq, x_skip, KR_ret, TK_ret, TK_brk, TK_cnt, g_name, g_unp, g_allS, g_all0, g_sub, lz0, lz1, lz2, lz3, lz4, lz5, lz6, lz7, lz8, List.set, wipe, List.map_cons, List.map_nil, List.cons_append, List.nil_append, List.length_cons, List.length_nil, Nat.reduceAdd, Nat.reduceSub, List.replicate_succ, List.replicate_zero, eq_self, Bool.false_eq_true, if_true, if_false, KE_ret]
          exact ⟨rfl, hk⟩
      · simp only [hm, decide_false, if_false, Bool.true_bne, Bool.not_false, if_true, Nat.one_ne_zero]
        refine x_raise ?_
        simp only [w_calln, w_call, w_cons, w_nil, w_tup, w_lst, w_op, w_un, w_c, w_var0, w_varS, w_and, w_or, w_not, w_iteE, w_lmeth, t_val, t_tru, t_and, t_or, t_not, t_yes, w_ch0, w_ch1, w_ch2, w_pr0, w_pr1, w_ix20, w_ix21, w_ix30, w_ix31, w_ix32, w_inT, w_eqI, w_add, w_sub, w_lt, w_le, w_gt, w_ge, w_neg, w_lenT, w_int, w_min, w_max, w_tupT, onB_bl, truth_bl, x_seq, x_skip, KR_ret, TK_ret, TK_brk, TK_cnt, g_name, g_unp, g_allS, g_all0, g_sub, lz0, lz1, lz2, lz3, lz4, lz5, lz6, lz7, lz8, List.set, wipe, List.map_cons, List.map_nil, List.cons_append, List.nil_append, List.length_cons, List.length_nil, Nat.reduceAdd, Nat.reduceSub, List.replicate_succ, List.replicate_zero, eq_self, Bool.false_eq_true, if_true, if_false, KE_err]
        exact ⟨⟨rfl, rfl⟩, Kp.refl _⟩
theorem with_wish_an (V : VM n rs ws) (ha : kd a = true) : An (oc 2 n rs ws a b) s (m_with_wish [CH n rs ws, a] s) := by
  unfold An m_with_wish b_with_wish
  have hwl := asc_len V
  refine d_run (by rfl) ?_
  simp only [w_calln, w_call, w_cons, w_nil, w_tup, w_lst, w_op, w_un, w_c, w_var0, w_varS, w_and, w_or, w_not, w_iteE, w_lmeth, t_val, t_tru, t_and, t_or, t_not, t_yes, w_ch0, w_ch1, w_ch2, w_pr0, w_pr1, w_ix20, w_ix21, w_ix30, w_ix31, w_ix32, w_inT, w_eqI, w_add, w_sub, w_lt, w_le, w_gt, w_ge, w_neg, w_lenT, w_int, w_min, w_max, w_tupT, onB_bl, truth_bl, x_seq, x_skip, KR_ret, TK_ret, TK_brk, TK_cnt, g_name, g_unp, g_allS, g_all0, g_sub, lz0, lz1, lz2, lz3, lz4, lz5, lz6, lz7, lz8, List.set, wipe, List.map_cons, List.map_nil, List.cons_append, List.nil_append, List.length_cons, List.length_nil, Nat.reduceAdd, Nat.reduceSub, List.replicate_succ, List.replicate_zero, eq_self, Bool.false_eq_true, if_true, if_false]
  refine x_exprE ?_
  refine we_call ?_
  simp only [w_calln, w_call, w_cons, w_nil, w_tup, w_lst, w_op, w_un, w_c, w_var0, w_varS, w_and, w_or, w_not, w_iteE, w_lmeth, t_val, t_tru, t_and, t_or, t_not, t_yes, w_ch0, w_ch1, w_ch2, w_pr0, w_pr1, w_ix20, w_ix21, w_ix30, w_ix31, w_ix32, w_inT, w_eqI, w_add, w_sub, w_lt, w_le, w_gt, w_ge, w_neg, w_lenT, w_int, w_min, w_max, w_tupT, onB_bl, truth_bl, x_seq, x_skip, KR_ret, TK_ret, TK_brk, TK_cnt, g_name, g_unp, g_allS, g_all0, g_sub, lz0, lz1, lz2, lz3, lz4, lz5, lz6, lz7, lz8, List.set, wipe, List.map_cons, List.map_nil, List.cons_append, List.nil_append, List.length_cons, List.length_nil, Nat.reduceAdd, Nat.reduceSub, List.replicate_succ, List.replicate_zero, eq_self, Bool.false_eq_true, if_true, if_false]
  rw [W_of_eq (made_e V)]
  refine check_we ha ?_
  cases hpa : plI n a with
  | false => rw [oc_a hpa]; simp only [Bool.false_eq_true, if_false, KE_err]; exact ⟨⟨rfl, rfl⟩, Kp.refl _⟩
  | true =>
    obtain ⟨x, rfl, hx⟩ := of_plI hpa
    rw [oc_n hx (by decide)]
    simp only [if_true]
    refine x_asg ?_
    simp only [w_calln, w_call, w_cons, w_nil, w_tup, w_lst, w_op, w_un, w_c, w_var0, w_varS, w_and, w_or, w_not, w_iteE, w_lmeth, t_val, t_tru, t_and, t_or, t_not, t_yes, w_ch0, w_ch1, w_ch2, w_pr0, w_pr1, w_ix20, w_ix21, w_ix30, w_ix31, w_ix32, w_inT, w_eqI, w_add, w_sub, w_lt, w_le, w_gt, w_ge, w_neg, w_lenT, w_int, w_min, w_max, w_tupT, onB_bl, truth_bl, x_seq, x_skip, KR_ret, TK_ret, TK_brk, TK_cnt, g_name, g_unp, g_allS, g_all0, g_sub, lz0, lz1, lz2, lz3, lz4, lz5, lz6, lz7, lz8, List.set, wipe, List.map_cons, List.map_nil, List.cons_append, List.nil_append, List.length_cons, List.length_nil, Nat.reduceAdd, Nat.reduceSub, List.replicate_succ, List.replicate_zero, eq_self, Bool.false_eq_true, if_true, if_false, CH]
    refine x_ife ?_
    simp only [w_calln, w_call, w_cons, w_nil, w_tup, w_lst, w_op, w_un, w_c, w_var0, w_varS, w_and, w_or, w_not, w_iteE, w_lmeth, t_val, t_tru, t_and, t_or, t_not, t_yes, w_ch0, w_ch1, w_ch2, w_pr0, w_pr1, w_ix20, w_ix21, w_ix30, w_ix31, w_ix32, w_inT, w_eqI, w_add, w_sub, w_lt, w_le, w_gt, w_ge, w_neg, w_lenT, w_int, w_min, w_max, w_tupT, onB_bl, truth_bl, x_seq, x_skip, KR_ret, TK_ret, TK_brk, TK_cnt, g_name, g_unp, g_allS, g_all0, g_sub, lz0, lz1, lz2, lz3, lz4, lz5, lz6, lz7, lz8, List.set, wipe, List.map_cons, List.map_nil, List.cons_append, List.nil_append, List.length_cons, List.length_nil, Nat.reduceAdd, Nat.reduceSub, List.replicate_succ, List.replicate_zero, eq_self, Bool.false_eq_true, if_true, if_false, ocA]
    by_cases hm : x ∈ ws
    · simp only [hm, decide_true, if_true, Bool.false_bne]
      refine x_raise ?_
      simp only [w_calln, w_call, w_cons, w_nil, w_tup, w_lst, w_op, w_un, w_c, w_var0, w_varS, w_and, w_or, w_not, w_iteE, w_lmeth, t_val, t_tru, t_and, t_or, t_not, t_yes, w_ch0, w_ch1, w_ch2, w_pr0, w_pr1, w_ix20, w_ix21, w_ix30, w_ix31, w_ix32, w_inT, w_eqI, w_add, w_sub, w_lt, w_le, w_gt, w_ge, w_neg, w_lenT, w_int, w_min, w_max, w_tupT, onB_bl, truth_bl, x_seq, x_skip, KR_ret, TK_ret, TK_brk, TK_cnt, g_name, g_unp, g_allS, g_all0, g_sub, lz0, lz1, lz2, lz3, lz4, lz5, lz6, lz7, lz8, List.set, wipe, List.map_cons, List.map_nil, List.cons_append, List.nil_append, List.length_cons, List.length_nil, Nat.reduceAdd, Nat.reduceSub, List.replicate_succ, List.replicate_zero, eq_self, Bool.false_eq_true, if_true, if_false, KE_err]
      exact ⟨⟨rfl, rfl⟩, Kp.refl _⟩
    · simp only [hm, decide_false, if_false, Bool.false_bne, Bool.false_eq_true]
      skip
      refine x_ret ?_
      simp only [w_calln, w_call, w_cons, w_nil, w_tup, w_lst, w_op, w_un, w_c, w_var0, w_varS, w_and, w_or, w_not, w_iteE, w_lmeth, t_val, t_tru, t_and, t_or, t_not, t_yes, w_ch0, w_ch1, w_ch2, w_pr0, w_pr1, w_ix20, w_ix21, w_ix30, w_ix31, w_ix32, w_inT, w_eqI, w_add, w_sub, w_lt, w_le, w_gt, w_ge, w_neg, w_lenT, w_int, w_min, w_max, w_tupT, onB_bl, truth_bl, x_seq, x_skip, KR_ret, TK_ret, TK_brk, TK_cnt, g_name, g_unp, g_allS, g_all0, g_sub, lz0, lz1, lz2, lz3, lz4, lz5, lz6, lz7, lz8, List.set, wipe, List.map_cons, List.map_nil, List.cons_append, List.nil_append, List.length_cons, List.length_nil, Nat.reduceAdd, Nat.reduceSub, List.replicate_succ, List.replicate_zero, eq_self, Bool.false_eq_true, if_true, if_false]
      rw [w_addT _ _ (by simp; omega)]
      have e : ws.map nv ++ [nv x] = (ws ++ [x]).map nv := by simp
      rw [e, sortedT_w nle_s (by simp; omega) (srt_nv _), w_tupL (xs := (((ws ++ [x]).mergeSort nle).map nv)) (seqAt_lst (by simp)), ins_sorted nleO V.aw hm]
      simp only [KE_ret]
      exact ⟨rfl, Kp.app _ (Kp.refl _)⟩
theorem without_wish_an (V : VM n rs ws) (ha : kd a = true) : An (oc 3 n rs ws a b) s (m_without_wish [CH n rs ws, a] s) := by
  unfold An m_without_wish b_without_wish
  have hwl := asc_len V
  refine d_run (by rfl) ?_
  simp only [w_calln, w_call, w_cons, w_nil, w_tup, w_lst, w_op, w_un, w_c, w_var0, w_varS, w_and, w_or, w_not, w_iteE, w_lmeth, t_val, t_tru, t_and, t_or, t_not, t_yes, w_ch0, w_ch1, w_ch2, w_pr0, w_pr1, w_ix20, w_ix21, w_ix30, w_ix31, w_ix32, w_inT, w_eqI, w_add, w_sub, w_lt, w_le, w_gt, w_ge, w_neg, w_lenT, w_int, w_min, w_max, w_tupT, onB_bl, truth_bl, x_seq, x_skip, KR_ret, TK_ret, TK_brk, TK_cnt, g_name, g_unp, g_allS, g_all0, g_sub, lz0, lz1, lz2, lz3, lz4, lz5, lz6, lz7, lz8, List.set, wipe, List.map_cons, List.map_nil, List.cons_append, List.nil_append, List.length_cons, List.length_nil, Nat.reduceAdd, Nat.reduceSub, List.replicate_succ, List.replicate_zero, eq_self, Bool.false_eq_true, if_true, if_false]
  refine x_exprE ?_
  refine we_call ?_
  simp only [w_calln, w_call, w_cons, w_nil, w_tup, w_lst, w_op, w_un, w_c, w_var0, w_varS, w_and, w_or, w_not, w_iteE, w_lmeth, t_val, t_tru, t_and, t_or, t_not, t_yes, w_ch0, w_ch1, w_ch2, w_pr0, w_pr1, w_ix20, w_ix21, w_ix30, w_ix31, w_ix32, w_inT, w_eqI, w_add, w_sub, w_lt, w_le, w_gt, w_ge, w_neg, w_lenT, w_int, w_min, w_max, w_tupT, onB_bl, truth_bl, x_seq, x_skip, KR_ret, TK_ret, TK_brk, TK_cnt, g_name, g_unp, g_allS, g_all0, g_sub, lz0, lz1, lz2, lz3, lz4, lz5, lz6, lz7, lz8, List.set, wipe, List.map_cons, List.map_nil, List.cons_append, List.nil_append, List.length_cons, List.length_nil, Nat.reduceAdd, Nat.reduceSub, List.replicate_succ, List.replicate_zero, eq_self, Bool.false_eq_true, if_true, if_false]
  rw [W_of_eq (made_e V)]
  refine check_we ha ?_
  cases hpa : plI n a with
  | false => rw [oc_a hpa]; simp only [Bool.false_eq_true, if_false, KE_err]; exact ⟨⟨rfl, rfl⟩, Kp.refl _⟩
  | true =>
    obtain ⟨x, rfl, hx⟩ := of_plI hpa
    rw [oc_n hx (by decide)]
    simp only [if_true]
    refine x_asg ?_
    simp only [w_calln, w_call, w_cons, w_nil, w_tup, w_lst, w_op, w_un, w_c, w_var0, w_varS, w_and, w_or, w_not, w_iteE, w_lmeth, t_val, t_tru, t_and, t_or, t_not, t_yes, w_ch0, w_ch1, w_ch2, w_pr0, w_pr1, w_ix20, w_ix21, w_ix30, w_ix31, w_ix32, w_inT, w_eqI, w_add, w_sub, w_lt, w_le, w_gt, w_ge, w_neg, w_lenT, w_int, w_min, w_max, w_tupT, onB_bl, truth_bl, x_seq, x_skip, KR_ret, TK_ret, TK_brk, TK_cnt, g_name, g_unp, g_allS, g_all0, g_sub, lz0, lz1, lz2, lz3, lz4, lz5, lz6, lz7, lz8, List.set, wipe, List.map_cons, List.map_nil, List.cons_append, List.nil_append, List.length_cons, List.length_nil, Nat.reduceAdd, Nat.reduceSub, List.replicate_succ, List.replicate_zero, eq_self, Bool.false_eq_true, if_true, if_false, CH]
    refine x_ife ?_
    simp only [w_calln, w_call, w_cons, w_nil, w_tup, w_lst, w_op, w_un, w_c, w_var0, w_varS, w_and, w_or, w_not, w_iteE, w_lmeth, t_val, t_tru, t_and, t_or, t_not, t_yes, w_ch0, w_ch1, w_ch2, w_pr0, w_pr1, w_ix20, w_ix21, w_ix30, w_ix31, w_ix32, w_inT, w_eqI, w_add, w_sub, w_lt, w_le, w_gt, w_ge, w_neg, w_lenT, w_int, w_min, w_max, w_tupT, onB_bl, truth_bl, x_seq, x_skip, KR_ret, TK_ret, TK_brk, TK_cnt, g_name, g_unp, g_allS, g_all0, g_sub, lz0, lz1, lz2, lz3, lz4, lz5, lz6, lz7, lz8, List.set, wipe, List.map_cons, List.map_nil, List.cons_append, List.nil_append, List.length_cons, List.length_nil, Nat.reduceAdd, Nat.reduceSub, List.replicate_succ, List.replicate_zero, eq_self, Bool.false_eq_true, if_true, if_false, ocA]
    by_cases hm : x ∈ ws
    · simp only [hm, decide_true, if_true, Bool.true_bne, Bool.not_true, Bool.false_eq_true, if_false]
      skip
      refine x_ret ?_
      simp only [w_calln, w_call, w_cons, w_nil, w_tup, w_lst, w_op, w_un, w_c, w_var0, w_varS, w_and, w_or, w_not, w_iteE, w_lmeth, t_val, t_tru, t_and, t_or, t_not, t_yes, w_ch0, w_ch1, w_ch2, w_pr0, w_pr1, w_ix20, w_ix21, w_ix30, w_ix31, w_ix32, w_inT, w_eqI, w_add, w_sub, w_lt, w_le, w_gt, w_ge, w_neg, w_lenT, w_int, w_min, w_max, w_tupT, onB_bl, truth_bl, x_seq, x_skip, KR_ret, TK_ret, TK_brk, TK_cnt, g_name, g_unp, g_allS, g_all0, g_sub, lz0, lz1, lz2, lz3, lz4, lz5, lz6, lz7, lz8, List.set, wipe, List.map_cons, List.map_nil, List.cons_append, List.nil_append, List.length_cons, List.length_nil, Nat.reduceAdd, Nat.reduceSub, List.replicate_succ, List.replicate_zero, eq_self, Bool.false_eq_true, if_true, if_false]
      refine lc_pure ws nv (fun r => !decide (r = x)) nv (i_seq ?_)
      simp only [w_calln, w_call, w_cons, w_nil, w_tup, w_lst, w_op, w_un, w_c, w_var0, w_varS, w_and, w_or, w_not, w_iteE, w_lmeth, t_val, t_tru, t_and, t_or, t_not, t_yes, w_ch0, w_ch1, w_ch2, w_pr0, w_pr1, w_ix20, w_ix21, w_ix30, w_ix31, w_ix32, w_inT, w_eqI, w_add, w_sub, w_lt, w_le, w_gt, w_ge, w_neg, w_lenT, w_int, w_min, w_max, w_tupT, onB_bl, truth_bl, x_seq, x_skip, KR_ret, TK_ret, TK_brk, TK_cnt, g_name, g_unp, g_allS, g_all0, g_sub, lz0, lz1, lz2, lz3, lz4, lz5, lz6, lz7, lz8, List.set, wipe, List.map_cons, List.map_nil, List.cons_append, List.nil_append, List.length_cons, List.length_nil, Nat.reduceAdd, Nat.reduceSub, List.replicate_succ, List.replicate_zero, eq_self, Bool.false_eq_true, if_true, if_false]
      refine .mk _ (Lk.tup _ _) (fun _ => ?_) (fun _ e => nomatch e)
      refine .mk (by unfold lineZ; omega) (Or.inl rfl) ?_ ?_
      · intro r hr s' hk
        simp only [w_calln, w_call, w_cons, w_nil, w_tup, w_lst, w_op, w_un, w_c, w_var0, w_varS, w_and, w_or, w_not, w_iteE, w_lmeth, t_val, t_tru, t_and, t_or, t_not, t_yes, w_ch0, w_ch1, w_ch2, w_pr0, w_pr1, w_ix20, w_ix21, w_ix30, w_ix31, w_ix32, w_inT, w_eqI, w_add, w_sub, w_lt, w_le, w_gt, w_ge, w_neg, w_lenT, w_int, w_min, w_max, w_tupT, onB_bl, truth_bl, x_seq, x_skip, KR_ret, TK_ret, TK_brk, TK_cnt, g_name, g_unp, g_allS, g_all0, g_sub, lz0, lz1, lz2, lz3, lz4, lz5, lz6, lz7, lz8, List.set, wipe, List.map_cons, List.map_nil, List.cons_append, List.nil_append, List.length_cons, List.length_nil, Nat.reduceAdd, Nat.reduceSub, List.replicate_succ, List.replicate_zero, eq_self, Bool.false_eq_true, if_true, if_false, Bool.true_bne]
        exact ⟨by congr 1; exact decide_eq_decide.mpr ⟨fun h => by omega, fun h => by omega⟩, Kp.refl _, fun _ => ⟨trivial, Kp.refl _⟩⟩
      · intro s' hk hD
        rw [w_tupL (seqAt_lst hD)]
        simp only [w_calln, w_call, w_cons, w_nil, w_tup, w_lst, w_op, w_un, w_c, w_var0, w_varS, w_and, w_or, w_not, w_iteE, w_lmeth, t_val, t_tru, t_and, t_or, t_not, t_yes, w_ch0, w_ch1, w_ch2, w_pr0, w_pr1, w_ix20, w_ix21, w_ix30, w_ix31, w_ix32, w_inT, w_eqI, w_add, w_sub, w_lt, w_le, w_gt, w_ge, w_neg, w_lenT, w_int, w_min, w_max, w_tupT, onB_bl, truth_bl, x_seq, x_skip, KR_ret, TK_ret, TK_brk, TK_cnt, g_name, g_unp, g_allS, g_all0, g_sub, lz0, lz1, lz2, lz3, lz4, lz5, lz6, lz7, lz8, List.set, wipe, List.map_cons, List.map_nil, List.cons_append, List.nil_append, List.length_cons, List.length_nil, Nat.reduceAdd, Nat.reduceSub, List.replicate_succ, List.replicate_zero, eq_self, Bool.false_eq_true, if_true, if_false, KE_ret]
        exact ⟨rfl, hk⟩
    · simp only [hm, decide_false, if_false, Bool.true_bne, Bool.not_false, if_true]
      refine x_raise ?_
      simp only [w_calln, w_call, w_cons, w_nil, w_tup, w_lst, w_op, w_un, w_c, w_var0, w_varS, w_and, w_or, w_not, w_iteE, w_lmeth, t_val, t_tru, t_and, t_or, t_not, t_yes, w_ch0, w_ch1, w_ch2, w_pr0, w_pr1, w_ix20, w_ix21, w_ix30, w_ix31, w_ix32, w_inT, w_eqI, w_add, w_sub, w_lt, w_le, w_gt, w_ge, w_neg, w_lenT, w_int, w_min, w_max, w_tupT, onB_bl, truth_bl, x_seq, x_skip, KR_ret, TK_ret, TK_brk, TK_cnt, g_name, g_unp, g_allS, g_all0, g_sub, lz0, lz1, lz2, lz3, lz4, lz5, lz6, lz7, lz8, List.set, wipe, List.map_cons, List.map_nil, List.cons_append, List.nil_append, List.length_cons, List.length_nil, Nat.reduceAdd, Nat.reduceSub, List.replicate_succ, List.replicate_zero, eq_self, Bool.false_eq_true, if_true, if_false, KE_err]
      exact ⟨⟨rfl, rfl⟩, Kp.refl _⟩
end
end Sp
namespace Sp
open PySem Mi Mr
def nmC (C : Nat) : Str := if C = 3 then "BadPlace" else if C = 4 then "TooMany" else if C = 5 then "Twice" else if C = 6 then "NoRoad" else "NotWished"
/-- what is told of it -/
def ov (o : Oc) : AV := match o with
  | .told n rs ws => .tup [.str "told", CH n rs ws]
  | .bad C w => .tup [.str (nmC C), w, .bl true]
section
variable {Q : AV → Sto → Prop} {s : Sto} {n : Nat} {rs : List (Nat × Nat)} {ws : List Nat} {a b : AV}
theorem call_an {way : Nat} (hw : way < 4) (V : VM n rs ws) (ha : kd a = true) (hb : kd b = true) : An (oc way n rs ws a b) s (m__law_call [nv way, CH n rs ws, a, b] s) := by
  have h4 : way = 0 ∨ way = 1 ∨ way = 2 ∨ way = 3 := by omega
  unfold An m__law_call b__law_call
  refine d_run (by rfl) ?_
  simp only [w_calln, w_call, w_cons, w_nil, w_tup, w_lst, w_op, w_un, w_c, w_var0, w_varS, w_and, w_or, w_not, w_iteE, w_lmeth, t_val, t_tru, t_and, t_or, t_not, t_yes, w_ch0, w_ch1, w_ch2, w_pr0, w_pr1, w_ix20, w_ix21, w_ix30, w_ix31, w_ix32, w_inT, w_eqI, w_add, w_sub, w_lt, w_le, w_gt, w_ge, w_neg, w_lenT, w_int, w_min, w_max, w_tupT, onB_bl, truth_bl, x_seq, x_skip, KR_ret, TK_ret, TK_brk, TK_cnt, g_name, g_unp, g_allS, g_all0, g_sub, lz0, lz1, lz2, lz3, lz4, lz5, lz6, lz7, lz8, List.set, wipe, List.map_cons, List.map_nil, List.cons_append, List.nil_append, List.length_cons, List.length_nil, Nat.reduceAdd, Nat.reduceSub, List.replicate_succ, List.replicate_zero, eq_self, Bool.false_eq_true, if_true, if_false]
  refine x_ife ?_
  simp only [w_calln, w_call, w_cons, w_nil, w_tup, w_lst, w_op, w_un, w_c, w_var0, w_varS, w_and, w_or, w_not, w_iteE, w_lmeth, t_val, t_tru, t_and, t_or, t_not, t_yes, w_ch0, w_ch1, w_ch2, w_pr0, w_pr1, w_ix20, w_ix21, w_ix30, w_ix31, w_ix32, w_inT, w_eqI, w_add, w_sub, w_lt, w_le, w_gt, w_ge, w_neg, w_lenT, w_int, w_min, w_max, w_tupT, onB_bl, truth_bl, x_seq, x_skip, KR_ret, TK_ret, TK_brk, TK_cnt, g_name, g_unp, g_allS, g_all0, g_sub, lz0, lz1, lz2, lz3, lz4, lz5, lz6, lz7, lz8, List.set, wipe, List.map_cons, List.map_nil, List.cons_append, List.nil_append, List.length_cons, List.length_nil, Nat.reduceAdd, Nat.reduceSub, List.replicate_succ, List.replicate_zero, eq_self, Bool.false_eq_true, if_true, if_false]
  rcases h4 with rfl | rfl | rfl | rfl
  · rw [if_pos (by decide)]
    refine x_retE ?_
    refine we_call ?_
    simp only [w_calln, w_call, w_cons, w_nil, w_tup, w_lst, w_op, w_un, w_c, w_var0, w_varS, w_and, w_or, w_not, w_iteE, w_lmeth, t_val, t_tru, t_and, t_or, t_not, t_yes, w_ch0, w_ch1, w_ch2, w_pr0, w_pr1, w_ix20, w_ix21, w_ix30, w_ix31, w_ix32, w_inT, w_eqI, w_add, w_sub, w_lt, w_le, w_gt, w_ge, w_neg, w_lenT, w_int, w_min, w_max, w_tupT, onB_bl, truth_bl, x_seq, x_skip, KR_ret, TK_ret, TK_brk, TK_cnt, g_name, g_unp, g_allS, g_all0, g_sub, lz0, lz1, lz2, lz3, lz4, lz5, lz6, lz7, lz8, List.set, wipe, List.map_cons, List.map_nil, List.cons_append, List.nil_append, List.length_cons, List.length_nil, Nat.reduceAdd, Nat.reduceSub, List.replicate_succ, List.replicate_zero, eq_self, Bool.false_eq_true, if_true, if_false, KE_err]
    exact with_road_an V ha hb
  · rw [if_neg (by decide)]
    refine x_ife ?_
    simp only [w_calln, w_call, w_cons, w_nil, w_tup, w_lst, w_op, w_un, w_c, w_var0, w_varS, w_and, w_or, w_not, w_iteE, w_lmeth, t_val, t_tru, t_and, t_or, t_not, t_yes, w_ch0, w_ch1, w_ch2, w_pr0, w_pr1, w_ix20, w_ix21, w_ix30, w_ix31, w_ix32, w_inT, w_eqI, w_add, w_sub, w_lt, w_le, w_gt, w_ge, w_neg, w_lenT, w_int, w_min, w_max, w_tupT, onB_bl, truth_bl, x_seq, x_skip, KR_ret, TK_ret, TK_brk, TK_cnt, g_name, g_unp, g_allS, g_all0, g_sub, lz0, lz1, lz2, lz3, lz4, lz5, lz6, lz7, lz8, List.set, wipe, List.map_cons, List.map_nil, List.cons_append, List.nil_append, List.length_cons, List.length_nil, Nat.reduceAdd, Nat.reduceSub, List.replicate_succ, List.replicate_zero, eq_self, Bool.false_eq_true, if_true, if_false]
    rw [if_pos (by decide)]
    refine x_retE ?_
    refine we_call ?_
    simp only [w_calln, w_call, w_cons, w_nil, w_tup, w_lst, w_op, w_un, w_c, w_var0, w_varS, w_and, w_or, w_not, w_iteE, w_lmeth, t_val, t_tru, t_and, t_or, t_not, t_yes, w_ch0, w_ch1, w_ch2, w_pr0, w_pr1, w_ix20, w_ix21, w_ix30, w_ix31, w_ix32, w_inT, w_eqI, w_add, w_sub, w_lt, w_le, w_gt, w_ge, w_neg, w_lenT, w_int, w_min, w_max, w_tupT, onB_bl, truth_bl, x_seq, x_skip, KR_ret, TK_ret, TK_brk, TK_cnt, g_name, g_unp, g_allS, g_all0, g_sub, lz0, lz1, lz2, lz3, lz4, lz5, lz6, lz7, lz8, List.set, wipe, List.map_cons, List.map_nil, List.cons_append, List.nil_append, List.length_cons, List.length_nil, Nat.reduceAdd, Nat.reduceSub, List.replicate_succ, List.replicate_zero, eq_self, Bool.false_eq_true, if_true, if_false, KE_err]
    exact without_road_an V ha hb
  · rw [if_neg (by decide)]
    refine x_ife ?_
    simp only [w_calln, w_call, w_cons, w_nil, w_tup, w_lst, w_op, w_un, w_c, w_var0, w_varS, w_and, w_or, w_not, w_iteE, w_lmeth, t_val, t_tru, t_and, t_or, t_not, t_yes, w_ch0, w_ch1, w_ch2, w_pr0, w_pr1, w_ix20, w_ix21, w_ix30, w_ix31, w_ix32, w_inT, w_eqI, w_add, w_sub, w_lt, w_le, w_gt, w_ge, w_neg, w_lenT, w_int, w_min, w_max, w_tupT, onB_bl, truth_bl, x_seq, x_skip, KR_ret, TK_ret, TK_brk, TK_cnt, g_name, g_unp, g_allS, g_all0, g_sub, lz0, lz1, lz2, lz3, lz4, lz5, lz6, lz7, lz8, List.set, wipe, List.map_cons, List.map_nil, List.cons_append, List.nil_append, List.length_cons, List.length_nil, Nat.reduceAdd, Nat.reduceSub, List.replicate_succ, List.replicate_zero, eq_self, Bool.false_eq_true, if_true, if_false]
    rw [if_neg (by decide)]
    refine x_retE ?_
    refine we_iteE ?_
    simp only [w_calln, w_call, w_cons, w_nil, w_tup, w_lst, w_op, w_un, w_c, w_var0, w_varS, w_and, w_or, w_not, w_iteE, w_lmeth, t_val, t_tru, t_and, t_or, t_not, t_yes, w_ch0, w_ch1, w_ch2, w_pr0, w_pr1, w_ix20, w_ix21, w_ix30, w_ix31, w_ix32, w_inT, w_eqI, w_add, w_sub, w_lt, w_le, w_gt, w_ge, w_neg, w_lenT, w_int, w_min, w_max, w_tupT, onB_bl, truth_bl, x_seq, x_skip, KR_ret, TK_ret, TK_brk, TK_cnt, g_name, g_unp, g_allS, g_all0, g_sub, lz0, lz1, lz2, lz3, lz4, lz5, lz6, lz7, lz8, List.set, wipe, List.map_cons, List.map_nil, List.cons_append, List.nil_append, List.length_cons, List.length_nil, Nat.reduceAdd, Nat.reduceSub, List.replicate_succ, List.replicate_zero, eq_self, Bool.false_eq_true, if_true, if_false]
    rw [if_pos (by decide)]
    refine we_call ?_
    simp only [w_calln, w_call, w_cons, w_nil, w_tup, w_lst, w_op, w_un, w_c, w_var0, w_varS, w_and, w_or, w_not, w_iteE, w_lmeth, t_val, t_tru, t_and, t_or, t_not, t_yes, w_ch0, w_ch1, w_ch2, w_pr0, w_pr1, w_ix20, w_ix21, w_ix30, w_ix31, w_ix32, w_inT, w_eqI, w_add, w_sub, w_lt, w_le, w_gt, w_ge, w_neg, w_lenT, w_int, w_min, w_max, w_tupT, onB_bl, truth_bl, x_seq, x_skip, KR_ret, TK_ret, TK_brk, TK_cnt, g_name, g_unp, g_allS, g_all0, g_sub, lz0, lz1, lz2, lz3, lz4, lz5, lz6, lz7, lz8, List.set, wipe, List.map_cons, List.map_nil, List.cons_append, List.nil_append, List.length_cons, List.length_nil, Nat.reduceAdd, Nat.reduceSub, List.replicate_succ, List.replicate_zero, eq_self, Bool.false_eq_true, if_true, if_false, KE_err]
    exact with_wish_an V ha
  · rw [if_neg (by decide)]
    refine x_ife ?_
    simp only [w_calln, w_call, w_cons, w_nil, w_tup, w_lst, w_op, w_un, w_c, w_var0, w_varS, w_and, w_or, w_not, w_iteE, w_lmeth, t_val, t_tru, t_and, t_or, t_not, t_yes, w_ch0, w_ch1, w_ch2, w_pr0, w_pr1, w_ix20, w_ix21, w_ix30, w_ix31, w_ix32, w_inT, w_eqI, w_add, w_sub, w_lt, w_le, w_gt, w_ge, w_neg, w_lenT, w_int, w_min, w_max, w_tupT, onB_bl, truth_bl, x_seq, x_skip, KR_ret, TK_ret, TK_brk, TK_cnt, g_name, g_unp, g_allS, g_all0, g_sub, lz0, lz1, lz2, lz3, lz4, lz5, lz6, lz7, lz8, List.set, wipe, List.map_cons, List.map_nil, List.cons_append, List.nil_append, List.length_cons, List.length_nil, Nat.reduceAdd, Nat.reduceSub, List.replicate_succ, List.replicate_zero, eq_self, Bool.false_eq_true, if_true, if_false]
    rw [if_neg (by decide)]
    refine x_retE ?_
    refine we_iteE ?_
    simp only [w_calln, w_call, w_cons, w_nil, w_tup, w_lst, w_op, w_un, w_c, w_var0, w_varS, w_and, w_or, w_not, w_iteE, w_lmeth, t_val, t_tru, t_and, t_or, t_not, t_yes, w_ch0, w_ch1, w_ch2, w_pr0, w_pr1, w_ix20, w_ix21, w_ix30, w_ix31, w_ix32, w_inT, w_eqI, w_add, w_sub, w_lt, w_le, w_gt, w_ge, w_neg, w_lenT, w_int, w_min, w_max, w_tupT, onB_bl, truth_bl, x_seq, x_skip, KR_ret, TK_ret, TK_brk, TK_cnt, g_name, g_unp, g_allS, g_all0, g_sub, lz0, lz1, lz2, lz3, lz4, lz5, lz6, lz7, lz8, List.set, wipe, List.map_cons, List.map_nil, List.cons_append, List.nil_append, List.length_cons, List.length_nil, Nat.reduceAdd, Nat.reduceSub, List.replicate_succ, List.replicate_zero, eq_self, Bool.false_eq_true, if_true, if_false]
    rw [if_neg (by decide)]
    refine we_call ?_
    simp only [w_calln, w_call, w_cons, w_nil, w_tup, w_lst, w_op, w_un, w_c, w_var0, w_varS, w_and, w_or, w_not, w_iteE, w_lmeth, t_val, t_tru, t_and, t_or, t_not, t_yes, w_ch0, w_ch1, w_ch2, w_pr0, w_pr1, w_ix20, w_ix21, w_ix30, w_ix31, w_ix32, w_inT, w_eqI, w_add, w_sub, w_lt, w_le, w_gt, w_ge, w_neg, w_lenT, w_int, w_min, w_max, w_tupT, onB_bl, truth_bl, x_seq, x_skip, KR_ret, TK_ret, TK_brk, TK_cnt, g_name, g_unp, g_allS, g_all0, g_sub, lz0, lz1, lz2, lz3, lz4, lz5, lz6, lz7, lz8, List.set, wipe, List.map_cons, List.map_nil, List.cons_append, List.nil_append, List.length_cons, List.length_nil, Nat.reduceAdd, Nat.reduceSub, List.replicate_succ, List.replicate_zero, eq_self, Bool.false_eq_true, if_true, if_false, KE_err]
    exact without_wish_an V ha
theorem oc_cls {way C : Nat} {w : AV} (h : Bd (oc way n rs ws a b) C w) : (C = 3 ∨ C = 4 ∨ C = 5 ∨ C = 6 ∨ C = 7) ∧ oc way n rs ws a b = .bad C w := by
  have key : ∀ o : Oc, Bd o C w → (∀ C' w', o = .bad C' w' → C' = 3 ∨ C' = 4 ∨ C' = 5 ∨ C' = 6 ∨ C' = 7) → (C = 3 ∨ C = 4 ∨ C = 5 ∨ C = 6 ∨ C = 7) ∧ o = .bad C w := by
    intro o h k
    cases o with
    | told => exact h.elim
    | bad C' w' => obtain ⟨rfl, rfl⟩ := h; exact ⟨k _ _ rfl, rfl⟩
  refine key _ h ?_
  intro C' w' e
  unfold oc ocA at e
  repeat' split at e
  all_goals first | (cases e; done) | (cases e; simp)
theorem heard_w {way : Nat} (hw : way < 4) (V : VM n rs ws) (ha : kd a = true) (hb : kd b = true) (k : ∀ s', Kp [] s s' → Q (ov (oc way n rs ws a b)) s') : W (m__law_heard [nv way, CH n rs ws, a, b] s) Q := by
  unfold m__law_heard b__law_heard
  refine d_runn (by rfl) ?_
  simp only [w_calln, w_call, w_cons, w_nil, w_tup, w_lst, w_op, w_un, w_c, w_var0, w_varS, w_and, w_or, w_not, w_iteE, w_lmeth, t_val, t_tru, t_and, t_or, t_not, t_yes, w_ch0, w_ch1, w_ch2, w_pr0, w_pr1, w_ix20, w_ix21, w_ix30, w_ix31, w_ix32, w_inT, w_eqI, w_add, w_sub, w_lt, w_le, w_gt, w_ge, w_neg, w_lenT, w_int, w_min, w_max, w_tupT, onB_bl, truth_bl, x_seq, x_skip, KR_ret, TK_ret, TK_brk, TK_cnt, g_name, g_unp, g_allS, g_all0, g_sub, lz0, lz1, lz2, lz3, lz4, lz5, lz6, lz7, lz8, List.set, wipe, List.map_cons, List.map_nil, List.cons_append, List.nil_append, List.length_cons, List.length_nil, Nat.reduceAdd, Nat.reduceSub, List.replicate_succ, List.replicate_zero, eq_self, Bool.false_eq_true, if_true, if_false]
  refine x_try ?_
  refine x_retE ?_
  simp only [we_tup, we_cons, we_c, we_nil]
  refine we_call ?_
  simp only [w_calln, w_call, w_cons, w_nil, w_tup, w_lst, w_op, w_un, w_c, w_var0, w_varS, w_and, w_or, w_not, w_iteE, w_lmeth, t_val, t_tru, t_and, t_or, t_not, t_yes, w_ch0, w_ch1, w_ch2, w_pr0, w_pr1, w_ix20, w_ix21, w_ix30, w_ix31, w_ix32, w_inT, w_eqI, w_add, w_sub, w_lt, w_le, w_gt, w_ge, w_neg, w_lenT, w_int, w_min, w_max, w_tupT, onB_bl, truth_bl, x_seq, x_skip, KR_ret, TK_ret, TK_brk, TK_cnt, g_name, g_unp, g_allS, g_all0, g_sub, lz0, lz1, lz2, lz3, lz4, lz5, lz6, lz7, lz8, List.set, wipe, List.map_cons, List.map_nil, List.cons_append, List.nil_append, List.length_cons, List.length_nil, Nat.reduceAdd, Nat.reduceSub, List.replicate_succ, List.replicate_zero, eq_self, Bool.false_eq_true, if_true, if_false]
  refine We_mono (call_an hw V ha hb) ?_ ?_
  · rintro v s' ⟨h, hk⟩
    simp only [TY_ret, w_calln, w_call, w_cons, w_nil, w_tup, w_lst, w_op, w_un, w_c, w_var0, w_varS, w_and, w_or, w_not, w_iteE, w_lmeth, t_val, t_tru, t_and, t_or, t_not, t_yes, w_ch0, w_ch1, w_ch2, w_pr0, w_pr1, w_ix20, w_ix21, w_ix30, w_ix31, w_ix32, w_inT, w_eqI, w_add, w_sub, w_lt, w_le, w_gt, w_ge, w_neg, w_lenT, w_int, w_min, w_max, w_tupT, onB_bl, truth_bl, x_seq, x_skip, KR_ret, TK_ret, TK_brk, TK_cnt, g_name, g_unp, g_allS, g_all0, g_sub, lz0, lz1, lz2, lz3, lz4, lz5, lz6, lz7, lz8, List.set, wipe, List.map_cons, List.map_nil, List.cons_append, List.nil_append, List.length_cons, List.length_nil, Nat.reduceAdd, Nat.reduceSub, List.replicate_succ, List.replicate_zero, eq_self, Bool.false_eq_true, if_true, if_false]
    revert h
    cases ho : oc way n rs ws a b with
    | bad => exact fun h => h.elim
    | told n' rs' ws' => intro h; rw [h]; have := k s' hk; rw [ho] at this; exact this
  · rintro C w s' ⟨h, hk⟩
    obtain ⟨hC, ho⟩ := oc_cls h
    have k := k s' hk
    rw [ho] at k
    have fin : ∀ (j : Nat) (nm : Str), nm = nmC j → j = C → pc_Refused j = true → X (S.asg (G.name 5) (E.tup (E.cons (E.c (.str nm)) (E.cons (E.c w) (E.cons (E.c (.bl (pc_Refused j))) (E.nil))))) [some (nv way), some (CH n rs ws), some a, some b, none, none] s') (fun e s => X (S.ret (E.var 5) (e.set 4 none) s) (fun _ s => Q .non s) (KR Q)) (CK 4 (KR Q)) := by
      rintro j nm rfl rfl h
      refine x_asg ?_
      simp only [w_calln, w_call, w_cons, w_nil, w_tup, w_lst, w_op, w_un, w_c, w_var0, w_varS, w_and, w_or, w_not, w_iteE, w_lmeth, t_val, t_tru, t_and, t_or, t_not, t_yes, w_ch0, w_ch1, w_ch2, w_pr0, w_pr1, w_ix20, w_ix21, w_ix30, w_ix31, w_ix32, w_inT, w_eqI, w_add, w_sub, w_lt, w_le, w_gt, w_ge, w_neg, w_lenT, w_int, w_min, w_max, w_tupT, onB_bl, truth_bl, x_seq, x_skip, KR_ret, TK_ret, TK_brk, TK_cnt, g_name, g_unp, g_allS, g_all0, g_sub, lz0, lz1, lz2, lz3, lz4, lz5, lz6, lz7, lz8, List.set, wipe, List.map_cons, List.map_nil, List.cons_append, List.nil_append, List.length_cons, List.length_nil, Nat.reduceAdd, Nat.reduceSub, List.replicate_succ, List.replicate_zero, eq_self, Bool.false_eq_true, if_true, if_false, h]
      refine x_ret ?_
      simp only [w_calln, w_call, w_cons, w_nil, w_tup, w_lst, w_op, w_un, w_c, w_var0, w_varS, w_and, w_or, w_not, w_iteE, w_lmeth, t_val, t_tru, t_and, t_or, t_not, t_yes, w_ch0, w_ch1, w_ch2, w_pr0, w_pr1, w_ix20, w_ix21, w_ix30, w_ix31, w_ix32, w_inT, w_eqI, w_add, w_sub, w_lt, w_le, w_gt, w_ge, w_neg, w_lenT, w_int, w_min, w_max, w_tupT, onB_bl, truth_bl, x_seq, x_skip, KR_ret, TK_ret, TK_brk, TK_cnt, g_name, g_unp, g_allS, g_all0, g_sub, lz0, lz1, lz2, lz3, lz4, lz5, lz6, lz7, lz8, List.set, wipe, List.map_cons, List.map_nil, List.cons_append, List.nil_append, List.length_cons, List.length_nil, Nat.reduceAdd, Nat.reduceSub, List.replicate_succ, List.replicate_zero, eq_self, Bool.false_eq_true, if_true, if_false]
      exact k
    simp only [TY_err]
    rcases hC with rfl | rfl | rfl | rfl | rfl
    · exact x_hitN (i := 4) rfl rfl (by simp) (fin 3 _ rfl rfl rfl)
    · exact x_miss rfl (x_miss rfl (x_miss rfl (x_miss rfl (x_hitN (i := 4) rfl rfl (by simp) (fin 4 _ rfl rfl rfl)))))
    · exact x_miss rfl (x_hitN (i := 4) rfl rfl (by simp) (fin 5 _ rfl rfl rfl))
    · exact x_miss rfl (x_miss rfl (x_hitN (i := 4) rfl rfl (by simp) (fin 6 _ rfl rfl rfl)))
    · exact x_miss rfl (x_miss rfl (x_miss rfl (x_hitN (i := 4) rfl rfl (by simp) (fin 7 _ rfl rfl rfl))))
theorem lawplace_e {x : AV} (hx : kd x = true) : m__law_is_place [CH n rs ws, x] s = .ok (.bl (plI n x)) s := by
  unfold m__law_is_place b__law_is_place
  cases x with
  | int i =>
    refine eq_of_W ?_; refine d_runn (by rfl) (x_ret ?_)
    simp only [w_calln, w_call, w_cons, w_nil, w_tup, w_lst, w_op, w_un, w_c, w_var0, w_varS, w_and, w_or, w_not, w_iteE, w_lmeth, t_val, t_tru, t_and, t_or, t_not, t_yes, w_ch0, w_ch1, w_ch2, w_pr0, w_pr1, w_ix20, w_ix21, w_ix30, w_ix31, w_ix32, w_inT, w_eqI, w_add, w_sub, w_lt, w_le, w_gt, w_ge, w_neg, w_lenT, w_int, w_min, w_max, w_tupT, onB_bl, truth_bl, x_seq, x_skip, KR_ret, TK_ret, TK_brk, TK_cnt, g_name, g_unp, g_allS, g_all0, g_sub, lz0, lz1, lz2, lz3, lz4, lz5, lz6, lz7, lz8, List.set, wipe, List.map_cons, List.map_nil, List.cons_append, List.nil_append, List.length_cons, List.length_nil, Nat.reduceAdd, Nat.reduceSub, List.replicate_succ, List.replicate_zero, eq_self, Bool.false_eq_true, if_true, if_false, w_isa_int, w_isa_intb, w_chain, Bool.not_false]
    by_cases h0 : 0 ≤ i
    · by_cases h1 : i < n
      · simp [plI, h0, h1]
      · simp [plI, h0, h1]
    · simp [plI, h0]
  | ref l => exact nomatch hx
  | adr l => exact nomatch hx
  | ty l => exact nomatch hx
  | _ => rfl
end
end Sp
namespace Sp
open PySem Mi Mr
section
variable {Q : AV → Sto → Prop} {s : Sto} {n : Nat} {rs : List (Nat × Nat)} {ws : List Nat} {a b : AV}
theorem get_new (s : Sto) (o : MO) : (s ++ [o])[s.length]? = some o := by simp
theorem lt_nle (x y : Nat) : decide ((x : Int) < (y : Int)) = !nle y x := by
  unfold nle; by_cases h : x < y <;> simp [h] <;> omega
theorem due_w {way : Nat} (hw : way < 4) (V : VM n rs ws) (ha : kd a = true) (hb : kd b = true) (k : ∀ s', Kp [] s s' → Q (ov (oc way n rs ws a b)) s') : W (m__law_due [nv way, CH n rs ws, a, b] s) Q := by
  have hr := V.hr
  have hwl := asc_len V
  unfold m__law_due b__law_due
  refine d_runn (by rfl) ?_
  simp only [w_calln, w_call, w_cons, w_nil, w_tup, w_lst, w_op, w_un, w_c, w_var0, w_varS, w_and, w_or, w_not, w_iteE, w_lmeth, t_val, t_tru, t_and, t_or, t_not, t_yes, w_ch0, w_ch1, w_ch2, w_pr0, w_pr1, w_ix20, w_ix21, w_ix30, w_ix31, w_ix32, w_inT, w_eqI, w_add, w_sub, w_lt, w_le, w_gt, w_ge, w_neg, w_lenT, w_int, w_min, w_max, w_tupT, onB_bl, truth_bl, x_seq, x_skip, KR_ret, TK_ret, TK_brk, TK_cnt, g_name, g_unp, g_allS, g_all0, g_sub, lz0, lz1, lz2, lz3, lz4, lz5, lz6, lz7, lz8, List.set, wipe, List.map_cons, List.map_nil, List.cons_append, List.nil_append, List.length_cons, List.length_nil, Nat.reduceAdd, Nat.reduceSub, List.replicate_succ, List.replicate_zero, eq_self, Bool.false_eq_true, if_true, if_false]
  refine x_asg ?_
  have eCH : CH n rs ws = .tup [nv n, .tup (rs.map pr), .tup (ws.map nv)] := rfl
  simp only [eCH, w_calln, w_call, w_cons, w_nil, w_tup, w_lst, w_op, w_un, w_c, w_var0, w_varS, w_and, w_or, w_not, w_iteE, w_lmeth, t_val, t_tru, t_and, t_or, t_not, t_yes, w_ch0, w_ch1, w_ch2, w_pr0, w_pr1, w_ix20, w_ix21, w_ix30, w_ix31, w_ix32, w_inT, w_eqI, w_add, w_sub, w_lt, w_le, w_gt, w_ge, w_neg, w_lenT, w_int, w_min, w_max, w_tupT, onB_bl, truth_bl, x_seq, x_skip, KR_ret, TK_ret, TK_brk, TK_cnt, g_name, g_unp, g_allS, g_all0, g_sub, lz0, lz1, lz2, lz3, lz4, lz5, lz6, lz7, lz8, List.set, wipe, List.map_cons, List.map_nil, List.cons_append, List.nil_append, List.length_cons, List.length_nil, Nat.reduceAdd, Nat.reduceSub, List.replicate_succ, List.replicate_zero, eq_self, Bool.false_eq_true, if_true, if_false]
  rw [← eCH]
  refine X_mono (N := fun en s' => (∃ o7 : Option AV, en = [some (nv way), some (CH n rs ws), some a, some b, some (nv n), some (.tup (rs.map pr)), some (.tup (ws.map nv)), o7, none, none, none, none, none]) ∧ Kp [] s s' ∧ plI n a = true ∧ (way < 2 → plI n b = true)) (K := KR Q) ?_ ?_ (fun _ h => h)
  · refine for_w ?_
    simp only [w_calln, w_call, w_cons, w_nil, w_tup, w_lst, w_op, w_un, w_c, w_var0, w_varS, w_and, w_or, w_not, w_iteE, w_lmeth, t_val, t_tru, t_and, t_or, t_not, t_yes, w_ch0, w_ch1, w_ch2, w_pr0, w_pr1, w_ix20, w_ix21, w_ix30, w_ix31, w_ix32, w_inT, w_eqI, w_add, w_sub, w_lt, w_le, w_gt, w_ge, w_neg, w_lenT, w_int, w_min, w_max, w_tupT, onB_bl, truth_bl, x_seq, x_skip, KR_ret, TK_ret, TK_brk, TK_cnt, g_name, g_unp, g_allS, g_all0, g_sub, lz0, lz1, lz2, lz3, lz4, lz5, lz6, lz7, lz8, List.set, wipe, List.map_cons, List.map_nil, List.cons_append, List.nil_append, List.length_cons, List.length_nil, Nat.reduceAdd, Nat.reduceSub, List.replicate_succ, List.replicate_zero, eq_self, Bool.false_eq_true, if_true, if_false]
    by_cases h2 : way < 2
    · rw [if_pos (decide_eq_true (by omega))]
      refine .mk [a, b] (fun j en s' => (∃ o7 : Option AV, en = [some (nv way), some (CH n rs ws), some a, some b, some (nv n), some (.tup (rs.map pr)), some (.tup (ws.map nv)), o7, none, none, none, none, none]) ∧ Kp [] (s ++ [.lst [a, b]]) s' ∧ (0 < j → plI n a = true) ∧ (1 < j → plI n b = true)) (Lk.lst (by simp)) (by simp) ⟨⟨_, rfl⟩, Kp.refl _, by omega, by omega⟩ (fun _ _ _ hi => (Lk.lst (s := s ++ [.lst [a, b]]) (by simp)).keep hi.2.1) ?_ ?_
      · rintro j x en s' hx ⟨⟨o7, rfl⟩, hk, p0, p1⟩
        have hk0 : Kp [] s s' := (Kp.app [.lst [a, b]] (Kp.refl (L := []) s)).trans hk
        simp only [w_calln, w_call, w_cons, w_nil, w_tup, w_lst, w_op, w_un, w_c, w_var0, w_varS, w_and, w_or, w_not, w_iteE, w_lmeth, t_val, t_tru, t_and, t_or, t_not, t_yes, w_ch0, w_ch1, w_ch2, w_pr0, w_pr1, w_ix20, w_ix21, w_ix30, w_ix31, w_ix32, w_inT, w_eqI, w_add, w_sub, w_lt, w_le, w_gt, w_ge, w_neg, w_lenT, w_int, w_min, w_max, w_tupT, onB_bl, truth_bl, x_seq, x_skip, KR_ret, TK_ret, TK_brk, TK_cnt, g_name, g_unp, g_allS, g_all0, g_sub, lz0, lz1, lz2, lz3, lz4, lz5, lz6, lz7, lz8, List.set, wipe, List.map_cons, List.map_nil, List.cons_append, List.nil_append, List.length_cons, List.length_nil, Nat.reduceAdd, Nat.reduceSub, List.replicate_succ, List.replicate_zero, eq_self, Bool.false_eq_true, if_true, if_false]
        refine x_ife ?_
        simp only [w_calln, w_call, w_cons, w_nil, w_tup, w_lst, w_op, w_un, w_c, w_var0, w_varS, w_and, w_or, w_not, w_iteE, w_lmeth, t_val, t_tru, t_and, t_or, t_not, t_yes, w_ch0, w_ch1, w_ch2, w_pr0, w_pr1, w_ix20, w_ix21, w_ix30, w_ix31, w_ix32, w_inT, w_eqI, w_add, w_sub, w_lt, w_le, w_gt, w_ge, w_neg, w_lenT, w_int, w_min, w_max, w_tupT, onB_bl, truth_bl, x_seq, x_skip, KR_ret, TK_ret, TK_brk, TK_cnt, g_name, g_unp, g_allS, g_all0, g_sub, lz0, lz1, lz2, lz3, lz4, lz5, lz6, lz7, lz8, List.set, wipe, List.map_cons, List.map_nil, List.cons_append, List.nil_append, List.length_cons, List.length_nil, Nat.reduceAdd, Nat.reduceSub, List.replicate_succ, List.replicate_zero, eq_self, Bool.false_eq_true, if_true, if_false]
        match j, hx with
        | 0, hx =>
          cases hx
          rw [W_of_eq (lawplace_e ha)]
          cases hp : plI n a with
          | true => simp only [w_calln, w_call, w_cons, w_nil, w_tup, w_lst, w_op, w_un, w_c, w_var0, w_varS, w_and, w_or, w_not, w_iteE, w_lmeth, t_val, t_tru, t_and, t_or, t_not, t_yes, w_ch0, w_ch1, w_ch2, w_pr0, w_pr1, w_ix20, w_ix21, w_ix30, w_ix31, w_ix32, w_inT, w_eqI, w_add, w_sub, w_lt, w_le, w_gt, w_ge, w_neg, w_lenT, w_int, w_min, w_max, w_tupT, onB_bl, truth_bl, x_seq, x_skip, KR_ret, TK_ret, TK_brk, TK_cnt, g_name, g_unp, g_allS, g_all0, g_sub, lz0, lz1, lz2, lz3, lz4, lz5, lz6, lz7, lz8, List.set, wipe, List.map_cons, List.map_nil, List.cons_append, List.nil_append, List.length_cons, List.length_nil, Nat.reduceAdd, Nat.reduceSub, List.replicate_succ, List.replicate_zero, eq_self, Bool.false_eq_true, if_true, if_false, Bool.not_true]; exact ⟨⟨_, rfl⟩, hk, fun _ => trivial, by omega⟩
          | false =>
            simp only [w_calln, w_call, w_cons, w_nil, w_tup, w_lst, w_op, w_un, w_c, w_var0, w_varS, w_and, w_or, w_not, w_iteE, w_lmeth, t_val, t_tru, t_and, t_or, t_not, t_yes, w_ch0, w_ch1, w_ch2, w_pr0, w_pr1, w_ix20, w_ix21, w_ix30, w_ix31, w_ix32, w_inT, w_eqI, w_add, w_sub, w_lt, w_le, w_gt, w_ge, w_neg, w_lenT, w_int, w_min, w_max, w_tupT, onB_bl, truth_bl, x_seq, x_skip, KR_ret, TK_ret, TK_brk, TK_cnt, g_name, g_unp, g_allS, g_all0, g_sub, lz0, lz1, lz2, lz3, lz4, lz5, lz6, lz7, lz8, List.set, wipe, List.map_cons, List.map_nil, List.cons_append, List.nil_append, List.length_cons, List.length_nil, Nat.reduceAdd, Nat.reduceSub, List.replicate_succ, List.replicate_zero, eq_self, Bool.false_eq_true, if_true, if_false, Bool.not_false]
            refine x_ret ?_
            simp only [w_calln, w_call, w_cons, w_nil, w_tup, w_lst, w_op, w_un, w_c, w_var0, w_varS, w_and, w_or, w_not, w_iteE, w_lmeth, t_val, t_tru, t_and, t_or, t_not, t_yes, w_ch0, w_ch1, w_ch2, w_pr0, w_pr1, w_ix20, w_ix21, w_ix30, w_ix31, w_ix32, w_inT, w_eqI, w_add, w_sub, w_lt, w_le, w_gt, w_ge, w_neg, w_lenT, w_int, w_min, w_max, w_tupT, onB_bl, truth_bl, x_seq, x_skip, KR_ret, TK_ret, TK_brk, TK_cnt, g_name, g_unp, g_allS, g_all0, g_sub, lz0, lz1, lz2, lz3, lz4, lz5, lz6, lz7, lz8, List.set, wipe, List.map_cons, List.map_nil, List.cons_append, List.nil_append, List.length_cons, List.length_nil, Nat.reduceAdd, Nat.reduceSub, List.replicate_succ, List.replicate_zero, eq_self, Bool.false_eq_true, if_true, if_false]
            have := k s' hk0
            rw [oc_a hp] at this; exact this
        | 1, hx =>
          cases hx
          rw [W_of_eq (lawplace_e hb)]
          cases hp : plI n b with
          | true => simp only [w_calln, w_call, w_cons, w_nil, w_tup, w_lst, w_op, w_un, w_c, w_var0, w_varS, w_and, w_or, w_not, w_iteE, w_lmeth, t_val, t_tru, t_and, t_or, t_not, t_yes, w_ch0, w_ch1, w_ch2, w_pr0, w_pr1, w_ix20, w_ix21, w_ix30, w_ix31, w_ix32, w_inT, w_eqI, w_add, w_sub, w_lt, w_le, w_gt, w_ge, w_neg, w_lenT, w_int, w_min, w_max, w_tupT, onB_bl, truth_bl, x_seq, x_skip, KR_ret, TK_ret, TK_brk, TK_cnt, g_name, g_unp, g_allS, g_all0, g_sub, lz0, lz1, lz2, lz3, lz4, lz5, lz6, lz7, lz8, List.set, wipe, List.map_cons, List.map_nil, List.cons_append, List.nil_append, List.length_cons, List.length_nil, Nat.reduceAdd, Nat.reduceSub, List.replicate_succ, List.replicate_zero, eq_self, Bool.false_eq_true, if_true, if_false, Bool.not_true]; exact ⟨⟨_, rfl⟩, hk, fun _ => p0 (by omega), fun _ => trivial⟩
          | false =>
            simp only [w_calln, w_call, w_cons, w_nil, w_tup, w_lst, w_op, w_un, w_c, w_var0, w_varS, w_and, w_or, w_not, w_iteE, w_lmeth, t_val, t_tru, t_and, t_or, t_not, t_yes, w_ch0, w_ch1, w_ch2, w_pr0, w_pr1, w_ix20, w_ix21, w_ix30, w_ix31, w_ix32, w_inT, w_eqI, w_add, w_sub, w_lt, w_le, w_gt, w_ge, w_neg, w_lenT, w_int, w_min, w_max, w_tupT, onB_bl, truth_bl, x_seq, x_skip, KR_ret, TK_ret, TK_brk, TK_cnt, g_name, g_unp, g_allS, g_all0, g_sub, lz0, lz1, lz2, lz3, lz4, lz5, lz6, lz7, lz8, List.set, wipe, List.map_cons, List.map_nil, List.cons_append, List.nil_append, List.length_cons, List.length_nil, Nat.reduceAdd, Nat.reduceSub, List.replicate_succ, List.replicate_zero, eq_self, Bool.false_eq_true, if_true, if_false, Bool.not_false]
            refine x_ret ?_
            simp only [w_calln, w_call, w_cons, w_nil, w_tup, w_lst, w_op, w_un, w_c, w_var0, w_varS, w_and, w_or, w_not, w_iteE, w_lmeth, t_val, t_tru, t_and, t_or, t_not, t_yes, w_ch0, w_ch1, w_ch2, w_pr0, w_pr1, w_ix20, w_ix21, w_ix30, w_ix31, w_ix32, w_inT, w_eqI, w_add, w_sub, w_lt, w_le, w_gt, w_ge, w_neg, w_lenT, w_int, w_min, w_max, w_tupT, onB_bl, truth_bl, x_seq, x_skip, KR_ret, TK_ret, TK_brk, TK_cnt, g_name, g_unp, g_allS, g_all0, g_sub, lz0, lz1, lz2, lz3, lz4, lz5, lz6, lz7, lz8, List.set, wipe, List.map_cons, List.map_nil, List.cons_append, List.nil_append, List.length_cons, List.length_nil, Nat.reduceAdd, Nat.reduceSub, List.replicate_succ, List.replicate_zero, eq_self, Bool.false_eq_true, if_true, if_false]
            have := k s' hk0
            rw [oc_b (p0 (by omega)) hp h2] at this; exact this
      · rintro en s' ⟨h1, hk, p0, p1⟩
        exact ⟨h1, (Kp.app [.lst [a, b]] (Kp.refl (L := []) s)).trans hk, p0 (by simp), fun _ => p1 (by simp)⟩
    · rw [if_neg (by simp; omega)]
      refine .mk [a] (fun j en s' => (∃ o7 : Option AV, en = [some (nv way), some (CH n rs ws), some a, some b, some (nv n), some (.tup (rs.map pr)), some (.tup (ws.map nv)), o7, none, none, none, none, none]) ∧ Kp [] (s ++ [.lst [a]]) s' ∧ (0 < j → plI n a = true)) (Lk.lst (by simp)) (by simp) ⟨⟨_, rfl⟩, Kp.refl _, by omega⟩ (fun _ _ _ hi => (Lk.lst (s := s ++ [.lst [a]]) (by simp)).keep hi.2.1) ?_ ?_
      · rintro j x en s' hx ⟨⟨o7, rfl⟩, hk, p0⟩
        have hk0 : Kp [] s s' := (Kp.app [.lst [a]] (Kp.refl (L := []) s)).trans hk
        simp only [w_calln, w_call, w_cons, w_nil, w_tup, w_lst, w_op, w_un, w_c, w_var0, w_varS, w_and, w_or, w_not, w_iteE, w_lmeth, t_val, t_tru, t_and, t_or, t_not, t_yes, w_ch0, w_ch1, w_ch2, w_pr0, w_pr1, w_ix20, w_ix21, w_ix30, w_ix31, w_ix32, w_inT, w_eqI, w_add, w_sub, w_lt, w_le, w_gt, w_ge, w_neg, w_lenT, w_int, w_min, w_max, w_tupT, onB_bl, truth_bl, x_seq, x_skip, KR_ret, TK_ret, TK_brk, TK_cnt, g_name, g_unp, g_allS, g_all0, g_sub, lz0, lz1, lz2, lz3, lz4, lz5, lz6, lz7, lz8, List.set, wipe, List.map_cons, List.map_nil, List.cons_append, List.nil_append, List.length_cons, List.length_nil, Nat.reduceAdd, Nat.reduceSub, List.replicate_succ, List.replicate_zero, eq_self, Bool.false_eq_true, if_true, if_false]
        refine x_ife ?_
        simp only [w_calln, w_call, w_cons, w_nil, w_tup, w_lst, w_op, w_un, w_c, w_var0, w_varS, w_and, w_or, w_not, w_iteE, w_lmeth, t_val, t_tru, t_and, t_or, t_not, t_yes, w_ch0, w_ch1, w_ch2, w_pr0, w_pr1, w_ix20, w_ix21, w_ix30, w_ix31, w_ix32, w_inT, w_eqI, w_add, w_sub, w_lt, w_le, w_gt, w_ge, w_neg, w_lenT, w_int, w_min, w_max, w_tupT, onB_bl, truth_bl, x_seq, x_skip, KR_ret, TK_ret, TK_brk, TK_cnt, g_name, g_unp, g_allS, g_all0, g_sub, lz0, lz1, lz2, lz3, lz4, lz5, lz6, lz7, lz8, List.set, wipe, List.map_cons, List.map_nil, List.cons_append, List.nil_append, List.length_cons, List.length_nil, Nat.reduceAdd, Nat.reduceSub, List.replicate_succ, List.replicate_zero, eq_self, Bool.false_eq_true, if_true, if_false]
        match j, hx with
        | 0, hx =>
          cases hx
          rw [W_of_eq (lawplace_e ha)]
          cases hp : plI n a with
          | true => simp only [w_calln, w_call, w_cons, w_nil, w_tup, w_lst, w_op, w_un, w_c, w_var0, w_varS, w_and, w_or, w_not, w_iteE, w_lmeth, t_val, t_tru, t_and, t_or, t_not, t_yes, w_ch0, w_ch1, w_ch2, w_pr0, w_pr1, w_ix20, w_ix21, w_ix30, w_ix31, w_ix32, w_inT, w_eqI, w_add, w_sub, w_lt, w_le, w_gt, w_ge, w_neg, w_lenT, w_int, w_min, w_max, w_tupT, onB_bl, truth_bl, x_seq, x_skip, KR_ret, TK_ret, TK_brk, TK_cnt, g_name, g_unp, g_allS, g_all0, g_sub, lz0, lz1, lz2, lz3, lz4, lz5, lz6, lz7, lz8, List.set, wipe, List.map_cons, List.map_nil, List.cons_append, List.nil_append, List.length_cons, List.length_nil, Nat.reduceAdd, Nat.reduceSub, List.replicate_succ, List.replicate_zero, eq_self, Bool.false_eq_true, if_true, if_false, Bool.not_true]; exact ⟨⟨_, rfl⟩, hk, fun _ => trivial⟩
          | false =>
            simp only [w_calln, w_call, w_cons, w_nil, w_tup, w_lst, w_op, w_un, w_c, w_var0, w_varS, w_and, w_or, w_not, w_iteE, w_lmeth, t_val, t_tru, t_and, t_or, t_not, t_yes, w_ch0, w_ch1, w_ch2, w_pr0, w_pr1, w_ix20, w_ix21, w_ix30, w_ix31, w_ix32, w_inT, w_eqI, w_add, w_sub, w_lt, w_le, w_gt, w_ge, w_neg, w_lenT, w_int, w_min, w_max, w_tupT, onB_bl, truth_bl, x_seq, x_skip, KR_ret, TK_ret, TK_brk, TK_cnt, g_name, g_unp, g_allS, g_all0, g_sub, lz0, lz1, lz2, lz3, lz4, lz5, lz6, lz7, lz8, List.set, wipe, List.map_cons, List.map_nil, List.cons_append, List.nil_append, List.length_cons, List.length_nil, Nat.reduceAdd, Nat.reduceSub, List.replicate_succ, List.replicate_zero, eq_self, Bool.false_eq_true, if_true, if_false, Bool.not_false]
            refine x_ret ?_
            simp only [w_calln, w_call, w_cons, w_nil, w_tup, w_lst, w_op, w_un, w_c, w_var0, w_varS, w_and, w_or, w_not, w_iteE, w_lmeth, t_val, t_tru, t_and, t_or, t_not, t_yes, w_ch0, w_ch1, w_ch2, w_pr0, w_pr1, w_ix20, w_ix21, w_ix30, w_ix31, w_ix32, w_inT, w_eqI, w_add, w_sub, w_lt, w_le, w_gt, w_ge, w_neg, w_lenT, w_int, w_min, w_max, w_tupT, onB_bl, truth_bl, x_seq, x_skip, KR_ret, TK_ret, TK_brk, TK_cnt, g_name, g_unp, g_allS, g_all0, g_sub, lz0, lz1, lz2, lz3, lz4, lz5, lz6, lz7, lz8, List.set, wipe, List.map_cons, List.map_nil, List.cons_append, List.nil_append, List.length_cons, List.length_nil, Nat.reduceAdd, Nat.reduceSub, List.replicate_succ, List.replicate_zero, eq_self, Bool.false_eq_true, if_true, if_false]
            have := k s' hk0
            rw [oc_a hp] at this; exact this
      · rintro en s' ⟨h1, hk, p0⟩
        exact ⟨h1, (Kp.app [.lst [a]] (Kp.refl (L := []) s)).trans hk, p0 (by simp), fun h => absurd h h2⟩
  rintro en s1 ⟨⟨o7, rfl⟩, k1, hpa, hpb⟩
  obtain ⟨x, rfl, hx⟩ := of_plI hpa
  have h4 : way = 0 ∨ way = 1 ∨ way = 2 ∨ way = 3 := by omega
  refine x_ife ?_
  simp only [w_calln, w_call, w_cons, w_nil, w_tup, w_lst, w_op, w_un, w_c, w_var0, w_varS, w_and, w_or, w_not, w_iteE, w_lmeth, t_val, t_tru, t_and, t_or, t_not, t_yes, w_ch0, w_ch1, w_ch2, w_pr0, w_pr1, w_ix20, w_ix21, w_ix30, w_ix31, w_ix32, w_inT, w_eqI, w_add, w_sub, w_lt, w_le, w_gt, w_ge, w_neg, w_lenT, w_int, w_min, w_max, w_tupT, onB_bl, truth_bl, x_seq, x_skip, KR_ret, TK_ret, TK_brk, TK_cnt, g_name, g_unp, g_allS, g_all0, g_sub, lz0, lz1, lz2, lz3, lz4, lz5, lz6, lz7, lz8, List.set, wipe, List.map_cons, List.map_nil, List.cons_append, List.nil_append, List.length_cons, List.length_nil, Nat.reduceAdd, Nat.reduceSub, List.replicate_succ, List.replicate_zero, eq_self, Bool.false_eq_true, if_true, if_false, pr_of]
  rcases h4 with rfl | rfl | rfl | rfl
  · obtain ⟨y, rfl, hy⟩ := of_plI (hpb (by decide))
    have e : oc 0 n rs ws (nv x) (nv y) = if (x, y) ∈ rs then .bad 5 (.int 0) else if 240 ≤ rs.length then .bad 4 (.int 240) else .told n (insA ple (x, y) rs) ws := oc_nn hx hy
    rw [e] at k
    rw [if_pos (by decide)]
    simp only [pr_of, w_inP, Bool.true_bne]
    by_cases hm : (x, y) ∈ rs
    · simp only [hm, decide_true, Bool.not_true, Bool.false_eq_true, if_false, if_true] at k ⊢
      simp only [w_calln, w_call, w_cons, w_nil, w_tup, w_lst, w_op, w_un, w_c, w_var0, w_varS, w_and, w_or, w_not, w_iteE, w_lmeth, t_val, t_tru, t_and, t_or, t_not, t_yes, w_ch0, w_ch1, w_ch2, w_pr0, w_pr1, w_ix20, w_ix21, w_ix30, w_ix31, w_ix32, w_inT, w_eqI, w_add, w_sub, w_lt, w_le, w_gt, w_ge, w_neg, w_lenT, w_int, w_min, w_max, w_tupT, onB_bl, truth_bl, x_seq, x_skip, KR_ret, TK_ret, TK_brk, TK_cnt, g_name, g_unp, g_allS, g_all0, g_sub, lz0, lz1, lz2, lz3, lz4, lz5, lz6, lz7, lz8, List.set, wipe, List.map_cons, List.map_nil, List.cons_append, List.nil_append, List.length_cons, List.length_nil, Nat.reduceAdd, Nat.reduceSub, List.replicate_succ, List.replicate_zero, eq_self, Bool.false_eq_true, if_true, if_false]
      refine x_ife ?_
      simp only [w_calln, w_call, w_cons, w_nil, w_tup, w_lst, w_op, w_un, w_c, w_var0, w_varS, w_and, w_or, w_not, w_iteE, w_lmeth, t_val, t_tru, t_and, t_or, t_not, t_yes, w_ch0, w_ch1, w_ch2, w_pr0, w_pr1, w_ix20, w_ix21, w_ix30, w_ix31, w_ix32, w_inT, w_eqI, w_add, w_sub, w_lt, w_le, w_gt, w_ge, w_neg, w_lenT, w_int, w_min, w_max, w_tupT, onB_bl, truth_bl, x_seq, x_skip, KR_ret, TK_ret, TK_brk, TK_cnt, g_name, g_unp, g_allS, g_all0, g_sub, lz0, lz1, lz2, lz3, lz4, lz5, lz6, lz7, lz8, List.set, wipe, List.map_cons, List.map_nil, List.cons_append, List.nil_append, List.length_cons, List.length_nil, Nat.reduceAdd, Nat.reduceSub, List.replicate_succ, List.replicate_zero, eq_self, Bool.false_eq_true, if_true, if_false]
      rw [if_neg (by decide)]
      try simp only [w_calln, w_call, w_cons, w_nil, w_tup, w_lst, w_op, w_un, w_c, w_var0, w_varS, w_and, w_or, w_not, w_iteE, w_lmeth, t_val, t_tru, t_and, t_or, t_not, t_yes, w_ch0, w_ch1, w_ch2, w_pr0, w_pr1, w_ix20, w_ix21, w_ix30, w_ix31, w_ix32, w_inT, w_eqI, w_add, w_sub, w_lt, w_le, w_gt, w_ge, w_neg, w_lenT, w_int, w_min, w_max, w_tupT, onB_bl, truth_bl, x_seq, x_skip, KR_ret, TK_ret, TK_brk, TK_cnt, g_name, g_unp, g_allS, g_all0, g_sub, lz0, lz1, lz2, lz3, lz4, lz5, lz6, lz7, lz8, List.set, wipe, List.map_cons, List.map_nil, List.cons_append, List.nil_append, List.length_cons, List.length_nil, Nat.reduceAdd, Nat.reduceSub, List.replicate_succ, List.replicate_zero, eq_self, Bool.false_eq_true, if_true, if_false]
      refine x_ife ?_
      simp only [w_calln, w_call, w_cons, w_nil, w_tup, w_lst, w_op, w_un, w_c, w_var0, w_varS, w_and, w_or, w_not, w_iteE, w_lmeth, t_val, t_tru, t_and, t_or, t_not, t_yes, w_ch0, w_ch1, w_ch2, w_pr0, w_pr1, w_ix20, w_ix21, w_ix30, w_ix31, w_ix32, w_inT, w_eqI, w_add, w_sub, w_lt, w_le, w_gt, w_ge, w_neg, w_lenT, w_int, w_min, w_max, w_tupT, onB_bl, truth_bl, x_seq, x_skip, KR_ret, TK_ret, TK_brk, TK_cnt, g_name, g_unp, g_allS, g_all0, g_sub, lz0, lz1, lz2, lz3, lz4, lz5, lz6, lz7, lz8, List.set, wipe, List.map_cons, List.map_nil, List.cons_append, List.nil_append, List.length_cons, List.length_nil, Nat.reduceAdd, Nat.reduceSub, List.replicate_succ, List.replicate_zero, eq_self, Bool.false_eq_true, if_true, if_false]
      rw [if_neg (by decide)]
      try simp only [w_calln, w_call, w_cons, w_nil, w_tup, w_lst, w_op, w_un, w_c, w_var0, w_varS, w_and, w_or, w_not, w_iteE, w_lmeth, t_val, t_tru, t_and, t_or, t_not, t_yes, w_ch0, w_ch1, w_ch2, w_pr0, w_pr1, w_ix20, w_ix21, w_ix30, w_ix31, w_ix32, w_inT, w_eqI, w_add, w_sub, w_lt, w_le, w_gt, w_ge, w_neg, w_lenT, w_int, w_min, w_max, w_tupT, onB_bl, truth_bl, x_seq, x_skip, KR_ret, TK_ret, TK_brk, TK_cnt, g_name, g_unp, g_allS, g_all0, g_sub, lz0, lz1, lz2, lz3, lz4, lz5, lz6, lz7, lz8, List.set, wipe, List.map_cons, List.map_nil, List.cons_append, List.nil_append, List.length_cons, List.length_nil, Nat.reduceAdd, Nat.reduceSub, List.replicate_succ, List.replicate_zero, eq_self, Bool.false_eq_true, if_true, if_false]
      refine x_ife ?_
      simp only [w_calln, w_call, w_cons, w_nil, w_tup, w_lst, w_op, w_un, w_c, w_var0, w_varS, w_and, w_or, w_not, w_iteE, w_lmeth, t_val, t_tru, t_and, t_or, t_not, t_yes, w_ch0, w_ch1, w_ch2, w_pr0, w_pr1, w_ix20, w_ix21, w_ix30, w_ix31, w_ix32, w_inT, w_eqI, w_add, w_sub, w_lt, w_le, w_gt, w_ge, w_neg, w_lenT, w_int, w_min, w_max, w_tupT, onB_bl, truth_bl, x_seq, x_skip, KR_ret, TK_ret, TK_brk, TK_cnt, g_name, g_unp, g_allS, g_all0, g_sub, lz0, lz1, lz2, lz3, lz4, lz5, lz6, lz7, lz8, List.set, wipe, List.map_cons, List.map_nil, List.cons_append, List.nil_append, List.length_cons, List.length_nil, Nat.reduceAdd, Nat.reduceSub, List.replicate_succ, List.replicate_zero, eq_self, Bool.false_eq_true, if_true, if_false]
      rw [if_neg (by decide)]
      try simp only [w_calln, w_call, w_cons, w_nil, w_tup, w_lst, w_op, w_un, w_c, w_var0, w_varS, w_and, w_or, w_not, w_iteE, w_lmeth, t_val, t_tru, t_and, t_or, t_not, t_yes, w_ch0, w_ch1, w_ch2, w_pr0, w_pr1, w_ix20, w_ix21, w_ix30, w_ix31, w_ix32, w_inT, w_eqI, w_add, w_sub, w_lt, w_le, w_gt, w_ge, w_neg, w_lenT, w_int, w_min, w_max, w_tupT, onB_bl, truth_bl, x_seq, x_skip, KR_ret, TK_ret, TK_brk, TK_cnt, g_name, g_unp, g_allS, g_all0, g_sub, lz0, lz1, lz2, lz3, lz4, lz5, lz6, lz7, lz8, List.set, wipe, List.map_cons, List.map_nil, List.cons_append, List.nil_append, List.length_cons, List.length_nil, Nat.reduceAdd, Nat.reduceSub, List.replicate_succ, List.replicate_zero, eq_self, Bool.false_eq_true, if_true, if_false]
      refine x_ret ?_
      simp only [w_calln, w_call, w_cons, w_nil, w_tup, w_lst, w_op, w_un, w_c, w_var0, w_varS, w_and, w_or, w_not, w_iteE, w_lmeth, t_val, t_tru, t_and, t_or, t_not, t_yes, w_ch0, w_ch1, w_ch2, w_pr0, w_pr1, w_ix20, w_ix21, w_ix30, w_ix31, w_ix32, w_inT, w_eqI, w_add, w_sub, w_lt, w_le, w_gt, w_ge, w_neg, w_lenT, w_int, w_min, w_max, w_tupT, onB_bl, truth_bl, x_seq, x_skip, KR_ret, TK_ret, TK_brk, TK_cnt, g_name, g_unp, g_allS, g_all0, g_sub, lz0, lz1, lz2, lz3, lz4, lz5, lz6, lz7, lz8, List.set, wipe, List.map_cons, List.map_nil, List.cons_append, List.nil_append, List.length_cons, List.length_nil, Nat.reduceAdd, Nat.reduceSub, List.replicate_succ, List.replicate_zero, eq_self, Bool.false_eq_true, if_true, if_false]
      rw [w_ixL (k := 0) (seqAt_lst (get_new _ _)) rfl]
      exact k _ (k1.app _)
    · simp only [hm, decide_false, Bool.not_false, Bool.false_eq_true, if_false, if_true] at k ⊢
      simp only [w_calln, w_call, w_cons, w_nil, w_tup, w_lst, w_op, w_un, w_c, w_var0, w_varS, w_and, w_or, w_not, w_iteE, w_lmeth, t_val, t_tru, t_and, t_or, t_not, t_yes, w_ch0, w_ch1, w_ch2, w_pr0, w_pr1, w_ix20, w_ix21, w_ix30, w_ix31, w_ix32, w_inT, w_eqI, w_add, w_sub, w_lt, w_le, w_gt, w_ge, w_neg, w_lenT, w_int, w_min, w_max, w_tupT, onB_bl, truth_bl, x_seq, x_skip, KR_ret, TK_ret, TK_brk, TK_cnt, g_name, g_unp, g_allS, g_all0, g_sub, lz0, lz1, lz2, lz3, lz4, lz5, lz6, lz7, lz8, List.set, wipe, List.map_cons, List.map_nil, List.cons_append, List.nil_append, List.length_cons, List.length_nil, Nat.reduceAdd, Nat.reduceSub, List.replicate_succ, List.replicate_zero, eq_self, Bool.false_eq_true, if_true, if_false]
      refine x_asg ?_
      simp only [w_calln, w_call, w_cons, w_nil, w_tup, w_lst, w_op, w_un, w_c, w_var0, w_varS, w_and, w_or, w_not, w_iteE, w_lmeth, t_val, t_tru, t_and, t_or, t_not, t_yes, w_ch0, w_ch1, w_ch2, w_pr0, w_pr1, w_ix20, w_ix21, w_ix30, w_ix31, w_ix32, w_inT, w_eqI, w_add, w_sub, w_lt, w_le, w_gt, w_ge, w_neg, w_lenT, w_int, w_min, w_max, w_tupT, onB_bl, truth_bl, x_seq, x_skip, KR_ret, TK_ret, TK_brk, TK_cnt, g_name, g_unp, g_allS, g_all0, g_sub, lz0, lz1, lz2, lz3, lz4, lz5, lz6, lz7, lz8, List.set, wipe, List.map_cons, List.map_nil, List.cons_append, List.nil_append, List.length_cons, List.length_nil, Nat.reduceAdd, Nat.reduceSub, List.replicate_succ, List.replicate_zero, eq_self, Bool.false_eq_true, if_true, if_false]
      refine lc_pure rs pr (fun r => !ple (x, y) r) pr (i_seq ?_)
      simp only [w_calln, w_call, w_cons, w_nil, w_tup, w_lst, w_op, w_un, w_c, w_var0, w_varS, w_and, w_or, w_not, w_iteE, w_lmeth, t_val, t_tru, t_and, t_or, t_not, t_yes, w_ch0, w_ch1, w_ch2, w_pr0, w_pr1, w_ix20, w_ix21, w_ix30, w_ix31, w_ix32, w_inT, w_eqI, w_add, w_sub, w_lt, w_le, w_gt, w_ge, w_neg, w_lenT, w_int, w_min, w_max, w_tupT, onB_bl, truth_bl, x_seq, x_skip, KR_ret, TK_ret, TK_brk, TK_cnt, g_name, g_unp, g_allS, g_all0, g_sub, lz0, lz1, lz2, lz3, lz4, lz5, lz6, lz7, lz8, List.set, wipe, List.map_cons, List.map_nil, List.cons_append, List.nil_append, List.length_cons, List.length_nil, Nat.reduceAdd, Nat.reduceSub, List.replicate_succ, List.replicate_zero, eq_self, Bool.false_eq_true, if_true, if_false]
      refine .mk _ (Lk.tup _ _) (fun _ => ?_) (fun _ e => nomatch e)
      refine .mk (by unfold lineZ; omega) (Or.inl rfl) ?_ ?_
      · intro r hr s' hk
        simp only [w_calln, w_call, w_cons, w_nil, w_tup, w_lst, w_op, w_un, w_c, w_var0, w_varS, w_and, w_or, w_not, w_iteE, w_lmeth, t_val, t_tru, t_and, t_or, t_not, t_yes, w_ch0, w_ch1, w_ch2, w_pr0, w_pr1, w_ix20, w_ix21, w_ix30, w_ix31, w_ix32, w_inT, w_eqI, w_add, w_sub, w_lt, w_le, w_gt, w_ge, w_neg, w_lenT, w_int, w_min, w_max, w_tupT, onB_bl, truth_bl, x_seq, x_skip, KR_ret, TK_ret, TK_brk, TK_cnt, g_name, g_unp, g_allS, g_all0, g_sub, lz0, lz1, lz2, lz3, lz4, lz5, lz6, lz7, lz8, List.set, wipe, List.map_cons, List.map_nil, List.cons_append, List.nil_append, List.length_cons, List.length_nil, Nat.reduceAdd, Nat.reduceSub, List.replicate_succ, List.replicate_zero, eq_self, Bool.false_eq_true, if_true, if_false, pr_of, lt_pr]
        exact ⟨trivial, Kp.refl _, fun _ => ⟨trivial, Kp.refl _⟩⟩
      intro s2 k2 hD2
      try simp only [w_calln, w_call, w_cons, w_nil, w_tup, w_lst, w_op, w_un, w_c, w_var0, w_varS, w_and, w_or, w_not, w_iteE, w_lmeth, t_val, t_tru, t_and, t_or, t_not, t_yes, w_ch0, w_ch1, w_ch2, w_pr0, w_pr1, w_ix20, w_ix21, w_ix30, w_ix31, w_ix32, w_inT, w_eqI, w_add, w_sub, w_lt, w_le, w_gt, w_ge, w_neg, w_lenT, w_int, w_min, w_max, w_tupT, onB_bl, truth_bl, x_seq, x_skip, KR_ret, TK_ret, TK_brk, TK_cnt, g_name, g_unp, g_allS, g_all0, g_sub, lz0, lz1, lz2, lz3, lz4, lz5, lz6, lz7, lz8, List.set, wipe, List.map_cons, List.map_nil, List.cons_append, List.nil_append, List.length_cons, List.length_nil, Nat.reduceAdd, Nat.reduceSub, List.replicate_succ, List.replicate_zero, eq_self, Bool.false_eq_true, if_true, if_false]
      refine x_asg ?_
      simp only [w_calln, w_call, w_cons, w_nil, w_tup, w_lst, w_op, w_un, w_c, w_var0, w_varS, w_and, w_or, w_not, w_iteE, w_lmeth, t_val, t_tru, t_and, t_or, t_not, t_yes, w_ch0, w_ch1, w_ch2, w_pr0, w_pr1, w_ix20, w_ix21, w_ix30, w_ix31, w_ix32, w_inT, w_eqI, w_add, w_sub, w_lt, w_le, w_gt, w_ge, w_neg, w_lenT, w_int, w_min, w_max, w_tupT, onB_bl, truth_bl, x_seq, x_skip, KR_ret, TK_ret, TK_brk, TK_cnt, g_name, g_unp, g_allS, g_all0, g_sub, lz0, lz1, lz2, lz3, lz4, lz5, lz6, lz7, lz8, List.set, wipe, List.map_cons, List.map_nil, List.cons_append, List.nil_append, List.length_cons, List.length_nil, Nat.reduceAdd, Nat.reduceSub, List.replicate_succ, List.replicate_zero, eq_self, Bool.false_eq_true, if_true, if_false, pr_of]
      have kA : Kp [] s2 (s2 ++ [MO.lst [pr (x, y)]]) := Kp.app _ (Kp.refl _)
      have hl2 : (rs.filter fun r => !ple (x, y) r).length ≤ 240 := Nat.le_trans (List.length_filter_le _ _) hr
      have hl3 : (rs.filter fun r => !ple r (x, y)).length ≤ 240 := Nat.le_trans (List.length_filter_le _ _) hr
      rw [w_addL (kA.2 _ _ (by simp) hD2) (ys := [pr (x, y)]) (by simp) (by simp; omega)]
      have kB : Kp [] s2 (s2 ++ [MO.lst [pr (x, y)]] ++ [MO.lst (((rs.filter fun r => !ple (x, y) r).map pr) ++ [pr (x, y)])]) := Kp.app _ kA
      refine lc_pure rs pr (fun r => !ple r (x, y)) pr (i_seq ?_)
      simp only [w_calln, w_call, w_cons, w_nil, w_tup, w_lst, w_op, w_un, w_c, w_var0, w_varS, w_and, w_or, w_not, w_iteE, w_lmeth, t_val, t_tru, t_and, t_or, t_not, t_yes, w_ch0, w_ch1, w_ch2, w_pr0, w_pr1, w_ix20, w_ix21, w_ix30, w_ix31, w_ix32, w_inT, w_eqI, w_add, w_sub, w_lt, w_le, w_gt, w_ge, w_neg, w_lenT, w_int, w_min, w_max, w_tupT, onB_bl, truth_bl, x_seq, x_skip, KR_ret, TK_ret, TK_brk, TK_cnt, g_name, g_unp, g_allS, g_all0, g_sub, lz0, lz1, lz2, lz3, lz4, lz5, lz6, lz7, lz8, List.set, wipe, List.map_cons, List.map_nil, List.cons_append, List.nil_append, List.length_cons, List.length_nil, Nat.reduceAdd, Nat.reduceSub, List.replicate_succ, List.replicate_zero, eq_self, Bool.false_eq_true, if_true, if_false]
      refine .mk _ (Lk.tup _ _) (fun _ => ?_) (fun _ e => nomatch e)
      refine .mk (by unfold lineZ; omega) (Or.inl rfl) ?_ ?_
      · intro r hr s' hk
        simp only [w_calln, w_call, w_cons, w_nil, w_tup, w_lst, w_op, w_un, w_c, w_var0, w_varS, w_and, w_or, w_not, w_iteE, w_lmeth, t_val, t_tru, t_and, t_or, t_not, t_yes, w_ch0, w_ch1, w_ch2, w_pr0, w_pr1, w_ix20, w_ix21, w_ix30, w_ix31, w_ix32, w_inT, w_eqI, w_add, w_sub, w_lt, w_le, w_gt, w_ge, w_neg, w_lenT, w_int, w_min, w_max, w_tupT, onB_bl, truth_bl, x_seq, x_skip, KR_ret, TK_ret, TK_brk, TK_cnt, g_name, g_unp, g_allS, g_all0, g_sub, lz0, lz1, lz2, lz3, lz4, lz5, lz6, lz7, lz8, List.set, wipe, List.map_cons, List.map_nil, List.cons_append, List.nil_append, List.length_cons, List.length_nil, Nat.reduceAdd, Nat.reduceSub, List.replicate_succ, List.replicate_zero, eq_self, Bool.false_eq_true, if_true, if_false, pr_of, gt_pr]
        exact ⟨trivial, Kp.refl _, fun _ => ⟨trivial, Kp.refl _⟩⟩
      intro s3 k3 hD3
      rw [w_addL (xs := ((rs.filter fun r => !ple (x, y) r).map pr) ++ [pr (x, y)]) (k3.2 _ _ (by simp) (by simp)) hD3 (by simp; omega)]
      have e4 : (((rs.filter fun r => !ple (x, y) r).map pr) ++ [pr (x, y)]) ++ (rs.filter fun r => !ple r (x, y)).map pr = (insA ple (x, y) rs).map pr := by unfold insA; simp
      rw [e4]
      try simp only [w_calln, w_call, w_cons, w_nil, w_tup, w_lst, w_op, w_un, w_c, w_var0, w_varS, w_and, w_or, w_not, w_iteE, w_lmeth, t_val, t_tru, t_and, t_or, t_not, t_yes, w_ch0, w_ch1, w_ch2, w_pr0, w_pr1, w_ix20, w_ix21, w_ix30, w_ix31, w_ix32, w_inT, w_eqI, w_add, w_sub, w_lt, w_le, w_gt, w_ge, w_neg, w_lenT, w_int, w_min, w_max, w_tupT, onB_bl, truth_bl, x_seq, x_skip, KR_ret, TK_ret, TK_brk, TK_cnt, g_name, g_unp, g_allS, g_all0, g_sub, lz0, lz1, lz2, lz3, lz4, lz5, lz6, lz7, lz8, List.set, wipe, List.map_cons, List.map_nil, List.cons_append, List.nil_append, List.length_cons, List.length_nil, Nat.reduceAdd, Nat.reduceSub, List.replicate_succ, List.replicate_zero, eq_self, Bool.false_eq_true, if_true, if_false]
      have k03 : Kp [] s1 s3 := (k2.trans kB).trans k3
      refine x_ret ?_
      simp only [w_calln, w_call, w_cons, w_nil, w_tup, w_lst, w_op, w_un, w_c, w_var0, w_varS, w_and, w_or, w_not, w_iteE, w_lmeth, t_val, t_tru, t_and, t_or, t_not, t_yes, w_ch0, w_ch1, w_ch2, w_pr0, w_pr1, w_ix20, w_ix21, w_ix30, w_ix31, w_ix32, w_inT, w_eqI, w_add, w_sub, w_lt, w_le, w_gt, w_ge, w_neg, w_lenT, w_int, w_min, w_max, w_tupT, onB_bl, truth_bl, x_seq, x_skip, KR_ret, TK_ret, TK_brk, TK_cnt, g_name, g_unp, g_allS, g_all0, g_sub, lz0, lz1, lz2, lz3, lz4, lz5, lz6, lz7, lz8, List.set, wipe, List.map_cons, List.map_nil, List.cons_append, List.nil_append, List.length_cons, List.length_nil, Nat.reduceAdd, Nat.reduceSub, List.replicate_succ, List.replicate_zero, eq_self, Bool.false_eq_true, if_true, if_false, List.length_map]
      by_cases hl : 240 ≤ rs.length
      · rw [if_pos (by simp; omega)]
        rw [if_pos hl] at k
        exact k _ ((k1.trans k03).app _)
      · rw [if_neg (by simp; omega)]
        rw [if_neg hl] at k
        rw [w_tupL (xs := (insA ple (x, y) rs).map pr) (seqAt_lst (by simp))]
        exact k _ ((k1.trans k03).app _)
  · obtain ⟨y, rfl, hy⟩ := of_plI (hpb (by decide))
    have e : oc 1 n rs ws (nv x) (nv y) = if (x, y) ∈ rs then .told n (delA (x, y) rs) ws else .bad 6 (.int 0) := oc_nn hx hy
    rw [e] at k
    rw [if_neg (by decide)]
    try simp only [w_calln, w_call, w_cons, w_nil, w_tup, w_lst, w_op, w_un, w_c, w_var0, w_varS, w_and, w_or, w_not, w_iteE, w_lmeth, t_val, t_tru, t_and, t_or, t_not, t_yes, w_ch0, w_ch1, w_ch2, w_pr0, w_pr1, w_ix20, w_ix21, w_ix30, w_ix31, w_ix32, w_inT, w_eqI, w_add, w_sub, w_lt, w_le, w_gt, w_ge, w_neg, w_lenT, w_int, w_min, w_max, w_tupT, onB_bl, truth_bl, x_seq, x_skip, KR_ret, TK_ret, TK_brk, TK_cnt, g_name, g_unp, g_allS, g_all0, g_sub, lz0, lz1, lz2, lz3, lz4, lz5, lz6, lz7, lz8, List.set, wipe, List.map_cons, List.map_nil, List.cons_append, List.nil_append, List.length_cons, List.length_nil, Nat.reduceAdd, Nat.reduceSub, List.replicate_succ, List.replicate_zero, eq_self, Bool.false_eq_true, if_true, if_false]
    refine x_ife ?_
    simp only [w_calln, w_call, w_cons, w_nil, w_tup, w_lst, w_op, w_un, w_c, w_var0, w_varS, w_and, w_or, w_not, w_iteE, w_lmeth, t_val, t_tru, t_and, t_or, t_not, t_yes, w_ch0, w_ch1, w_ch2, w_pr0, w_pr1, w_ix20, w_ix21, w_ix30, w_ix31, w_ix32, w_inT, w_eqI, w_add, w_sub, w_lt, w_le, w_gt, w_ge, w_neg, w_lenT, w_int, w_min, w_max, w_tupT, onB_bl, truth_bl, x_seq, x_skip, KR_ret, TK_ret, TK_brk, TK_cnt, g_name, g_unp, g_allS, g_all0, g_sub, lz0, lz1, lz2, lz3, lz4, lz5, lz6, lz7, lz8, List.set, wipe, List.map_cons, List.map_nil, List.cons_append, List.nil_append, List.length_cons, List.length_nil, Nat.reduceAdd, Nat.reduceSub, List.replicate_succ, List.replicate_zero, eq_self, Bool.false_eq_true, if_true, if_false]
    rw [if_pos (by decide)]
    simp only [pr_of, w_inP, Bool.false_bne]
    by_cases hm : (x, y) ∈ rs
    · simp only [hm, decide_true, if_true] at k ⊢
      refine x_ret ?_
      simp only [w_calln, w_call, w_cons, w_nil, w_tup, w_lst, w_op, w_un, w_c, w_var0, w_varS, w_and, w_or, w_not, w_iteE, w_lmeth, t_val, t_tru, t_and, t_or, t_not, t_yes, w_ch0, w_ch1, w_ch2, w_pr0, w_pr1, w_ix20, w_ix21, w_ix30, w_ix31, w_ix32, w_inT, w_eqI, w_add, w_sub, w_lt, w_le, w_gt, w_ge, w_neg, w_lenT, w_int, w_min, w_max, w_tupT, onB_bl, truth_bl, x_seq, x_skip, KR_ret, TK_ret, TK_brk, TK_cnt, g_name, g_unp, g_allS, g_all0, g_sub, lz0, lz1, lz2, lz3, lz4, lz5, lz6, lz7, lz8, List.set, wipe, List.map_cons, List.map_nil, List.cons_append, List.nil_append, List.length_cons, List.length_nil, Nat.reduceAdd, Nat.reduceSub, List.replicate_succ, List.replicate_zero, eq_self, Bool.false_eq_true, if_true, if_false]
      refine lc_pure rs pr (fun r => !decide (r = (x, y))) pr (i_seq ?_)
      simp only [w_calln, w_call, w_cons, w_nil, w_tup, w_lst, w_op, w_un, w_c, w_var0, w_varS, w_and, w_or, w_not, w_iteE, w_lmeth, t_val, t_tru, t_and, t_or, t_not, t_yes, w_ch0, w_ch1, w_ch2, w_pr0, w_pr1, w_ix20, w_ix21, w_ix30, w_ix31, w_ix32, w_inT, w_eqI, w_add, w_sub, w_lt, w_le, w_gt, w_ge, w_neg, w_lenT, w_int, w_min, w_max, w_tupT, onB_bl, truth_bl, x_seq, x_skip, KR_ret, TK_ret, TK_brk, TK_cnt, g_name, g_unp, g_allS, g_all0, g_sub, lz0, lz1, lz2, lz3, lz4, lz5, lz6, lz7, lz8, List.set, wipe, List.map_cons, List.map_nil, List.cons_append, List.nil_append, List.length_cons, List.length_nil, Nat.reduceAdd, Nat.reduceSub, List.replicate_succ, List.replicate_zero, eq_self, Bool.false_eq_true, if_true, if_false]
      refine .mk _ (Lk.tup _ _) (fun _ => ?_) (fun _ e => nomatch e)
      refine .mk (by unfold lineZ; omega) (Or.inl rfl) ?_ ?_
      · intro r hr s' hk
        simp only [w_calln, w_call, w_cons, w_nil, w_tup, w_lst, w_op, w_un, w_c, w_var0, w_varS, w_and, w_or, w_not, w_iteE, w_lmeth, t_val, t_tru, t_and, t_or, t_not, t_yes, w_ch0, w_ch1, w_ch2, w_pr0, w_pr1, w_ix20, w_ix21, w_ix30, w_ix31, w_ix32, w_inT, w_eqI, w_add, w_sub, w_lt, w_le, w_gt, w_ge, w_neg, w_lenT, w_int, w_min, w_max, w_tupT, onB_bl, truth_bl, x_seq, x_skip, KR_ret, TK_ret, TK_brk, TK_cnt, g_name, g_unp, g_allS, g_all0, g_sub, lz0, lz1, lz2, lz3, lz4, lz5, lz6, lz7, lz8, List.set, wipe, List.map_cons, List.map_nil, List.cons_append, List.nil_append, List.length_cons, List.length_nil, Nat.reduceAdd, Nat.reduceSub, List.replicate_succ, List.replicate_zero, eq_self, Bool.false_eq_true, if_true, if_false, pr_of, w_eqPr, Bool.true_bne]
        exact ⟨trivial, Kp.refl _, fun _ => ⟨trivial, Kp.refl _⟩⟩
      intro s2 k2 hD2
      rw [w_tupL (seqAt_lst hD2)]
      try simp only [w_calln, w_call, w_cons, w_nil, w_tup, w_lst, w_op, w_un, w_c, w_var0, w_varS, w_and, w_or, w_not, w_iteE, w_lmeth, t_val, t_tru, t_and, t_or, t_not, t_yes, w_ch0, w_ch1, w_ch2, w_pr0, w_pr1, w_ix20, w_ix21, w_ix30, w_ix31, w_ix32, w_inT, w_eqI, w_add, w_sub, w_lt, w_le, w_gt, w_ge, w_neg, w_lenT, w_int, w_min, w_max, w_tupT, onB_bl, truth_bl, x_seq, x_skip, KR_ret, TK_ret, TK_brk, TK_cnt, g_name, g_unp, g_allS, g_all0, g_sub, lz0, lz1, lz2, lz3, lz4, lz5, lz6, lz7, lz8, List.set, wipe, List.map_cons, List.map_nil, List.cons_append, List.nil_append, List.length_cons, List.length_nil, Nat.reduceAdd, Nat.reduceSub, List.replicate_succ, List.replicate_zero, eq_self, Bool.false_eq_true, if_true, if_false]
      exact k _ (k1.trans k2)
    · simp only [hm, decide_false, if_false, Bool.false_eq_true] at k ⊢
      simp only [w_calln, w_call, w_cons, w_nil, w_tup, w_lst, w_op, w_un, w_c, w_var0, w_varS, w_and, w_or, w_not, w_iteE, w_lmeth, t_val, t_tru, t_and, t_or, t_not, t_yes, w_ch0, w_ch1, w_ch2, w_pr0, w_pr1, w_ix20, w_ix21, w_ix30, w_ix31, w_ix32, w_inT, w_eqI, w_add, w_sub, w_lt, w_le, w_gt, w_ge, w_neg, w_lenT, w_int, w_min, w_max, w_tupT, onB_bl, truth_bl, x_seq, x_skip, KR_ret, TK_ret, TK_brk, TK_cnt, g_name, g_unp, g_allS, g_all0, g_sub, lz0, lz1, lz2, lz3, lz4, lz5, lz6, lz7, lz8, List.set, wipe, List.map_cons, List.map_nil, List.cons_append, List.nil_append, List.length_cons, List.length_nil, Nat.reduceAdd, Nat.reduceSub, List.replicate_succ, List.replicate_zero, eq_self, Bool.false_eq_true, if_true, if_false]
      refine x_ife ?_
      simp only [w_calln, w_call, w_cons, w_nil, w_tup, w_lst, w_op, w_un, w_c, w_var0, w_varS, w_and, w_or, w_not, w_iteE, w_lmeth, t_val, t_tru, t_and, t_or, t_not, t_yes, w_ch0, w_ch1, w_ch2, w_pr0, w_pr1, w_ix20, w_ix21, w_ix30, w_ix31, w_ix32, w_inT, w_eqI, w_add, w_sub, w_lt, w_le, w_gt, w_ge, w_neg, w_lenT, w_int, w_min, w_max, w_tupT, onB_bl, truth_bl, x_seq, x_skip, KR_ret, TK_ret, TK_brk, TK_cnt, g_name, g_unp, g_allS, g_all0, g_sub, lz0, lz1, lz2, lz3, lz4, lz5, lz6, lz7, lz8, List.set, wipe, List.map_cons, List.map_nil, List.cons_append, List.nil_append, List.length_cons, List.length_nil, Nat.reduceAdd, Nat.reduceSub, List.replicate_succ, List.replicate_zero, eq_self, Bool.false_eq_true, if_true, if_false]
      rw [if_neg (by decide)]
      try simp only [w_calln, w_call, w_cons, w_nil, w_tup, w_lst, w_op, w_un, w_c, w_var0, w_varS, w_and, w_or, w_not, w_iteE, w_lmeth, t_val, t_tru, t_and, t_or, t_not, t_yes, w_ch0, w_ch1, w_ch2, w_pr0, w_pr1, w_ix20, w_ix21, w_ix30, w_ix31, w_ix32, w_inT, w_eqI, w_add, w_sub, w_lt, w_le, w_gt, w_ge, w_neg, w_lenT, w_int, w_min, w_max, w_tupT, onB_bl, truth_bl, x_seq, x_skip, KR_ret, TK_ret, TK_brk, TK_cnt, g_name, g_unp, g_allS, g_all0, g_sub, lz0, lz1, lz2, lz3, lz4, lz5, lz6, lz7, lz8, List.set, wipe, List.map_cons, List.map_nil, List.cons_append, List.nil_append, List.length_cons, List.length_nil, Nat.reduceAdd, Nat.reduceSub, List.replicate_succ, List.replicate_zero, eq_self, Bool.false_eq_true, if_true, if_false]
      refine x_ife ?_
      simp only [w_calln, w_call, w_cons, w_nil, w_tup, w_lst, w_op, w_un, w_c, w_var0, w_varS, w_and, w_or, w_not, w_iteE, w_lmeth, t_val, t_tru, t_and, t_or, t_not, t_yes, w_ch0, w_ch1, w_ch2, w_pr0, w_pr1, w_ix20, w_ix21, w_ix30, w_ix31, w_ix32, w_inT, w_eqI, w_add, w_sub, w_lt, w_le, w_gt, w_ge, w_neg, w_lenT, w_int, w_min, w_max, w_tupT, onB_bl, truth_bl, x_seq, x_skip, KR_ret, TK_ret, TK_brk, TK_cnt, g_name, g_unp, g_allS, g_all0, g_sub, lz0, lz1, lz2, lz3, lz4, lz5, lz6, lz7, lz8, List.set, wipe, List.map_cons, List.map_nil, List.cons_append, List.nil_append, List.length_cons, List.length_nil, Nat.reduceAdd, Nat.reduceSub, List.replicate_succ, List.replicate_zero, eq_self, Bool.false_eq_true, if_true, if_false]
      rw [if_neg (by decide)]
      try simp only [w_calln, w_call, w_cons, w_nil, w_tup, w_lst, w_op, w_un, w_c, w_var0, w_varS, w_and, w_or, w_not, w_iteE, w_lmeth, t_val, t_tru, t_and, t_or, t_not, t_yes, w_ch0, w_ch1, w_ch2, w_pr0, w_pr1, w_ix20, w_ix21, w_ix30, w_ix31, w_ix32, w_inT, w_eqI, w_add, w_sub, w_lt, w_le, w_gt, w_ge, w_neg, w_lenT, w_int, w_min, w_max, w_tupT, onB_bl, truth_bl, x_seq, x_skip, KR_ret, TK_ret, TK_brk, TK_cnt, g_name, g_unp, g_allS, g_all0, g_sub, lz0, lz1, lz2, lz3, lz4, lz5, lz6, lz7, lz8, List.set, wipe, List.map_cons, List.map_nil, List.cons_append, List.nil_append, List.length_cons, List.length_nil, Nat.reduceAdd, Nat.reduceSub, List.replicate_succ, List.replicate_zero, eq_self, Bool.false_eq_true, if_true, if_false]
      refine x_ret ?_
      simp only [w_calln, w_call, w_cons, w_nil, w_tup, w_lst, w_op, w_un, w_c, w_var0, w_varS, w_and, w_or, w_not, w_iteE, w_lmeth, t_val, t_tru, t_and, t_or, t_not, t_yes, w_ch0, w_ch1, w_ch2, w_pr0, w_pr1, w_ix20, w_ix21, w_ix30, w_ix31, w_ix32, w_inT, w_eqI, w_add, w_sub, w_lt, w_le, w_gt, w_ge, w_neg, w_lenT, w_int, w_min, w_max, w_tupT, onB_bl, truth_bl, x_seq, x_skip, KR_ret, TK_ret, TK_brk, TK_cnt, g_name, g_unp, g_allS, g_all0, g_sub, lz0, lz1, lz2, lz3, lz4, lz5, lz6, lz7, lz8, List.set, wipe, List.map_cons, List.map_nil, List.cons_append, List.nil_append, List.length_cons, List.length_nil, Nat.reduceAdd, Nat.reduceSub, List.replicate_succ, List.replicate_zero, eq_self, Bool.false_eq_true, if_true, if_false]
      rw [w_ixL (k := 1) (seqAt_lst (get_new _ _)) rfl]
      exact k _ (k1.app _)
  · have e : oc 2 n rs ws (nv x) b = if x ∈ ws then .bad 5 (.int 0) else .told n rs (insA nle x ws) := oc_n hx (by decide)
    rw [e] at k
    rw [if_neg (by decide)]
    try simp only [w_calln, w_call, w_cons, w_nil, w_tup, w_lst, w_op, w_un, w_c, w_var0, w_varS, w_and, w_or, w_not, w_iteE, w_lmeth, t_val, t_tru, t_and, t_or, t_not, t_yes, w_ch0, w_ch1, w_ch2, w_pr0, w_pr1, w_ix20, w_ix21, w_ix30, w_ix31, w_ix32, w_inT, w_eqI, w_add, w_sub, w_lt, w_le, w_gt, w_ge, w_neg, w_lenT, w_int, w_min, w_max, w_tupT, onB_bl, truth_bl, x_seq, x_skip, KR_ret, TK_ret, TK_brk, TK_cnt, g_name, g_unp, g_allS, g_all0, g_sub, lz0, lz1, lz2, lz3, lz4, lz5, lz6, lz7, lz8, List.set, wipe, List.map_cons, List.map_nil, List.cons_append, List.nil_append, List.length_cons, List.length_nil, Nat.reduceAdd, Nat.reduceSub, List.replicate_succ, List.replicate_zero, eq_self, Bool.false_eq_true, if_true, if_false]
    refine x_ife ?_
    simp only [w_calln, w_call, w_cons, w_nil, w_tup, w_lst, w_op, w_un, w_c, w_var0, w_varS, w_and, w_or, w_not, w_iteE, w_lmeth, t_val, t_tru, t_and, t_or, t_not, t_yes, w_ch0, w_ch1, w_ch2, w_pr0, w_pr1, w_ix20, w_ix21, w_ix30, w_ix31, w_ix32, w_inT, w_eqI, w_add, w_sub, w_lt, w_le, w_gt, w_ge, w_neg, w_lenT, w_int, w_min, w_max, w_tupT, onB_bl, truth_bl, x_seq, x_skip, KR_ret, TK_ret, TK_brk, TK_cnt, g_name, g_unp, g_allS, g_all0, g_sub, lz0, lz1, lz2, lz3, lz4, lz5, lz6, lz7, lz8, List.set, wipe, List.map_cons, List.map_nil, List.cons_append, List.nil_append, List.length_cons, List.length_nil, Nat.reduceAdd, Nat.reduceSub, List.replicate_succ, List.replicate_zero, eq_self, Bool.false_eq_true, if_true, if_false]
    rw [if_neg (by decide)]
    try simp only [w_calln, w_call, w_cons, w_nil, w_tup, w_lst, w_op, w_un, w_c, w_var0, w_varS, w_and, w_or, w_not, w_iteE, w_lmeth, t_val, t_tru, t_and, t_or, t_not, t_yes, w_ch0, w_ch1, w_ch2, w_pr0, w_pr1, w_ix20, w_ix21, w_ix30, w_ix31, w_ix32, w_inT, w_eqI, w_add, w_sub, w_lt, w_le, w_gt, w_ge, w_neg, w_lenT, w_int, w_min, w_max, w_tupT, onB_bl, truth_bl, x_seq, x_skip, KR_ret, TK_ret, TK_brk, TK_cnt, g_name, g_unp, g_allS, g_all0, g_sub, lz0, lz1, lz2, lz3, lz4, lz5, lz6, lz7, lz8, List.set, wipe, List.map_cons, List.map_nil, List.cons_append, List.nil_append, List.length_cons, List.length_nil, Nat.reduceAdd, Nat.reduceSub, List.replicate_succ, List.replicate_zero, eq_self, Bool.false_eq_true, if_true, if_false]
    refine x_ife ?_
    simp only [w_calln, w_call, w_cons, w_nil, w_tup, w_lst, w_op, w_un, w_c, w_var0, w_varS, w_and, w_or, w_not, w_iteE, w_lmeth, t_val, t_tru, t_and, t_or, t_not, t_yes, w_ch0, w_ch1, w_ch2, w_pr0, w_pr1, w_ix20, w_ix21, w_ix30, w_ix31, w_ix32, w_inT, w_eqI, w_add, w_sub, w_lt, w_le, w_gt, w_ge, w_neg, w_lenT, w_int, w_min, w_max, w_tupT, onB_bl, truth_bl, x_seq, x_skip, KR_ret, TK_ret, TK_brk, TK_cnt, g_name, g_unp, g_allS, g_all0, g_sub, lz0, lz1, lz2, lz3, lz4, lz5, lz6, lz7, lz8, List.set, wipe, List.map_cons, List.map_nil, List.cons_append, List.nil_append, List.length_cons, List.length_nil, Nat.reduceAdd, Nat.reduceSub, List.replicate_succ, List.replicate_zero, eq_self, Bool.false_eq_true, if_true, if_false]
    rw [if_pos (by decide)]
    simp only [w_calln, w_call, w_cons, w_nil, w_tup, w_lst, w_op, w_un, w_c, w_var0, w_varS, w_and, w_or, w_not, w_iteE, w_lmeth, t_val, t_tru, t_and, t_or, t_not, t_yes, w_ch0, w_ch1, w_ch2, w_pr0, w_pr1, w_ix20, w_ix21, w_ix30, w_ix31, w_ix32, w_inT, w_eqI, w_add, w_sub, w_lt, w_le, w_gt, w_ge, w_neg, w_lenT, w_int, w_min, w_max, w_tupT, onB_bl, truth_bl, x_seq, x_skip, KR_ret, TK_ret, TK_brk, TK_cnt, g_name, g_unp, g_allS, g_all0, g_sub, lz0, lz1, lz2, lz3, lz4, lz5, lz6, lz7, lz8, List.set, wipe, List.map_cons, List.map_nil, List.cons_append, List.nil_append, List.length_cons, List.length_nil, Nat.reduceAdd, Nat.reduceSub, List.replicate_succ, List.replicate_zero, eq_self, Bool.false_eq_true, if_true, if_false, Bool.true_bne]
    by_cases hm : x ∈ ws
    · simp only [hm, decide_true, Bool.not_true, Bool.false_eq_true, if_false, if_true] at k ⊢
      try simp only [w_calln, w_call, w_cons, w_nil, w_tup, w_lst, w_op, w_un, w_c, w_var0, w_varS, w_and, w_or, w_not, w_iteE, w_lmeth, t_val, t_tru, t_and, t_or, t_not, t_yes, w_ch0, w_ch1, w_ch2, w_pr0, w_pr1, w_ix20, w_ix21, w_ix30, w_ix31, w_ix32, w_inT, w_eqI, w_add, w_sub, w_lt, w_le, w_gt, w_ge, w_neg, w_lenT, w_int, w_min, w_max, w_tupT, onB_bl, truth_bl, x_seq, x_skip, KR_ret, TK_ret, TK_brk, TK_cnt, g_name, g_unp, g_allS, g_all0, g_sub, lz0, lz1, lz2, lz3, lz4, lz5, lz6, lz7, lz8, List.set, wipe, List.map_cons, List.map_nil, List.cons_append, List.nil_append, List.length_cons, List.length_nil, Nat.reduceAdd, Nat.reduceSub, List.replicate_succ, List.replicate_zero, eq_self, Bool.false_eq_true, if_true, if_false]
      refine x_ife ?_
      simp only [w_calln, w_call, w_cons, w_nil, w_tup, w_lst, w_op, w_un, w_c, w_var0, w_varS, w_and, w_or, w_not, w_iteE, w_lmeth, t_val, t_tru, t_and, t_or, t_not, t_yes, w_ch0, w_ch1, w_ch2, w_pr0, w_pr1, w_ix20, w_ix21, w_ix30, w_ix31, w_ix32, w_inT, w_eqI, w_add, w_sub, w_lt, w_le, w_gt, w_ge, w_neg, w_lenT, w_int, w_min, w_max, w_tupT, onB_bl, truth_bl, x_seq, x_skip, KR_ret, TK_ret, TK_brk, TK_cnt, g_name, g_unp, g_allS, g_all0, g_sub, lz0, lz1, lz2, lz3, lz4, lz5, lz6, lz7, lz8, List.set, wipe, List.map_cons, List.map_nil, List.cons_append, List.nil_append, List.length_cons, List.length_nil, Nat.reduceAdd, Nat.reduceSub, List.replicate_succ, List.replicate_zero, eq_self, Bool.false_eq_true, if_true, if_false]
      rw [if_neg (by decide)]
      try simp only [w_calln, w_call, w_cons, w_nil, w_tup, w_lst, w_op, w_un, w_c, w_var0, w_varS, w_and, w_or, w_not, w_iteE, w_lmeth, t_val, t_tru, t_and, t_or, t_not, t_yes, w_ch0, w_ch1, w_ch2, w_pr0, w_pr1, w_ix20, w_ix21, w_ix30, w_ix31, w_ix32, w_inT, w_eqI, w_add, w_sub, w_lt, w_le, w_gt, w_ge, w_neg, w_lenT, w_int, w_min, w_max, w_tupT, onB_bl, truth_bl, x_seq, x_skip, KR_ret, TK_ret, TK_brk, TK_cnt, g_name, g_unp, g_allS, g_all0, g_sub, lz0, lz1, lz2, lz3, lz4, lz5, lz6, lz7, lz8, List.set, wipe, List.map_cons, List.map_nil, List.cons_append, List.nil_append, List.length_cons, List.length_nil, Nat.reduceAdd, Nat.reduceSub, List.replicate_succ, List.replicate_zero, eq_self, Bool.false_eq_true, if_true, if_false]
      refine x_ret ?_
      simp only [w_calln, w_call, w_cons, w_nil, w_tup, w_lst, w_op, w_un, w_c, w_var0, w_varS, w_and, w_or, w_not, w_iteE, w_lmeth, t_val, t_tru, t_and, t_or, t_not, t_yes, w_ch0, w_ch1, w_ch2, w_pr0, w_pr1, w_ix20, w_ix21, w_ix30, w_ix31, w_ix32, w_inT, w_eqI, w_add, w_sub, w_lt, w_le, w_gt, w_ge, w_neg, w_lenT, w_int, w_min, w_max, w_tupT, onB_bl, truth_bl, x_seq, x_skip, KR_ret, TK_ret, TK_brk, TK_cnt, g_name, g_unp, g_allS, g_all0, g_sub, lz0, lz1, lz2, lz3, lz4, lz5, lz6, lz7, lz8, List.set, wipe, List.map_cons, List.map_nil, List.cons_append, List.nil_append, List.length_cons, List.length_nil, Nat.reduceAdd, Nat.reduceSub, List.replicate_succ, List.replicate_zero, eq_self, Bool.false_eq_true, if_true, if_false]
      rw [w_ixL (k := 2) (seqAt_lst (get_new _ _)) rfl]
      exact k _ (k1.app _)
    · simp only [hm, decide_false, Bool.not_false, Bool.false_eq_true, if_false, if_true] at k ⊢
      try simp only [w_calln, w_call, w_cons, w_nil, w_tup, w_lst, w_op, w_un, w_c, w_var0, w_varS, w_and, w_or, w_not, w_iteE, w_lmeth, t_val, t_tru, t_and, t_or, t_not, t_yes, w_ch0, w_ch1, w_ch2, w_pr0, w_pr1, w_ix20, w_ix21, w_ix30, w_ix31, w_ix32, w_inT, w_eqI, w_add, w_sub, w_lt, w_le, w_gt, w_ge, w_neg, w_lenT, w_int, w_min, w_max, w_tupT, onB_bl, truth_bl, x_seq, x_skip, KR_ret, TK_ret, TK_brk, TK_cnt, g_name, g_unp, g_allS, g_all0, g_sub, lz0, lz1, lz2, lz3, lz4, lz5, lz6, lz7, lz8, List.set, wipe, List.map_cons, List.map_nil, List.cons_append, List.nil_append, List.length_cons, List.length_nil, Nat.reduceAdd, Nat.reduceSub, List.replicate_succ, List.replicate_zero, eq_self, Bool.false_eq_true, if_true, if_false]
      refine x_asg ?_
      simp only [w_calln, w_call, w_cons, w_nil, w_tup, w_lst, w_op, w_un, w_c, w_var0, w_varS, w_and, w_or, w_not, w_iteE, w_lmeth, t_val, t_tru, t_and, t_or, t_not, t_yes, w_ch0, w_ch1, w_ch2, w_pr0, w_pr1, w_ix20, w_ix21, w_ix30, w_ix31, w_ix32, w_inT, w_eqI, w_add, w_sub, w_lt, w_le, w_gt, w_ge, w_neg, w_lenT, w_int, w_min, w_max, w_tupT, onB_bl, truth_bl, x_seq, x_skip, KR_ret, TK_ret, TK_brk, TK_cnt, g_name, g_unp, g_allS, g_all0, g_sub, lz0, lz1, lz2, lz3, lz4, lz5, lz6, lz7, lz8, List.set, wipe, List.map_cons, List.map_nil, List.cons_append, List.nil_append, List.length_cons, List.length_nil, Nat.reduceAdd, Nat.reduceSub, List.replicate_succ, List.replicate_zero, eq_self, Bool.false_eq_true, if_true, if_false]
      refine lc_pure ws nv (fun r => !nle x r) nv (i_seq ?_)
      simp only [w_calln, w_call, w_cons, w_nil, w_tup, w_lst, w_op, w_un, w_c, w_var0, w_varS, w_and, w_or, w_not, w_iteE, w_lmeth, t_val, t_tru, t_and, t_or, t_not, t_yes, w_ch0, w_ch1, w_ch2, w_pr0, w_pr1, w_ix20, w_ix21, w_ix30, w_ix31, w_ix32, w_inT, w_eqI, w_add, w_sub, w_lt, w_le, w_gt, w_ge, w_neg, w_lenT, w_int, w_min, w_max, w_tupT, onB_bl, truth_bl, x_seq, x_skip, KR_ret, TK_ret, TK_brk, TK_cnt, g_name, g_unp, g_allS, g_all0, g_sub, lz0, lz1, lz2, lz3, lz4, lz5, lz6, lz7, lz8, List.set, wipe, List.map_cons, List.map_nil, List.cons_append, List.nil_append, List.length_cons, List.length_nil, Nat.reduceAdd, Nat.reduceSub, List.replicate_succ, List.replicate_zero, eq_self, Bool.false_eq_true, if_true, if_false]
      refine .mk _ (Lk.tup _ _) (fun _ => ?_) (fun _ e => nomatch e)
      refine .mk (by unfold lineZ; omega) (Or.inl rfl) ?_ ?_
      · intro r hr s' hk
        simp only [w_calln, w_call, w_cons, w_nil, w_tup, w_lst, w_op, w_un, w_c, w_var0, w_varS, w_and, w_or, w_not, w_iteE, w_lmeth, t_val, t_tru, t_and, t_or, t_not, t_yes, w_ch0, w_ch1, w_ch2, w_pr0, w_pr1, w_ix20, w_ix21, w_ix30, w_ix31, w_ix32, w_inT, w_eqI, w_add, w_sub, w_lt, w_le, w_gt, w_ge, w_neg, w_lenT, w_int, w_min, w_max, w_tupT, onB_bl, truth_bl, x_seq, x_skip, KR_ret, TK_ret, TK_brk, TK_cnt, g_name, g_unp, g_allS, g_all0, g_sub, lz0, lz1, lz2, lz3, lz4, lz5, lz6, lz7, lz8, List.set, wipe, List.map_cons, List.map_nil, List.cons_append, List.nil_append, List.length_cons, List.length_nil, Nat.reduceAdd, Nat.reduceSub, List.replicate_succ, List.replicate_zero, eq_self, Bool.false_eq_true, if_true, if_false, lt_nle]
        exact ⟨trivial, Kp.refl _, fun _ => ⟨trivial, Kp.refl _⟩⟩
      intro s2 k2 hD2
      try simp only [w_calln, w_call, w_cons, w_nil, w_tup, w_lst, w_op, w_un, w_c, w_var0, w_varS, w_and, w_or, w_not, w_iteE, w_lmeth, t_val, t_tru, t_and, t_or, t_not, t_yes, w_ch0, w_ch1, w_ch2, w_pr0, w_pr1, w_ix20, w_ix21, w_ix30, w_ix31, w_ix32, w_inT, w_eqI, w_add, w_sub, w_lt, w_le, w_gt, w_ge, w_neg, w_lenT, w_int, w_min, w_max, w_tupT, onB_bl, truth_bl, x_seq, x_skip, KR_ret, TK_ret, TK_brk, TK_cnt, g_name, g_unp, g_allS, g_all0, g_sub, lz0, lz1, lz2, lz3, lz4, lz5, lz6, lz7, lz8, List.set, wipe, List.map_cons, List.map_nil, List.cons_append, List.nil_append, List.length_cons, List.length_nil, Nat.reduceAdd, Nat.reduceSub, List.replicate_succ, List.replicate_zero, eq_self, Bool.false_eq_true, if_true, if_false]
      refine x_ret ?_
      simp only [w_calln, w_call, w_cons, w_nil, w_tup, w_lst, w_op, w_un, w_c, w_var0, w_varS, w_and, w_or, w_not, w_iteE, w_lmeth, t_val, t_tru, t_and, t_or, t_not, t_yes, w_ch0, w_ch1, w_ch2, w_pr0, w_pr1, w_ix20, w_ix21, w_ix30, w_ix31, w_ix32, w_inT, w_eqI, w_add, w_sub, w_lt, w_le, w_gt, w_ge, w_neg, w_lenT, w_int, w_min, w_max, w_tupT, onB_bl, truth_bl, x_seq, x_skip, KR_ret, TK_ret, TK_brk, TK_cnt, g_name, g_unp, g_allS, g_all0, g_sub, lz0, lz1, lz2, lz3, lz4, lz5, lz6, lz7, lz8, List.set, wipe, List.map_cons, List.map_nil, List.cons_append, List.nil_append, List.length_cons, List.length_nil, Nat.reduceAdd, Nat.reduceSub, List.replicate_succ, List.replicate_zero, eq_self, Bool.false_eq_true, if_true, if_false]
      have kA : Kp [] s2 (s2 ++ [MO.lst [nv x]]) := Kp.app _ (Kp.refl _)
      have hl2 : (ws.filter fun r => !nle x r).length ≤ 60 := Nat.le_trans (List.length_filter_le _ _) hwl
      have hl3 : (ws.filter fun r => !nle r x).length ≤ 60 := Nat.le_trans (List.length_filter_le _ _) hwl
      rw [w_addL (kA.2 _ _ (by simp) hD2) (ys := [nv x]) (by simp) (by simp; omega)]
      have kB : Kp [] s2 (s2 ++ [MO.lst [nv x]] ++ [MO.lst (((ws.filter fun r => !nle x r).map nv) ++ [nv x])]) := Kp.app _ kA
      refine lc_pure ws nv (fun r => !nle r x) nv (i_seq ?_)
      simp only [w_calln, w_call, w_cons, w_nil, w_tup, w_lst, w_op, w_un, w_c, w_var0, w_varS, w_and, w_or, w_not, w_iteE, w_lmeth, t_val, t_tru, t_and, t_or, t_not, t_yes, w_ch0, w_ch1, w_ch2, w_pr0, w_pr1, w_ix20, w_ix21, w_ix30, w_ix31, w_ix32, w_inT, w_eqI, w_add, w_sub, w_lt, w_le, w_gt, w_ge, w_neg, w_lenT, w_int, w_min, w_max, w_tupT, onB_bl, truth_bl, x_seq, x_skip, KR_ret, TK_ret, TK_brk, TK_cnt, g_name, g_unp, g_allS, g_all0, g_sub, lz0, lz1, lz2, lz3, lz4, lz5, lz6, lz7, lz8, List.set, wipe, List.map_cons, List.map_nil, List.cons_append, List.nil_append, List.length_cons, List.length_nil, Nat.reduceAdd, Nat.reduceSub, List.replicate_succ, List.replicate_zero, eq_self, Bool.false_eq_true, if_true, if_false]
      refine .mk _ (Lk.tup _ _) (fun _ => ?_) (fun _ e => nomatch e)
      refine .mk (by unfold lineZ; omega) (Or.inl rfl) ?_ ?_
      · intro r hr s' hk
        simp only [w_calln, w_call, w_cons, w_nil, w_tup, w_lst, w_op, w_un, w_c, w_var0, w_varS, w_and, w_or, w_not, w_iteE, w_lmeth, t_val, t_tru, t_and, t_or, t_not, t_yes, w_ch0, w_ch1, w_ch2, w_pr0, w_pr1, w_ix20, w_ix21, w_ix30, w_ix31, w_ix32, w_inT, w_eqI, w_add, w_sub, w_lt, w_le, w_gt, w_ge, w_neg, w_lenT, w_int, w_min, w_max, w_tupT, onB_bl, truth_bl, x_seq, x_skip, KR_ret, TK_ret, TK_brk, TK_cnt, g_name, g_unp, g_allS, g_all0, g_sub, lz0, lz1, lz2, lz3, lz4, lz5, lz6, lz7, lz8, List.set, wipe, List.map_cons, List.map_nil, List.cons_append, List.nil_append, List.length_cons, List.length_nil, Nat.reduceAdd, Nat.reduceSub, List.replicate_succ, List.replicate_zero, eq_self, Bool.false_eq_true, if_true, if_false, lt_nle]
        exact ⟨trivial, Kp.refl _, fun _ => ⟨trivial, Kp.refl _⟩⟩
      intro s3 k3 hD3
      rw [w_addL (xs := ((ws.filter fun r => !nle x r).map nv) ++ [nv x]) (k3.2 _ _ (by simp) (by simp)) hD3 (by simp; omega)]
      have e4 : (((ws.filter fun r => !nle x r).map nv) ++ [nv x]) ++ (ws.filter fun r => !nle r x).map nv = (insA nle x ws).map nv := by unfold insA; simp
      rw [e4, w_tupL (xs := (insA nle x ws).map nv) (seqAt_lst (by simp))]
      try simp only [w_calln, w_call, w_cons, w_nil, w_tup, w_lst, w_op, w_un, w_c, w_var0, w_varS, w_and, w_or, w_not, w_iteE, w_lmeth, t_val, t_tru, t_and, t_or, t_not, t_yes, w_ch0, w_ch1, w_ch2, w_pr0, w_pr1, w_ix20, w_ix21, w_ix30, w_ix31, w_ix32, w_inT, w_eqI, w_add, w_sub, w_lt, w_le, w_gt, w_ge, w_neg, w_lenT, w_int, w_min, w_max, w_tupT, onB_bl, truth_bl, x_seq, x_skip, KR_ret, TK_ret, TK_brk, TK_cnt, g_name, g_unp, g_allS, g_all0, g_sub, lz0, lz1, lz2, lz3, lz4, lz5, lz6, lz7, lz8, List.set, wipe, List.map_cons, List.map_nil, List.cons_append, List.nil_append, List.length_cons, List.length_nil, Nat.reduceAdd, Nat.reduceSub, List.replicate_succ, List.replicate_zero, eq_self, Bool.false_eq_true, if_true, if_false]
      exact k _ ((k1.trans ((k2.trans kB).trans k3)).app _)
  · have e : oc 3 n rs ws (nv x) b = if x ∈ ws then .told n rs (delA x ws) else .bad 7 (.int 0) := oc_n hx (by decide)
    rw [e] at k
    rw [if_neg (by decide)]
    try simp only [w_calln, w_call, w_cons, w_nil, w_tup, w_lst, w_op, w_un, w_c, w_var0, w_varS, w_and, w_or, w_not, w_iteE, w_lmeth, t_val, t_tru, t_and, t_or, t_not, t_yes, w_ch0, w_ch1, w_ch2, w_pr0, w_pr1, w_ix20, w_ix21, w_ix30, w_ix31, w_ix32, w_inT, w_eqI, w_add, w_sub, w_lt, w_le, w_gt, w_ge, w_neg, w_lenT, w_int, w_min, w_max, w_tupT, onB_bl, truth_bl, x_seq, x_skip, KR_ret, TK_ret, TK_brk, TK_cnt, g_name, g_unp, g_allS, g_all0, g_sub, lz0, lz1, lz2, lz3, lz4, lz5, lz6, lz7, lz8, List.set, wipe, List.map_cons, List.map_nil, List.cons_append, List.nil_append, List.length_cons, List.length_nil, Nat.reduceAdd, Nat.reduceSub, List.replicate_succ, List.replicate_zero, eq_self, Bool.false_eq_true, if_true, if_false]
    refine x_ife ?_
    simp only [w_calln, w_call, w_cons, w_nil, w_tup, w_lst, w_op, w_un, w_c, w_var0, w_varS, w_and, w_or, w_not, w_iteE, w_lmeth, t_val, t_tru, t_and, t_or, t_not, t_yes, w_ch0, w_ch1, w_ch2, w_pr0, w_pr1, w_ix20, w_ix21, w_ix30, w_ix31, w_ix32, w_inT, w_eqI, w_add, w_sub, w_lt, w_le, w_gt, w_ge, w_neg, w_lenT, w_int, w_min, w_max, w_tupT, onB_bl, truth_bl, x_seq, x_skip, KR_ret, TK_ret, TK_brk, TK_cnt, g_name, g_unp, g_allS, g_all0, g_sub, lz0, lz1, lz2, lz3, lz4, lz5, lz6, lz7, lz8, List.set, wipe, List.map_cons, List.map_nil, List.cons_append, List.nil_append, List.length_cons, List.length_nil, Nat.reduceAdd, Nat.reduceSub, List.replicate_succ, List.replicate_zero, eq_self, Bool.false_eq_true, if_true, if_false]
    rw [if_neg (by decide)]
    try simp only [w_calln, w_call, w_cons, w_nil, w_tup, w_lst, w_op, w_un, w_c, w_var0, w_varS, w_and, w_or, w_not, w_iteE, w_lmeth, t_val, t_tru, t_and, t_or, t_not, t_yes, w_ch0, w_ch1, w_ch2, w_pr0, w_pr1, w_ix20, w_ix21, w_ix30, w_ix31, w_ix32, w_inT, w_eqI, w_add, w_sub, w_lt, w_le, w_gt, w_ge, w_neg, w_lenT, w_int, w_min, w_max, w_tupT, onB_bl, truth_bl, x_seq, x_skip, KR_ret, TK_ret, TK_brk, TK_cnt, g_name, g_unp, g_allS, g_all0, g_sub, lz0, lz1, lz2, lz3, lz4, lz5, lz6, lz7, lz8, List.set, wipe, List.map_cons, List.map_nil, List.cons_append, List.nil_append, List.length_cons, List.length_nil, Nat.reduceAdd, Nat.reduceSub, List.replicate_succ, List.replicate_zero, eq_self, Bool.false_eq_true, if_true, if_false]
    refine x_ife ?_
    simp only [w_calln, w_call, w_cons, w_nil, w_tup, w_lst, w_op, w_un, w_c, w_var0, w_varS, w_and, w_or, w_not, w_iteE, w_lmeth, t_val, t_tru, t_and, t_or, t_not, t_yes, w_ch0, w_ch1, w_ch2, w_pr0, w_pr1, w_ix20, w_ix21, w_ix30, w_ix31, w_ix32, w_inT, w_eqI, w_add, w_sub, w_lt, w_le, w_gt, w_ge, w_neg, w_lenT, w_int, w_min, w_max, w_tupT, onB_bl, truth_bl, x_seq, x_skip, KR_ret, TK_ret, TK_brk, TK_cnt, g_name, g_unp, g_allS, g_all0, g_sub, lz0, lz1, lz2, lz3, lz4, lz5, lz6, lz7, lz8, List.set, wipe, List.map_cons, List.map_nil, List.cons_append, List.nil_append, List.length_cons, List.length_nil, Nat.reduceAdd, Nat.reduceSub, List.replicate_succ, List.replicate_zero, eq_self, Bool.false_eq_true, if_true, if_false]
    rw [if_neg (by decide)]
    try simp only [w_calln, w_call, w_cons, w_nil, w_tup, w_lst, w_op, w_un, w_c, w_var0, w_varS, w_and, w_or, w_not, w_iteE, w_lmeth, t_val, t_tru, t_and, t_or, t_not, t_yes, w_ch0, w_ch1, w_ch2, w_pr0, w_pr1, w_ix20, w_ix21, w_ix30, w_ix31, w_ix32, w_inT, w_eqI, w_add, w_sub, w_lt, w_le, w_gt, w_ge, w_neg, w_lenT, w_int, w_min, w_max, w_tupT, onB_bl, truth_bl, x_seq, x_skip, KR_ret, TK_ret, TK_brk, TK_cnt, g_name, g_unp, g_allS, g_all0, g_sub, lz0, lz1, lz2, lz3, lz4, lz5, lz6, lz7, lz8, List.set, wipe, List.map_cons, List.map_nil, List.cons_append, List.nil_append, List.length_cons, List.length_nil, Nat.reduceAdd, Nat.reduceSub, List.replicate_succ, List.replicate_zero, eq_self, Bool.false_eq_true, if_true, if_false]
    refine x_ife ?_
    simp only [w_calln, w_call, w_cons, w_nil, w_tup, w_lst, w_op, w_un, w_c, w_var0, w_varS, w_and, w_or, w_not, w_iteE, w_lmeth, t_val, t_tru, t_and, t_or, t_not, t_yes, w_ch0, w_ch1, w_ch2, w_pr0, w_pr1, w_ix20, w_ix21, w_ix30, w_ix31, w_ix32, w_inT, w_eqI, w_add, w_sub, w_lt, w_le, w_gt, w_ge, w_neg, w_lenT, w_int, w_min, w_max, w_tupT, onB_bl, truth_bl, x_seq, x_skip, KR_ret, TK_ret, TK_brk, TK_cnt, g_name, g_unp, g_allS, g_all0, g_sub, lz0, lz1, lz2, lz3, lz4, lz5, lz6, lz7, lz8, List.set, wipe, List.map_cons, List.map_nil, List.cons_append, List.nil_append, List.length_cons, List.length_nil, Nat.reduceAdd, Nat.reduceSub, List.replicate_succ, List.replicate_zero, eq_self, Bool.false_eq_true, if_true, if_false]
    rw [if_pos (by decide)]
    simp only [w_calln, w_call, w_cons, w_nil, w_tup, w_lst, w_op, w_un, w_c, w_var0, w_varS, w_and, w_or, w_not, w_iteE, w_lmeth, t_val, t_tru, t_and, t_or, t_not, t_yes, w_ch0, w_ch1, w_ch2, w_pr0, w_pr1, w_ix20, w_ix21, w_ix30, w_ix31, w_ix32, w_inT, w_eqI, w_add, w_sub, w_lt, w_le, w_gt, w_ge, w_neg, w_lenT, w_int, w_min, w_max, w_tupT, onB_bl, truth_bl, x_seq, x_skip, KR_ret, TK_ret, TK_brk, TK_cnt, g_name, g_unp, g_allS, g_all0, g_sub, lz0, lz1, lz2, lz3, lz4, lz5, lz6, lz7, lz8, List.set, wipe, List.map_cons, List.map_nil, List.cons_append, List.nil_append, List.length_cons, List.length_nil, Nat.reduceAdd, Nat.reduceSub, List.replicate_succ, List.replicate_zero, eq_self, Bool.false_eq_true, if_true, if_false, Bool.false_bne]
    by_cases hm : x ∈ ws
    · simp only [hm, decide_true, if_true] at k ⊢
      refine x_ret ?_
      simp only [w_calln, w_call, w_cons, w_nil, w_tup, w_lst, w_op, w_un, w_c, w_var0, w_varS, w_and, w_or, w_not, w_iteE, w_lmeth, t_val, t_tru, t_and, t_or, t_not, t_yes, w_ch0, w_ch1, w_ch2, w_pr0, w_pr1, w_ix20, w_ix21, w_ix30, w_ix31, w_ix32, w_inT, w_eqI, w_add, w_sub, w_lt, w_le, w_gt, w_ge, w_neg, w_lenT, w_int, w_min, w_max, w_tupT, onB_bl, truth_bl, x_seq, x_skip, KR_ret, TK_ret, TK_brk, TK_cnt, g_name, g_unp, g_allS, g_all0, g_sub, lz0, lz1, lz2, lz3, lz4, lz5, lz6, lz7, lz8, List.set, wipe, List.map_cons, List.map_nil, List.cons_append, List.nil_append, List.length_cons, List.length_nil, Nat.reduceAdd, Nat.reduceSub, List.replicate_succ, List.replicate_zero, eq_self, Bool.false_eq_true, if_true, if_false]
      refine lc_pure ws nv (fun r => !decide (r = x)) nv (i_seq ?_)
      simp only [w_calln, w_call, w_cons, w_nil, w_tup, w_lst, w_op, w_un, w_c, w_var0, w_varS, w_and, w_or, w_not, w_iteE, w_lmeth, t_val, t_tru, t_and, t_or, t_not, t_yes, w_ch0, w_ch1, w_ch2, w_pr0, w_pr1, w_ix20, w_ix21, w_ix30, w_ix31, w_ix32, w_inT, w_eqI, w_add, w_sub, w_lt, w_le, w_gt, w_ge, w_neg, w_lenT, w_int, w_min, w_max, w_tupT, onB_bl, truth_bl, x_seq, x_skip, KR_ret, TK_ret, TK_brk, TK_cnt, g_name, g_unp, g_allS, g_all0, g_sub, lz0, lz1, lz2, lz3, lz4, lz5, lz6, lz7, lz8, List.set, wipe, List.map_cons, List.map_nil, List.cons_append, List.nil_append, List.length_cons, List.length_nil, Nat.reduceAdd, Nat.reduceSub, List.replicate_succ, List.replicate_zero, eq_self, Bool.false_eq_true, if_true, if_false]
      refine .mk _ (Lk.tup _ _) (fun _ => ?_) (fun _ e => nomatch e)
      refine .mk (by unfold lineZ; omega) (Or.inl rfl) ?_ ?_
      · intro r hr s' hk
        simp only [w_calln, w_call, w_cons, w_nil, w_tup, w_lst, w_op, w_un, w_c, w_var0, w_varS, w_and, w_or, w_not, w_iteE, w_lmeth, t_val, t_tru, t_and, t_or, t_not, t_yes, w_ch0, w_ch1, w_ch2, w_pr0, w_pr1, w_ix20, w_ix21, w_ix30, w_ix31, w_ix32, w_inT, w_eqI, w_add, w_sub, w_lt, w_le, w_gt, w_ge, w_neg, w_lenT, w_int, w_min, w_max, w_tupT, onB_bl, truth_bl, x_seq, x_skip, KR_ret, TK_ret, TK_brk, TK_cnt, g_name, g_unp, g_allS, g_all0, g_sub, lz0, lz1, lz2, lz3, lz4, lz5, lz6, lz7, lz8, List.set, wipe, List.map_cons, List.map_nil, List.cons_append, List.nil_append, List.length_cons, List.length_nil, Nat.reduceAdd, Nat.reduceSub, List.replicate_succ, List.replicate_zero, eq_self, Bool.false_eq_true, if_true, if_false, Bool.true_bne]
        exact ⟨by congr 1; exact decide_eq_decide.mpr ⟨fun h => by omega, fun h => by omega⟩, Kp.refl _, fun _ => ⟨trivial, Kp.refl _⟩⟩
      intro s2 k2 hD2
      rw [w_tupL (seqAt_lst hD2)]
      try simp only [w_calln, w_call, w_cons, w_nil, w_tup, w_lst, w_op, w_un, w_c, w_var0, w_varS, w_and, w_or, w_not, w_iteE, w_lmeth, t_val, t_tru, t_and, t_or, t_not, t_yes, w_ch0, w_ch1, w_ch2, w_pr0, w_pr1, w_ix20, w_ix21, w_ix30, w_ix31, w_ix32, w_inT, w_eqI, w_add, w_sub, w_lt, w_le, w_gt, w_ge, w_neg, w_lenT, w_int, w_min, w_max, w_tupT, onB_bl, truth_bl, x_seq, x_skip, KR_ret, TK_ret, TK_brk, TK_cnt, g_name, g_unp, g_allS, g_all0, g_sub, lz0, lz1, lz2, lz3, lz4, lz5, lz6, lz7, lz8, List.set, wipe, List.map_cons, List.map_nil, List.cons_append, List.nil_append, List.length_cons, List.length_nil, Nat.reduceAdd, Nat.reduceSub, List.replicate_succ, List.replicate_zero, eq_self, Bool.false_eq_true, if_true, if_false]
      exact k _ (k1.trans k2)
    · simp only [hm, decide_false, if_false, Bool.false_eq_true] at k ⊢
      try simp only [w_calln, w_call, w_cons, w_nil, w_tup, w_lst, w_op, w_un, w_c, w_var0, w_varS, w_and, w_or, w_not, w_iteE, w_lmeth, t_val, t_tru, t_and, t_or, t_not, t_yes, w_ch0, w_ch1, w_ch2, w_pr0, w_pr1, w_ix20, w_ix21, w_ix30, w_ix31, w_ix32, w_inT, w_eqI, w_add, w_sub, w_lt, w_le, w_gt, w_ge, w_neg, w_lenT, w_int, w_min, w_max, w_tupT, onB_bl, truth_bl, x_seq, x_skip, KR_ret, TK_ret, TK_brk, TK_cnt, g_name, g_unp, g_allS, g_all0, g_sub, lz0, lz1, lz2, lz3, lz4, lz5, lz6, lz7, lz8, List.set, wipe, List.map_cons, List.map_nil, List.cons_append, List.nil_append, List.length_cons, List.length_nil, Nat.reduceAdd, Nat.reduceSub, List.replicate_succ, List.replicate_zero, eq_self, Bool.false_eq_true, if_true, if_false]
      refine x_ret ?_
      simp only [w_calln, w_call, w_cons, w_nil, w_tup, w_lst, w_op, w_un, w_c, w_var0, w_varS, w_and, w_or, w_not, w_iteE, w_lmeth, t_val, t_tru, t_and, t_or, t_not, t_yes, w_ch0, w_ch1, w_ch2, w_pr0, w_pr1, w_ix20, w_ix21, w_ix30, w_ix31, w_ix32, w_inT, w_eqI, w_add, w_sub, w_lt, w_le, w_gt, w_ge, w_neg, w_lenT, w_int, w_min, w_max, w_tupT, onB_bl, truth_bl, x_seq, x_skip, KR_ret, TK_ret, TK_brk, TK_cnt, g_name, g_unp, g_allS, g_all0, g_sub, lz0, lz1, lz2, lz3, lz4, lz5, lz6, lz7, lz8, List.set, wipe, List.map_cons, List.map_nil, List.cons_append, List.nil_append, List.length_cons, List.length_nil, Nat.reduceAdd, Nat.reduceSub, List.replicate_succ, List.replicate_zero, eq_self, Bool.false_eq_true, if_true, if_false]
      rw [w_ixL (k := 3) (seqAt_lst (get_new _ _)) rfl]
      exact k _ (k1.app _)
end
end Sp
namespace Sp
open PySem Mi Mr
section
variable {Q : AV → Sto → Prop} {s : Sto} {n : Nat} {rs : List (Nat × Nat)} {ws : List Nat} {a b : AV}
theorem pickT {p q : Nat} {xs : List AV} (P : Pool s p q) (hx : 0 < xs.length) (hl : xs.length < 1000000) (k : ∀ x s', x ∈ xs → Pool s' p q → Kp [p, q] s s' → Q x s') : W (m__law_pick [.ref p, .tup xs] s) Q := by
  unfold m__law_pick b__law_pick
  refine d_runn (by rfl) (x_ret ?_)
  simp only [w_calln, w_call, w_cons, w_nil, w_tup, w_lst, w_op, w_un, w_c, w_var0, w_varS, w_and, w_or, w_not, w_iteE, w_lmeth, t_val, t_tru, t_and, t_or, t_not, t_yes, w_ch0, w_ch1, w_ch2, w_pr0, w_pr1, w_ix20, w_ix21, w_ix30, w_ix31, w_ix32, w_inT, w_eqI, w_add, w_sub, w_lt, w_le, w_gt, w_ge, w_neg, w_lenT, w_int, w_min, w_max, w_tupT, onB_bl, truth_bl, x_seq, x_skip, KR_ret, TK_ret, TK_brk, TK_cnt, g_name, g_unp, g_allS, g_all0, g_sub, lz0, lz1, lz2, lz3, lz4, lz5, lz6, lz7, lz8, List.set, wipe, List.map_cons, List.map_nil, List.cons_append, List.nil_append, List.length_cons, List.length_nil, Nat.reduceAdd, Nat.reduceSub, List.replicate_succ, List.replicate_zero, eq_self, Bool.false_eq_true, if_true, if_false]
  refine draw_w P (by omega) (by omega) fun r s' hr P' k' => ?_
  have hr' : r < xs.length := by omega
  rw [w_ixT (v := xs[r]) (List.getElem?_eq_getElem hr')]
  exact k _ _ (List.getElem_mem hr') P' k'
theorem pickL {p q l : Nat} {xs : List AV} (P : Pool s p q) (h : s[l]? = some (.lst xs)) (hp : l ≠ p) (hq : l ≠ q) (hx : 0 < xs.length) (hl : xs.length < 1000000) (k : ∀ x s', x ∈ xs → Pool s' p q → Kp [p, q] s s' → Q x s') : W (m__law_pick [.ref p, .ref l] s) Q := by
  unfold m__law_pick b__law_pick
  refine d_runn (by rfl) (x_ret ?_)
  simp only [w_calln, w_call, w_cons, w_nil, w_tup, w_lst, w_op, w_un, w_c, w_var0, w_varS, w_and, w_or, w_not, w_iteE, w_lmeth, t_val, t_tru, t_and, t_or, t_not, t_yes, w_ch0, w_ch1, w_ch2, w_pr0, w_pr1, w_ix20, w_ix21, w_ix30, w_ix31, w_ix32, w_inT, w_eqI, w_add, w_sub, w_lt, w_le, w_gt, w_ge, w_neg, w_lenT, w_int, w_min, w_max, w_tupT, onB_bl, truth_bl, x_seq, x_skip, KR_ret, TK_ret, TK_brk, TK_cnt, g_name, g_unp, g_allS, g_all0, g_sub, lz0, lz1, lz2, lz3, lz4, lz5, lz6, lz7, lz8, List.set, wipe, List.map_cons, List.map_nil, List.cons_append, List.nil_append, List.length_cons, List.length_nil, Nat.reduceAdd, Nat.reduceSub, List.replicate_succ, List.replicate_zero, eq_self, Bool.false_eq_true, if_true, if_false, w_lenL h]
  refine draw_w P (by omega) (by omega) fun r s' hr P' k' => ?_
  have hr' : r < xs.length := by omega
  rw [w_ixL (v := xs[r]) (seqAt_lst (k'.2 _ _ (by simp [hp, hq]) h)) (List.getElem?_eq_getElem hr')]
  exact k _ _ (List.getElem_mem hr') P' k'
theorem plz_nv (m k : Nat) (h : k < 1000000) : plz m (nv k) = true := by
  have e : plz m (nv k) = decide ((k : Int).natAbs < 10 ^ 21) := by cases m <;> rfl
  rw [e]; exact decide_eq_true (by omega)
theorem pow20 : W (powAV (.int 10) (.int 20) s) Q = Q (.int 100000000000000000000) s := (rfl)
theorem thing_w {p q c : Nat} (P : Pool s p q) (hn : n ≤ 60) (hc : c ≤ 60) (k : ∀ x s', kd x = true → plz 1 x = true → Pool s' p q → Kp [p, q] s s' → Q x s') : W (m__law_thing [.ref p, CH n rs ws, nv c] s) Q := by
  unfold m__law_thing b__law_thing
  refine d_runn (by rfl) ?_
  simp only [w_calln, w_call, w_cons, w_nil, w_tup, w_lst, w_op, w_un, w_c, w_var0, w_varS, w_and, w_or, w_not, w_iteE, w_lmeth, t_val, t_tru, t_and, t_or, t_not, t_yes, w_ch0, w_ch1, w_ch2, w_pr0, w_pr1, w_ix20, w_ix21, w_ix30, w_ix31, w_ix32, w_inT, w_eqI, w_add, w_sub, w_lt, w_le, w_gt, w_ge, w_neg, w_lenT, w_int, w_min, w_max, w_tupT, onB_bl, truth_bl, x_seq, x_skip, KR_ret, TK_ret, TK_brk, TK_cnt, g_name, g_unp, g_allS, g_all0, g_sub, lz0, lz1, lz2, lz3, lz4, lz5, lz6, lz7, lz8, List.set, wipe, List.map_cons, List.map_nil, List.cons_append, List.nil_append, List.length_cons, List.length_nil, Nat.reduceAdd, Nat.reduceSub, List.replicate_succ, List.replicate_zero, eq_self, Bool.false_eq_true, if_true, if_false]
  refine x_asg ?_
  simp only [w_calln, w_call, w_cons, w_nil, w_tup, w_lst, w_op, w_un, w_c, w_var0, w_varS, w_and, w_or, w_not, w_iteE, w_lmeth, t_val, t_tru, t_and, t_or, t_not, t_yes, w_ch0, w_ch1, w_ch2, w_pr0, w_pr1, w_ix20, w_ix21, w_ix30, w_ix31, w_ix32, w_inT, w_eqI, w_add, w_sub, w_lt, w_le, w_gt, w_ge, w_neg, w_lenT, w_int, w_min, w_max, w_tupT, onB_bl, truth_bl, x_seq, x_skip, KR_ret, TK_ret, TK_brk, TK_cnt, g_name, g_unp, g_allS, g_all0, g_sub, lz0, lz1, lz2, lz3, lz4, lz5, lz6, lz7, lz8, List.set, wipe, List.map_cons, List.map_nil, List.cons_append, List.nil_append, List.length_cons, List.length_nil, Nat.reduceAdd, Nat.reduceSub, List.replicate_succ, List.replicate_zero, eq_self, Bool.false_eq_true, if_true, if_false]
  refine draw_w P (by omega) (by omega) fun r s1 hr P1 k1 => ?_
  refine x_ife ?_
  simp only [w_calln, w_call, w_cons, w_nil, w_tup, w_lst, w_op, w_un, w_c, w_var0, w_varS, w_and, w_or, w_not, w_iteE, w_lmeth, t_val, t_tru, t_and, t_or, t_not, t_yes, w_ch0, w_ch1, w_ch2, w_pr0, w_pr1, w_ix20, w_ix21, w_ix30, w_ix31, w_ix32, w_inT, w_eqI, w_add, w_sub, w_lt, w_le, w_gt, w_ge, w_neg, w_lenT, w_int, w_min, w_max, w_tupT, onB_bl, truth_bl, x_seq, x_skip, KR_ret, TK_ret, TK_brk, TK_cnt, g_name, g_unp, g_allS, g_all0, g_sub, lz0, lz1, lz2, lz3, lz4, lz5, lz6, lz7, lz8, List.set, wipe, List.map_cons, List.map_nil, List.cons_append, List.nil_append, List.length_cons, List.length_nil, Nat.reduceAdd, Nat.reduceSub, List.replicate_succ, List.replicate_zero, eq_self, Bool.false_eq_true, if_true, if_false]
  by_cases h0 : r = 0
  · rw [if_pos (by simp [h0])]
    refine x_ret ?_
    simp only [w_calln, w_call, w_cons, w_nil, w_tup, w_lst, w_op, w_un, w_c, w_var0, w_varS, w_and, w_or, w_not, w_iteE, w_lmeth, t_val, t_tru, t_and, t_or, t_not, t_yes, w_ch0, w_ch1, w_ch2, w_pr0, w_pr1, w_ix20, w_ix21, w_ix30, w_ix31, w_ix32, w_inT, w_eqI, w_add, w_sub, w_lt, w_le, w_gt, w_ge, w_neg, w_lenT, w_int, w_min, w_max, w_tupT, onB_bl, truth_bl, x_seq, x_skip, KR_ret, TK_ret, TK_brk, TK_cnt, g_name, g_unp, g_allS, g_all0, g_sub, lz0, lz1, lz2, lz3, lz4, lz5, lz6, lz7, lz8, List.set, wipe, List.map_cons, List.map_nil, List.cons_append, List.nil_append, List.length_cons, List.length_nil, Nat.reduceAdd, Nat.reduceSub, List.replicate_succ, List.replicate_zero, eq_self, Bool.false_eq_true, if_true, if_false, pow20]
    have hpl := P1.lt
    have kA : Kp [p, q] s1 (s1 ++ [MO.lst [.int (-1), nv n, .bl true, .bl false, .non, .str "1", .tup [.int 0], .int 100000000000000000000]]) := Kp.app _ (Kp.refl _)
    refine pickL (xs := [.int (-1), nv n, .bl true, .bl false, .non, .str "1", .tup [.int 0], .int 100000000000000000000]) (P1.keep (Kp.app _ (Kp.refl _))) (get_new _ _) (by omega) (by omega) (by simp) (by simp) fun x s2 hx P2 k2 => ?_
    have hk : kd x = true ∧ plz 1 x = true := by
      simp only [List.mem_cons, List.not_mem_nil, or_false] at hx
      rcases hx with rfl | rfl | rfl | rfl | rfl | rfl | rfl | rfl
      · exact ⟨rfl, by decide +kernel⟩
      · exact ⟨rfl, plz_nv _ _ (by omega)⟩
      · exact ⟨rfl, by decide +kernel⟩
      · exact ⟨rfl, by decide +kernel⟩
      · exact ⟨rfl, by decide +kernel⟩
      · exact ⟨rfl, by decide +kernel⟩
      · exact ⟨rfl, by decide +kernel⟩
      · exact ⟨rfl, by decide +kernel⟩
    exact k x s2 hk.1 hk.2 P2 ((k1.trans kA).trans k2)
  · rw [if_neg (by simp; omega)]
    refine x_ret ?_
    simp only [w_calln, w_call, w_cons, w_nil, w_tup, w_lst, w_op, w_un, w_c, w_var0, w_varS, w_and, w_or, w_not, w_iteE, w_lmeth, t_val, t_tru, t_and, t_or, t_not, t_yes, w_ch0, w_ch1, w_ch2, w_pr0, w_pr1, w_ix20, w_ix21, w_ix30, w_ix31, w_ix32, w_inT, w_eqI, w_add, w_sub, w_lt, w_le, w_gt, w_ge, w_neg, w_lenT, w_int, w_min, w_max, w_tupT, onB_bl, truth_bl, x_seq, x_skip, KR_ret, TK_ret, TK_brk, TK_cnt, g_name, g_unp, g_allS, g_all0, g_sub, lz0, lz1, lz2, lz3, lz4, lz5, lz6, lz7, lz8, List.set, wipe, List.map_cons, List.map_nil, List.cons_append, List.nil_append, List.length_cons, List.length_nil, Nat.reduceAdd, Nat.reduceSub, List.replicate_succ, List.replicate_zero, eq_self, Bool.false_eq_true, if_true, if_false]
    split
    · exact k _ _ rfl (plz_nv _ _ (by omega)) P1 k1
    · rename_i h4
      split
      · exact k _ _ rfl (plz_nv _ _ (by omega)) P1 k1
      · rename_i hn0
        have hn0 : n ≠ 0 := fun e => hn0 (by simp [e])
        refine draw_w P1 (by omega) (by omega) fun r2 s2 hr2 P2 k2 => ?_
        exact k _ _ rfl (plz_nv _ _ (by omega)) P2 (k1.trans k2)
def okO : Oc → Prop
  | .told n rs ws => n ≤ 60 ∧ rs.length ≤ 64 ∧ ws.length ≤ 64 ∧ (∀ r ∈ rs, r.1 < 60 ∧ r.2 < 60) ∧ (∀ w ∈ ws, w < 60)
  | .bad C w => (C = 3 ∨ C = 4 ∨ C = 5 ∨ C = 6 ∨ C = 7) ∧ plz 1 w = true
theorem nmC_ok {C : Nat} (h : C = 3 ∨ C = 4 ∨ C = 5 ∨ C = 6 ∨ C = 7) : plz 1 (.str (nmC C)) = true ∧ PyData.eqv (.str (nmC C)) (.str (Str.ofString "told")) = false ∧ sok (nmC C) = true := by
  rcases h with rfl | rfl | rfl | rfl | rfl <;> decide +kernel
theorem told_ok : plz 3 (.str "told") = true ∧ PyData.eqv (.str (Str.ofString "told")) (.str (Str.ofString "told")) = true ∧ sok "told" = true := by decide +kernel
theorem plz_CH (h : okO (.told n rs ws)) : plz 3 (CH n rs ws) = true := by
  obtain ⟨h1, h2, h3, h4, h5⟩ := h
  have a1 : plz 2 (.tup (rs.map pr)) = true := by
    refine Bool.and_eq_true_iff.mpr ⟨decide_eq_true (by simpa using h2), List.all_eq_true.mpr fun x hx => ?_⟩
    obtain ⟨r, hr, rfl⟩ := List.mem_map.mp hx
    have := h4 r hr
    refine Bool.and_eq_true_iff.mpr ⟨by simp, ?_⟩
    simp only [List.all_cons, List.all_nil, plz_nv 0 r.1 (by omega), plz_nv 0 r.2 (by omega), Bool.and_self]
  have a2 : plz 2 (.tup (ws.map nv)) = true := by
    refine Bool.and_eq_true_iff.mpr ⟨decide_eq_true (by simpa using h3), List.all_eq_true.mpr fun x hx => ?_⟩
    obtain ⟨w, hw, rfl⟩ := List.mem_map.mp hx
    have := h5 w hw
    exact plz_nv _ _ (by omega)
  refine Bool.and_eq_true_iff.mpr ⟨by simp, ?_⟩
  simp only [List.all_cons, List.all_nil, plz_nv 2 n (by omega), a1, a2, Bool.and_self]
/-- the text of what is told -/
def tx : Oc → Str
  | .told n rs ws => (dat 4 (ov (.told n rs ws))).shown
  | .bad C w => (dat 2 (ov (.bad C w))).shown
theorem repr_ov {o : Oc} (h : okO o) : W (Mi.B.repr_ [ov o] s) Q = Q (.str (tx o)) s := by
  cases o with
  | told n rs ws => exact w_reprN 3 (by decide) [.str "told", CH n rs ws] (by simp only [List.all_cons, List.all_nil, told_ok.1, plz_CH h, Bool.and_self]) (by change 2 * (lenz 3 + 2) + 3 ≤ lineZ; decide)
  | bad C w => exact w_reprN 1 (by decide) [.str (nmC C), w, .bl true] (by
      have e : plz 1 (.bl true) = true := rfl
      simp only [List.all_cons, List.all_nil, (nmC_ok h.1).1, h.2, e, Bool.and_self]) (by change 3 * (lenz 1 + 2) + 3 ≤ lineZ; decide)
theorem tx_ok {o : Oc} (h : okO o) : PyData.strOk (tx o) = true := by
  cases o with
  | told n rs ws => exact dat_ok 4 _ (List.all_eq_true.mpr fun x hx => pln_of 3 x (by
      rcases List.mem_cons.mp hx with rfl | hx
      · exact told_ok.1
      · rw [List.mem_singleton.mp hx]; exact plz_CH h))
  | bad C w => exact dat_ok 2 _ (List.all_eq_true.mpr fun x hx => pln_of 1 x (by
      rcases List.mem_cons.mp hx with rfl | hx
      · exact (nmC_ok h.1).1
      · rcases List.mem_cons.mp hx with rfl | hx
        · exact h.2
        · rw [List.mem_singleton.mp hx]; rfl))
def isT : Oc → Bool
  | .told _ _ _ => true
  | .bad _ _ => false
theorem ix_ov {o : Oc} (h : okO o) : W (ixAV (ov o) (.int 0) s) (fun x s => W (eqAV false x (.str "told") s) Q) = Q (.bl (isT o)) s := by
  cases o with
  | told n rs ws =>
    unfold ov; rw [w_ix20, w_eqP false 0 (by decide) (.str _) (.str _) told_ok.2.2 told_ok.2.2]
    change Q (.bl (false != PyData.eqv (.str (Str.ofString "told")) (.str (Str.ofString "told")))) s = _
    rw [told_ok.2.1]; rfl
  | bad C w =>
    unfold ov; rw [w_ix30, w_eqP false 0 (by decide) (.str _) (.str _) (nmC_ok h.1).2.2 told_ok.2.2]
    change Q (.bl (false != PyData.eqv (.str (nmC C)) (.str (Str.ofString "told")))) s = _
    rw [(nmC_ok h.1).2.1]; rfl
theorem oc_vm {way n' : Nat} {rs' : List (Nat × Nat)} {ws' : List Nat} (V : VM n rs ws) (e : oc way n rs ws a b = .told n' rs' ws') : n' = n ∧ VM n rs' ws' := by
  by_cases hpa : plI n a = true
  · obtain ⟨x, rfl, hx⟩ := of_plI hpa
    have main : ∀ y, (way < 2 → y < n) → ocA way n rs ws x y = .told n' rs' ws' → n' = n ∧ VM n rs' ws' := by
      intro y hy e
      unfold ocA at e
      split at e
      · rename_i h0
        have hy := hy (by omega)
        split at e
        · exact nomatch e
        · rename_i hm
          split at e
          · exact nomatch e
          · rename_i hl
            cases e
            refine ⟨rfl, V.hn, ?_, ?_, asc_ins pleO V.ar, V.inw, V.aw⟩
            · rw [len_ins pleO V.ar hm]; omega
            · intro r hr
              rcases (mem_ins pleO).mp hr with rfl | h
              · exact ⟨hx, hy⟩
              · exact V.inr r h
      · split at e
        · split at e
          · cases e
            exact ⟨rfl, V.hn, Nat.le_trans (List.length_filter_le _ _) V.hr, fun r hr => V.inr r (mem_del.mp hr).1, asc_del V.ar, V.inw, V.aw⟩
          · exact nomatch e
        · split at e
          · split at e
            · exact nomatch e
            · cases e
              refine ⟨rfl, V.hn, V.hr, V.inr, V.ar, fun w hw => ?_, asc_ins nleO V.aw⟩
              rcases (mem_ins nleO).mp hw with rfl | h
              · exact hx
              · exact V.inw w h
          · split at e
            · cases e
              exact ⟨rfl, V.hn, V.hr, V.inr, V.ar, fun w hw => V.inw w (mem_del.mp hw).1, asc_del V.aw⟩
            · exact nomatch e
    by_cases hw : way < 2
    · by_cases hpb : plI n b = true
      · obtain ⟨y, rfl, hy⟩ := of_plI hpb
        rw [oc_nn hx hy] at e
        exact main y (fun _ => hy) e
      · rw [oc_b hpa (by simpa using hpb) hw] at e; exact nomatch e
    · rw [oc_n hx (by omega)] at e
      exact main _ (fun h => absurd h hw) e
  · rw [oc_a (by simpa using hpa)] at e; exact nomatch e
/-- the opposite edit -/
def bk (way : Nat) : Nat := if way = 0 then 1 else if way = 1 then 0 else if way = 2 then 3 else 2
theorem bk0 : bk 0 = 1 := rfl
theorem bk1 : bk 1 = 0 := rfl
theorem bk2 : bk 2 = 3 := rfl
theorem bk3 : bk 3 = 2 := rfl
theorem oc_back {way n' : Nat} {rs' : List (Nat × Nat)} {ws' : List Nat} (hw : way < 4) (V : VM n rs ws) (e : oc way n rs ws a b = .told n' rs' ws') : oc (bk way) n' rs' ws' a b = .told n rs ws := by
  by_cases hpa : plI n a = true
  · obtain ⟨x, rfl, hx⟩ := of_plI hpa
    have h4 : way = 0 ∨ way = 1 ∨ way = 2 ∨ way = 3 := by omega
    rcases h4 with rfl | rfl | rfl | rfl
    · by_cases hpb : plI n b = true
      · obtain ⟨y, rfl, hy⟩ := of_plI hpb
        rw [oc_nn hx hy] at e
        unfold ocA at e
        rw [if_pos rfl] at e
        split at e
        · exact nomatch e
        · rename_i hm
          split at e
          · exact nomatch e
          · cases e
            rw [oc_nn hx hy, bk0]
            unfold ocA
            rw [if_neg (by decide), if_pos rfl, if_pos ((mem_ins pleO).mpr (Or.inl rfl)), del_ins pleO V.ar hm]
      · rw [oc_b hpa (by simpa using hpb) (by decide)] at e; exact nomatch e
    · by_cases hpb : plI n b = true
      · obtain ⟨y, rfl, hy⟩ := of_plI hpb
        rw [oc_nn hx hy] at e
        unfold ocA at e
        rw [if_neg (by decide), if_pos rfl] at e
        split at e
        · rename_i hm
          cases e
          rw [oc_nn hx hy, bk1]
          unfold ocA
          have hl := len_del hm
          have hr := V.hr
          rw [if_pos rfl, if_neg (fun h => (mem_del.mp h).2 rfl), if_neg (by omega), ins_del pleO V.ar hm]
        · exact nomatch e
      · rw [oc_b hpa (by simpa using hpb) (by decide)] at e; exact nomatch e
    · rw [oc_n hx (by decide)] at e
      unfold ocA at e
      rw [if_neg (by decide), if_neg (by decide), if_pos rfl] at e
      split at e
      · exact nomatch e
      · rename_i hm
        cases e
        rw [bk2, oc_n hx (by decide)]
        unfold ocA
        rw [if_neg (by decide), if_neg (by decide), if_neg (by decide), if_pos ((mem_ins nleO).mpr (Or.inl rfl)), del_ins nleO V.aw hm]
    · rw [oc_n hx (by decide)] at e
      unfold ocA at e
      rw [if_neg (by decide), if_neg (by decide), if_neg (by decide)] at e
      split at e
      · rename_i hm
        cases e
        rw [bk3, oc_n hx (by decide)]
        unfold ocA
        rw [if_neg (by decide), if_neg (by decide), if_pos rfl, if_neg (fun h => (mem_del.mp h).2 rfl), ins_del nleO V.aw hm]
      · exact nomatch e
  · rw [oc_a (by simpa using hpa)] at e; exact nomatch e
theorem rs_len7 (V : VM n rs ws) (hn : n ≤ 7) : rs.length ≤ 49 := by
  have h := V.ar.nodup.length_le_of_subset (l₂ := (List.range 7).flatMap fun a => (List.range 7).map fun b => (a, b)) fun r hr => by
    have := V.inr r hr
    exact List.mem_flatMap.mpr ⟨r.1, List.mem_range.mpr (by omega), List.mem_map.mpr ⟨r.2, List.mem_range.mpr (by omega), rfl⟩⟩
  have e : ((List.range 7).flatMap fun a => (List.range 7).map fun b => (a, b)).length = 49 := by decide
  omega
theorem okO_told (V : VM n rs ws) (hn : n ≤ 7) : okO (.told n rs ws) := by
  have h1 := rs_len7 V hn
  have h2 := asc_len V
  exact ⟨by omega, by omega, by omega, fun r hr => by have := V.inr r hr; omega, fun w hw => by have := V.inw w hw; omega⟩
theorem okO_oc {way : Nat} (V : VM n rs ws) (hn : n ≤ 7) (ha : plz 1 a = true) (hb : plz 1 b = true) : okO (oc way n rs ws a b) := by
  cases e : oc way n rs ws a b with
  | told n' rs' ws' =>
    obtain ⟨rfl, V'⟩ := oc_vm V e
    exact okO_told V' hn
  | bad C w =>
    refine ⟨(oc_cls (C := C) (w := w) (way := way) (n := n) (rs := rs) (ws := ws) (a := a) (b := b) (by rw [e]; exact ⟨rfl, rfl⟩)).1, ?_⟩
    unfold oc ocA at e
    repeat' split at e
    all_goals first | (cases e; done) | (cases e; assumption) | (cases e; decide)
end
end Sp
namespace Sp
open PySem Mi Mr
section
variable {Q : AV → Sto → Prop} {s : Sto} {n : Nat} {rs : List (Nat × Nat)} {ws : List Nat} {a b : AV}
/-- the great map -/
@[irreducible] def GR : List (Nat × Nat) := (List.range 240).map fun k => (k / 16, k % 16)
theorem mem_GR {r : Nat × Nat} : r ∈ GR ↔ r ∈ (List.range 240).map fun k => (k / 16, k % 16) := by unfold GR; exact Iff.rfl
theorem GR_len : GR.length = 240 := by unfold GR; simp
theorem GR_vm : VM 16 GR [] := by
  refine ⟨by decide, by rw [GR_len]; decide, ?_, ?_, by simp, List.Pairwise.nil⟩
  · intro r hr
    obtain ⟨k, hk, rfl⟩ := List.mem_map.mp (mem_GR.mp hr)
    have := List.mem_range.mp hk
    exact ⟨by change k / 16 < 16; omega, by change k % 16 < 16; omega⟩
  · unfold GR Asc
    rw [List.pairwise_map]
    refine List.Pairwise.imp ?_ (List.pairwise_lt_range (n := 240))
    intro x y h
    refine ⟨?_, ?_⟩
    · unfold ple lle
      change (if x / 16 = y / 16 then lle [x % 16] [y % 16] else decide (x / 16 ≤ y / 16)) = true
      by_cases e : x / 16 = y / 16
      · rw [if_pos e]
        unfold lle
        by_cases e2 : x % 16 = y % 16
        · rw [if_pos e2]; rfl
        · rw [if_neg e2]; exact decide_eq_true (by omega)
      · rw [if_neg e]; exact decide_eq_true (by omega)
    · intro e
      have e1 : x / 16 = y / 16 := congrArg Prod.fst e
      have e2 : x % 16 = y % 16 := congrArg Prod.snd e
      omega
theorem oc_g15 {y : Nat} (hy : y < 16) : oc 0 16 GR [] (nv 15) (nv y) = .bad 4 (.int 240) := by
  rw [oc_nn (by decide) hy]
  unfold ocA
  rw [if_pos rfl, if_neg, if_pos (by rw [GR_len]; decide)]
  intro h
  obtain ⟨k, hk, e⟩ := List.mem_map.mp (mem_GR.mp h)
  have := List.mem_range.mp hk
  have e1 : k / 16 = 15 := congrArg Prod.fst e
  omega
theorem oc_gt {x y : Nat} (hx : x < 15) (hy : y < 16) : oc 0 16 GR [] (nv x) (nv y) = .bad 5 (.int 0) := by
  rw [oc_nn (by omega) hy]
  unfold ocA
  rw [if_pos rfl, if_pos]
  refine mem_GR.mpr (List.mem_map.mpr ⟨16 * x + y, List.mem_range.mpr (by omega), ?_⟩)
  refine Prod.ext ?_ ?_
  · change (16 * x + y) / 16 = x; omega
  · change (16 * x + y) % 16 = y; omega
theorem eq_much : PyData.eqv (dat 1 (.tup [.str "TooMany", .int 240, .bl true])) (dat 1 (.tup [.str "TooMany", .int 240, .bl true])) = true ∧ pln 1 (.tup [.str "TooMany", .int 240, .bl true]) = true := by decide +kernel
theorem eq_twice : PyData.eqv (dat 1 (.tup [.str "Twice", .int 0, .bl true])) (dat 1 (.tup [.str "Twice", .int 0, .bl true])) = true ∧ pln 1 (.tup [.str "Twice", .int 0, .bl true]) = true := by decide +kernel
theorem repr_ne {o : Oc} (h : okO o) : W (eqAV true (.str (tx o)) (.str (tx o)) s) Q = Q (.bl false) s := by
  rw [w_eqS true _ (tx_ok h)]; rfl
theorem ix_back {way : Nat} (hw : way < 4) (k : ∀ s', Kp [] s s' → Q (nv (bk way)) s') : W (ixAV (.ref s.length) (nv way) (s ++ [.lst [.int 1, .int 0, .int 3, .int 2]])) Q := by
  have h4 : way = 0 ∨ way = 1 ∨ way = 2 ∨ way = 3 := by omega
  have kA : Kp [] s (s ++ [MO.lst [.int 1, .int 0, .int 3, .int 2]]) := Kp.app _ (Kp.refl _)
  rcases h4 with rfl | rfl | rfl | rfl
  · rw [w_ixL (k := 0) (seqAt_lst (get_new _ _)) rfl]; exact k _ kA
  · rw [w_ixL (k := 1) (seqAt_lst (get_new _ _)) rfl]; exact k _ kA
  · rw [w_ixL (k := 2) (seqAt_lst (get_new _ _)) rfl]; exact k _ kA
  · rw [w_ixL (k := 3) (seqAt_lst (get_new _ _)) rfl]; exact k _ kA
theorem bk_lt (way : Nat) : bk way < 4 := by unfold bk; split <;> (try split) <;> (try split) <;> omega
theorem law_w (ns : List Int) : W (m_law [.ref 0] [MO.rol (ns.map AV.int)]) fun v _ => v = .bl true := by
  unfold m_law b_law
  refine d_runn (by rfl) ?_
  simp only [w_calln, w_call, w_cons, w_nil, w_tup, w_lst, w_op, w_un, w_c, w_var0, w_varS, w_and, w_or, w_not, w_iteE, w_lmeth, t_val, t_tru, t_and, t_or, t_not, t_yes, w_ch0, w_ch1, w_ch2, w_pr0, w_pr1, w_ix20, w_ix21, w_ix30, w_ix31, w_ix32, w_inT, w_eqI, w_add, w_sub, w_lt, w_le, w_gt, w_ge, w_neg, w_lenT, w_int, w_min, w_max, w_tupT, onB_bl, truth_bl, x_seq, x_skip, KR_ret, TK_ret, TK_brk, TK_cnt, g_name, g_unp, g_allS, g_all0, g_sub, lz0, lz1, lz2, lz3, lz4, lz5, lz6, lz7, lz8, List.set, wipe, List.map_cons, List.map_nil, List.cons_append, List.nil_append, List.length_cons, List.length_nil, Nat.reduceAdd, Nat.reduceSub, List.replicate_succ, List.replicate_zero, eq_self, Bool.false_eq_true, if_true, if_false]
  generalize hs0 : [MO.rol (ns.map AV.int)] = s0
  have h0 : s0[0]? = some (.rol (ns.map AV.int)) := by subst hs0; rfl
  clear hs0
  refine x_asg ?_
  simp only [w_calln, w_call, w_cons, w_nil, w_tup, w_lst, w_op, w_un, w_c, w_var0, w_varS, w_and, w_or, w_not, w_iteE, w_lmeth, t_val, t_tru, t_and, t_or, t_not, t_yes, w_ch0, w_ch1, w_ch2, w_pr0, w_pr1, w_ix20, w_ix21, w_ix30, w_ix31, w_ix32, w_inT, w_eqI, w_add, w_sub, w_lt, w_le, w_gt, w_ge, w_neg, w_lenT, w_int, w_min, w_max, w_tupT, onB_bl, truth_bl, x_seq, x_skip, KR_ret, TK_ret, TK_brk, TK_cnt, g_name, g_unp, g_allS, g_all0, g_sub, lz0, lz1, lz2, lz3, lz4, lz5, lz6, lz7, lz8, List.set, wipe, List.map_cons, List.map_nil, List.cons_append, List.nil_append, List.length_cons, List.length_nil, Nat.reduceAdd, Nat.reduceSub, List.replicate_succ, List.replicate_zero, eq_self, Bool.false_eq_true, if_true, if_false]
  refine pool_w h0 fun p q s1 P1 k1 hp1 hq1 => ?_
  refine x_asg ?_
  simp only [w_calln, w_call, w_cons, w_nil, w_tup, w_lst, w_op, w_un, w_c, w_var0, w_varS, w_and, w_or, w_not, w_iteE, w_lmeth, t_val, t_tru, t_and, t_or, t_not, t_yes, w_ch0, w_ch1, w_ch2, w_pr0, w_pr1, w_ix20, w_ix21, w_ix30, w_ix31, w_ix32, w_inT, w_eqI, w_add, w_sub, w_lt, w_le, w_gt, w_ge, w_neg, w_lenT, w_int, w_min, w_max, w_tupT, onB_bl, truth_bl, x_seq, x_skip, KR_ret, TK_ret, TK_brk, TK_cnt, g_name, g_unp, g_allS, g_all0, g_sub, lz0, lz1, lz2, lz3, lz4, lz5, lz6, lz7, lz8, List.set, wipe, List.map_cons, List.map_nil, List.cons_append, List.nil_append, List.length_cons, List.length_nil, Nat.reduceAdd, Nat.reduceSub, List.replicate_succ, List.replicate_zero, eq_self, Bool.false_eq_true, if_true, if_false]
  refine map_drawn_w (most := 7) P1 (by decide) fun s2 n0 rs0 ws0 hn0 V0 hrl0 P2 k2 => ?_
  refine for_r ?_
  simp only [w_calln, w_call, w_cons, w_nil, w_tup, w_lst, w_op, w_un, w_c, w_var0, w_varS, w_and, w_or, w_not, w_iteE, w_lmeth, t_val, t_tru, t_and, t_or, t_not, t_yes, w_ch0, w_ch1, w_ch2, w_pr0, w_pr1, w_ix20, w_ix21, w_ix30, w_ix31, w_ix32, w_inT, w_eqI, w_add, w_sub, w_lt, w_le, w_gt, w_ge, w_neg, w_lenT, w_int, w_min, w_max, w_tupT, onB_bl, truth_bl, x_seq, x_skip, KR_ret, TK_ret, TK_brk, TK_cnt, g_name, g_unp, g_allS, g_all0, g_sub, lz0, lz1, lz2, lz3, lz4, lz5, lz6, lz7, lz8, List.set, wipe, List.map_cons, List.map_nil, List.cons_append, List.nil_append, List.length_cons, List.length_nil, Nat.reduceAdd, Nat.reduceSub, List.replicate_succ, List.replicate_zero, eq_self, Bool.false_eq_true, if_true, if_false]
  refine .mk 6 (fun j en s' => (∃ (n : Nat) (rs : List (Nat × Nat)) (ws : List Nat) (o3 o4 o5 o6 o7 o8 o9 o10 : Option AV), en = [some (.ref 0), some (.ref p), some (CH n rs ws), o3, o4, o5, o6, o7, o8, o9, o10, none, none] ∧ n ≤ 7 ∧ VM n rs ws) ∧ Pool s' p q) rfl (by decide) ⟨⟨n0, rs0, ws0, _, _, _, _, _, _, _, _, rfl, hn0, V0⟩, P2⟩ ?_ ?_
  · rintro j en s3 hj ⟨⟨n, rs, ws, o3, o4, o5, o6, o7, o8, o9, o10, rfl, hn, V⟩, P3⟩
    have hwl := asc_len V
    have hrl := rs_len7 V hn
    simp only [w_calln, w_call, w_cons, w_nil, w_tup, w_lst, w_op, w_un, w_c, w_var0, w_varS, w_and, w_or, w_not, w_iteE, w_lmeth, t_val, t_tru, t_and, t_or, t_not, t_yes, w_ch0, w_ch1, w_ch2, w_pr0, w_pr1, w_ix20, w_ix21, w_ix30, w_ix31, w_ix32, w_inT, w_eqI, w_add, w_sub, w_lt, w_le, w_gt, w_ge, w_neg, w_lenT, w_int, w_min, w_max, w_tupT, onB_bl, truth_bl, x_seq, x_skip, KR_ret, TK_ret, TK_brk, TK_cnt, g_name, g_unp, g_allS, g_all0, g_sub, lz0, lz1, lz2, lz3, lz4, lz5, lz6, lz7, lz8, List.set, wipe, List.map_cons, List.map_nil, List.cons_append, List.nil_append, List.length_cons, List.length_nil, Nat.reduceAdd, Nat.reduceSub, List.replicate_succ, List.replicate_zero, eq_self, Bool.false_eq_true, if_true, if_false]
    refine x_asg ?_
    simp only [w_calln, w_call, w_cons, w_nil, w_tup, w_lst, w_op, w_un, w_c, w_var0, w_varS, w_and, w_or, w_not, w_iteE, w_lmeth, t_val, t_tru, t_and, t_or, t_not, t_yes, w_ch0, w_ch1, w_ch2, w_pr0, w_pr1, w_ix20, w_ix21, w_ix30, w_ix31, w_ix32, w_inT, w_eqI, w_add, w_sub, w_lt, w_le, w_gt, w_ge, w_neg, w_lenT, w_int, w_min, w_max, w_tupT, onB_bl, truth_bl, x_seq, x_skip, KR_ret, TK_ret, TK_brk, TK_cnt, g_name, g_unp, g_allS, g_all0, g_sub, lz0, lz1, lz2, lz3, lz4, lz5, lz6, lz7, lz8, List.set, wipe, List.map_cons, List.map_nil, List.cons_append, List.nil_append, List.length_cons, List.length_nil, Nat.reduceAdd, Nat.reduceSub, List.replicate_succ, List.replicate_zero, eq_self, Bool.false_eq_true, if_true, if_false]
    refine draw_w P3 (by omega) (by omega) fun way s4 hway P4 k4 => ?_
    have hway : way < 4 := by omega
    -- the pair
    refine X_mono (N := fun en s' => (∃ (r : Nat × Nat), en = [some (.ref 0), some (.ref p), some (CH n rs ws), some (nv j), some (nv way), some (pr r), o6, o7, o8, o9, o10, none, none] ∧ r.1 ≤ 60 ∧ r.2 ≤ 60) ∧ Pool s' p q) (K := fun _ => False) ?_ ?_ (fun _ h => h.elim)
    · refine x_asg ?_
      simp only [w_calln, w_call, w_cons, w_nil, w_tup, w_lst, w_op, w_un, w_c, w_var0, w_varS, w_and, w_or, w_not, w_iteE, w_lmeth, t_val, t_tru, t_and, t_or, t_not, t_yes, w_ch0, w_ch1, w_ch2, w_pr0, w_pr1, w_ix20, w_ix21, w_ix30, w_ix31, w_ix32, w_inT, w_eqI, w_add, w_sub, w_lt, w_le, w_gt, w_ge, w_neg, w_lenT, w_int, w_min, w_max, w_tupT, onB_bl, truth_bl, x_seq, x_skip, KR_ret, TK_ret, TK_brk, TK_cnt, g_name, g_unp, g_allS, g_all0, g_sub, lz0, lz1, lz2, lz3, lz4, lz5, lz6, lz7, lz8, List.set, wipe, List.map_cons, List.map_nil, List.cons_append, List.nil_append, List.length_cons, List.length_nil, Nat.reduceAdd, Nat.reduceSub, List.replicate_succ, List.replicate_zero, eq_self, Bool.false_eq_true, if_true, if_false]
      rw [w_eqTE true 1 (by decide) _ (pln_prs rs)]
      simp only [w_calln, w_call, w_cons, w_nil, w_tup, w_lst, w_op, w_un, w_c, w_var0, w_varS, w_and, w_or, w_not, w_iteE, w_lmeth, t_val, t_tru, t_and, t_or, t_not, t_yes, w_ch0, w_ch1, w_ch2, w_pr0, w_pr1, w_ix20, w_ix21, w_ix30, w_ix31, w_ix32, w_inT, w_eqI, w_add, w_sub, w_lt, w_le, w_gt, w_ge, w_neg, w_lenT, w_int, w_min, w_max, w_tupT, onB_bl, truth_bl, x_seq, x_skip, KR_ret, TK_ret, TK_brk, TK_cnt, g_name, g_unp, g_allS, g_all0, g_sub, lz0, lz1, lz2, lz3, lz4, lz5, lz6, lz7, lz8, List.set, wipe, List.map_cons, List.map_nil, List.cons_append, List.nil_append, List.length_cons, List.length_nil, Nat.reduceAdd, Nat.reduceSub, List.replicate_succ, List.replicate_zero, eq_self, Bool.false_eq_true, if_true, if_false]
      split
      · rename_i hne
        refine pickT P4 (by
          cases rs with
          | nil => simp at hne
          | cons => simp) (by simp; omega) fun x s5 hx P5 k5 => ?_
        obtain ⟨r, hr, rfl⟩ := List.mem_map.mp hx
        have := V.inr r hr
        have := V.hn
        try simp only [w_calln, w_call, w_cons, w_nil, w_tup, w_lst, w_op, w_un, w_c, w_var0, w_varS, w_and, w_or, w_not, w_iteE, w_lmeth, t_val, t_tru, t_and, t_or, t_not, t_yes, w_ch0, w_ch1, w_ch2, w_pr0, w_pr1, w_ix20, w_ix21, w_ix30, w_ix31, w_ix32, w_inT, w_eqI, w_add, w_sub, w_lt, w_le, w_gt, w_ge, w_neg, w_lenT, w_int, w_min, w_max, w_tupT, onB_bl, truth_bl, x_seq, x_skip, KR_ret, TK_ret, TK_brk, TK_cnt, g_name, g_unp, g_allS, g_all0, g_sub, lz0, lz1, lz2, lz3, lz4, lz5, lz6, lz7, lz8, List.set, wipe, List.map_cons, List.map_nil, List.cons_append, List.nil_append, List.length_cons, List.length_nil, Nat.reduceAdd, Nat.reduceSub, List.replicate_succ, List.replicate_zero, eq_self, Bool.false_eq_true, if_true, if_false]
        exact ⟨⟨r, rfl, by omega, by omega⟩, P5⟩
      · exact ⟨⟨(0, 0), rfl, by decide, by decide⟩, P4⟩
    rintro en s5 ⟨⟨r, rfl, hr1, hr2⟩, P5⟩
    refine X_mono (N := fun en s' => (∃ (c : Nat), en = [some (.ref 0), some (.ref p), some (CH n rs ws), some (nv j), some (nv way), some (pr r), some (nv c), o7, o8, o9, o10, none, none] ∧ c ≤ 60) ∧ Pool s' p q) (K := fun _ => False) ?_ ?_ (fun _ h => h.elim)
    · refine x_asg ?_
      simp only [w_calln, w_call, w_cons, w_nil, w_tup, w_lst, w_op, w_un, w_c, w_var0, w_varS, w_and, w_or, w_not, w_iteE, w_lmeth, t_val, t_tru, t_and, t_or, t_not, t_yes, w_ch0, w_ch1, w_ch2, w_pr0, w_pr1, w_ix20, w_ix21, w_ix30, w_ix31, w_ix32, w_inT, w_eqI, w_add, w_sub, w_lt, w_le, w_gt, w_ge, w_neg, w_lenT, w_int, w_min, w_max, w_tupT, onB_bl, truth_bl, x_seq, x_skip, KR_ret, TK_ret, TK_brk, TK_cnt, g_name, g_unp, g_allS, g_all0, g_sub, lz0, lz1, lz2, lz3, lz4, lz5, lz6, lz7, lz8, List.set, wipe, List.map_cons, List.map_nil, List.cons_append, List.nil_append, List.length_cons, List.length_nil, Nat.reduceAdd, Nat.reduceSub, List.replicate_succ, List.replicate_zero, eq_self, Bool.false_eq_true, if_true, if_false, w_eqT0]
      split
      · split
        · rename_i h1 hne
          refine pickT P5 (by
            cases ws with
            | nil => simp at hne
            | cons => simp) (by simp; omega) fun x s6 hx P6 k6 => ?_
          obtain ⟨w, hw, rfl⟩ := List.mem_map.mp hx
          have := V.inw w hw
          have := V.hn
          try simp only [w_calln, w_call, w_cons, w_nil, w_tup, w_lst, w_op, w_un, w_c, w_var0, w_varS, w_and, w_or, w_not, w_iteE, w_lmeth, t_val, t_tru, t_and, t_or, t_not, t_yes, w_ch0, w_ch1, w_ch2, w_pr0, w_pr1, w_ix20, w_ix21, w_ix30, w_ix31, w_ix32, w_inT, w_eqI, w_add, w_sub, w_lt, w_le, w_gt, w_ge, w_neg, w_lenT, w_int, w_min, w_max, w_tupT, onB_bl, truth_bl, x_seq, x_skip, KR_ret, TK_ret, TK_brk, TK_cnt, g_name, g_unp, g_allS, g_all0, g_sub, lz0, lz1, lz2, lz3, lz4, lz5, lz6, lz7, lz8, List.set, wipe, List.map_cons, List.map_nil, List.cons_append, List.nil_append, List.length_cons, List.length_nil, Nat.reduceAdd, Nat.reduceSub, List.replicate_succ, List.replicate_zero, eq_self, Bool.false_eq_true, if_true, if_false]
          exact ⟨⟨w, rfl, by omega⟩, P6⟩
        · exact ⟨⟨r.1, rfl, hr1⟩, P5⟩
      · exact ⟨⟨r.1, rfl, hr1⟩, P5⟩
    rintro en s6 ⟨⟨c, rfl, hc⟩, P6⟩
    refine x_asg ?_
    simp only [w_calln, w_call, w_cons, w_nil, w_tup, w_lst, w_op, w_un, w_c, w_var0, w_varS, w_and, w_or, w_not, w_iteE, w_lmeth, t_val, t_tru, t_and, t_or, t_not, t_yes, w_ch0, w_ch1, w_ch2, w_pr0, w_pr1, w_ix20, w_ix21, w_ix30, w_ix31, w_ix32, w_inT, w_eqI, w_add, w_sub, w_lt, w_le, w_gt, w_ge, w_neg, w_lenT, w_int, w_min, w_max, w_tupT, onB_bl, truth_bl, x_seq, x_skip, KR_ret, TK_ret, TK_brk, TK_cnt, g_name, g_unp, g_allS, g_all0, g_sub, lz0, lz1, lz2, lz3, lz4, lz5, lz6, lz7, lz8, List.set, wipe, List.map_cons, List.map_nil, List.cons_append, List.nil_append, List.length_cons, List.length_nil, Nat.reduceAdd, Nat.reduceSub, List.replicate_succ, List.replicate_zero, eq_self, Bool.false_eq_true, if_true, if_false]
    refine thing_w P6 V.hn hc fun a s7 ha1 ha2 P7 k7 => ?_
    refine thing_w P7 V.hn hr2 fun b s8 hb1 hb2 P8 k8 => ?_
    try simp only [w_calln, w_call, w_cons, w_nil, w_tup, w_lst, w_op, w_un, w_c, w_var0, w_varS, w_and, w_or, w_not, w_iteE, w_lmeth, t_val, t_tru, t_and, t_or, t_not, t_yes, w_ch0, w_ch1, w_ch2, w_pr0, w_pr1, w_ix20, w_ix21, w_ix30, w_ix31, w_ix32, w_inT, w_eqI, w_add, w_sub, w_lt, w_le, w_gt, w_ge, w_neg, w_lenT, w_int, w_min, w_max, w_tupT, onB_bl, truth_bl, x_seq, x_skip, KR_ret, TK_ret, TK_brk, TK_cnt, g_name, g_unp, g_allS, g_all0, g_sub, lz0, lz1, lz2, lz3, lz4, lz5, lz6, lz7, lz8, List.set, wipe, List.map_cons, List.map_nil, List.cons_append, List.nil_append, List.length_cons, List.length_nil, Nat.reduceAdd, Nat.reduceSub, List.replicate_succ, List.replicate_zero, eq_self, Bool.false_eq_true, if_true, if_false]
    refine x_asg ?_
    simp only [w_calln, w_call, w_cons, w_nil, w_tup, w_lst, w_op, w_un, w_c, w_var0, w_varS, w_and, w_or, w_not, w_iteE, w_lmeth, t_val, t_tru, t_and, t_or, t_not, t_yes, w_ch0, w_ch1, w_ch2, w_pr0, w_pr1, w_ix20, w_ix21, w_ix30, w_ix31, w_ix32, w_inT, w_eqI, w_add, w_sub, w_lt, w_le, w_gt, w_ge, w_neg, w_lenT, w_int, w_min, w_max, w_tupT, onB_bl, truth_bl, x_seq, x_skip, KR_ret, TK_ret, TK_brk, TK_cnt, g_name, g_unp, g_allS, g_all0, g_sub, lz0, lz1, lz2, lz3, lz4, lz5, lz6, lz7, lz8, List.set, wipe, List.map_cons, List.map_nil, List.cons_append, List.nil_append, List.length_cons, List.length_nil, Nat.reduceAdd, Nat.reduceSub, List.replicate_succ, List.replicate_zero, eq_self, Bool.false_eq_true, if_true, if_false]
    refine due_w hway V ha1 hb1 fun s9 k9 => ?_
    have P9 := P8.keep k9
    have ho := okO_oc (way := way) V hn ha2 hb2
    refine x_ife ?_
    simp only [w_calln, w_call, w_cons, w_nil, w_tup, w_lst, w_op, w_un, w_c, w_var0, w_varS, w_and, w_or, w_not, w_iteE, w_lmeth, t_val, t_tru, t_and, t_or, t_not, t_yes, w_ch0, w_ch1, w_ch2, w_pr0, w_pr1, w_ix20, w_ix21, w_ix30, w_ix31, w_ix32, w_inT, w_eqI, w_add, w_sub, w_lt, w_le, w_gt, w_ge, w_neg, w_lenT, w_int, w_min, w_max, w_tupT, onB_bl, truth_bl, x_seq, x_skip, KR_ret, TK_ret, TK_brk, TK_cnt, g_name, g_unp, g_allS, g_all0, g_sub, lz0, lz1, lz2, lz3, lz4, lz5, lz6, lz7, lz8, List.set, wipe, List.map_cons, List.map_nil, List.cons_append, List.nil_append, List.length_cons, List.length_nil, Nat.reduceAdd, Nat.reduceSub, List.replicate_succ, List.replicate_zero, eq_self, Bool.false_eq_true, if_true, if_false]
    refine heard_w hway V ha1 hb1 fun s10 k10 => ?_
    have P10 := P9.keep k10
    rw [repr_ov ho, repr_ov ho, repr_ne ho, onB_bl, if_neg (by decide)]
    try simp only [w_calln, w_call, w_cons, w_nil, w_tup, w_lst, w_op, w_un, w_c, w_var0, w_varS, w_and, w_or, w_not, w_iteE, w_lmeth, t_val, t_tru, t_and, t_or, t_not, t_yes, w_ch0, w_ch1, w_ch2, w_pr0, w_pr1, w_ix20, w_ix21, w_ix30, w_ix31, w_ix32, w_inT, w_eqI, w_add, w_sub, w_lt, w_le, w_gt, w_ge, w_neg, w_lenT, w_int, w_min, w_max, w_tupT, onB_bl, truth_bl, x_seq, x_skip, KR_ret, TK_ret, TK_brk, TK_cnt, g_name, g_unp, g_allS, g_all0, g_sub, lz0, lz1, lz2, lz3, lz4, lz5, lz6, lz7, lz8, List.set, wipe, List.map_cons, List.map_nil, List.cons_append, List.nil_append, List.length_cons, List.length_nil, Nat.reduceAdd, Nat.reduceSub, List.replicate_succ, List.replicate_zero, eq_self, Bool.false_eq_true, if_true, if_false]
    refine x_ife ?_
    simp only [w_calln, w_call, w_cons, w_nil, w_tup, w_lst, w_op, w_un, w_c, w_var0, w_varS, w_and, w_or, w_not, w_iteE, w_lmeth, t_val, t_tru, t_and, t_or, t_not, t_yes, w_ch0, w_ch1, w_ch2, w_pr0, w_pr1, w_ix20, w_ix21, w_ix30, w_ix31, w_ix32, w_inT, w_eqI, w_add, w_sub, w_lt, w_le, w_gt, w_ge, w_neg, w_lenT, w_int, w_min, w_max, w_tupT, onB_bl, truth_bl, x_seq, x_skip, KR_ret, TK_ret, TK_brk, TK_cnt, g_name, g_unp, g_allS, g_all0, g_sub, lz0, lz1, lz2, lz3, lz4, lz5, lz6, lz7, lz8, List.set, wipe, List.map_cons, List.map_nil, List.cons_append, List.nil_append, List.length_cons, List.length_nil, Nat.reduceAdd, Nat.reduceSub, List.replicate_succ, List.replicate_zero, eq_self, Bool.false_eq_true, if_true, if_false]
    cases e : oc way n rs ws a b with
    | bad C w =>
      rw [e] at ho
      rw [ix_ov ho]
      simp only [w_calln, w_call, w_cons, w_nil, w_tup, w_lst, w_op, w_un, w_c, w_var0, w_varS, w_and, w_or, w_not, w_iteE, w_lmeth, t_val, t_tru, t_and, t_or, t_not, t_yes, w_ch0, w_ch1, w_ch2, w_pr0, w_pr1, w_ix20, w_ix21, w_ix30, w_ix31, w_ix32, w_inT, w_eqI, w_add, w_sub, w_lt, w_le, w_gt, w_ge, w_neg, w_lenT, w_int, w_min, w_max, w_tupT, onB_bl, truth_bl, x_seq, x_skip, KR_ret, TK_ret, TK_brk, TK_cnt, g_name, g_unp, g_allS, g_all0, g_sub, lz0, lz1, lz2, lz3, lz4, lz5, lz6, lz7, lz8, List.set, wipe, List.map_cons, List.map_nil, List.cons_append, List.nil_append, List.length_cons, List.length_nil, Nat.reduceAdd, Nat.reduceSub, List.replicate_succ, List.replicate_zero, eq_self, Bool.false_eq_true, if_true, if_false, isT]
      exact ⟨⟨n, rs, ws, _, _, _, _, _, _, _, _, rfl, hn, V⟩, P10⟩
    | told n' rs' ws' =>
      rw [e] at ho
      rw [ix_ov ho]
      obtain ⟨rfl, V'⟩ := oc_vm V e
      simp only [w_calln, w_call, w_cons, w_nil, w_tup, w_lst, w_op, w_un, w_c, w_var0, w_varS, w_and, w_or, w_not, w_iteE, w_lmeth, t_val, t_tru, t_and, t_or, t_not, t_yes, w_ch0, w_ch1, w_ch2, w_pr0, w_pr1, w_ix20, w_ix21, w_ix30, w_ix31, w_ix32, w_inT, w_eqI, w_add, w_sub, w_lt, w_le, w_gt, w_ge, w_neg, w_lenT, w_int, w_min, w_max, w_tupT, onB_bl, truth_bl, x_seq, x_skip, KR_ret, TK_ret, TK_brk, TK_cnt, g_name, g_unp, g_allS, g_all0, g_sub, lz0, lz1, lz2, lz3, lz4, lz5, lz6, lz7, lz8, List.set, wipe, List.map_cons, List.map_nil, List.cons_append, List.nil_append, List.length_cons, List.length_nil, Nat.reduceAdd, Nat.reduceSub, List.replicate_succ, List.replicate_zero, eq_self, Bool.false_eq_true, if_true, if_false, isT]
      refine x_asg ?_
      simp only [w_calln, w_call, w_cons, w_nil, w_tup, w_lst, w_op, w_un, w_c, w_var0, w_varS, w_and, w_or, w_not, w_iteE, w_lmeth, t_val, t_tru, t_and, t_or, t_not, t_yes, w_ch0, w_ch1, w_ch2, w_pr0, w_pr1, w_ix20, w_ix21, w_ix30, w_ix31, w_ix32, w_inT, w_eqI, w_add, w_sub, w_lt, w_le, w_gt, w_ge, w_neg, w_lenT, w_int, w_min, w_max, w_tupT, onB_bl, truth_bl, x_seq, x_skip, KR_ret, TK_ret, TK_brk, TK_cnt, g_name, g_unp, g_allS, g_all0, g_sub, lz0, lz1, lz2, lz3, lz4, lz5, lz6, lz7, lz8, List.set, wipe, List.map_cons, List.map_nil, List.cons_append, List.nil_append, List.length_cons, List.length_nil, Nat.reduceAdd, Nat.reduceSub, List.replicate_succ, List.replicate_zero, eq_self, Bool.false_eq_true, if_true, if_false]
      refine ix_back hway fun s11 k11 => ?_
      have P11 := P10.keep k11
      have ix1 : ∀ {s : Sto} {Q : AV → Sto → Prop}, W (ixAV (ov (.told n' rs' ws')) (.int 1) s) Q = Q (CH n' rs' ws') s := rfl
      refine x_ife ?_
      simp only [w_calln, w_call, w_cons, w_nil, w_tup, w_lst, w_op, w_un, w_c, w_var0, w_varS, w_and, w_or, w_not, w_iteE, w_lmeth, t_val, t_tru, t_and, t_or, t_not, t_yes, w_ch0, w_ch1, w_ch2, w_pr0, w_pr1, w_ix20, w_ix21, w_ix30, w_ix31, w_ix32, w_inT, w_eqI, w_add, w_sub, w_lt, w_le, w_gt, w_ge, w_neg, w_lenT, w_int, w_min, w_max, w_tupT, onB_bl, truth_bl, x_seq, x_skip, KR_ret, TK_ret, TK_brk, TK_cnt, g_name, g_unp, g_allS, g_all0, g_sub, lz0, lz1, lz2, lz3, lz4, lz5, lz6, lz7, lz8, List.set, wipe, List.map_cons, List.map_nil, List.cons_append, List.nil_append, List.length_cons, List.length_nil, Nat.reduceAdd, Nat.reduceSub, List.replicate_succ, List.replicate_zero, eq_self, Bool.false_eq_true, if_true, if_false, ix1]
      refine heard_w (bk_lt way) V' ha1 hb1 fun s12 k12 => ?_
      have P12 := P11.keep k12
      have eb := oc_back hway V e
      have hob : okO (.told n' rs ws) := okO_told V hn
      have eov : AV.tup [.str "told", CH n' rs ws] = ov (.told n' rs ws) := rfl
      rw [eb, eov, repr_ov hob, repr_ov hob, repr_ne hob, onB_bl, if_neg (by decide)]
      try simp only [w_calln, w_call, w_cons, w_nil, w_tup, w_lst, w_op, w_un, w_c, w_var0, w_varS, w_and, w_or, w_not, w_iteE, w_lmeth, t_val, t_tru, t_and, t_or, t_not, t_yes, w_ch0, w_ch1, w_ch2, w_pr0, w_pr1, w_ix20, w_ix21, w_ix30, w_ix31, w_ix32, w_inT, w_eqI, w_add, w_sub, w_lt, w_le, w_gt, w_ge, w_neg, w_lenT, w_int, w_min, w_max, w_tupT, onB_bl, truth_bl, x_seq, x_skip, KR_ret, TK_ret, TK_brk, TK_cnt, g_name, g_unp, g_allS, g_all0, g_sub, lz0, lz1, lz2, lz3, lz4, lz5, lz6, lz7, lz8, List.set, wipe, List.map_cons, List.map_nil, List.cons_append, List.nil_append, List.length_cons, List.length_nil, Nat.reduceAdd, Nat.reduceSub, List.replicate_succ, List.replicate_zero, eq_self, Bool.false_eq_true, if_true, if_false]
      refine x_ife ?_
      simp only [w_calln, w_call, w_cons, w_nil, w_tup, w_lst, w_op, w_un, w_c, w_var0, w_varS, w_and, w_or, w_not, w_iteE, w_lmeth, t_val, t_tru, t_and, t_or, t_not, t_yes, w_ch0, w_ch1, w_ch2, w_pr0, w_pr1, w_ix20, w_ix21, w_ix30, w_ix31, w_ix32, w_inT, w_eqI, w_add, w_sub, w_lt, w_le, w_gt, w_ge, w_neg, w_lenT, w_int, w_min, w_max, w_tupT, onB_bl, truth_bl, x_seq, x_skip, KR_ret, TK_ret, TK_brk, TK_cnt, g_name, g_unp, g_allS, g_all0, g_sub, lz0, lz1, lz2, lz3, lz4, lz5, lz6, lz7, lz8, List.set, wipe, List.map_cons, List.map_nil, List.cons_append, List.nil_append, List.length_cons, List.length_nil, Nat.reduceAdd, Nat.reduceSub, List.replicate_succ, List.replicate_zero, eq_self, Bool.false_eq_true, if_true, if_false, ix1]
      refine heard_w hway V' ha1 hb1 fun s13 k13 => ?_
      have P13 := P12.keep k13
      have ho2 := okO_oc (way := way) V' hn ha2 hb2
      rw [repr_ov ho2]
      try simp only [ix1]
      refine due_w hway V' ha1 hb1 fun s14 k14 => ?_
      have P14 := P13.keep k14
      rw [repr_ov ho2, repr_ne ho2, onB_bl, if_neg (by decide)]
      try simp only [w_calln, w_call, w_cons, w_nil, w_tup, w_lst, w_op, w_un, w_c, w_var0, w_varS, w_and, w_or, w_not, w_iteE, w_lmeth, t_val, t_tru, t_and, t_or, t_not, t_yes, w_ch0, w_ch1, w_ch2, w_pr0, w_pr1, w_ix20, w_ix21, w_ix30, w_ix31, w_ix32, w_inT, w_eqI, w_add, w_sub, w_lt, w_le, w_gt, w_ge, w_neg, w_lenT, w_int, w_min, w_max, w_tupT, onB_bl, truth_bl, x_seq, x_skip, KR_ret, TK_ret, TK_brk, TK_cnt, g_name, g_unp, g_allS, g_all0, g_sub, lz0, lz1, lz2, lz3, lz4, lz5, lz6, lz7, lz8, List.set, wipe, List.map_cons, List.map_nil, List.cons_append, List.nil_append, List.length_cons, List.length_nil, Nat.reduceAdd, Nat.reduceSub, List.replicate_succ, List.replicate_zero, eq_self, Bool.false_eq_true, if_true, if_false]
      refine x_asg ?_
      simp only [w_calln, w_call, w_cons, w_nil, w_tup, w_lst, w_op, w_un, w_c, w_var0, w_varS, w_and, w_or, w_not, w_iteE, w_lmeth, t_val, t_tru, t_and, t_or, t_not, t_yes, w_ch0, w_ch1, w_ch2, w_pr0, w_pr1, w_ix20, w_ix21, w_ix30, w_ix31, w_ix32, w_inT, w_eqI, w_add, w_sub, w_lt, w_le, w_gt, w_ge, w_neg, w_lenT, w_int, w_min, w_max, w_tupT, onB_bl, truth_bl, x_seq, x_skip, KR_ret, TK_ret, TK_brk, TK_cnt, g_name, g_unp, g_allS, g_all0, g_sub, lz0, lz1, lz2, lz3, lz4, lz5, lz6, lz7, lz8, List.set, wipe, List.map_cons, List.map_nil, List.cons_append, List.nil_append, List.length_cons, List.length_nil, Nat.reduceAdd, Nat.reduceSub, List.replicate_succ, List.replicate_zero, eq_self, Bool.false_eq_true, if_true, if_false, ix1]
      exact ⟨⟨n', rs', ws', _, _, _, _, _, _, _, _, rfl, hn, V'⟩, P14⟩
  · rintro en s3 ⟨⟨n, rs, ws, o3, o4, o5, o6, o7, o8, o9, o10, rfl, hn, V⟩, P3⟩
    have fin : ∀ (en : En) (s' : Sto), X (S.ret (E.c (.bl true)) en s') (fun _ s => (AV.non : AV) = .bl true) (KR fun v _ => v = .bl true) := by
      intro en s'
      refine x_ret ?_
      simp only [w_calln, w_call, w_cons, w_nil, w_tup, w_lst, w_op, w_un, w_c, w_var0, w_varS, w_and, w_or, w_not, w_iteE, w_lmeth, t_val, t_tru, t_and, t_or, t_not, t_yes, w_ch0, w_ch1, w_ch2, w_pr0, w_pr1, w_ix20, w_ix21, w_ix30, w_ix31, w_ix32, w_inT, w_eqI, w_add, w_sub, w_lt, w_le, w_gt, w_ge, w_neg, w_lenT, w_int, w_min, w_max, w_tupT, onB_bl, truth_bl, x_seq, x_skip, KR_ret, TK_ret, TK_brk, TK_cnt, g_name, g_unp, g_allS, g_all0, g_sub, lz0, lz1, lz2, lz3, lz4, lz5, lz6, lz7, lz8, List.set, wipe, List.map_cons, List.map_nil, List.cons_append, List.nil_append, List.length_cons, List.length_nil, Nat.reduceAdd, Nat.reduceSub, List.replicate_succ, List.replicate_zero, eq_self, Bool.false_eq_true, if_true, if_false]
    refine x_ife ?_
    simp only [w_calln, w_call, w_cons, w_nil, w_tup, w_lst, w_op, w_un, w_c, w_var0, w_varS, w_and, w_or, w_not, w_iteE, w_lmeth, t_val, t_tru, t_and, t_or, t_not, t_yes, w_ch0, w_ch1, w_ch2, w_pr0, w_pr1, w_ix20, w_ix21, w_ix30, w_ix31, w_ix32, w_inT, w_eqI, w_add, w_sub, w_lt, w_le, w_gt, w_ge, w_neg, w_lenT, w_int, w_min, w_max, w_tupT, onB_bl, truth_bl, x_seq, x_skip, KR_ret, TK_ret, TK_brk, TK_cnt, g_name, g_unp, g_allS, g_all0, g_sub, lz0, lz1, lz2, lz3, lz4, lz5, lz6, lz7, lz8, List.set, wipe, List.map_cons, List.map_nil, List.cons_append, List.nil_append, List.length_cons, List.length_nil, Nat.reduceAdd, Nat.reduceSub, List.replicate_succ, List.replicate_zero, eq_self, Bool.false_eq_true, if_true, if_false]
    refine draw_w P3 (by omega) (by omega) fun z s4 hz P4 k4 => ?_
    simp only [w_calln, w_call, w_cons, w_nil, w_tup, w_lst, w_op, w_un, w_c, w_var0, w_varS, w_and, w_or, w_not, w_iteE, w_lmeth, t_val, t_tru, t_and, t_or, t_not, t_yes, w_ch0, w_ch1, w_ch2, w_pr0, w_pr1, w_ix20, w_ix21, w_ix30, w_ix31, w_ix32, w_inT, w_eqI, w_add, w_sub, w_lt, w_le, w_gt, w_ge, w_neg, w_lenT, w_int, w_min, w_max, w_tupT, onB_bl, truth_bl, x_seq, x_skip, KR_ret, TK_ret, TK_brk, TK_cnt, g_name, g_unp, g_allS, g_all0, g_sub, lz0, lz1, lz2, lz3, lz4, lz5, lz6, lz7, lz8, List.set, wipe, List.map_cons, List.map_nil, List.cons_append, List.nil_append, List.length_cons, List.length_nil, Nat.reduceAdd, Nat.reduceSub, List.replicate_succ, List.replicate_zero, eq_self, Bool.false_eq_true, if_true, if_false]
    split
    · refine x_asg ?_
      simp only [w_calln, w_call, w_cons, w_nil, w_tup, w_lst, w_op, w_un, w_c, w_var0, w_varS, w_and, w_or, w_not, w_iteE, w_lmeth, t_val, t_tru, t_and, t_or, t_not, t_yes, w_ch0, w_ch1, w_ch2, w_pr0, w_pr1, w_ix20, w_ix21, w_ix30, w_ix31, w_ix32, w_inT, w_eqI, w_add, w_sub, w_lt, w_le, w_gt, w_ge, w_neg, w_lenT, w_int, w_min, w_max, w_tupT, onB_bl, truth_bl, x_seq, x_skip, KR_ret, TK_ret, TK_brk, TK_cnt, g_name, g_unp, g_allS, g_all0, g_sub, lz0, lz1, lz2, lz3, lz4, lz5, lz6, lz7, lz8, List.set, wipe, List.map_cons, List.map_nil, List.cons_append, List.nil_append, List.length_cons, List.length_nil, Nat.reduceAdd, Nat.reduceSub, List.replicate_succ, List.replicate_zero, eq_self, Bool.false_eq_true, if_true, if_false]
      refine lc_pure (List.range 240) nv (fun _ => true) (fun k => pr (k / 16, k % 16)) (i_range ?_)
      simp only [w_calln, w_call, w_cons, w_nil, w_tup, w_lst, w_op, w_un, w_c, w_var0, w_varS, w_and, w_or, w_not, w_iteE, w_lmeth, t_val, t_tru, t_and, t_or, t_not, t_yes, w_ch0, w_ch1, w_ch2, w_pr0, w_pr1, w_ix20, w_ix21, w_ix30, w_ix31, w_ix32, w_inT, w_eqI, w_add, w_sub, w_lt, w_le, w_gt, w_ge, w_neg, w_lenT, w_int, w_min, w_max, w_tupT, onB_bl, truth_bl, x_seq, x_skip, KR_ret, TK_ret, TK_brk, TK_cnt, g_name, g_unp, g_allS, g_all0, g_sub, lz0, lz1, lz2, lz3, lz4, lz5, lz6, lz7, lz8, List.set, wipe, List.map_cons, List.map_nil, List.cons_append, List.nil_append, List.length_cons, List.length_nil, Nat.reduceAdd, Nat.reduceSub, List.replicate_succ, List.replicate_zero, eq_self, Bool.false_eq_true, if_true, if_false]
      refine .mk 240 rfl (by decide) ?_
      refine .mk (by simp [lineZ]) (Or.inl rfl) ?_ ?_
      · intro k hk s' hks
        simp only [w_calln, w_call, w_cons, w_nil, w_tup, w_lst, w_op, w_un, w_c, w_var0, w_varS, w_and, w_or, w_not, w_iteE, w_lmeth, t_val, t_tru, t_and, t_or, t_not, t_yes, w_ch0, w_ch1, w_ch2, w_pr0, w_pr1, w_ix20, w_ix21, w_ix30, w_ix31, w_ix32, w_inT, w_eqI, w_add, w_sub, w_lt, w_le, w_gt, w_ge, w_neg, w_lenT, w_int, w_min, w_max, w_tupT, onB_bl, truth_bl, x_seq, x_skip, KR_ret, TK_ret, TK_brk, TK_cnt, g_name, g_unp, g_allS, g_all0, g_sub, lz0, lz1, lz2, lz3, lz4, lz5, lz6, lz7, lz8, List.set, wipe, List.map_cons, List.map_nil, List.cons_append, List.nil_append, List.length_cons, List.length_nil, Nat.reduceAdd, Nat.reduceSub, List.replicate_succ, List.replicate_zero, eq_self, Bool.false_eq_true, if_true, if_false, w_div, w_mod]
        rw [if_pos (by decide), if_pos (by decide)]
        refine ⟨trivial, Kp.refl _, fun _ => ⟨?_, Kp.refl _⟩⟩
        unfold pr nv
        simp only [Int.natCast_ediv, Int.natCast_emod]
        rfl
      intro s5 k5 h5
      have e5 : (((List.range 240).filter fun _ => true).map fun k => pr (k / 16, k % 16)) = GR.map pr := by
        rw [List.filter_eq_self.mpr (fun _ _ => rfl)]; unfold GR; rw [List.map_map]; rfl
      rw [e5] at h5
      rw [w_tupL (xs := GR.map pr) (seqAt_lst h5)]
      have eG : AV.tup [.int 16, .tup (GR.map pr), .tup []] = CH 16 GR [] := rfl
      simp only [w_calln, w_call, w_cons, w_nil, w_tup, w_lst, w_op, w_un, w_c, w_var0, w_varS, w_and, w_or, w_not, w_iteE, w_lmeth, t_val, t_tru, t_and, t_or, t_not, t_yes, w_ch0, w_ch1, w_ch2, w_pr0, w_pr1, w_ix20, w_ix21, w_ix30, w_ix31, w_ix32, w_inT, w_eqI, w_add, w_sub, w_lt, w_le, w_gt, w_ge, w_neg, w_lenT, w_int, w_min, w_max, w_tupT, onB_bl, truth_bl, x_seq, x_skip, KR_ret, TK_ret, TK_brk, TK_cnt, g_name, g_unp, g_allS, g_all0, g_sub, lz0, lz1, lz2, lz3, lz4, lz5, lz6, lz7, lz8, List.set, wipe, List.map_cons, List.map_nil, List.cons_append, List.nil_append, List.length_cons, List.length_nil, Nat.reduceAdd, Nat.reduceSub, List.replicate_succ, List.replicate_zero, eq_self, Bool.false_eq_true, if_true, if_false, eG]
      have P5 := P4.keep k5
      refine x_ife ?_
      simp only [w_calln, w_call, w_cons, w_nil, w_tup, w_lst, w_op, w_un, w_c, w_var0, w_varS, w_and, w_or, w_not, w_iteE, w_lmeth, t_val, t_tru, t_and, t_or, t_not, t_yes, w_ch0, w_ch1, w_ch2, w_pr0, w_pr1, w_ix20, w_ix21, w_ix30, w_ix31, w_ix32, w_inT, w_eqI, w_add, w_sub, w_lt, w_le, w_gt, w_ge, w_neg, w_lenT, w_int, w_min, w_max, w_tupT, onB_bl, truth_bl, x_seq, x_skip, KR_ret, TK_ret, TK_brk, TK_cnt, g_name, g_unp, g_allS, g_all0, g_sub, lz0, lz1, lz2, lz3, lz4, lz5, lz6, lz7, lz8, List.set, wipe, List.map_cons, List.map_nil, List.cons_append, List.nil_append, List.length_cons, List.length_nil, Nat.reduceAdd, Nat.reduceSub, List.replicate_succ, List.replicate_zero, eq_self, Bool.false_eq_true, if_true, if_false]
      refine draw_w P5 (by omega) (by omega) fun y s6 hy P6 k6 => ?_
      refine heard_w (way := 0) (a := nv 15) (b := nv y) (by decide) GR_vm rfl rfl fun s7 k7 => ?_
      have P7 := P6.keep k7
      rw [oc_g15 (by omega)]
      have e1 : ov (.bad 4 (.int 240)) = .tup [.str "TooMany", .int 240, .bl true] := rfl
      rw [e1, w_eqP true 1 (by decide) _ _ eq_much.2 eq_much.2, eq_much.1]
      simp only [w_calln, w_call, w_cons, w_nil, w_tup, w_lst, w_op, w_un, w_c, w_var0, w_varS, w_and, w_or, w_not, w_iteE, w_lmeth, t_val, t_tru, t_and, t_or, t_not, t_yes, w_ch0, w_ch1, w_ch2, w_pr0, w_pr1, w_ix20, w_ix21, w_ix30, w_ix31, w_ix32, w_inT, w_eqI, w_add, w_sub, w_lt, w_le, w_gt, w_ge, w_neg, w_lenT, w_int, w_min, w_max, w_tupT, onB_bl, truth_bl, x_seq, x_skip, KR_ret, TK_ret, TK_brk, TK_cnt, g_name, g_unp, g_allS, g_all0, g_sub, lz0, lz1, lz2, lz3, lz4, lz5, lz6, lz7, lz8, List.set, wipe, List.map_cons, List.map_nil, List.cons_append, List.nil_append, List.length_cons, List.length_nil, Nat.reduceAdd, Nat.reduceSub, List.replicate_succ, List.replicate_zero, eq_self, Bool.false_eq_true, if_true, if_false]
      rw [if_neg (by decide)]
      refine x_ife ?_
      simp only [w_calln, w_call, w_cons, w_nil, w_tup, w_lst, w_op, w_un, w_c, w_var0, w_varS, w_and, w_or, w_not, w_iteE, w_lmeth, t_val, t_tru, t_and, t_or, t_not, t_yes, w_ch0, w_ch1, w_ch2, w_pr0, w_pr1, w_ix20, w_ix21, w_ix30, w_ix31, w_ix32, w_inT, w_eqI, w_add, w_sub, w_lt, w_le, w_gt, w_ge, w_neg, w_lenT, w_int, w_min, w_max, w_tupT, onB_bl, truth_bl, x_seq, x_skip, KR_ret, TK_ret, TK_brk, TK_cnt, g_name, g_unp, g_allS, g_all0, g_sub, lz0, lz1, lz2, lz3, lz4, lz5, lz6, lz7, lz8, List.set, wipe, List.map_cons, List.map_nil, List.cons_append, List.nil_append, List.length_cons, List.length_nil, Nat.reduceAdd, Nat.reduceSub, List.replicate_succ, List.replicate_zero, eq_self, Bool.false_eq_true, if_true, if_false]
      refine draw_w P7 (by omega) (by omega) fun x s8 hx P8 k8 => ?_
      refine draw_w P8 (by omega) (by omega) fun y2 s9 hy2 P9 k9 => ?_
      refine heard_w (way := 0) (a := nv x) (b := nv y2) (by decide) GR_vm rfl rfl fun s10 k10 => ?_
      rw [oc_gt (by omega) (by omega)]
      have e2 : ov (.bad 5 (.int 0)) = .tup [.str "Twice", .int 0, .bl true] := rfl
      rw [e2, w_eqP true 1 (by decide) _ _ eq_twice.2 eq_twice.2, eq_twice.1]
      simp only [w_calln, w_call, w_cons, w_nil, w_tup, w_lst, w_op, w_un, w_c, w_var0, w_varS, w_and, w_or, w_not, w_iteE, w_lmeth, t_val, t_tru, t_and, t_or, t_not, t_yes, w_ch0, w_ch1, w_ch2, w_pr0, w_pr1, w_ix20, w_ix21, w_ix30, w_ix31, w_ix32, w_inT, w_eqI, w_add, w_sub, w_lt, w_le, w_gt, w_ge, w_neg, w_lenT, w_int, w_min, w_max, w_tupT, onB_bl, truth_bl, x_seq, x_skip, KR_ret, TK_ret, TK_brk, TK_cnt, g_name, g_unp, g_allS, g_all0, g_sub, lz0, lz1, lz2, lz3, lz4, lz5, lz6, lz7, lz8, List.set, wipe, List.map_cons, List.map_nil, List.cons_append, List.nil_append, List.length_cons, List.length_nil, Nat.reduceAdd, Nat.reduceSub, List.replicate_succ, List.replicate_zero, eq_self, Bool.false_eq_true, if_true, if_false]
      rw [if_neg (by decide)]
      exact fin _ _
    · exact fin _ _
theorem law_ok : Br.LawOk Mr.m_law := fun ns _ => by
  obtain ⟨v, s, e, rfl⟩ := W_ex (law_w ns)
  exact ⟨s, e⟩
end
end Sp
set_option Elab.async false
open PySem PySem.W PyProof.Rows in
set_option maxRecDepth 100000 in
set_option maxHeartbeats 0 in
theorem PySem.Challenge.cw_fewtraps_k21_maps_edited_holds : PySem.Challenge.rw_fewtraps_k21_maps_edited.Holds := by
  w_on; o_law; k_head; (case hw => w_witness2)
  k_fill
  refine Br.walkG (l := PySem.Challenge.rw_fewtraps_k21_maps_edited) (k := 10) (x := "script") (m := fun _ => Mr.m_law) rfl rfl ⟨rfl, by decide, by decide⟩ (fun w h Y => PySem.W.kIn_of Y) ?F (fun _ => Sp.law_ok)
  case F =>
    intro w mg fa h KX G hmg
    refine' Rf.all_mk KX G hmg ?a0 ?l0 ?c0 ?k0 ?a1 ?l1 ?c1 ?k1 ?a2 ?l2 ?c2 ?k2 ?a3 ?l3 ?c3 ?k3 ?a4 ?l4 ?c4 ?k4 ?a5 ?l5 ?c5 ?k5 ?a6 ?l6 ?c6 ?k6 ?a7 ?l7 ?c7 ?k7 ?a8 ?l8 ?c8 ?k8 ?a9 ?l9 ?c9 ?k9 ?a10 ?l10 ?c10 ?k10 ?a11 ?l11 ?c11 ?k11 ?a12 ?l12 ?c12 ?k12 ?a13 ?l13 ?c13 ?k13 ?a14 ?l14 ?c14 ?k14 ?a15 ?l15 ?c15 ?k15 ?a16 ?l16 ?c16 ?k16 ?a17 ?l17 ?c17 ?k17 ?a18 ?l18 ?c18 ?k18 ?a19 ?l19 ?c19 ?k19 ?a20 ?l20 ?c20 ?k20 ?a21 ?l21 ?c21 ?k21 ?a22 ?l22 ?c22 ?k22 ?a23 ?l23 ?c23 ?k23 ?a24 ?l24 ?c24 ?k24 ?a25 ?l25 ?c25 ?k25 ?a26 ?l26 ?c26 ?k26 ?z_int ?z_isinstance ?z_bool ?z_tuple ?z_len ?z_range ?z_sorted ?z_list ?z_set ?z_min ?z_max ?z_repr ?q_MOST_PLACES ?q_MOST_ROADS ?gs ?tkc ?aC0 ?xC0 ?sa0 ?ga0 ?gg0 ?nw0 ?it0 ?kC0 ?eC0 ?tC0 ?hC0 ?iC0 ?ca0 ?mo0 ?aC1 ?xC1 ?sa1 ?ga1 ?gg1 ?nw1 ?it1 ?kC1 ?eC1 ?tC1 ?hC1 ?iC1 ?ca1 ?mo1 ?aC2 ?xC2 ?sa2 ?ga2 ?gg2 ?nw2 ?it2 ?kC2 ?eC2 ?tC2 ?hC2 ?iC2 ?ca2 ?mo2 ?aC3 ?xC3 ?sa3 ?ga3 ?gg3 ?nw3 ?it3 ?kC3 ?eC3 ?tC3 ?hC3 ?iC3 ?ca3 ?mo3 ?aC4 ?xC4 ?sa4 ?ga4 ?gg4 ?nw4 ?it4 ?kC4 ?eC4 ?tC4 ?hC4 ?iC4 ?ca4 ?mo4 ?aC5 ?xC5 ?sa5 ?ga5 ?gg5 ?nw5 ?it5 ?kC5 ?eC5 ?tC5 ?hC5 ?iC5 ?ca5 ?mo5 ?aC6 ?xC6 ?sa6 ?ga6 ?gg6 ?nw6 ?it6 ?kC6 ?eC6 ?tC6 ?hC6 ?iC6 ?ca6 ?mo6 ?aC7 ?xC7 ?sa7 ?ga7 ?gg7 ?nw7 ?it7 ?kC7 ?eC7 ?tC7 ?hC7 ?iC7 ?ca7 ?mo7 ?lI ?cI ?kI ?tI ?s0_1 ?s1_1 ?s2_1 ?s3_1 ?s4_1 ?s5_1 ?s6_1 ?s7_1 ?s0_2 ?s1_2 ?s2_2 ?s3_2 ?s4_2 ?s5_2 ?s6_2 ?s7_2 ?s0_3 ?s1_3 ?s2_3 ?s3_3 ?s4_3 ?s5_3 ?s6_3 ?s7_3 ?s0_5 ?s1_5 ?s2_5 ?s3_5 ?s4_5 ?s5_5 ?s6_5 ?s7_5 ?s0_4 ?s1_4 ?s2_4 ?s3_4 ?s4_4 ?s5_4 ?s6_4 ?s7_4 ?s0_6 ?s1_6 ?s2_6 ?s3_6 ?s4_6 ?s5_6 ?s6_6 ?s7_6 ?s0_7 ?s1_7 ?s2_7 ?s3_7 ?s4_7 ?s5_7 ?s6_7 ?s7_7 ?s0_0 ?s1_0 ?s2_0 ?s3_0 ?s4_0 ?s5_0 ?s6_0 ?s7_0 ?y0_0 ?y1_0 ?y2_0 ?y3_0 ?y4_0 ?y5_0 ?y6_0 ?y7_0
    (case a0 => k_is)
    (case l0 => k_is)
    (case c0 => k_is)
    (case k0 => k_is)
    (case a1 => k_is)
    (case l1 => k_is)
    (case c1 => k_is)
    (case k1 => k_is)
    (case a2 => k_is)
    (case l2 => k_is)
    (case c2 => k_is)
    (case k2 => k_is)
    (case a3 => k_is)
    (case l3 => k_is)
    (case c3 => k_is)
    (case k3 => k_is)
    (case a4 => k_is)
    (case l4 => k_is)
    (case c4 => k_is)
    (case k4 => k_is)
    (case a5 => k_is)
    (case l5 => k_is)
    (case c5 => k_is)
    (case k5 => k_is)
    (case a6 => k_is)
    (case l6 => k_is)
    (case c6 => k_is)
    (case k6 => k_is)
    (case a7 => k_is)
    (case l7 => k_is)
    (case c7 => k_is)
    (case k7 => k_is)
    (case a8 => k_is)
    (case l8 => k_is)
    (case c8 => k_is)
    (case k8 => k_is)
    (case a9 => k_is)
    (case l9 => k_is)
    (case c9 => k_is)
    (case k9 => k_is)
    (case a10 => k_is)
    (case l10 => k_is)
    (case c10 => k_is)
    (case k10 => k_is)
    (case a11 => k_is)
    (case l11 => k_is)
    (case c11 => k_is)
    (case k11 => k_is)
    (case a12 => k_is)
    (case l12 => k_is)
    (case c12 => k_is)
    (case k12 => k_is)
    (case a13 => k_is)
    (case l13 => k_is)
    (case c13 => k_is)
    (case k13 => k_is)
    (case a14 => k_is)
    (case l14 => k_is)
    (case c14 => k_is)
    (case k14 => k_is)
    (case a15 => k_is)
    (case l15 => k_is)
    (case c15 => k_is)
    (case k15 => k_is)
    (case a16 => k_is)
    (case l16 => k_is)
    (case c16 => k_is)
    (case k16 => k_is)
    (case a17 => k_is)
    (case l17 => k_is)
    (case c17 => k_is)
    (case k17 => k_is)
    (case a18 => k_is)
    (case l18 => k_is)
    (case c18 => k_is)
    (case k18 => k_is)
    (case a19 => k_is)
    (case l19 => k_is)
    (case c19 => k_is)
    (case k19 => k_is)
    (case a20 => k_is)
    (case l20 => k_is)
    (case c20 => k_is)
    (case k20 => k_is)
    (case a21 => k_is)
    (case l21 => k_is)
    (case c21 => k_is)
    (case k21 => k_is)
    (case a22 => k_is)
    (case l22 => k_is)
    (case c22 => k_is)
    (case k22 => k_is)
    (case a23 => k_is)
    (case l23 => k_is)
    (case c23 => k_is)
    (case k23 => k_is)
    (case a24 => k_is)
    (case l24 => k_is)
    (case c24 => k_is)
    (case k24 => k_is)
    (case a25 => k_is)
    (case l25 => k_is)
    (case c25 => k_is)
    (case k25 => k_is)
    (case a26 => k_is)
    (case l26 => k_is)
    (case c26 => k_is)
    (case k26 => k_is)
    (case z_int => k_is)
    (case z_isinstance => k_is)
    (case z_bool => k_is)
    (case z_tuple => k_is)
    (case z_len => k_is)
    (case z_range => k_is)
    (case z_sorted => k_is)
    (case z_list => k_is)
    (case z_set => k_is)
    (case z_min => k_is)
    (case z_max => k_is)
    (case z_repr => k_is)
    (case q_MOST_PLACES => k_is)
    (case q_MOST_ROADS => k_is)
    (case gs => k_is)
    (case tkc => k_is)
    (case aC0 => k_is)
    (case xC0 => k_is)
    (case sa0 => k_is)
    (case ga0 => k_is)
    (case gg0 => k_is)
    (case nw0 => k_is)
    (case it0 => k_is)
    (case kC0 => k_is)
    (case eC0 => k_is)
    (case tC0 => k_is)
    (case hC0 => k_is)
    (case iC0 => k_is)
    (case ca0 => k_is)
    (case mo0 => k_is)
    (case aC1 => k_is)
    (case xC1 => k_is)
    (case sa1 => k_is)
    (case ga1 => k_is)
    (case gg1 => k_is)
    (case nw1 => k_is)
    (case it1 => k_is)
    (case kC1 => k_is)
    (case eC1 => k_is)
    (case tC1 => k_is)
    (case hC1 => k_is)
    (case iC1 => k_is)
    (case ca1 => k_is)
    (case mo1 => k_is)
    (case aC2 => k_is)
    (case xC2 => k_is)
    (case sa2 => k_is)
    (case ga2 => k_is)
    (case gg2 => k_is)
    (case nw2 => k_is)
    (case it2 => k_is)
    (case kC2 => k_is)
    (case eC2 => k_is)
    (case tC2 => k_is)
    (case hC2 => k_is)
    (case iC2 => k_is)
    (case ca2 => k_is)
    (case mo2 => k_is)
    (case aC3 => k_is)
    (case xC3 => k_is)
    (case sa3 => k_is)
    (case ga3 => k_is)
    (case gg3 => k_is)
    (case nw3 => k_is)
    (case it3 => k_is)
    (case kC3 => k_is)
    (case eC3 => k_is)
    (case tC3 => k_is)
    (case hC3 => k_is)
    (case iC3 => k_is)
    (case ca3 => k_is)
    (case mo3 => k_is)
    (case aC4 => k_is)
    (case xC4 => k_is)
    (case sa4 => k_is)
    (case ga4 => k_is)
    (case gg4 => k_is)
    (case nw4 => k_is)
    (case it4 => k_is)
    (case kC4 => k_is)
    (case eC4 => k_is)
    (case tC4 => k_is)
    (case hC4 => k_is)
    (case iC4 => k_is)
    (case ca4 => k_is)
    (case mo4 => k_is)
    (case aC5 => k_is)
    (case xC5 => k_is)
    (case sa5 => k_is)
    (case ga5 => k_is)
    (case gg5 => k_is)
    (case nw5 => k_is)
    (case it5 => k_is)
    (case kC5 => k_is)
    (case eC5 => k_is)
    (case tC5 => k_is)
    (case hC5 => k_is)
    (case iC5 => k_is)
    (case ca5 => k_is)
    (case mo5 => k_is)
    (case aC6 => k_is)
    (case xC6 => k_is)
    (case sa6 => k_is)
    (case ga6 => k_is)
    (case gg6 => k_is)
    (case nw6 => k_is)
    (case it6 => k_is)
    (case kC6 => k_is)
    (case eC6 => k_is)
    (case tC6 => k_is)
    (case hC6 => k_is)
    (case iC6 => k_is)
    (case ca6 => k_is)
    (case mo6 => k_is)
    (case aC7 => k_is)
    (case xC7 => k_is)
    (case sa7 => k_is)
    (case ga7 => k_is)
    (case gg7 => k_is)
    (case nw7 => k_is)
    (case it7 => k_is)
    (case kC7 => k_is)
    (case eC7 => k_is)
    (case tC7 => k_is)
    (case hC7 => k_is)
    (case iC7 => k_is)
    (case ca7 => k_is)
    (case mo7 => k_is)
    (case lI => k_is)
    (case cI => k_is)
    (case kI => k_is)
    (case tI => k_is)
    (case s0_1 => first | rfl | k_is)
    (case s1_1 => first | rfl | k_is)
    (case s2_1 => first | rfl | k_is)
    (case s3_1 => first | rfl | k_is)
    (case s4_1 => first | rfl | k_is)
    (case s5_1 => first | rfl | k_is)
    (case s6_1 => first | rfl | k_is)
    (case s7_1 => first | rfl | k_is)
    (case s0_2 => first | rfl | k_is)
    (case s1_2 => first | rfl | k_is)
    (case s2_2 => first | rfl | k_is)
    (case s3_2 => first | rfl | k_is)
    (case s4_2 => first | rfl | k_is)
    (case s5_2 => first | rfl | k_is)
    (case s6_2 => first | rfl | k_is)
    (case s7_2 => first | rfl | k_is)
    (case s0_3 => first | rfl | k_is)
    (case s1_3 => first | rfl | k_is)
    (case s2_3 => first | rfl | k_is)
    (case s3_3 => first | rfl | k_is)
    (case s4_3 => first | rfl | k_is)
    (case s5_3 => first | rfl | k_is)
    (case s6_3 => first | rfl | k_is)
    (case s7_3 => first | rfl | k_is)
    (case s0_5 => first | rfl | k_is)
    (case s1_5 => first | rfl | k_is)
    (case s2_5 => first | rfl | k_is)
    (case s3_5 => first | rfl | k_is)
    (case s4_5 => first | rfl | k_is)
    (case s5_5 => first | rfl | k_is)
    (case s6_5 => first | rfl | k_is)
    (case s7_5 => first | rfl | k_is)
    (case s0_4 => first | rfl | k_is)
    (case s1_4 => first | rfl | k_is)
    (case s2_4 => first | rfl | k_is)
    (case s3_4 => first | rfl | k_is)
    (case s4_4 => first | rfl | k_is)
    (case s5_4 => first | rfl | k_is)
    (case s6_4 => first | rfl | k_is)
    (case s7_4 => first | rfl | k_is)
    (case s0_6 => first | rfl | k_is)
    (case s1_6 => first | rfl | k_is)
    (case s2_6 => first | rfl | k_is)
    (case s3_6 => first | rfl | k_is)
    (case s4_6 => first | rfl | k_is)
    (case s5_6 => first | rfl | k_is)
    (case s6_6 => first | rfl | k_is)
    (case s7_6 => first | rfl | k_is)
    (case s0_7 => first | rfl | k_is)
    (case s1_7 => first | rfl | k_is)
    (case s2_7 => first | rfl | k_is)
    (case s3_7 => first | rfl | k_is)
    (case s4_7 => first | rfl | k_is)
    (case s5_7 => first | rfl | k_is)
    (case s6_7 => first | rfl | k_is)
    (case s7_7 => first | rfl | k_is)
    (case s0_0 => first | rfl | k_is)
    (case s1_0 => first | rfl | k_is)
    (case s2_0 => first | rfl | k_is)
    (case s3_0 => first | rfl | k_is)
    (case s4_0 => first | rfl | k_is)
    (case s5_0 => first | rfl | k_is)
    (case s6_0 => first | rfl | k_is)
    (case s7_0 => first | rfl | k_is)
    (case y0_0 => first | rfl | k_is)
    (case y1_0 => first | rfl | k_is)
    (case y2_0 => first | rfl | k_is)
    (case y3_0 => first | rfl | k_is)
    (case y4_0 => first | rfl | k_is)
    (case y5_0 => first | rfl | k_is)
    (case y6_0 => first | rfl | k_is)
    (case y7_0 => first | rfl | k_is)
#print axioms PySem.Challenge.cw_fewtraps_k21_maps_edited_holds
