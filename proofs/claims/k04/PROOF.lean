import PyProof.Rows.All
import Wide.All
import OpenK.AllK
import Wide.FinOn
import PyProof.EqLayable
import PyProof.ReprReads
import HandS.TupSets
import HandS.Strs
import KE.SortData
import KE.DatumOrd
import HandS.ForMost
import HandS.TupAny
import HandS.TryOnly
import HandS.Style
import HandS.IsInst
import HandS.TupLe
import HandS.RaiseMore
import HandS.Conv
import PySem.Challenge.RW_fewtraps_k04_pieces_of_maps
import PyProof.FitsInt
set_option autoImplicit false
set_option linter.all false
/-! Mi: a small mirror language: plain functions over a store. -/
namespace Mi
open PySem

/-- values: tuples by value, mutable things by location -/
inductive AV where
  | non | bl (b : Bool) | int (i : Int) | str (x : Str) | tup (xs : List AV) | ref (l : Nat) | adr (a : Nat) | ty (n : String)

/-- what stands at a location -/
inductive MO where
  | lst (xs : List AV)
  | rol (xs : List AV)
  | set (xs : List AV)
  | dic (kvs : List (AV × AV))
  | ins (C : Nat) (fs : List (Str × AV))

abbrev Sto := List MO
abbrev En := List (Option AV)

mutual
def AV.dec : (a b : AV) → Decidable (a = b)
  | .non, b => by cases b <;> first | exact Decidable.isTrue rfl | exact Decidable.isFalse (fun h => nomatch h)
  | .bl x, b => by
    cases b with
    | bl y => exact if h : x = y then Decidable.isTrue (by rw [h]) else Decidable.isFalse (fun e => h (AV.bl.inj e))
    | _ => exact Decidable.isFalse (fun h => nomatch h)
  | .int x, b => by
    cases b with
    | int y => exact if h : x = y then Decidable.isTrue (by rw [h]) else Decidable.isFalse (fun e => h (AV.int.inj e))
    | _ => exact Decidable.isFalse (fun h => nomatch h)
  | .str x, b => by
    cases b with
    | str y => exact if h : x = y then Decidable.isTrue (by rw [h]) else Decidable.isFalse (fun e => h (AV.str.inj e))
    | _ => exact Decidable.isFalse (fun h => nomatch h)
  | .ref x, b => by
    cases b with
    | ref y => exact if h : x = y then Decidable.isTrue (by rw [h]) else Decidable.isFalse (fun e => h (AV.ref.inj e))
    | _ => exact Decidable.isFalse (fun h => nomatch h)
  | .adr x, b => by
    cases b with
    | adr y => exact if h : x = y then Decidable.isTrue (by rw [h]) else Decidable.isFalse (fun e => h (AV.adr.inj e))
    | _ => exact Decidable.isFalse (fun h => nomatch h)
  | .ty x, b => by
    cases b with
    | ty y => exact if h : x = y then Decidable.isTrue (by rw [h]) else Decidable.isFalse (fun e => h (AV.ty.inj e))
    | _ => exact Decidable.isFalse (fun h => nomatch h)
  | .tup xs, b => by
    cases b with
    | tup ys => exact match AV.decs xs ys with
      | .isTrue h => .isTrue (by rw [h])
      | .isFalse h => .isFalse (fun e => h (AV.tup.inj e))
    | _ => exact Decidable.isFalse (fun h => nomatch h)
def AV.decs : (a b : List AV) → Decidable (a = b)
  | [], [] => .isTrue rfl
  | [], _ :: _ => .isFalse (fun h => nomatch h)
  | _ :: _, [] => .isFalse (fun h => nomatch h)
  | x :: xs, y :: ys => match AV.dec x y with
    | .isTrue h => match AV.decs xs ys with
      | .isTrue h' => .isTrue (by rw [h, h'])
      | .isFalse h' => .isFalse (fun e => h' (List.cons.inj e).2)
    | .isFalse h => .isFalse (fun e => h (List.cons.inj e).1)
end
instance : DecidableEq AV := AV.dec

inductive Res (α : Type) where
  | ok (a : α) (s : Sto)
  | err (C : Nat) (w : AV) (s : Sto)
  | bad

namespace Res
variable {α β : Type}
def bind (r : Res α) (f : α → Sto → Res β) : Res β := match r with
  | .ok a s => f a s
  | .err C w s => .err C w s
  | .bad => .bad
/-- an error is bad here (no error leaves a comprehension) -/
def ne (r : Res α) : Res α := match r with
  | .ok a s => .ok a s
  | _ => .bad
@[simp] theorem bind_ok (a : α) (s : Sto) (f : α → Sto → Res β) : (Res.ok a s).bind f = f a s := (rfl)
@[simp] theorem bind_err (C : Nat) (w : AV) (s : Sto) (f : α → Sto → Res β) : (Res.err C w s).bind f = .err C w s := (rfl)
@[simp] theorem bind_bad (f : α → Sto → Res β) : (Res.bad : Res α).bind f = .bad := (rfl)
theorem bind_assoc {γ : Type} (r : Res α) (f : α → Sto → Res β) (g : β → Sto → Res γ) : (r.bind f).bind g = r.bind fun a s => (f a s).bind g := by
  cases r <;> rfl
end Res

/-- the end of a statement -/
inductive Fl where
  | nx (e : En) (s : Sto)
  | ret (v : AV) (s : Sto)
  | brk (e : En) (s : Sto)
  | cnt (e : En) (s : Sto)
  | err (C : Nat) (w : AV) (e : En) (s : Sto)
  | bad

abbrev ME := En → Sto → Res AV
abbrev MT := En → Sto → Res Bool
abbrev MA := En → Sto → Res (List AV)
abbrev MS := En → Sto → Fl
abbrev MG := AV → En → Sto → Fl
abbrev MF := List AV → Sto → Res AV
/-- what is walked: a list at a location, or fixed items -/
inductive It where
  | lst (l : Nat)
  | fix (xs : List AV)
abbrev MI := En → Sto → Res It

/-! ### the store -/
def lineZ : Nat := 16777216
def seqAt (s : Sto) (l : Nat) : Option (List AV) := match s[l]? with
  | some (.lst xs) => some xs
  | some (.rol xs) => some xs
  | _ => none
def newLst (xs : List AV) (s : Sto) : Res AV := if xs.length ≤ lineZ then .ok (.ref s.length) (s ++ [.lst xs]) else .bad
def items? (s : Sto) : AV → Option (List AV)
  | .tup xs => some xs
  | .ref l => seqAt s l
  | _ => none

/-- data behind a value, to a depth -/
def pd (s : Sto) : Nat → AV → Option PyData
  | _, .non => some .none
  | _, .bl b => some (.bool b)
  | _, .int i => some (.int i)
  | _, .str x => some (.str x)
  | 0, _ => none
  | n + 1, .tup xs => (xs.mapM (pd s n)).map .tuple
  | n + 1, .ref l => match seqAt s l with
    | some xs => (xs.mapM (pd s n)).map .list
    | none => none
  | _ + 1, _ => none

/-! ### operations -/
abbrev O2 := AV → AV → Sto → Res AV
def okInt (i : Int) (s : Sto) : Res AV := .ok (.int i) s
def addAV : O2 := fun a b s => match a, b with
  | .int i, .int j => .ok (.int (i + j)) s
  | .str x, .str y => if x.length + y.length ≤ lineZ then .ok (.str (x ++ y)) s else .bad
  | .tup xs, .tup ys => if xs.length + ys.length ≤ lineZ then .ok (.tup (xs ++ ys)) s else .bad
  | .ref l, .ref m => match s[l]?, s[m]? with
    | some (.lst xs), some (.lst ys) => if xs.length + ys.length ≤ lineZ then newLst (xs ++ ys) s else .bad
    | _, _ => .bad
  | _, _ => .bad
def subAV : O2 := fun a b s => match a, b with
  | .int i, .int j => .ok (.int (i - j)) s
  | _, _ => .bad
def small (i : Int) : Bool := decide (-(2 ^ 64) < i ∧ i < 2 ^ 64)
def repL (xs : List AV) (k : Nat) : List AV := (List.replicate k xs).flatten
def mulAV : O2 := fun a b s => match a, b with
  | .int i, .int j => if small i || small j then .ok (.int (i * j)) s else .bad
  | .ref l, .int k => match s[l]? with
    | some (.lst xs) => if decide (-(2 ^ 63) ≤ k ∧ k < 2 ^ 63) && decide (xs.length * k.toNat ≤ lineZ) then newLst (repL xs k.toNat) s else .bad
    | _ => .bad
  | _, _ => .bad
def divAV : O2 := fun a b s => match a, b with
  | .int i, .int j => if 0 < j ∧ j < 1073741824 then .ok (.int (i / j)) s else .bad
  | _, _ => .bad
def modAV : O2 := fun a b s => match a, b with
  | .int i, .int j => if 0 < j then .ok (.int (i % j)) s else .bad
  | _, _ => .bad
def powAV : O2 := fun a b s => match a, b with
  | .int i, .int j => if 0 ≤ j ∧ j ≤ 1000000 ∧ i.natAbs < 2 ^ 64 then .ok (.int (i ^ j.toNat)) s else .bad
  | _, _ => .bad
/-- the order of data: ints, and tuples of ints -/
def leB : AV → AV → Option Bool
  | .int i, .int j => some (decide (i ≤ j))
  | _, _ => none
def ints? : List AV → Option (List Int)
  | [] => some []
  | .int i :: r => (ints? r).map (i :: ·)
  | _ => none
def lexLt : List Int → List Int → Bool
  | [], [] => false
  | [], _ :: _ => true
  | _ :: _, [] => false
  | x :: xs, y :: ys => if x = y then lexLt xs ys else decide (x < y)
def lexLe : List Int → List Int → Bool
  | [], _ => true
  | _ :: _, [] => false
  | x :: xs, y :: ys => if x = y then lexLe xs ys else decide (x ≤ y)
def cmpAV (f : Int → Int → Bool) (g : List Int → List Int → Option Bool) : O2 := fun a b s => match a, b with
  | .int i, .int j => .ok (.bl (f i j)) s
  | .tup xs, .tup ys => match ints? xs, ints? ys with
    | some ns, some ms => match g ns ms with
      | some r => .ok (.bl r) s
      | none => .bad
    | _, _ => .bad
  | _, _ => .bad
def ltAV : O2 := cmpAV (fun i j => decide (i < j)) (fun a b => some (lexLt a b))
def leAV : O2 := cmpAV (fun i j => decide (i ≤ j)) (fun a b => some (lexLe a b))
def gtAV : O2 := cmpAV (fun i j => decide (j < i)) (fun _ _ => none)
def geAV : O2 := cmpAV (fun i j => decide (j ≤ i)) (fun _ _ => none)
def deepN : Nat := 60
def eqAV (neg : Bool) : O2 := fun a b s => match pd s deepN a, pd s deepN b with
  | some d, some e => if SeqAt.shaped d && SeqAt.shaped e then .ok (.bl (neg != PyData.eqv d e)) s else .bad
  | _, _ => .bad
def isAV (neg : Bool) : O2 := fun a b s => match b with
  | .non => .ok (.bl (neg != decide (a = .non))) s
  | .bl c => match a with
    | .bl d => .ok (.bl (neg != decide (d = c))) s
    | _ => .bad
  | _ => .bad
def flat : AV → Bool
  | .non => true
  | .bl _ => true
  | .int _ => true
  | .str _ => true
  | _ => false
def eqF : AV → AV → Bool
  | .non, .non => true
  | .bl a, .bl b => a == b
  | .bl a, .int b => (if a then 1 else 0) == b
  | .int a, .bl b => a == (if b then 1 else 0)
  | .int a, .int b => a == b
  | .str a, .str b => a == b
  | _, _ => false
def inAV (neg : Bool) : O2 := fun a b s => match items? s b with
  | some xs => if flat a && xs.all flat then .ok (.bl (neg != xs.any fun y => eqF y a)) s else .bad
  | none => .bad
def ixN (n : Nat) (i : Int) : Option Nat := if 0 ≤ i then (if i < n then some i.toNat else none) else if -(n : Int) ≤ i then some (i + n).toNat else none
def ixAV : O2 := fun a b s => match b with
  | .int i => match items? s a with
    | some xs => match (ixN xs.length i).bind fun j => xs[j]? with
      | some v => .ok v s
      | none => .bad
    | none => .bad
  | _ => .bad
def sIx (n d : Nat) : Option Int → Nat
  | none => d
  | some v => if v < 0 then (v + (n : Int)).toNat else min v.toNat n
def cut (xs : List AV) (lo hi : Option Int) : List AV := (xs.drop (sIx xs.length 0 lo)).take (sIx xs.length xs.length hi - sIx xs.length 0 lo)
def sliceAV (a : AV) (lo hi : Option Int) (s : Sto) : Res AV := match a with
  | .tup xs => .ok (.tup (cut xs lo hi)) s
  | .ref l => match seqAt s l with
    | some xs => .ok (.ref s.length) (s ++ [.lst (cut xs lo hi)])
    | none => .bad
  | _ => .bad
def truth (a : AV) (s : Sto) : Res Bool := match a with
  | .non => .ok false s
  | .bl b => .ok b s
  | .int i => .ok (i != 0) s
  | .str x => if x.length ≤ lineZ then .ok ((x.length : Int) != 0) s else .bad
  | .tup xs => .ok (!xs.isEmpty) s
  | .ref l => match seqAt s l with
    | some xs => .ok (!xs.isEmpty) s
    | none => .bad
  | _ => .bad

def isLst (s : Sto) (x : AV) : Bool := match x with
  | .ref l => match s[l]? with
    | some (.lst _) => true
    | _ => false
  | _ => false
/-! ### expressions -/
namespace E
def var (i : Nat) : ME := fun en s => match en[i]? with
  | some (some v) => .ok v s
  | _ => .bad
def c (v : AV) : ME := fun _ s => .ok v s
def un (f : AV → Sto → Res AV) (a : ME) : ME := fun en s => (a en s).bind f
def op (f : O2) (a b : ME) : ME := fun en s => (a en s).bind fun x s => (b en s).bind fun y s => f x y s
def and (a b : ME) : ME := fun en s => (a en s).bind fun x s => match x with
  | .bl true => b en s
  | .bl false => .ok (.bl false) s
  | _ => .bad
def or (a b : ME) : ME := fun en s => (a en s).bind fun x s => match x with
  | .bl true => .ok (.bl true) s
  | .bl false => b en s
  | _ => .bad
def not (a : ME) : ME := fun en s => (a en s).bind fun x s => match x with
  | .bl b => .ok (.bl (!b)) s
  | _ => .bad
def ite (t : MT) (a b : ME) : ME := fun en s => (t en s).bind fun b' s => if b' = true then a en s else b en s
def nil : MA := fun _ s => .ok [] s
def cons (a : ME) (r : MA) : MA := fun en s => (a en s).bind fun x s => (r en s).bind fun xs s => .ok (x :: xs) s
def tup (a : MA) : ME := fun en s => (a en s).bind fun xs s => if xs.length ≤ lineZ then .ok (.tup xs) s else .bad
def lst (a : MA) : ME := fun en s => (a en s).bind newLst
def call (f : MF) (a : MA) : ME := fun en s => (a en s).bind f
def meth (f : AV → MF) (o : ME) (a : MA) : ME := fun en s => (o en s).bind fun x s => (a en s).bind fun xs s => f x xs s
/-- a call out of which no error comes -/
def calln (f : MF) (a : MA) : ME := fun en s => (a en s).bind fun xs s => (f xs s).ne
/-- a method of a list: that it is a list is looked at ahead of the arguments -/
def lmeth (f : AV → MF) (o : ME) (a : MA) : ME := fun en s => (o en s).bind fun x s => if isLst s x = true then (a en s).bind fun xs s => f x xs s else .bad
def part (a : ME) (k : Option Int → Sto → Res AV) : En → Sto → Res AV := fun en s => (a en s).bind fun x s => match x with
  | .int i => k (some i) s
  | _ => .bad
def slice (a : ME) (lo hi : Option ME) : ME := fun en s => (a en s).bind fun x s =>
  let withHi (l : Option Int) (s : Sto) : Res AV := match hi with
    | some h => part h (fun u s => sliceAV x l u s) en s
    | none => sliceAV x l none s
  match lo with
  | some l => part l withHi en s
  | none => withHi none s
def chain (f g : O2) (a b c : ME) : ME := fun en s => (a en s).bind fun x s => (b en s).bind fun y s => (f x y s).bind fun z s => match z with
  | .bl true => (c en s).bind fun w s => g y w s
  | .bl false => .ok (.bl false) s
  | _ => .bad
end E

/-! ### tests -/
namespace T
def val (a : ME) : MT := fun en s => (a en s).bind fun x s => match x with
  | .bl b => .ok b s
  | _ => .bad
def tru (a : ME) : MT := fun en s => (a en s).bind truth
def and (a b : MT) : MT := fun en s => (a en s).bind fun x s => if x = true then b en s else .ok false s
def or (a b : MT) : MT := fun en s => (a en s).bind fun x s => if x = true then .ok true s else b en s
def not (a : MT) : MT := fun en s => (a en s).bind fun x s => .ok (!x) s
def yes : MT := fun _ s => .ok true s
end T

/-! ### targets and statements -/
def Fl.next (r : Fl) (f : En → Sto → Fl) : Fl := match r with
  | .nx e s => f e s
  | r => r
def Res.fl (r : Res AV) (en : En) (f : AV → Sto → Fl) : Fl := match r with
  | .ok v s => f v s
  | .err C w s => .err C w en s
  | .bad => .bad
def Res.flT (r : Res Bool) (en : En) (f : Bool → Sto → Fl) : Fl := match r with
  | .ok v s => f v s
  | .err C w s => .err C w en s
  | .bad => .bad
namespace G
def name (i : Nat) : MG := fun v en s => .nx (en.set i (some v)) s
def all : List MG → List AV → En → Sto → Fl
  | [], [], en, s => .nx en s
  | g :: gs, v :: vs, en, s => (g v en s).next fun en s => all gs vs en s
  | _, _, _, _ => .bad
def tup (gs : List MG) : MG := fun v en s => match v with
  | .tup xs => if xs.length = gs.length then all gs xs en s else .bad
  | _ => .bad
def lst (gs : List MG) : MG := fun v en s => match v with
  | .ref l => match seqAt s l with
    | some xs => if xs.length = gs.length then all gs xs en s else .bad
    | none => .bad
  | _ => .bad
/-- a tuple or a list is taken apart -/
def unp (gs : List MG) : MG := fun v en s => match v with
  | .tup xs => if xs.length = gs.length then all gs xs en s else .bad
  | .ref l => match seqAt s l with
    | some xs => if xs.length = gs.length then all gs xs en s else .bad
    | none => .bad
  | _ => .bad
def setIx (o i v : AV) (en : En) (s : Sto) : Fl := match o, i with
  | .ref l, .int k => match s[l]? with
    | some (.lst xs) => match ixN xs.length k with
      | some j => .nx en (s.set l (.lst (xs.set j v)))
      | none => .bad
    | _ => .bad
  | _, _ => .bad
def sub (o i : ME) : MG := fun v en s => (o en s).fl en fun x s => (i en s).fl en fun y s => setIx x y v en s
end G
namespace S
def skip : MS := fun en s => .nx en s
def seq (a b : MS) : MS := fun en s => (a en s).next fun en s => b en s
/-- a target goes on, or is bad -/
def gx (r : Fl) : Fl := match r with
  | .nx en s => .nx en s
  | _ => .bad
def asg (g : MG) (e : ME) : MS := fun en s => (e en s).fl en fun v s => gx (g v en s)
def expr (e : ME) : MS := fun en s => (e en s).fl en fun _ s => .nx en s
def ret (e : ME) : MS := fun en s => (e en s).fl en fun v s => .ret v s
def retN : MS := fun _ s => .ret .non s
def ife (t : MT) (a b : MS) : MS := fun en s => (t en s).flT en fun x s => if x = true then a en s else b en s
def brk : MS := fun en s => .brk en s
def cnt : MS := fun en s => .cnt en s
def never : MS := fun _ _ => .bad
def aug (i : Nat) (f : O2) (e : ME) : MS := fun en s => match en[i]? with
  | some (some x) => (e en s).fl en fun y s => (f x y s).fl en fun z s => .nx (en.set i (some z)) s
  | _ => .bad
/-- a turn's end -/
def turn (r : Fl) (go : En → Sto → Fl) : Fl := match r with
  | .nx e s => go e s
  | .cnt e s => go e s
  | .brk e s => .nx e s
  | r => r
def forT (body : AV → MS) : List AV → MS
  | [] => fun en s => .nx en s
  | x :: xs => fun en s => turn (body x en s) fun en s => forT body xs en s
def forL (body : AV → MS) (l : Nat) : Nat → Nat → MS
  | 0, _ => fun _ _ => .bad
  | f + 1, i => fun en s => match seqAt s l with
    | none => .bad
    | some xs => match xs[i]? with
      | none => .nx en s
      | some x => turn (body x en s) fun en s => forL body l f (i + 1) en s
def fuel : Nat := 1000000000000
def forI (body : AV → MS) (j : It) : MS := match j with
  | .fix xs => forT body xs
  | .lst l => forL body l fuel 0
def for_ (src : MI) (g : MG) (b : MS) : MS := fun en s => match src en s with
  | .ok j s => forI (fun v en s => (gx (g v en s)).next fun en s => b en s) j en s
  | .err C w s => .err C w en s
  | .bad => .bad
def loop (t : MT) (b : MS) : Nat → MS
  | 0 => fun _ _ => .bad
  | f + 1 => fun en s => (t en s).flT en fun x s => if x = true then turn (b en s) fun en s => loop t b f en s else .nx en s
def while_ (t : MT) (b : MS) : MS := loop t b fuel
end S
/-- a def of np parameters and n names -/
def runDef (np n : Nat) (b : MS) : MF := fun vs s => if vs.length ≠ np then .bad else match b (vs.map some ++ List.replicate (n - vs.length) none) s with
  | .nx _ s => .ok .non s
  | .ret v s => .ok v s
  | .err C w _ s => .err C w s
  | .brk _ _ => .bad
  | .cnt _ _ => .bad
  | .bad => .bad

/-- .. out of which no error comes -/
def runDefn (np n : Nat) (b : MS) : MF := fun vs s => if vs.length ≠ np then .bad else match b (vs.map some ++ List.replicate (n - vs.length) none) s with
  | .nx _ s => .ok .non s
  | .ret v s => .ok v s
  | _ => .bad

/-! ### walked things -/
namespace I
def tup (a : ME) : MI := fun en s => (a en s).bind fun x s => match x with
  | .tup xs => .ok (.fix xs) s
  | _ => .bad
def lst (a : ME) : MI := fun en s => (a en s).bind fun x s => match x with
  | .ref l => match seqAt s l with
    | some _ => .ok (.lst l) s
    | none => .bad
  | _ => .bad
/-- a list or a tuple -/
def seq (a : ME) : MI := fun en s => match a en s with
  | .ok (.tup xs) s => .ok (.fix xs) s
  | .ok (.ref l) s => match seqAt s l with
    | some _ => .ok (.lst l) s
    | none => .bad
  | .err C w s => .err C w s
  | _ => .bad
def iot (lo : Int) (n : Nat) : List AV := (List.range n).map fun (k : Nat) => AV.int (lo + (k : Int))
@[irreducible] def inR (i : Int) : Bool := decide (-(2 ^ 62) ≤ i ∧ i < 2 ^ 62)
def range1 (a : MA) : MI := fun en s => (a en s).bind fun xs s => match xs with
  | [.int j] => if inR j then .ok (.fix (iot 0 j.toNat)) s else .bad
  | _ => .bad
def range2 (a : MA) : MI := fun en s => (a en s).bind fun xs s => match xs with
  | [.int i, .int j] => if inR i && inR j then .ok (.fix (iot i (j - i).toNat)) s else .bad
  | _ => .bad
end I

def negAV (a : AV) (s : Sto) : Res AV := match a with
  | .int i => .ok (.int (-i)) s
  | _ => .bad
namespace E
/-- list(range(n)), tuple(range(n)) -/
def lstR (a : ME) : ME := fun en s => (a en s).bind fun x s => match x with
  | .int j => if I.inR j && decide (j.toNat ≤ 16777216) then .ok (.ref s.length) (s ++ [MO.lst (I.iot 0 j.toNat)]) else .bad
  | _ => .bad
def tupR (a : ME) : ME := fun en s => (a en s).bind fun x s => match x with
  | .int j => if I.inR j && decide (j.toNat ≤ 16777216) then .ok (.tup (I.iot 0 j.toNat)) s else .bad
  | _ => .bad
end E
/-! ### comprehensions -/
def wipe (en : En) : List Nat → En
  | [] => en
  | v :: vs => (wipe en vs).set v none
namespace E
/-- the list at D gets one item more -/
def grow (D : Nat) (y : AV) (s : Sto) : Res Unit := match s[D]? with
  | some (.lst acc) => if acc.length < lineZ then .ok () (s.set D (.lst (acc ++ [y]))) else .bad
  | _ => .bad
/-- one turn: the target, the test, the element; D is the list that grows -/
def lcT (g : MG) (t : MT) (e : ME) (own : List Nat) (en : En) (D : Nat) (x : AV) (s : Sto) : Res Unit := match g x (wipe en own) s with
  | .nx en' s' => (t en' s').ne.bind fun b s => if b = true then (e en' s).ne.bind (grow D) else .ok () s
  | _ => .bad
def lcFix (turn : AV → Sto → Res Unit) : List AV → Sto → Res Unit
  | [], s => .ok () s
  | x :: xs, s => (turn x s).bind fun _ s => lcFix turn xs s
def lcLst (turn : AV → Sto → Res Unit) (l : Nat) : Nat → Nat → Sto → Res Unit
  | 0, _, _ => .bad
  | f + 1, i, s => match seqAt s l with
    | none => .bad
    | some xs => match xs[i]? with
      | none => .ok () s
      | some x => (turn x s).bind fun _ s => lcLst turn l f (i + 1) s
def lc (src : MI) (g : MG) (t : MT) (e : ME) (own : List Nat) : ME := fun en s => (src en s).bind fun j s =>
  let D := s.length
  (match j with
    | .fix xs => lcFix (lcT g t e own en D) xs (s ++ [MO.lst []])
    | .lst l => lcLst (lcT g t e own en D) l S.fuel 0 (s ++ [MO.lst []])).bind fun _ s => .ok (.ref D) s
end E

/-! ### built-ins -/
namespace B
def len : MF := fun vs s => match vs with
  | [.str x] => if x.length ≤ lineZ then .ok (.int x.length) s else .bad
  | [.ref l] => match s[l]? with
    | some (.lst xs) => .ok (.int xs.length) s
    | some (.rol xs) => .ok (.int xs.length) s
    | _ => .bad
  | [.tup xs] => .ok (.int xs.length) s
  | _ => .bad
/-- isinstance(x, T) for T int, bool, tuple, str -/
def kind (s : Sto) : AV → Option String
  | .non => some "NoneType"
  | .bl _ => some "bool"
  | .int _ => some "int"
  | .str _ => some "str"
  | .tup _ => some "tuple"
  | .ref l => match s[l]? with
    | some (.lst _) => some "list"
    | _ => none
  | _ => none
def isa : MF := fun vs s => match vs with
  | [x, .ty t] => if t = "int" ∨ t = "bool" ∨ t = "tuple" ∨ t = "str" then match kind s x with
      | some k => .ok (.bl (decide (k = t) || (decide (k = "bool") && decide (t = "int")))) s
      | none => .bad
    else .bad
  | _ => .bad
def int_ : MF := fun vs s => match vs with
  | [.int i] => .ok (.int i) s
  | [.bl b] => .ok (.int (if b then 1 else 0)) s
  | _ => .bad
def list_ : MF := fun vs s => match vs with
  | [v] => match items? s v with
    | some xs => .ok (.ref s.length) (s ++ [.lst xs])
    | none => .bad
  | _ => .bad
def tuple_ : MF := fun vs s => match vs with
  | [v] => match items? s v with
    | some xs => .ok (.tup xs) s
    | none => .bad
  | _ => .bad
def min2 : MF := fun vs s => match vs with
  | [.int i, .int j] => .ok (.int (if j < i then j else i)) s
  | _ => .bad
def max2 : MF := fun vs s => match vs with
  | [.int i, .int j] => .ok (.int (if j > i then j else i)) s
  | _ => .bad
/-- the order in which things are sorted: iot, or tuples of ints -/
def sLe : AV → AV → Bool
  | .int i, .int j => decide (i ≤ j)
  | .tup xs, .tup ys => match ints? xs, ints? ys with
    | some a, some b => lexLe a b
    | _, _ => false
  | _, _ => false
def isInt : AV → Bool
  | .int _ => true
  | _ => false
def isTupI : AV → Bool
  | .tup xs => !xs.isEmpty && xs.all isInt
  | _ => false
def sorts (xs : List AV) : Bool := xs.all isInt || xs.all isTupI
def sorted : MF := fun vs s => match vs with
  | [.ref l] => match s[l]? with
    | some (.lst xs) => if sorts xs then newLst (xs.mergeSort sLe) s else .bad
    | some (.set xs) => if sorts xs then newLst (xs.mergeSort sLe) s else .bad
    | _ => .bad
  | _ => .bad
def dedup (xs : List AV) : List AV := xs.foldl (fun acc x => if x ∈ acc then acc else acc ++ [x]) []
def set_ : MF := fun vs s => match vs with
  | [.ref l] => match s[l]? with
    | some (.lst xs) => if sorts xs && decide (xs.length < 64) then .ok (.ref s.length) (s ++ [.set (dedup xs)]) else .bad
    | _ => .bad
  | _ => .bad
/-- repr, of lists and tuples without dicts -/
def repr_ : MF := fun vs s => match vs with
  | [v] => match pd s deepN v with
    | some d => if d.showable && decide (d.shown.length ≤ lineZ) then (match v with
        | .tup _ => .ok (.str d.shown) s
        | .ref _ => .ok (.str d.shown) s
        | .int _ => .ok (.str d.shown) s
        | _ => .bad) else .bad
    | none => .bad
  | _ => .bad
def append : AV → MF := fun o vs s => match o, vs with
  | .ref l, [y] => match s[l]? with
    | some (.lst xs) => if xs.length < lineZ then .ok .non (s.set l (.lst (xs ++ [y]))) else .bad
    | _ => .bad
  | _, _ => .bad
def pop : AV → MF := fun o vs s => match o with
  | .ref l => match s[l]? with
    | some (.lst xs) => match vs with
      | [] => match xs[xs.length - 1]? with
        | some y => .ok y (s.set l (.lst xs.dropLast))
        | none => .bad
      | [.int i] => if decide (-(2 ^ 63) ≤ i ∧ i < 2 ^ 63) then match ixN xs.length i with
          | some k => match xs[k]? with
            | some y => .ok y (s.set l (.lst (xs.eraseIdx k)))
            | none => .bad
          | none => .bad
        else .bad
      | _ => .bad
    | _ => .bad
  | _ => .bad
end B
end Mi
set_option maxRecDepth 100000
set_option maxHeartbeats 3200000
/-! Sets of ints out of lists; sorted sets of int tuples of any lengths. -/
namespace BrS
open PySem PySem.Spec PyProof.Rows L2
section
variable {P : Program} {w : World} {A : Around} {E : Value → Shared → Prop} {s : Shared}
/-- the new set's object -/
abbrev nu (w : World) : Obj := { cls := .type "set", dict := none, data := .set #[] 0 (.fresh 0 0 (!w.params.followText "set-order")) }
/-- what the building of the set hands on -/
abbrev Made (w : World) (s : Shared) (ns : List Int) (r : Value) (s₂ : Shared) : Prop := r = .none ∧ ∃ h' tk c, s₂ = { s with heap := h', toks := tk } ∧ SetR w h' s.heap.objs.size (fun j => decide (j ∈ ns)) c ∧ c ≤ ns.length ∧ ∀ b o, s.heap.get? b = some o → h'.get? b = some o
theorem set_of_list {l : Addr} {items : Array Value} (ns : List Int) {Q : Value → Shared → Prop} (hh : A.handled = none) (hl : s.heap.IsList l items) (hit : IntsAre items.toList ns) (hb : ns.length + 1 < scanBound)
    (h : ∀ (h' : Heap) (tk c : Nat), SetR w h' s.heap.objs.size (fun j => decide (j ∈ ns)) c → c ≤ ns.length → (∀ b o, s.heap.get? b = some o → h'.get? b = some o) → Q (.ref s.heap.objs.size) { s with heap := h', toks := tk }) :
    wpAny (model P w) A (call (.type "set") [.ref l]) Q E s := by
  have len : items.size = ns.length := by rw [← Array.length_toList]; exact IntsAre.length hit
  obtain ⟨c, tl, mro⟩ := PySem.F.called_set.mro
  have c1 := PySem.F.called_set.made
  have c2 := PySem.F.called_set.sub
  apply wpAny_call
  apply codeAny_of_tree
  show wpAny _ _ (callAny (.type "set") _) _ _ _
  apply wpAny_pure
  refine ⟨Code.quiet_builtin _ (by decide +kernel), codeAny_builtin PySem.F.entry_type_call ?_⟩
  rw [Around.under_plain (weight_type_call_type "set" [.ref l] []) rfl]
  have c3 := PySem.F.called_set.notType
  have c4 := PySem.F.called_set.canCreate
  have c5 := PySem.F.typeCall_set_1 (.ref l)
  repeat any_goals first | assumption | wp_step
  have made := code_set_led1 (P := P) (w := w) (A := A.in1) (s := s) (.ref l) (E := E) (Q₁ := fun obj s₁ => obj = .ref s.heap.objs.size ∧ s₁ = { s with heap := s.heap.push (nu w) }) ⟨rfl, rfl⟩
  apply codeAny_mono made
  intro r1 s₁ hr
  match r1, hr with
  | .error e, hr => exact hr
  | .ok (.ret obj), hr =>
    obtain ⟨rfl, rfl⟩ := hr
    have atS : (s.heap.push (nu w)).get? s.heap.objs.size = some (nu w) := Heap.get?_push_size _ rfl
    have isS : Shared.TypeIs { s with heap := s.heap.push (nu w) } (.ref s.heap.objs.size) "set" := ⟨_, atS, rfl⟩
    have i1 := PySem.F.called_set.init.lookup
    have i2 := PySem.F.called_set.init.bind (.ref s.heap.objs.size)
    repeat any_goals first | assumption | wp_step
    refine codeAny_mono (codeAny_call_builtin (R := wants (Made w s ns) E) PySem.F.called_set.init.plain PySem.F.entry_set_init (check_set_init_1 isS ?_)) ?_
    · obtain ⟨⟨ocls, odict, odata, oslots⟩, hol, hcl, nl, hdl⟩ := hl
      simp only at hcl hdl
      subst hcl hdl
      have hol' : (s.heap.push (nu w)).get? l = some { cls := .type "list", dict := odict, data := .seq items nl, slots := oslots } := Heap.get?_push_of_some _ hol
      have n1 := PySem.F.sub_list_set
      have n2 := PySem.F.sub_list_frozenset
      have n3 : (Value.type "list" == Value.type "dict") = false := by decide
      have hl1 : (s.heap.push (nu w)).IsList l items := ⟨_, hol', rfl, nl, rfl⟩
      unfold Builtin.«set.__init__» noKeywords Builtin.Frozenset.updateFrom
      generalize e0 : pyIter = PI
      wp_walk
      subst e0
      refine wpAny_pyIter_list hl1 (wpAny_bind (wpAny_runValue ?_))
      have lt : l < s.heap.objs.size := Heap.lt_size hol
      have calm : A.in1.in1.in1.handled = none := by simp [hh]
      have sz : (s.heap.push (nu w)).objs.size = s.heap.objs.size + 1 := Heap.size_push ..
      have ne1 : l ≠ (s.heap.push (nu w)).objs.size := by rw [sz]; exact Nat.ne_of_lt (Nat.lt_succ_of_lt lt)
      have ne2 : s.heap.objs.size ∉ [(s.heap.push (nu w)).objs.size, l] := by
        rw [sz]
        intro z
        rcases List.mem_cons.mp z with z | z
        · exact absurd z (Nat.ne_of_lt (Nat.lt_succ_self _))
        · exact absurd (List.mem_singleton.mp z) (Nat.ne_of_gt lt)
      have val : ∀ (i : Nat) (v : Value), items[i]? = some v → ∃ k t, ns[i]? = some k ∧ v = .int k t := by
        intro i v hv
        have hi : i < ns.length := len ▸ (Array.getElem?_eq_some_iff.mp hv).1
        obtain ⟨t, e⟩ := PyProof.Rows.IntsAre.int_at hit i v (by rw [Array.getElem?_toList]; exact hv)
        refine ⟨ns[i], t, List.getElem?_eq_getElem hi, ?_⟩
        rw [e, List.getD_eq_getElem?_getD, List.getElem?_eq_getElem hi]; rfl
      have walks := (Walks.list (prog := P) (w := w) calm _ l ne1 items).toS
      refine set_update_ints walks s.heap.objs.size ne2 ns len hb val (items.size - 0) 0 _ (by omega) (Nat.zero_le _) ⟨⟨_, Heap.get?_push_size _ rfl, rfl, rfl⟩, hl1.push _⟩ ⟨0, Nat.le_refl 0, setR_new_at (Heap.get?_push_of_some _ atS)⟩ ?_
      rintro ⟨h', g2, d', tk', os'⟩ c' hm hc' hS'
      obtain rfl : g2 = s.gens := hm.gens
      obtain rfl : d' = s.drawn := hm.drawn
      obtain rfl : os' = s.os := hm.os
      show wpAny _ _ _ _ _ _
      apply wpAny_pure
      show wpAny _ _ (ret Value.none) _ _ _
      rw [len] at hc'
      apply wpAny_pure
      refine ⟨rfl, h', tk', c', rfl, hS', hc', fun b o e => ?_⟩
      have lb : b < s.heap.objs.size := Heap.lt_size e
      refine hm.heap b o ?_ (Heap.get?_push_of_some _ (Heap.get?_push_of_some _ e))
      rw [sz]
      intro z
      rcases List.mem_cons.mp z with z | z
      · exact absurd z (Nat.ne_of_lt lb)
      · exact absurd (List.mem_singleton.mp z) (Nat.ne_of_lt (Nat.lt_succ_of_lt lb))
    · intro r2 s₂ hr₂
      match r2, hr₂ with
      | .error e, hr₂ => exact hr₂
      | .ok (.ret r), hr₂ =>
        obtain ⟨rfl, h', tk, c', rfl, hS', hc', hk'⟩ := hr₂
        repeat any_goals first | assumption | wp_step
        exact h _ _ _ hS' hc' hk'
      | .ok .next, hr₂ => exact hr₂.elim
      | .ok .brk, hr₂ => exact hr₂.elim
      | .ok .cont, hr₂ => exact hr₂.elim
  | .ok .next, hr => exact hr.elim
  | .ok .brk, hr => exact hr.elim
  | .ok .cont, hr => exact hr.elim
theorem lexLe_total : ∀ a b : List Int, (Mi.lexLe a b || Mi.lexLe b a) = true
  | [], b => by simp [Mi.lexLe]
  | _ :: _, [] => by simp [Mi.lexLe]
  | x :: xs, y :: ys => by
    show ((if x = y then Mi.lexLe xs ys else decide (x ≤ y)) || (if y = x then Mi.lexLe ys xs else decide (y ≤ x))) = true
    by_cases h : x = y
    · rw [if_pos h, if_pos h.symm]; exact lexLe_total xs ys
    · rw [if_neg h, if_neg (fun z => h z.symm)]
      rcases Int.le_total x y with z | z
      · rw [decide_eq_true z]; rfl
      · rw [decide_eq_true z, Bool.or_true]
theorem lexLe_antisymm : ∀ a b : List Int, Mi.lexLe a b = true → Mi.lexLe b a = true → a = b
  | [], [], _, _ => rfl
  | [], _ :: _, _, h => by cases h
  | _ :: _, [], h, _ => by cases h
  | x :: xs, y :: ys, h1, h2 => by
    have h1 : (if x = y then Mi.lexLe xs ys else decide (x ≤ y)) = true := h1
    have h2 : (if y = x then Mi.lexLe ys xs else decide (y ≤ x)) = true := h2
    by_cases h : x = y
    · rw [if_pos h] at h1
      rw [if_pos h.symm] at h2
      rw [h, lexLe_antisymm xs ys h1 h2]
    · rw [if_neg h] at h1
      rw [if_neg (fun z => h z.symm)] at h2
      exact absurd (Int.le_antisymm (of_decide_eq_true h1) (of_decide_eq_true h2)) h
theorem lexLe_trans : ∀ a b c : List Int, Mi.lexLe a b = true → Mi.lexLe b c = true → Mi.lexLe a c = true
  | [], _, _, _, _ => rfl
  | _ :: _, [], _, h, _ => by cases h
  | _ :: _, _ :: _, [], _, h => by cases h
  | x :: xs, y :: ys, z :: zs, h1, h2 => by
    have h1 : (if x = y then Mi.lexLe xs ys else decide (x ≤ y)) = true := h1
    have h2 : (if y = z then Mi.lexLe ys zs else decide (y ≤ z)) = true := h2
    show (if x = z then Mi.lexLe xs zs else decide (x ≤ z)) = true
    by_cases e1 : x = y
    · rw [if_pos e1] at h1
      by_cases e2 : y = z
      · rw [if_pos e2] at h2
        rw [if_pos (e1.trans e2)]
        exact lexLe_trans xs ys zs h1 h2
      · rw [if_neg e2] at h2
        rw [if_neg (by rw [e1]; exact e2), e1]
        exact h2
    · rw [if_neg e1] at h1
      by_cases e2 : y = z
      · rw [← e2, if_neg e1]; exact h1
      · rw [if_neg e2] at h2
        have a1 := of_decide_eq_true h1
        have a2 := of_decide_eq_true h2
        have : x ≠ z := by omega
        rw [if_neg this]
        exact decide_eq_true (by omega)
theorem lexD (x y : Int) (xs ys : List Int) : PySem.W.dataLt (.tuple (PyData.int x :: xs.map PyData.int)) (.tuple (PyData.int y :: ys.map PyData.int)) = if x = y then PySem.W.dataLt (.tuple (xs.map PyData.int)) (.tuple (ys.map PyData.int)) else decide (x < y) := by
  rw [PySem.W.dataLt_tuple, PySem.W.dataLt_tuple]
  have al : PySem.W.alike (.int x) (.int y) = true := by simp only [PySem.W.alike]
  by_cases h : x = y
  · rw [if_pos h, PySem.W.dataLt_all_yes al (by simpa [PyData.eqv] using h)]
  · rw [if_neg h, PySem.W.dataLt_all_no al (by simpa [PyData.eqv] using h), PySem.W.dataLt_int]
theorem dataLt_self' (d : PyData) : PySem.W.dataLt d d = false := PySem.W.dataLt_self d
theorem lexD_le : ∀ xs ys : List Int, (!PySem.W.dataLt (.tuple (ys.map PyData.int)) (.tuple (xs.map PyData.int))) = Mi.lexLe xs ys
  | [], [] => by rw [dataLt_self']; rfl
  | [], y :: ys => by
    have : PySem.W.dataLt (.tuple ((y :: ys).map PyData.int)) (.tuple (([] : List Int).map PyData.int)) = false := by
      rw [PySem.W.dataLt_tuple]; rfl
    rw [this]; rfl
  | x :: xs, [] => by
    have : PySem.W.dataLt (.tuple (([] : List Int).map PyData.int)) (.tuple ((x :: xs).map PyData.int)) = true := by
      rw [PySem.W.dataLt_tuple]; rfl
    rw [this]; rfl
  | x :: xs, y :: ys => by
    rw [List.map_cons, List.map_cons, lexD, ]
    show _ = (if x = y then Mi.lexLe xs ys else decide (x ≤ y))
    by_cases h : x = y
    · rw [if_pos h, if_pos h.symm, lexD_le xs ys]
    · rw [if_neg h, if_neg (fun z => h z.symm), PySem.W.not_lt_int]
/-! sorted of a set of int tuples, none of them empty -/
theorem readsT {h : Heap} {b : Addr} {k : List Int} (x : IsT P w h k b) : Reads h (.ref b) (.tuple (k.map PyData.int)) [] := by
  obtain ⟨o, items, n, ho, hc, hd, hi⟩ := x
  have all : ∀ {us : List Value} {k : List Int}, ItemsAre (intKind P w) k us → ReadsAll h us (k.map PyData.int) [] := by
    intro us k z
    induction z with
    | nil => exact .nil
    | @cons k0 v ks vs h1 _ ih =>
      obtain ⟨t, rfl⟩ := Value.isInt_shape h1
      exact ReadsAll.cons (.int k0 t) ih
  exact .tuple ho hc hd (all hi)
theorem depth_tup (k : List Int) : (PyData.tuple (k.map PyData.int)).depth ≤ 1 := by
  have := PySem.W.depth_ints k
  simp only [PyData.depth]
  omega
theorem eachMap {α β : Type} {R : α → β → Prop} (f : α → β) : ∀ (vs : List α), (∀ v ∈ vs, R v (f v)) → PySem.W.EachIs R vs (vs.map f)
  | [], _ => .nil
  | v :: vs, h => .cons (h v List.mem_cons_self) (eachMap f vs fun u hu => h u (List.mem_cons_of_mem _ hu))
theorem each_refs : ∀ {out : List Value} {L : List (Addr × List Int)}, PySem.W.EachIs (fun v (q : Addr × List Int) => v = Value.ref q.1) out L → out = L.map fun q => Value.ref q.1
  | _, _, .nil => rfl
  | _, _, .cons h t => by rw [h, each_refs t]; rfl
/-- the order of the keys -/
abbrev keyLe (q r : Addr × List Int) : Bool := Mi.lexLe q.2 r.2
abbrev encT (q : Addr × List Int) : PyData := .tuple (q.2.map PyData.int)
theorem dataLe_keys : PySem.W.dataLe false encT = keyLe := by
  funext q r
  exact lexD_le q.2 r.2
theorem addr_key {h : Heap} {L : List (Addr × List Int)} (ht : ∀ p ∈ L, IsT P w h p.2 p.1) : ∀ q ∈ L, ∀ r ∈ L, q.1 = r.1 → q = r := by
  intro q hq r hr e
  have a1 := ht q hq
  rw [e] at a1
  exact Prod.ext e (a1.inj (ht r hr))
/-- the pair of an address -/
def pairOf (L : List (Addr × List Int)) (v : Value) : Addr × List Int := match L.find? (fun q => v == Value.ref q.1) with
  | some q => q
  | none => (0, [])
theorem pairOf_ref {h : Heap} {L : List (Addr × List Int)} (ht : ∀ p ∈ L, IsT P w h p.2 p.1) {q : Addr × List Int} (hq : q ∈ L) : pairOf L (.ref q.1) = q := by
  unfold pairOf
  cases e : L.find? (fun r => Value.ref q.1 == Value.ref r.1) with
  | none => exact absurd (List.find?_eq_none.mp e q hq) (by simp)
  | some r =>
    have h1 := List.mem_of_find?_eq_some e
    have h2 := List.find?_some e
    have h3 : Value.ref q.1 = Value.ref r.1 := beq_iff_eq.mp h2
    injection h3 with h3
    exact (addr_key ht q hq r h1 h3).symm
theorem sorted_setV {a : Addr} {L : List (Addr × List Int)} {es : Array (Int × Value)} {ep : Nat} {t : SetTable} {Q : Value → Shared → Prop} (R : SetTR P w s.heap a L es ep t) (hh : A.handled = none) (hne : ∀ p ∈ L, p.2 ≠ []) (hu : A.units + 64 < cLine)
    (hQ : ∀ s' p (out : Array Value) (c : Nat) (L' : List (Addr × List Int)), (∀ b o, s.heap.get? b = some o → s'.heap.get? b = some o) → s'.gens = s.gens → s'.os = s.os → s.heap.objs.size ≤ p →
      s'.heap.get? p = some (seqObj "list" out c) → out.toList = L'.map (fun q => Value.ref q.1) → L'.Perm L → L'.Pairwise (fun q r => keyLe q r = true) → Q (.ref p) s') : wpAny (model P w) A (call (.builtin "sorted") [.ref a]) Q E s := by
  obtain ⟨o, ho, hex, hd⟩ := R.ob
  have size := R.size
  have few := R.few
  apply Calls.call_function_entry kind_sorted plain_sorted entry_sorted (args_sorted1 _)
  unfold Builtin.«sorted»
  apply wpAny_bind (m := checkCount "sorted" 1 1 _)
  apply wpAny_pure
  apply wpAny_bind
  refine collect_set (A := A.in1) hh ⟨o, ho, hex.1, hd⟩ R.fits (by unfold scanBound; omega) R.tab.ris R.led ?_
  intro s1 vs k1 hz g1 o1 pm
  have rows : es.toList.map (·.2) = L.map fun q => Value.ref q.1 := by
    rw [R.rows]; unfold rowsOf; rw [List.map_map]; rfl
  rw [rows] at pm
  have mem : ∀ v ∈ vs, ∃ q ∈ L, v = Value.ref q.1 := by
    intro v hv
    obtain ⟨q, hq, e⟩ := List.mem_map.mp (pm.mem_iff.mp hv)
    exact ⟨q, hq, e.symm⟩
  have perm : (vs.map (pairOf L)).Perm L := by
    have z := pm.map (pairOf L)
    rw [List.map_map] at z
    have id' : L.map (pairOf L ∘ fun q => Value.ref q.1) = L := by
      conv => rhs; rw [← List.map_id L]
      exact List.map_congr_left fun q hq => pairOf_ref R.tup hq
    rw [id'] at z
    exact z
  have back : ∀ v ∈ vs, v = Value.ref (pairOf L v).1 := by
    intro v hv
    obtain ⟨q, hq, rfl⟩ := mem v hv
    rw [pairOf_ref R.tup hq]
  have lenv : vs.length = L.length := by rw [pm.length_eq, List.length_map]
  apply wpAny_bind
  refine wpAny_newList ?_ (by rw [sizeLine_eq]; omega)
  have at0 : (s1.heap.push (seqObj "list" vs.toArray 0)).get? s1.heap.objs.size = some (seqObj "list" vs.toArray 0) := Heap.get?_push_size _ rfl
  apply wpAny_bind
  apply wpAny_holding
  refine PySem.W.list_sort_data (s := { s1 with heap := s1.heap.push (seqObj "list" vs.toArray 0) }) (enc := encT) (R := fun v q => v = Value.ref q.1) (bs := vs.map (pairOf L)) at0 (eachMap _ vs back) ?_ ?_ ?_ (by rw [List.length_map, sizeLine_eq]; omega) ?_ ?_
  · refine eachMap _ vs fun v hv => ?_
    obtain ⟨q, hq, rfl⟩ := mem v hv
    rw [pairOf_ref R.tup hq]
    exact ⟨[], readsT (P := P) (w := w) (isT_keep (R.tup q hq) fun b u e => Heap.get?_push_of_some _ (k1 b u e)), by simp⟩
  · refine PySem.W.AllAlike.of fun b b' => ?_
    have z := PySem.W.alike_ints b.2 b'.2
    simpa only [PySem.W.alike] using z
  · refine .inl fun d hd => ?_
    obtain ⟨q, hq, rfl⟩ := List.mem_map.mp hd
    have := hne q (perm.mem_iff.mp hq)
    cases e : q.2 with
    | nil => exact absurd e this
    | cons x r => exact ⟨.int x, r.map .int, by unfold encT; rw [e]; rfl⟩
  · intro b _
    have := depth_tup b.2
    show A.in1.units + 1 + (encT b).depth < cLine
    have : (encT b).depth ≤ 1 := this
    show A.units + 1 + 1 + (encT b).depth < cLine
    omega
  · intro out hlo eo
    rw [dataLe_keys] at eo
    have outs := each_refs eo
    obtain ⟨c, hc⟩ := sortedHeap_at (vs := vs) (out := out.toArray) at0
    apply wpAny_pure
    refine ⟨_, rfl, hQ { s1 with heap := sortedHeap (s1.heap.push (seqObj "list" vs.toArray 0)) s1.heap.objs.size vs out.toArray } s1.heap.objs.size out.toArray c _ (fun b u e => ?_) g1 o1 hz hc outs ((List.mergeSort_perm _ _).trans perm) ?_⟩
    · have q := k1 b u e
      have lt := Heap.lt_size q
      show (sortedHeap (s1.heap.push (seqObj "list" vs.toArray 0)) s1.heap.objs.size vs out.toArray).get? b = some u
      rw [sortedHeap_old (Nat.ne_of_lt lt) (by rw [size_push']; exact Nat.lt_succ_of_lt lt)]
      exact Heap.get?_push_of_some _ q
    · exact List.pairwise_mergeSort (fun a b c => lexLe_trans a.2 b.2 c.2) (fun a b => lexLe_total a.2 b.2) _
end
end BrS
set_option maxRecDepth 100000
set_option maxHeartbeats 1000000
namespace Br
open PySem L2 Mi

section
variable (P : Program) (w : World) (K : PySem.W.Frag)
mutual
inductive Rep (H : Hp) (φ : List Addr) : AV → V → Prop
  | non : Rep H φ .non .non
  | bl (b : Bool) : Rep H φ (.bl b) (.bl b)
  | int (i : Int) : Rep H φ (.int i) (.int i)
  | str (x : Str) : Rep H φ (.str x) (.str x)
  | tup {a : Addr} {vs : List V} {xs : List AV} : SqT K H a vs → Reps H φ xs vs → Rep H φ (.tup xs) (.ref a)
  | ref {l : Nat} {a : Addr} : φ[l]? = some a → Rep H φ (.ref l) (.ref a)
  | adr (a : Addr) : Rep H φ (.adr a) (.ref a)
  | ty (n : String) : Rep H φ (.ty n) (.ty n)
inductive Reps (H : Hp) (φ : List Addr) : List AV → List V → Prop
  | nil : Reps H φ [] []
  | cons {x : AV} {v : V} {xs : List AV} {vs : List V} : Rep H φ x v → Reps H φ xs vs → Reps H φ (x :: xs) (v :: vs)
end
/-- an object of the store and what stands at its address -/
def RepO (H : Hp) (φ : List Addr) (o : MO) (a : Addr) : Prop := match o with
  | .lst xs => ∃ vs, H a = some (.lst vs) ∧ Reps K H φ xs vs
  | .rol xs => ∃ vs, ((∃ o, H a = some (.frz o (.lst vs))) ∨ SqL K (fun _ => none) a vs) ∧ Reps K H φ xs vs
  | .set xs => (∃ (S : Int → Bool) (n : Nat) (ns : List Int), H a = some (SetO w a S n) ∧ xs = ns.map AV.int ∧ ns.Nodup ∧ n < 64 ∧ ∀ i, S i = decide (i ∈ ns)) ∨
      (∃ (L : List (Addr × List Int)) (kss : List (List Int)), H a = some (SetTO P w a L) ∧ (∀ p ∈ L, SqT K H p.1 (p.2.map V.int)) ∧ xs = kss.map (fun k => AV.tup (k.map AV.int)) ∧ kss.Nodup ∧ ((L.map (·.2)).Perm kss))
  | .dic _ => False
  | .ins _ _ => False
def mutO : MO → Bool
  | .rol _ => false
  | _ => true
structure St0 (H : Hp) (φ : List Addr) (s : Sto) : Prop where
  len : φ.length = s.length
  nd : ∀ (l l' : Nat) (o o' : MO) (a : Addr), s[l]? = some o → s[l']? = some o' → mutO o = true → mutO o' = true → φ[l]? = some a → φ[l']? = some a → l = l'
  ob : ∀ (l : Nat) (o : MO) (a : Addr), s[l]? = some o → φ[l]? = some a → RepO P w K H φ o a
/-- the heap goes on: locations stay, tuples stay -/
structure Ext (H : Hp) (φ : List Addr) (H' : Hp) (φ' : List Addr) : Prop where
  pre : φ <+: φ'
  tup : ∀ a xs, SqT K H a xs → SqT K H' a xs
end
section
variable {P : Program} {w : World} {K : PySem.W.Frag} {H H' H1 H2 : Hp} {φ φ' φ1 φ2 : List Addr}
theorem Ext.refl : Ext K H φ H φ := ⟨List.prefix_refl _, fun _ _ h => h⟩
theorem Ext.trans (a : Ext K H φ H1 φ1) (b : Ext K H1 φ1 H2 φ2) : Ext K H φ H2 φ2 := ⟨a.pre.trans b.pre, fun x y h => b.tup x y (a.tup x y h)⟩
theorem Ext.at (a : Ext K H φ H1 φ1) {l : Nat} {x : Addr} (h : φ[l]? = some x) : φ1[l]? = some x := by
  obtain ⟨r, rfl⟩ := a.pre
  rw [List.getElem?_append_left (List.getElem?_eq_some_iff.mp h).1]; exact h
mutual
theorem Rep.mono (e : Ext K H φ H' φ') : ∀ {x : AV} {v : V}, Rep K H φ x v → Rep K H' φ' x v
  | _, _, .non => .non
  | _, _, .bl b => .bl b
  | _, _, .int i => .int i
  | _, _, .str x => .str x
  | _, _, .tup h r => .tup (e.tup _ _ h) (Reps.mono e r)
  | _, _, .ref h => .ref (e.at h)
  | _, _, .adr a => .adr a
  | _, _, .ty n => .ty n
theorem Reps.mono (e : Ext K H φ H' φ') : ∀ {xs : List AV} {vs : List V}, Reps K H φ xs vs → Reps K H' φ' xs vs
  | _, _, .nil => .nil
  | _, _, .cons r t => .cons (Rep.mono e r) (Reps.mono e t)
end
theorem Reps.length : ∀ {xs : List AV} {vs : List V}, Reps K H φ xs vs → xs.length = vs.length
  | _, _, .nil => rfl
  | _, _, .cons _ t => by rw [List.length_cons, List.length_cons, Reps.length t]
theorem Reps.get : ∀ {xs : List AV} {vs : List V} {i : Nat} {x : AV}, Reps K H φ xs vs → xs[i]? = some x → ∃ v, vs[i]? = some v ∧ Rep K H φ x v
  | _, _, _, _, .nil, h => by simp at h
  | _, _, 0, _, .cons r _, h => by simp at h; subst h; exact ⟨_, rfl, r⟩
  | _, _, i + 1, _, .cons _ t, h => by
    obtain ⟨v, h1, h2⟩ := Reps.get (i := i) t (by simpa using h)
    exact ⟨v, by simpa using h1, h2⟩
theorem Reps.get' : ∀ {xs : List AV} {vs : List V} {i : Nat} {v : V}, Reps K H φ xs vs → vs[i]? = some v → ∃ x, xs[i]? = some x ∧ Rep K H φ x v
  | _, _, _, _, .nil, h => by simp at h
  | _, _, 0, _, .cons r _, h => by simp at h; subst h; exact ⟨_, rfl, r⟩
  | _, _, i + 1, _, .cons _ t, h => by
    obtain ⟨v, h1, h2⟩ := Reps.get' (i := i) t (by simpa using h)
    exact ⟨v, by simpa using h1, h2⟩
theorem Reps.append : ∀ {xs ys : List AV} {vs us : List V}, Reps K H φ xs vs → Reps K H φ ys us → Reps K H φ (xs ++ ys) (vs ++ us)
  | _, _, _, _, .nil, s => s
  | _, _, _, _, .cons r t, s => .cons r (Reps.append t s)
theorem Reps.take : ∀ {xs : List AV} {vs : List V} (n : Nat), Reps K H φ xs vs → Reps K H φ (xs.take n) (vs.take n)
  | _, _, 0, _ => by simp; exact .nil
  | _, _, _ + 1, .nil => .nil
  | _, _, n + 1, .cons r t => .cons r (Reps.take n t)
theorem Reps.drop : ∀ {xs : List AV} {vs : List V} (n : Nat), Reps K H φ xs vs → Reps K H φ (xs.drop n) (vs.drop n)
  | _, _, 0, h => h
  | _, _, _ + 1, .nil => .nil
  | _, _, n + 1, .cons _ t => Reps.drop n t
theorem Reps.set {x : AV} {v : V} (r : Rep K H φ x v) : ∀ {xs : List AV} {vs : List V} (n : Nat), Reps K H φ xs vs → Reps K H φ (xs.set n x) (vs.set n v)
  | _, _, _, .nil => .nil
  | _, _, 0, .cons _ t => .cons r t
  | _, _, n + 1, .cons q t => .cons q (Reps.set r n t)
theorem Reps.eraseIdx : ∀ {xs : List AV} {vs : List V} (n : Nat), Reps K H φ xs vs → Reps K H φ (xs.eraseIdx n) (vs.eraseIdx n)
  | _, _, _, .nil => .nil
  | _, _, 0, .cons _ t => t
  | _, _, n + 1, .cons q t => .cons q (Reps.eraseIdx n t)
theorem Reps.rep {xs : List AV} {vs : List V} (h : Reps K H φ xs vs) : ∀ k : Nat, Reps K H φ (repL xs k) (List.replicate k vs).flatten
  | 0 => .nil
  | k + 1 => by
    unfold repL
    rw [List.replicate_succ, List.replicate_succ, List.flatten_cons, List.flatten_cons]
    exact h.append (Reps.rep h k)
/-! what the heap's changes keep -/
theorem sqT_ne {a b : Addr} {o : HO} {xs : List V} (h : SqT K H b xs) (n : H a = none ∨ ∃ u, H a = some u ∧ ∀ ys, u ≠ .tup ys ∧ ∀ ob, u ≠ .frz ob (.tup ys)) : SqT K (upd H a o) b xs := by
  rcases h with h | h
  · refine .inl ?_
    have ne : b ≠ a := by
      rintro rfl
      rcases h with h | ⟨ob, h⟩
      · rcases n with n | ⟨u, n, q⟩
        · rw [h] at n; cases n
        · rw [h] at n; cases n; exact (q xs).1 rfl
      · rcases n with n | ⟨u, n, q⟩
        · rw [h] at n; cases n
        · rw [h] at n; cases n; exact (q xs).2 ob rfl
    rcases h with h | ⟨ob, h⟩
    · exact .inl (by rw [upd_ne ne]; exact h)
    · exact .inr ⟨ob, by rw [upd_ne ne]; exact h⟩
  · exact .inr h
theorem Ext.new {a : Addr} {o : HO} (n : H a = none) : Ext K H φ (upd H a o) φ := ⟨List.prefix_refl _, fun _ _ h => sqT_ne h (.inl n)⟩
theorem Ext.newRef {a : Addr} {o : HO} (n : H a = none) : Ext K H φ (upd H a o) (φ ++ [a]) := ⟨⟨[a], rfl⟩, fun _ _ h => sqT_ne h (.inl n)⟩
theorem Ext.lst {a : Addr} {o : HO} {vs : List V} (n : H a = some (.lst vs)) : Ext K H φ (upd H a o) φ :=
  ⟨List.prefix_refl _, fun _ _ h => sqT_ne h (.inr ⟨_, n, fun _ => ⟨fun q => (by cases q), fun _ q => (by cases q)⟩⟩)⟩
theorem sqL_upd {a b : Addr} {o : HO} {xs : List V} (h : SqL K H b xs) (ne : b ≠ a) : SqL K (upd H a o) b xs := by
  rcases h with h | h
  · rcases h with h | ⟨ob, h⟩
    · exact .inl (.inl (by rw [upd_ne ne]; exact h))
    · exact .inl (.inr ⟨ob, by rw [upd_ne ne]; exact h⟩)
  · exact .inr h
/-- an object stays where another place changes -/
theorem RepO.keep {o : MO} {a b : Addr} {u : HO} (h : RepO P w K H φ o b) (ne : mutO o = true → b ≠ a) (nf : ∀ ob vs, H a ≠ some (.frz ob (.lst vs))) (e : Ext K H φ (upd H a u) φ') : RepO P w K (upd H a u) φ' o b := by
  cases o with
  | lst xs => obtain ⟨vs, h1, h2⟩ := h; exact ⟨vs, by rw [upd_ne (ne rfl)]; exact h1, h2.mono e⟩
  | rol xs =>
    obtain ⟨vs, h1, h2⟩ := h
    refine ⟨vs, ?_, h2.mono e⟩
    rcases h1 with ⟨ob, h1⟩ | h1
    · have ne' : b ≠ a := by rintro rfl; exact nf ob vs h1
      exact .inl ⟨ob, by rw [upd_ne ne']; exact h1⟩
    · exact .inr h1
  | set xs =>
    rcases h with ⟨S, n, ns, h1, h2⟩ | ⟨L, kss, h1, h2, h3⟩
    · exact .inl ⟨S, n, ns, by rw [upd_ne (ne rfl)]; exact h1, h2⟩
    · exact .inr ⟨L, kss, by rw [upd_ne (ne rfl)]; exact h1, fun p hp => e.tup _ _ (h2 p hp), h3⟩
  | dic _ => exact h.elim
  | ins _ _ => exact h.elim
theorem RepO.keepSame {o : MO} {b : Addr} (h : RepO P w K H φ o b) (e : Ext K H φ H φ') : RepO P w K H φ' o b := by
  cases o with
  | lst xs => obtain ⟨vs, h1, h2⟩ := h; exact ⟨vs, h1, h2.mono e⟩
  | rol xs => obtain ⟨vs, h1, h2⟩ := h; exact ⟨vs, h1, h2.mono e⟩
  | set xs =>
    rcases h with ⟨S, n, ns, h1, h2⟩ | ⟨L, kss, h1, h2, h3⟩
    · exact .inl ⟨S, n, ns, h1, h2⟩
    · exact .inr ⟨L, kss, h1, fun p hp => e.tup _ _ (h2 p hp), h3⟩
  | dic _ => exact h.elim
  | ins _ _ => exact h.elim
theorem RepO.there {o : MO} {a : Addr} (h : RepO P w K H φ o a) (m : mutO o = true) : ∃ u, H a = some u ∧ ∀ ob v, u ≠ .frz ob v := by
  cases o with
  | lst xs => obtain ⟨vs, h1, _⟩ := h; exact ⟨_, h1, fun _ _ q => by cases q⟩
  | rol xs => cases m
  | set xs =>
    rcases h with ⟨S, m, ns, h1, h2⟩ | ⟨L, kss, h1, h2, h3⟩
    · exact ⟨_, h1, fun _ _ q => by cases q⟩
    · exact ⟨_, h1, fun _ _ q => by cases q⟩
  | dic _ => exact h.elim
  | ins _ _ => exact h.elim
/-- a new object that is not of the store (a tuple, say) -/
theorem St0.new {s : Sto} {a : Addr} {o : HO} (st : St0 P w K H φ s) (n : H a = none) : St0 P w K (upd H a o) φ s where
  len := st.len
  nd := st.nd
  ob := fun l u b h1 h2 => (st.ob l u b h1 h2).keep (fun m => by
    obtain ⟨x, hx, _⟩ := (st.ob l u b h1 h2).there m
    rintro rfl; rw [n] at hx; cases hx) (fun _ _ q => by rw [n] at q; cases q) (Ext.new n)
/-- a new object of the store -/
theorem St0.newRef {s : Sto} {a : Addr} {o : HO} {u : MO} (st : St0 P w K H φ s) (n : H a = none) (hu : RepO P w K (upd H a o) (φ ++ [a]) u a) : St0 P w K (upd H a o) (φ ++ [a]) (s ++ [u]) where
  len := by rw [List.length_append, List.length_append, st.len]; rfl
  nd := by
    have key : ∀ (l : Nat) (x : MO) (b : Addr), (s ++ [u])[l]? = some x → mutO x = true → (φ ++ [a])[l]? = some b → (l = s.length ∧ b = a) ∨ (l < s.length ∧ s[l]? = some x ∧ φ[l]? = some b ∧ b ≠ a) := by
      intro l x b h1 hm h2
      by_cases hl : l < s.length
      · refine .inr ⟨hl, ?_⟩
        rw [List.getElem?_append_left hl] at h1
        rw [List.getElem?_append_left (by rw [st.len]; exact hl)] at h2
        refine ⟨h1, h2, ?_⟩
        obtain ⟨y, hy, _⟩ := (st.ob l x b h1 h2).there hm
        rintro rfl; rw [n] at hy; cases hy
      · have : l < (s ++ [u]).length := (List.getElem?_eq_some_iff.mp h1).1
        rw [List.length_append, List.length_singleton] at this
        have e : l = s.length := by omega
        refine .inl ⟨e, ?_⟩
        rw [e, ← st.len, List.getElem?_concat_length] at h2
        exact (Option.some.inj h2).symm
    intro l l' x x' b h1 h1' m m' h2 h2'
    rcases key l x b h1 m h2 with ⟨e, eb⟩ | ⟨e, q1, q2, nb⟩
    · rcases key l' x' b h1' m' h2' with ⟨e', _⟩ | ⟨_, _, _, nb⟩
      · rw [e, e']
      · exact absurd eb nb
    · rcases key l' x' b h1' m' h2' with ⟨_, eb⟩ | ⟨e', q1', q2', _⟩
      · exact absurd eb nb
      · exact st.nd l l' x x' b q1 q1' m m' q2 q2'
  ob := fun l x b h1 h2 => by
    by_cases hl : l < s.length
    · rw [List.getElem?_append_left hl] at h1
      rw [List.getElem?_append_left (by rw [st.len]; exact hl)] at h2
      refine (st.ob l x b h1 h2).keep (fun m => ?_) (fun _ _ q => by rw [n] at q; cases q) (Ext.newRef n)
      obtain ⟨y, hy, _⟩ := (st.ob l x b h1 h2).there m
      rintro rfl; rw [n] at hy; cases hy
    · have : l < (s ++ [u]).length := (List.getElem?_eq_some_iff.mp h1).1
      rw [List.length_append, List.length_singleton] at this
      have e : l = s.length := by omega
      rw [e, List.getElem?_concat_length] at h1
      rw [e, ← st.len, List.getElem?_concat_length] at h2
      cases h1; cases h2
      exact hu
/-- an object of the store is changed -/
theorem St0.set {s : Sto} {l : Nat} {a : Addr} {o : HO} {u x : MO} (st : St0 P w K H φ s) (hx : s[l]? = some x) (hm : mutO x = true) (ha : φ[l]? = some a) (e : Ext K H φ (upd H a o) φ) (hu : RepO P w K (upd H a o) φ u a) :
    St0 P w K (upd H a o) φ (s.set l u) where
  len := by rw [List.length_set]; exact st.len
  nd := by
    have key : ∀ (k : Nat) (y : MO), (s.set l u)[k]? = some y → mutO y = true → ∃ z, s[k]? = some z ∧ mutO z = true := by
      intro k y h m
      by_cases hk : l = k
      · subst hk; exact ⟨x, hx, hm⟩
      · rw [List.getElem?_set_ne hk] at h; exact ⟨y, h, m⟩
    intro k k' y y' b h1 h1' m m' h2 h2'
    obtain ⟨z, hz, mz⟩ := key k y h1 m
    obtain ⟨z', hz', mz'⟩ := key k' y' h1' m'
    exact st.nd k k' z z' b hz hz' mz mz' h2 h2'
  ob := fun k y b h1 h2 => by
    by_cases hk : l = k
    · subst hk
      rw [List.getElem?_set_self (List.getElem?_eq_some_iff.mp hx).1] at h1
      cases h1
      rw [ha] at h2; cases h2
      exact hu
    · rw [List.getElem?_set_ne hk] at h1
      obtain ⟨y0, hy0, nf⟩ := (st.ob l x a hx ha).there hm
      refine (st.ob k y b h1 h2).keep (fun m => ?_) (fun ob vs q => ?_) e
      · rintro rfl
        exact hk (st.nd l k x y b hx h1 hm m ha h2)
      · rw [hy0] at q; cases q; exact nf _ _ rfl
theorem St0.lt {s : Sto} {l : Nat} {o : MO} (st : St0 P w K H φ s) (h : s[l]? = some o) : ∃ a, φ[l]? = some a :=
  ⟨_, List.getElem?_eq_getElem (by rw [st.len]; exact (List.getElem?_eq_some_iff.mp h).1)⟩
/-- a list of the store, at the address of its reference -/
theorem St0.lst {s : Sto} {l : Nat} {a : Addr} {xs : List AV} (st : St0 P w K H φ s) (h : s[l]? = some (.lst xs)) (r : φ[l]? = some a) : ∃ vs, H a = some (.lst vs) ∧ Reps K H φ xs vs := st.ob l _ a h r
theorem St0.seq {s : Sto} {l : Nat} {a : Addr} {xs : List AV} (st : St0 P w K H φ s) (h : seqAt s l = some xs) (r : φ[l]? = some a) : ∃ vs, SqL K H a vs ∧ Reps K H φ xs vs := by
  unfold seqAt at h
  split at h
  · rename_i ys q
    cases h
    obtain ⟨vs, h1, h2⟩ := st.ob l _ a q r
    exact ⟨vs, SqL.of h1, h2⟩
  · rename_i ys q
    cases h
    obtain ⟨vs, h1, h2⟩ := st.ob l _ a q r
    refine ⟨vs, ?_, h2⟩
    rcases h1 with ⟨o, h1⟩ | h1 | h1
    · exact .inl (.inr ⟨o, h1⟩)
    · rcases h1 with h1 | ⟨_, h1⟩ <;> cases h1
    · exact .inr h1
  · cases h
end
end Br
set_option maxRecDepth 100000
set_option maxHeartbeats 1000000
/-! The judgements: a construct refines its mirror. -/
namespace Br
open PySem L2 Mi

section
variable (P : Program) (w : World) (K : PySem.W.Frag)
/-- what a mirror's result promises -/
def Pst {α β : Type} (R : Hp → List Addr → α → β → Prop) (W : WX) (σ : L2.St) (H : Hp) (φ : List Addr) (r : Res α) (Q : β → Hp → Prop) : Prop := match r with
  | .ok v s => ∀ v' H' φ', Ext K H φ H' φ' → St0 P w K H' φ' s → R H' φ' v v' → Q v' H'
  | .err C x s => ∀ d x' H' φ', Ext K H φ H' φ' → St0 P w K H' φ' s → Rep K H' φ' x x' → H' d = some (.xd [("what", x')]) → W (.ref C) (some d) σ H'
  | .bad => False
/-- the slots hold what the mirror's names hold -/
structure RepE (H : Hp) (φ : List Addr) (en : En) (σ : L2.St) : Prop where
  len : en.length = σ.length
  at_ : ∀ (i : Nat) (x : AV), en[i]? = some (some x) → ∃ v, σ[i]? = some (some v) ∧ Rep K H φ x v
def PstS (W : WX) (H : Hp) (φ : List Addr) (r : Fl) (D : Ends) : Prop := match r with
  | .nx en s => ∀ σ' H' φ', Ext K H φ H' φ' → St0 P w K H' φ' s → RepE K H' φ' en σ' → D.nx σ' H'
  | .brk en s => ∀ σ' H' φ', Ext K H φ H' φ' → St0 P w K H' φ' s → RepE K H' φ' en σ' → D.bk σ' H'
  | .cnt en s => ∀ σ' H' φ', Ext K H φ H' φ' → St0 P w K H' φ' s → RepE K H' φ' en σ' → D.ct σ' H'
  | .ret v s => ∀ v' H' φ', Ext K H φ H' φ' → St0 P w K H' φ' s → Rep K H' φ' v v' → D.rt v' H'
  | .err C x en s => ∀ d x' σ' H' φ', Ext K H φ H' φ' → St0 P w K H' φ' s → Rep K H' φ' x x' → RepE K H' φ' en σ' → H' d = some (.xd [("what", x')]) → W (.ref C) (some d) σ' H'
  | .bad => False
/-- .. of a target: it goes on, or nothing is promised -/
def PstG (H : Hp) (φ : List Addr) (r : Fl) (Q : L2.St → Hp → Prop) : Prop := match r with
  | .nx en s => ∀ σ' H' φ', Ext K H φ H' φ' → St0 P w K H' φ' s → RepE K H' φ' en σ' → Q σ' H'
  | _ => False
end
section
variable {P : Program} {w : World} {K : PySem.W.Frag} {H H1 : Hp} {φ φ1 : List Addr} {W : WX} {σ : L2.St}
theorem RepE.mono {en : En} (h : RepE K H φ en σ) (e : Ext K H φ H1 φ1) : RepE K H1 φ1 en σ :=
  ⟨h.len, fun i x q => let ⟨v, h1, h2⟩ := h.at_ i x q; ⟨v, h1, h2.mono e⟩⟩
theorem Pst.mono {α β : Type} {R : Hp → List Addr → α → β → Prop} {r : Res α} {Q : β → Hp → Prop} (h : Pst P w K R W σ H φ r Q) (e : Ext K H φ H1 φ1) : Pst P w K R W σ H1 φ1 r Q := by
  cases r with
  | ok v s => exact fun v' H' φ' x => h v' H' φ' (e.trans x)
  | err C y s => exact fun d x' H' φ' x => h d x' H' φ' (e.trans x)
  | bad => exact h
theorem PstS.mono {r : Fl} {D : Ends} (h : PstS P w K W H φ r D) (e : Ext K H φ H1 φ1) : PstS P w K W H1 φ1 r D := by
  cases r with
  | nx en s => exact fun a b c x => h a b c (e.trans x)
  | brk en s => exact fun a b c x => h a b c (e.trans x)
  | cnt en s => exact fun a b c x => h a b c (e.trans x)
  | ret v s => exact fun a b c x => h a b c (e.trans x)
  | err C y en s => exact fun a b c d f x => h a b c d f (e.trans x)
  | bad => exact h
theorem PstG.mono {r : Fl} {Q : L2.St → Hp → Prop} (h : PstG P w K H φ r Q) (e : Ext K H φ H1 φ1) : PstG P w K H1 φ1 r Q := by
  cases r with
  | nx en s => exact fun a b c x => h a b c (e.trans x)
  | _ => exact h
/-- in a row -/
theorem Pst.bind_of {α α' β β' : Type} {R : Hp → List Addr → α → β → Prop} {R2 : Hp → List Addr → α' → β' → Prop} {r : Res α} {f : α → Sto → Res α'} {Q : β' → Hp → Prop} {Q' : β → Hp → Prop}
    (h : Pst P w K R2 W σ H φ (r.bind f) Q)
    (k : ∀ v s v' H1 φ1, Ext K H φ H1 φ1 → St0 P w K H1 φ1 s → R H1 φ1 v v' → Pst P w K R2 W σ H1 φ1 (f v s) Q → Q' v' H1) : Pst P w K R W σ H φ r Q' := by
  cases r with
  | ok v s => exact fun v' H' φ' x st rv => k v s v' H' φ' x st rv (Pst.mono h x)
  | err C y s => exact h
  | bad => exact h
theorem PstS.fl_of {β : Type} {R : Hp → List Addr → AV → β → Prop} {r : Res AV} {en : En} {f : AV → Sto → Fl} {D : Ends} {Q' : β → Hp → Prop}
    (h : PstS P w K W H φ (r.fl en f) D) (re : RepE K H φ en σ)
    (k : ∀ v s v' H1 φ1, Ext K H φ H1 φ1 → St0 P w K H1 φ1 s → R H1 φ1 v v' → PstS P w K W H1 φ1 (f v s) D → Q' v' H1) : Pst P w K R W σ H φ r Q' := by
  cases r with
  | ok v s => exact fun v' H' φ' x st rv => k v s v' H' φ' x st rv (PstS.mono h x)
  | err C y s => exact fun d x' H' φ' x st rx hd => h d x' σ H' φ' x st rx (re.mono x) hd
  | bad => exact h
theorem PstS.flT_of {β : Type} {R : Hp → List Addr → Bool → β → Prop} {r : Res Bool} {en : En} {f : Bool → Sto → Fl} {D : Ends} {Q' : β → Hp → Prop}
    (h : PstS P w K W H φ (r.flT en f) D) (re : RepE K H φ en σ)
    (k : ∀ v s v' H1 φ1, Ext K H φ H1 φ1 → St0 P w K H1 φ1 s → R H1 φ1 v v' → PstS P w K W H1 φ1 (f v s) D → Q' v' H1) : Pst P w K R W σ H φ r Q' := by
  cases r with
  | ok v s => exact fun v' H' φ' x st rv => k v s v' H' φ' x st rv (PstS.mono h x)
  | err C y s => exact fun d x' H' φ' x st rx hd => h d x' σ H' φ' x st rx (re.mono x) hd
  | bad => exact h
theorem RepE.set {en : En} (h : RepE K H φ en σ) {x : AV} {v : V} (r : Rep K H φ x v) (i : Nat) : RepE K H φ (en.set i (some x)) (σ.set i (some v)) where
  len := by rw [List.length_set, List.length_set]; exact h.len
  at_ := fun j y q => by
    by_cases e : i = j
    · subst e
      have hl : i < (en.set i (some x)).length := (List.getElem?_eq_some_iff.mp q).1
      rw [List.length_set] at hl
      rw [List.getElem?_set_self hl] at q
      cases q
      exact ⟨v, by rw [List.getElem?_set_self (by rw [← h.len]; exact hl)], r⟩
    · rw [List.getElem?_set_ne e] at q
      obtain ⟨u, h1, h2⟩ := h.at_ j y q
      exact ⟨u, by rw [List.getElem?_set_ne e]; exact h1, h2⟩
theorem RepE.wipe {en : En} : ∀ (own : List Nat), RepE K H φ en σ → RepE K H φ (Mi.wipe en own) (L2.wipe σ own)
  | [], h => h
  | i :: r, h => by
    have ih := RepE.wipe r h
    refine ⟨by show (List.set _ i none).length = (List.set _ i none).length; rw [List.length_set, List.length_set]; exact ih.len, fun j y q => ?_⟩
    have q' : ((Mi.wipe en r).set i none)[j]? = some (some y) := q
    by_cases e : i = j
    · subst e
      by_cases hl : i < (Mi.wipe en r).length
      · rw [List.getElem?_set_self hl] at q'; cases q'
      · rw [List.getElem?_eq_none (by simpa using hl)] at q'; cases q'
    · rw [List.getElem?_set_ne e] at q'
      obtain ⟨u, h1, h2⟩ := ih.at_ j y q'
      exact ⟨u, by show ((L2.wipe σ r).set i none)[j]? = _; rw [List.getElem?_set_ne e]; exact h1, h2⟩
end
abbrev eqB : Hp → List Addr → Bool → Bool → Prop := fun _ _ a b => a = b
/-- contexts in which a construct is read alike: a def's body; a comprehension's block wherever it is made -/
structure Fam where
  ι : Type
  X : ι → Cx
  P : Program
  w : World
  K : PySem.W.Frag
  mg : Str → Option Value
  base : Heap
  hP : ∀ i, (X i).prog = P
  hw : ∀ i, (X i).w = w
  hK : ∀ i, (X i).K = K
  hmg : ∀ i, (X i).mg = mg
  hbase : ∀ i, (X i).base = base
def Fam.one (X : Cx) : Fam := ⟨Unit, fun _ => X, X.prog, X.w, X.K, X.mg, X.base, fun _ => rfl, fun _ => rfl, fun _ => rfl, fun _ => rfl, fun _ => rfl⟩
def Fam.blk (F : Fam) (scope : Scope) : Fam where
  ι := F.ι × Shared × Hp × Addr × List (Str × Addr) × List Addr
  X := fun p => (F.X p.1).blk p.2.1 p.2.2.1 scope (compEnvC scope p.2.2.2.2.1 p.2.2.2.1 (F.X p.1).env) p.2.2.2.2.2
  P := F.P
  w := F.w
  K := F.K
  mg := F.mg
  base := F.base
  hP := fun p => F.hP p.1
  hw := fun p => F.hw p.1
  hK := fun p => F.hK p.1
  hmg := fun p => F.hmg p.1
  hbase := fun p => F.hbase p.1
section
variable (F : Fam) (W : WX)
def RE (e : Expr) (m : ME) : Prop := ∃ t : TE, (∀ i, PE (F.X i) e t) ∧ ∀ en s σ H φ Q, RepE F.K H φ en σ → St0 F.P F.w F.K H φ s → Pst F.P F.w F.K (Rep F.K) W σ H φ (m en s) Q → t σ H Q
def RT (e : Expr) (m : MT) : Prop := ∃ t : TT, (∀ i, PT (F.X i) e t) ∧ ∀ en s σ H φ Q, RepE F.K H φ en σ → St0 F.P F.w F.K H φ s → Pst F.P F.w F.K eqB W σ H φ (m en s) Q → t σ H Q
def RW (e : Expr) (m : MT) : Prop := ∃ t : TT, (∀ i, PW (F.X i) e t) ∧ ∀ en s σ H φ Q, RepE F.K H φ en σ → St0 F.P F.w F.K H φ s → Pst F.P F.w F.K eqB W σ H φ (m en s) Q → t σ H Q
def RA (es : List Expr) (m : MA) : Prop := ∃ t : TA, (∀ i, PA (F.X i) es t) ∧ ∀ en s σ H φ Q, RepE F.K H φ en σ → St0 F.P F.w F.K H φ s → Pst F.P F.w F.K (Reps F.K) W σ H φ (m en s) Q → t σ H Q
def RS (st : Stmt) (m : MS) : Prop := ∃ t : TS, (∀ i, PS (F.X i) st t) ∧ ∀ en s σ H φ D, RepE F.K H φ en σ → St0 F.P F.w F.K H φ s → PstS F.P F.w F.K W H φ (m en s) D → t D σ H
def RSs (st : List Stmt) (m : MS) : Prop := ∃ t : TS, (∀ i, PSs (F.X i) st t) ∧ ∀ en s σ H φ D, RepE F.K H φ en σ → St0 F.P F.w F.K H φ s → PstS F.P F.w F.K W H φ (m en s) D → t D σ H
def RG (tg : Expr) (m : MG) : Prop := ∃ t : TG, (∀ i, PG (F.X i) tg t) ∧ ∀ v v' en s σ H φ Q, RepE F.K H φ en σ → St0 F.P F.w F.K H φ s → Rep F.K H φ v v' → PstG F.P F.w F.K H φ (m v en s) Q → t v' σ H Q
/-- how an iterator of the layer walks an It -/
def RepI (H0 : Hp) (φ0 : List Addr) (j : Mi.It) (J : L2.It) : Prop := match j with
  | .lst l => ∃ a, φ0[l]? = some a ∧ J = Itl F.K a
  | .fix xs => ∀ (i : Nat) (H : Hp) (φ : List Addr), Ext F.K H0 φ0 H φ →
      (∀ x, xs[i]? = some x → J.go i H ∧ ∀ v' H', J.yld i H v' H' → Ext F.K H φ H' φ ∧ (∀ s, St0 F.P F.w F.K H φ s → St0 F.P F.w F.K H' φ s) ∧ Rep F.K H' φ x v') ∧
      (xs[i]? = none → J.stop i H)
def RI (tg iter : Expr) (m : MI) : Prop := ∃ t : TI, (∀ i, PI (F.X i) tg iter t) ∧ ∀ en s σ H φ (Q : L2.It → Hp → Prop), RepE F.K H φ en σ → St0 F.P F.w F.K H φ s →
  Pst F.P F.w F.K (RepI F) W σ H φ (m en s) Q → t σ H Q
end
/-! ### names, constants, operators -/
section
variable {F : Fam} {W : WX} {a b c e : Expr} {es : List Expr} {ma mb mc : ME} {pos : Pos}
theorem re_var (i : Nat) {x : Str} (hN : ∀ k, (F.X k).N[i]? = some x) (hv : ∀ k, Vis (F.X k).env.scope x) (hd : (x == ("__debug__" : Str)) = false := by decide) (hcd : (x == ("__classdict__" : Str)) = false := by decide) : RE F W (.Name x pos) (E.var i) := by
  refine ⟨tVar i, fun k => pe_var (hN k) (hv k) hd hcd, fun en s σ H φ Q re st h => ?_⟩
  unfold E.var at h
  split at h
  · rename_i v q
    obtain ⟨u, h1, h2⟩ := re.at_ i v q
    exact ⟨u, h1, h u H φ .refl st h2⟩
  · exact h.elim
theorem re_c {v : AV} {v' : V} (h : ∀ i, PE (F.X i) e (tC v')) (r : ∀ H φ, Rep F.K H φ v v') : RE F W e (E.c v) :=
  ⟨_, h, fun _ _ _ H φ _ _ st q => q v' H φ .refl st (r H φ)⟩
theorem re_int {i : Int} {j} : RE F W (.Constant (.int i) j pos) (E.c (.int i)) := re_c (fun _ => pe_int) fun _ _ => .int i
theorem re_bl {k : Bool} {j} : RE F W (.Constant (.bool k) j pos) (E.c (.bl k)) := re_c (fun _ => pe_bl) fun _ _ => .bl k
theorem re_non {j} : RE F W (.Constant .none j pos) (E.c .non) := re_c (fun _ => pe_non) fun _ _ => .non
theorem re_str {x : Str} {j} : RE F W (.Constant (.str x) j pos) (E.c (.str x)) := re_c (fun _ => pe_str) fun _ _ => .str x
theorem re_glob {x : Str} {v : AV} {v' : V} {u : Value} (hg : ∀ i, Gl (F.X i) x) (hm : F.mg x = some u) (r : RelV v' u) (rr : ∀ H φ, Rep F.K H φ v v') (hd : (x == ("__debug__" : Str)) = false := by decide) : RE F W (.Name x pos) (E.c v) :=
  re_c (fun i => pe_glob (hg i) (by rw [F.hmg i]; exact hm) r hd) rr
theorem re_bltn {x : Str} {n : String} (hg : ∀ i, Gl (F.X i) x) (hm : F.mg x = none) (hv : bootBuiltins x = some (.type n)) (hn : x ≠ "__name__" := by decide) (hd : (x == ("__debug__" : Str)) = false := by decide) : RE F W (.Name x pos) (E.c (.ty n)) :=
  re_c (v' := .ty n) (fun i => pe_bltn (hg i) (by rw [F.hmg i]; exact hm) hv (show RelV (.ty n) (.type n) from rfl) hn hd) fun _ _ => .ty n
/-- an operator by values refines a mirror -/
def OpM (F : Fam) (W : WX) (f : Value → Value → Sem Value) (g : O2) : Prop := ∃ r : R2, (∀ i, OpR (F.X i) f r) ∧ ∀ x y x' y' s σ H φ Q, St0 F.P F.w F.K H φ s → Rep F.K H φ x x' → Rep F.K H φ y y' → Pst F.P F.w F.K (Rep F.K) W σ H φ (g x y s) Q → r x' y' H Q
theorem two {f : O2} {r : R2} {ta tb : TE}
    (ha : ∀ en s σ H φ Q, RepE F.K H φ en σ → St0 F.P F.w F.K H φ s → Pst F.P F.w F.K (Rep F.K) W σ H φ (ma en s) Q → ta σ H Q)
    (hb : ∀ en s σ H φ Q, RepE F.K H φ en σ → St0 F.P F.w F.K H φ s → Pst F.P F.w F.K (Rep F.K) W σ H φ (mb en s) Q → tb σ H Q)
    (ho : ∀ x y x' y' s σ H φ Q, St0 F.P F.w F.K H φ s → Rep F.K H φ x x' → Rep F.K H φ y y' → Pst F.P F.w F.K (Rep F.K) W σ H φ (f x y s) Q → r x' y' H Q) :
    ∀ en s σ H φ Q, RepE F.K H φ en σ → St0 F.P F.w F.K H φ s → Pst F.P F.w F.K (Rep F.K) W σ H φ (E.op f ma mb en s) Q → tOp r ta tb σ H Q := fun en s σ H φ Q re st h => by
  refine ha en s σ H φ _ re st (h.bind_of fun v s1 v' H1 φ1 x1 st1 r1 h1 => ?_)
  refine hb en s1 σ H1 φ1 _ (re.mono x1) st1 (h1.bind_of fun u s2 u' H2 φ2 x2 st2 r2 h2 => ?_)
  exact ho v u v' u' s2 σ H2 φ2 Q st2 (r1.mono x2) r2 h2
theorem re_op {op : Operator} {g : O2} (ho : OpM F W (binaryOp op) g) (ha : RE F W a ma) (hb : RE F W b mb) : RE F W (.BinOp a op b pos) (E.op g ma mb) := by
  obtain ⟨r, h1, h2⟩ := ho
  obtain ⟨ta, ha1, ha2⟩ := ha
  obtain ⟨tb, hb1, hb2⟩ := hb
  exact ⟨_, fun i => pe_op (h1 i) (ha1 i) (hb1 i), two ha2 hb2 h2⟩
theorem re_cmp {op : CmpOp} {g : O2} (ho : OpM F W (compareOp op) g) (ha : RE F W a ma) (hb : RE F W b mb) (hm : behindInMarks op b = false) : RE F W (.Compare a [op] [b] pos) (E.op g ma mb) := by
  obtain ⟨r, h1, h2⟩ := ho
  obtain ⟨ta, ha1, ha2⟩ := ha
  obtain ⟨tb, hb1, hb2⟩ := hb
  exact ⟨_, fun i => pe_cmpR (h1 i) (ha1 i) (hb1 i) hm, two ha2 hb2 h2⟩
theorem rt_cmp {op : CmpOp} {g : O2} (ho : OpM F W (compareOp op) g) (ha : RE F W a ma) (hb : RE F W b mb) (hm : behindInMarks op b = false) : RT F W (.Compare a [op] [b] pos) (T.val (E.op g ma mb)) := by
  obtain ⟨r, h1, h2⟩ := ho
  obtain ⟨ta, ha1, ha2⟩ := ha
  obtain ⟨tb, hb1, hb2⟩ := hb
  refine ⟨_, fun i => pt_cmpR (h1 i) (ha1 i) (hb1 i) hm, fun en s σ H φ Q re st h => ?_⟩
  refine two ha2 hb2 h2 en s σ H φ _ re st (h.bind_of fun v s1 v' H1 φ1 x1 st1 r1 q => ?_)
  cases r1 with
  | bl k => exact ⟨k, rfl, q k H1 φ1 .refl st1 rfl⟩
  | _ => exact q.elim
/-- any expression that is no test of its own, by its truth -/
theorem rt_tru (ha : RE F W a ma) (he : ∀ i whole, isTrue a (F.X i).env whole = (do let v ← whole; standAt a.pos; holding [v] (truthy v)) := by intro _ _; rfl) : RT F W a (T.tru ma) := by
  obtain ⟨ta, ha1, ha2⟩ := ha
  refine ⟨fun σ H Q => ta σ H fun x H' => ∃ k, TruV F.K x H' k ∧ Q k H', fun i => by have q := pt_truth (ha1 i) (he i); rw [F.hK i] at q; exact q, fun en s σ H φ Q re st h => ?_⟩
  refine ha2 en s σ H φ _ re st (h.bind_of fun v s1 v' H1 φ1 x1 st1 r1 q => ?_)
  cases r1 with
  | non => exact ⟨false, rfl, q _ H1 φ1 .refl st1 rfl⟩
  | bl k => exact ⟨k, rfl, q _ H1 φ1 .refl st1 rfl⟩
  | int i => exact ⟨_, rfl, q _ H1 φ1 .refl st1 rfl⟩
  | str x =>
    unfold truth at q
    dsimp only at q
    split at q
    · rename_i hz
      exact ⟨_, ⟨by rw [sizeLine_eq]; exact hz, rfl⟩, q _ H1 φ1 .refl st1 rfl⟩
    · exact q.elim
  | tup hs hr =>
    rename_i a vs xs
    refine ⟨!vs.isEmpty, .inr (.inl ⟨vs, hs, rfl⟩), q _ H1 φ1 .refl st1 ?_⟩
    have := hr.length
    cases xs <;> cases vs <;> first | rfl | simp at this
  | ref hl =>
    rename_i l a
    unfold truth at q
    dsimp only at q
    split at q
    · rename_i xs hx
      obtain ⟨vs, h1, h2⟩ := st1.seq hx hl
      refine ⟨!vs.isEmpty, .inl ⟨vs, h1, rfl⟩, q _ H1 φ1 .refl st1 ?_⟩
      have := h2.length
      cases xs <;> cases vs <;> first | rfl | simp at this
    · exact q.elim
  | adr _ => exact q.elim
  | ty _ => exact q.elim
/-! and, or, not; the conditional expression -/
variable {rest : List Expr} {ta tb : MT}
theorem re_one {op} (h : RE F W a ma) : RE F W (.BoolOp op [a] pos) ma := by
  obtain ⟨t, h1, h2⟩ := h
  exact ⟨t, fun i => pe_one (h1 i), h2⟩
theorem re_and (ha : RE F W a ma) (hb : RE F W (.BoolOp .And (b :: rest) pos) mb) : RE F W (.BoolOp .And (a :: b :: rest) pos) (E.and ma mb) := by
  obtain ⟨t, h1, h2⟩ := ha
  obtain ⟨u, g1, g2⟩ := hb
  refine ⟨_, fun i => pe_and (h1 i) (g1 i), fun en s σ H φ Q re st h => ?_⟩
  refine h2 en s σ H φ _ re st (h.bind_of fun v s1 v' H1 φ1 x1 st1 r1 q => ?_)
  cases r1 with
  | bl k =>
    cases k with
    | true => exact ⟨true, rfl, iteT (g2 en s1 σ H1 φ1 Q (re.mono x1) st1 q)⟩
    | false => exact ⟨false, rfl, iteF (q _ H1 φ1 .refl st1 (.bl _))⟩
  | _ => exact q.elim
theorem re_or (ha : RE F W a ma) (hb : RE F W (.BoolOp .Or (b :: rest) pos) mb) : RE F W (.BoolOp .Or (a :: b :: rest) pos) (E.or ma mb) := by
  obtain ⟨t, h1, h2⟩ := ha
  obtain ⟨u, g1, g2⟩ := hb
  refine ⟨_, fun i => pe_or (h1 i) (g1 i), fun en s σ H φ Q re st h => ?_⟩
  refine h2 en s σ H φ _ re st (h.bind_of fun v s1 v' H1 φ1 x1 st1 r1 q => ?_)
  cases r1 with
  | bl k =>
    cases k with
    | false => exact ⟨false, rfl, iteF (g2 en s1 σ H1 φ1 Q (re.mono x1) st1 q)⟩
    | true => exact ⟨true, rfl, iteT (q _ H1 φ1 .refl st1 (.bl _))⟩
  | _ => exact q.elim
theorem re_not (ha : RE F W a ma) : RE F W (.UnaryOp .Not a pos) (E.not ma) := by
  obtain ⟨t, h1, h2⟩ := ha
  refine ⟨_, fun i => pe_not (h1 i), fun en s σ H φ Q re st h => ?_⟩
  refine h2 en s σ H φ _ re st (h.bind_of fun v s1 v' H1 φ1 x1 st1 r1 q => ?_)
  cases r1 with
  | bl k => exact ⟨k, rfl, q _ H1 φ1 .refl st1 (.bl _)⟩
  | _ => exact q.elim
theorem RW.rt (h : RW F W a ta) : RT F W a ta := by
  obtain ⟨t, h1, h2⟩ := h
  exact ⟨t, fun i => (h1 i).pt, h2⟩
theorem rw_and1 (ha : RT F W a ta) : RW F W (.BoolOp .And [a] pos) ta := by
  obtain ⟨t, h1, h2⟩ := ha
  exact ⟨t, fun i => pw_and1 (h1 i), h2⟩
theorem rw_or1 (ha : RT F W a ta) : RW F W (.BoolOp .Or [a] pos) ta := by
  obtain ⟨t, h1, h2⟩ := ha
  exact ⟨t, fun i => pw_or1 (h1 i), h2⟩
theorem rw_and (ha : RT F W a ta) (hb : RW F W (.BoolOp .And (b :: rest) pos) tb) : RW F W (.BoolOp .And (a :: b :: rest) pos) (T.and ta tb) := by
  obtain ⟨t, h1, h2⟩ := ha
  obtain ⟨u, g1, g2⟩ := hb
  refine ⟨_, fun i => pw_and (h1 i) (g1 i), fun en s σ H φ Q re st h => ?_⟩
  refine h2 en s σ H φ _ re st (h.bind_of fun v s1 v' H1 φ1 x1 st1 r1 q => ?_)
  cases r1
  cases v with
  | true => exact iteT (g2 en s1 σ H1 φ1 Q (re.mono x1) st1 q)
  | false => exact iteF (q _ H1 φ1 .refl st1 rfl)
theorem rw_or (ha : RT F W a ta) (hb : RW F W (.BoolOp .Or (b :: rest) pos) tb) : RW F W (.BoolOp .Or (a :: b :: rest) pos) (T.or ta tb) := by
  obtain ⟨t, h1, h2⟩ := ha
  obtain ⟨u, g1, g2⟩ := hb
  refine ⟨_, fun i => pw_or (h1 i) (g1 i), fun en s σ H φ Q re st h => ?_⟩
  refine h2 en s σ H φ _ re st (h.bind_of fun v s1 v' H1 φ1 x1 st1 r1 q => ?_)
  cases r1
  cases v with
  | false => exact iteF (g2 en s1 σ H1 φ1 Q (re.mono x1) st1 q)
  | true => exact iteT (q _ H1 φ1 .refl st1 rfl)
theorem rt_not (ha : RT F W a ta) : RT F W (.UnaryOp .Not a pos) (T.not ta) := by
  obtain ⟨t, h1, h2⟩ := ha
  refine ⟨_, fun i => pt_not (h1 i), fun en s σ H φ Q re st h => ?_⟩
  refine h2 en s σ H φ _ re st (h.bind_of fun v s1 v' H1 φ1 x1 st1 r1 q => ?_)
  cases r1
  exact q _ H1 φ1 .refl st1 rfl
theorem re_ite (hc : RT F W c ta) (ha : RE F W a ma) (hb : RE F W b mb) : RE F W (.IfExp c a b pos) (E.ite ta ma mb) := by
  obtain ⟨t, h1, h2⟩ := hc
  obtain ⟨u, g1, g2⟩ := ha
  obtain ⟨z, k1, k2⟩ := hb
  refine ⟨_, fun i => pe_ifExp (h1 i) (g1 i) (k1 i), fun en s σ H φ Q re st h => ?_⟩
  refine h2 en s σ H φ _ re st (h.bind_of fun v s1 v' H1 φ1 x1 st1 r1 q => ?_)
  cases r1
  cases v with
  | true => exact iteT (g2 en s1 σ H1 φ1 Q (re.mono x1) st1 q)
  | false => exact iteF (k2 en s1 σ H1 φ1 Q (re.mono x1) st1 q)
theorem re_chain {op op' : CmpOp} {f g : O2} (ho : OpM F W (compareOp op) f) (ho' : OpM F W (compareOp op') g) (ha : RE F W a ma) (hb : RE F W b mb) (hc : RE F W c mc) (hm : lastMarks [op, op'] [b, c] = false := by rfl) :
    RE F W (.Compare a [op, op'] [b, c] pos) (E.chain f g ma mb mc) := by
  obtain ⟨r, o1, o2⟩ := ho
  obtain ⟨r', p1, p2⟩ := ho'
  obtain ⟨t, h1, h2⟩ := ha
  obtain ⟨u, g1, g2⟩ := hb
  obtain ⟨z, k1, k2⟩ := hc
  refine ⟨_, fun i => pe_chain (o1 i) (p1 i) (h1 i) (g1 i) (k1 i) hm, fun en s σ H φ Q re st h => ?_⟩
  refine h2 en s σ H φ _ re st (h.bind_of fun v s1 v' H1 φ1 x1 st1 r1 h => ?_)
  refine g2 en s1 σ H1 φ1 _ (re.mono x1) st1 (h.bind_of fun v2 s2 v2' H2 φ2 x2 st2 r2 h => ?_)
  refine o2 v v2 v' v2' s2 σ H2 φ2 _ st2 (r1.mono x2) r2 (h.bind_of fun v3 s3 v3' H3 φ3 x3 st3 r3 h => ?_)
  cases r3 with
  | bl k =>
    refine ⟨k, rfl, ?_⟩
    cases k with
    | true =>
      refine iteT (k2 en s3 σ H3 φ3 _ (((re.mono x1).mono x2).mono x3) st3 (h.bind_of fun v4 s4 v4' H4 φ4 x4 st4 r4 h => ?_))
      exact p2 v2 v4 v2' v4' s4 σ H4 φ4 Q st4 ((r2.mono x3).mono x4) r4 h
    | false => exact iteF (h _ H3 φ3 .refl st3 (.bl _))
  | _ => exact h.elim
/-! displays -/
theorem ra_nil : RA F W [] E.nil := ⟨_, fun _ => pa_nil, fun _ _ _ H φ _ _ st q => q [] H φ .refl st .nil⟩
variable {mr : MA}
theorem ra_cons (ha : RE F W a ma) (hr : RA F W es mr) (hs : ∀ i, starEach (a :: es) (F.X i).env = (false, eval a (F.X i).env) :: starEach es (F.X i).env := by intro _; rfl) : RA F W (a :: es) (E.cons ma mr) := by
  obtain ⟨t, h1, h2⟩ := ha
  obtain ⟨u, g1, g2⟩ := hr
  refine ⟨_, fun i => pa_cons (h1 i) (g1 i) (hs i), fun en s σ H φ Q re st h => ?_⟩
  refine h2 en s σ H φ _ re st (h.bind_of fun v s1 v' H1 φ1 x1 st1 r1 h => ?_)
  refine g2 en s1 σ H1 φ1 _ (re.mono x1) st1 (h.bind_of fun v2 s2 v2' H2 φ2 x2 st2 r2 h => ?_)
  exact h _ H2 φ2 .refl st2 (.cons (r1.mono x2) r2)
theorem line_eq : lineZ = sizeLine := sizeLine_eq.symm
theorem re_tup {k1} (ha : RA F W es mr) : RE F W (.Tuple es k1 pos) (E.tup mr) := by
  obtain ⟨t, h1, h2⟩ := ha
  refine ⟨_, fun i => pe_tup (h1 i), fun en s σ H φ Q re st h => ?_⟩
  refine h2 en s σ H φ _ re st (h.bind_of fun v s1 v' H1 φ1 x1 st1 r1 h => ?_)
  split at h
  · rename_i hz
    refine ⟨by rw [← r1.length, ← line_eq]; exact hz, fun p np => ?_⟩
    exact h _ _ φ1 (.new np) (st1.new np) (.tup (SqT.of upd_same) (r1.mono (.new np)))
  · exact h.elim
theorem re_lst (ha : RA F W es mr) : RE F W (.List es pos) (E.lst mr) := by
  obtain ⟨t, h1, h2⟩ := ha
  refine ⟨_, fun i => pe_lst (h1 i), fun en s σ H φ Q re st h => ?_⟩
  refine h2 en s σ H φ _ re st (h.bind_of fun v s1 v' H1 φ1 x1 st1 r1 h => ?_)
  unfold newLst at h
  split at h
  · rename_i hz
    refine ⟨by rw [← r1.length, ← line_eq]; exact hz, fun p np => ?_⟩
    exact h _ _ (φ1 ++ [p]) (.newRef np) (st1.newRef np ⟨v', upd_same, r1.mono (.newRef np)⟩) (.ref (by rw [← st1.len]; exact List.getElem?_concat_length))
  · exact h.elim
end
end Br
set_option maxRecDepth 100000
set_option maxHeartbeats 1000000
/-! Statements, targets, loops, comprehensions. -/
namespace Br
open PySem L2 Mi

section
variable {F : Fam} {W : WX} {a b c e : Expr} {es : List Expr} {ma mb mc : ME} {pos : Pos} {st : Stmt} {rest : List Stmt} {m m' : MS} {g : MG}
theorem PstS.next_of {P : Program} {w : World} {K : PySem.W.Frag} {H : Hp} {φ : List Addr} {r : Fl} {f : En → Sto → Fl} {D D' : Ends} (h : PstS P w K W H φ (r.next f) D)
    (hr : D'.rt = D.rt) (hb : D'.bk = D.bk) (hc : D'.ct = D.ct)
    (k : ∀ en s σ H1 φ1, Ext K H φ H1 φ1 → St0 P w K H1 φ1 s → RepE K H1 φ1 en σ → PstS P w K W H1 φ1 (f en s) D → D'.nx σ H1) : PstS P w K W H φ r D' := by
  cases r with
  | nx en s => exact fun σ' H' φ' x st re => k en s σ' H' φ' x st re (PstS.mono h x)
  | ret v s => show ∀ _ _ _, _; rw [hr]; exact h
  | brk en s => show ∀ _ _ _, _; rw [hb]; exact h
  | cnt en s => show ∀ _ _ _, _; rw [hc]; exact h
  | err C y en s => exact h
  | bad => exact h
theorem rss_nil : RSs F W [] S.skip := ⟨_, fun _ => pss_nil, fun en s σ H φ D re st h => h σ H φ .refl st re⟩
theorem rss_cons (h1 : RS F W st m) (h2 : RSs F W rest m') : RSs F W (st :: rest) (S.seq m m') := by
  obtain ⟨t, a1, a2⟩ := h1
  obtain ⟨u, b1, b2⟩ := h2
  refine ⟨_, fun i => pss_cons (a1 i) (b1 i), fun en s σ H φ D re st h => ?_⟩
  exact a2 en s σ H φ _ re st (h.next_of rfl rfl rfl fun en1 s1 σ1 H1 φ1 x1 st1 re1 q => b2 en1 s1 σ1 H1 φ1 D re1 st1 q)
theorem rss_one (h1 : RS F W st m) : RSs F W [st] m := by
  obtain ⟨t, a1, a2⟩ := h1
  exact ⟨_, fun i => pss_one (a1 i), a2⟩
theorem rs_pass : RS F W (.Pass pos) S.skip := ⟨_, fun _ => ps_pass, fun en s σ H φ D re st h => h σ H φ .refl st re⟩
theorem rs_break : RS F W (.Break pos) S.brk := ⟨_, fun _ => ps_break, fun en s σ H φ D re st h => h σ H φ .refl st re⟩
theorem rs_continue : RS F W (.Continue pos) S.cnt := ⟨_, fun _ => ps_continue, fun en s σ H φ D re st h => h σ H φ .refl st re⟩
theorem rs_never : RS F W st S.never := ⟨_, fun _ => ps_never, fun _ _ _ _ _ _ _ _ h => h.elim⟩
theorem rss_never : RSs F W rest S.never := ⟨_, fun _ => pss_never, fun _ _ _ _ _ _ _ _ h => h.elim⟩
theorem rs_expr (he : RE F W e ma) (hs : ∀ i, swapsWith e none pos.line (F.X i).env = pure false := by intro _; rfl) : RS F W (.Expr e pos) (S.expr ma) := by
  obtain ⟨t, h1, h2⟩ := he
  refine ⟨_, fun i => ps_expr (h1 i) (hs i), fun en s σ H φ D re st h => ?_⟩
  exact h2 en s σ H φ _ re st (h.fl_of re fun v s1 v' H1 φ1 x1 st1 r1 q => q σ H1 φ1 .refl st1 (re.mono x1))
theorem rs_ret (he : RE F W e ma) : RS F W (.Return (some e) pos) (S.ret ma) := by
  obtain ⟨t, h1, h2⟩ := he
  refine ⟨_, fun i => ps_ret (h1 i), fun en s σ H φ D re st h => ?_⟩
  exact h2 en s σ H φ _ re st (h.fl_of re fun v s1 v' H1 φ1 x1 st1 r1 q => q v' H1 φ1 .refl st1 r1)
theorem rs_retN : RS F W (.Return none pos) S.retN := ⟨_, fun _ => ps_retN, fun en s σ H φ D re st h => h .non H φ .refl st .non⟩
theorem rs_if {t : MT} {x y : List Stmt} (hc : RT F W c t) (ha : RSs F W x m) (hb : RSs F W y m') : RS F W (.If c x y pos) (S.ife t m m') := by
  obtain ⟨t, h1, h2⟩ := hc
  obtain ⟨u, g1, g2⟩ := ha
  obtain ⟨z, k1, k2⟩ := hb
  refine ⟨_, fun i => ps_if (h1 i) (g1 i) (k1 i), fun en s σ H φ D re st h => ?_⟩
  refine h2 en s σ H φ _ re st (h.flT_of re fun v s1 v' H1 φ1 x1 st1 r1 q => ?_)
  cases r1
  cases v with
  | true => exact iteT (g2 en s1 σ H1 φ1 D (re.mono x1) st1 q)
  | false => exact iteF (k2 en s1 σ H1 φ1 D (re.mono x1) st1 q)
/-! targets -/
theorem PstG.of {P : Program} {w : World} {K : PySem.W.Frag} {H : Hp} {φ : List Addr} {r : Fl} {D : Ends} (h : PstS P w K (fun _ _ _ _ => False) H φ r { nx := D.nx, rt := fun _ _ => False }) : PstS P w K W H φ r D := by
  cases r with
  | nx en s => exact h
  | ret v s => exact fun v' H' φ' x st r => (h v' H' φ' x st r).elim
  | brk en s => exact fun v' H' φ' x st r => (h v' H' φ' x st r).elim
  | cnt en s => exact fun v' H' φ' x st r => (h v' H' φ' x st r).elim
  | err C y en s => exact fun d x' σ' H' φ' x st r q z => (h d x' σ' H' φ' x st r q z).elim
  | bad => exact h
theorem rg_name {i : Nat} {x : Str} (hN : ∀ k, (F.X k).N.Nodup) (hi : ∀ k, (F.X k).N[i]? = some x) (hx : ∀ k, Loc (F.X k).env.scope x) (hf : ∀ k, (F.X k).fn x = true ∨ (F.X k).env.scope.names.lookup x = some .local := by first | exact (fun _ => .inl rfl) | exact (fun _ => .inr rfl)) : RG F (.Name x pos) (G.name i) :=
  ⟨_, fun k => pg_name (hN k) (hi k) (hx k) (hf k), fun v v' en s σ H φ Q re st r h => h _ H φ .refl st (re.set r i)⟩
theorem PstG.next_of {P : Program} {w : World} {K : PySem.W.Frag} {H : Hp} {φ : List Addr} {r : Fl} {f : En → Sto → Fl} {Q Q' : L2.St → Hp → Prop} (h : PstG P w K H φ (r.next f) Q)
    (k : ∀ en s σ H1 φ1, Ext K H φ H1 φ1 → St0 P w K H1 φ1 s → RepE K H1 φ1 en σ → PstG P w K H1 φ1 (f en s) Q → Q' σ H1) : PstG P w K H φ r Q' := by
  cases r with
  | nx en s => exact fun σ' H' φ' x st re => k en s σ' H' φ' x st re (PstG.mono h x)
  | _ => exact h.elim
def RGs (F : Fam) (es : List Expr) (gs : List MG) : Prop := ∃ t : TGs, (∀ i, PGs (F.X i) es t) ∧ ∀ vs vs' en s σ H φ Q, RepE F.K H φ en σ → St0 F.P F.w F.K H φ s → Reps F.K H φ vs vs' → PstG F.P F.w F.K H φ (G.all gs vs en s) Q → t vs' σ H Q
theorem rgs_nil : RGs F [] [] := ⟨_, fun _ => pgs_nil, fun vs vs' en s σ H φ Q re st r h => by
  cases r with
  | nil => exact ⟨rfl, h σ H φ .refl st re⟩
  | cons _ _ => exact h.elim⟩
theorem rgs_cons {gs : List MG} (h1 : RG F e g) (h2 : RGs F es gs) (hs : ∀ i, (assignEach (e :: es) (F.X i).env).map (·.2) = assign e (F.X i).env :: (assignEach es (F.X i).env).map (·.2) := by intro _; rfl) : RGs F (e :: es) (g :: gs) := by
  obtain ⟨t, a1, a2⟩ := h1
  obtain ⟨u, b1, b2⟩ := h2
  refine ⟨_, fun i => pgs_cons (a1 i) (b1 i) (hs i), fun vs vs' en s σ H φ Q re st r h => ?_⟩
  cases r with
  | nil => exact h.elim
  | cons r rs =>
    rename_i x v xs us
    refine ⟨v, us, rfl, a2 x v en s σ H φ _ re st r (PstG.next_of h fun en1 s1 σ1 H1 φ1 x1 st1 re1 q => ?_)⟩
    exact b2 xs us en1 s1 σ1 H1 φ1 Q re1 st1 (rs.mono x1) q
theorem rg_tup {gs : List MG} {k : Nat} {n : Nat} (hc : ∀ i, (F.X i).calm = true) (h : RGs F es gs) (hl : gs.length = n) (hn : ∀ i, (assignEach es (F.X i).env).length = n := by intro _; rfl) (hst : ∀ i, (assignEach es (F.X i).env).findIdx? (·.1) = none := by intro _; rfl) : RG F (.Tuple es k pos) (G.tup gs) := by
  obtain ⟨t, a1, a2⟩ := h
  refine ⟨gTup F.K n t, fun i => by have q := pg_tup (pos := pos) (n := n) (k := k) (hc i) (a1 i) (hn i) (hst i); rw [F.hK i] at q; exact q, fun v v' en s σ H φ Q re st r h => ?_⟩
  cases r with
  | tup hs hr =>
    rename_i a us xs
    dsimp only [G.tup] at h
    split at h
    · rename_i hz
      exact ⟨a, us, rfl, hs, by rw [← hr.length, hz, hl], a2 xs us en s σ H φ Q re st hr h⟩
    · exact h.elim
  | _ => exact h.elim
theorem rg_lst {gs : List MG} {k : Nat} {n : Nat} (hc : ∀ i, (F.X i).calm = true) (h : RGs F es gs) (hl : gs.length = n) (hn : ∀ i, (assignEach es (F.X i).env).length = n := by intro _; rfl) (hst : ∀ i, (assignEach es (F.X i).env).findIdx? (·.1) = none := by intro _; rfl) : RG F (.Tuple es k pos) (G.lst gs) := by
  obtain ⟨t, a1, a2⟩ := h
  refine ⟨gLst F.K n t, fun i => by have q := pg_lst (pos := pos) (n := n) (k := k) (hc i) (a1 i) (hn i) (hst i); rw [F.hK i] at q; exact q, fun v v' en s σ H φ Q re st r h => ?_⟩
  cases r with
  | ref hr =>
    rename_i l a
    dsimp only [G.lst] at h
    split at h
    · rename_i xs hx
      obtain ⟨us, h1, h2⟩ := st.seq hx hr
      split at h
      · rename_i hz
        exact ⟨a, us, rfl, h1, by rw [← h2.length, hz, hl], a2 xs us en s σ H φ Q re st h2 h⟩
      · exact h.elim
    · exact h.elim
  | _ => exact h.elim
theorem ixN_eq {n : Nat} {i : Int} : Mi.ixN n i = L2.ixN n i := rfl
theorem PstG.fl_of {P : Program} {w : World} {K : PySem.W.Frag} {H : Hp} {φ : List Addr} {σ : L2.St} {r : Res AV} {en : En} {f : AV → Sto → Fl} {Q : L2.St → Hp → Prop} {Q' : V → Hp → Prop} (h : PstG P w K H φ (r.fl en f) Q)
    (k : ∀ v s v' H1 φ1, Ext K H φ H1 φ1 → St0 P w K H1 φ1 s → Rep K H1 φ1 v v' → PstG P w K H1 φ1 (f v s) Q → Q' v' H1) : Pst P w K (Rep K) W σ H φ r Q' := by
  cases r with
  | ok v s => exact fun v' H' φ' x st rv => k v s v' H' φ' x st rv (PstG.mono h x)
  | err C y s => exact h.elim
  | bad => exact h.elim
theorem rg_sub (ho : RE F W a ma) (hi : RE F W b mb)
    (ha : ∀ i v, assign (.Subscript a b pos) (F.X i).env v = (do
      let ov ← holding [v] (eval a (F.X i).env)
      let iv ← holding [v, ov] (eval b (F.X i).env)
      standAt pos
      holding [v, ov, iv] (setItem ov iv v)
      release [v, ov, iv] []) := by intro _ _; rfl) : RG F (.Subscript a b pos) (G.sub ma mb) := by
  obtain ⟨t, a1, a2⟩ := ho
  obtain ⟨u, b1, b2⟩ := hi
  refine ⟨_, fun i => pg_sub (a1 i) (b1 i) set_list (ha i), fun v v' en s σ H φ Q re st r h => ?_⟩
  refine a2 en s σ H φ _ re st (PstG.fl_of h fun x s1 x' H1 φ1 x1 st1 r1 h => ?_)
  refine b2 en s1 σ H1 φ1 _ (re.mono x1) st1 (PstG.fl_of h fun y s2 y' H2 φ2 x2 st2 r2 h => ?_)
  cases r1 with
  | ref hl =>
    cases r2 with
    | int k =>
      dsimp only [G.setIx] at h
      split at h
      · rename_i xs hx
        split at h
        · rename_i j hj
          obtain ⟨vs, h1, h2⟩ := st2.lst hx (x2.at hl)
          have rv := (r.mono x1).mono x2
          refine ⟨_, vs, k, j, rfl, rfl, h1, by rw [← h2.length, ← ixN_eq]; exact hj, ?_⟩
          refine h σ _ φ2 (.lst h1) (st2.set hx rfl (x2.at hl) (.lst h1) ⟨_, upd_same, (h2.set rv j).mono (.lst h1)⟩) (((re.mono x1).mono x2).mono (.lst h1))
        · exact h.elim
      · exact h.elim
    | _ => exact h.elim
  | _ => exact h.elim
theorem PstG.ofS {P : Program} {w : World} {K : PySem.W.Frag} {H : Hp} {φ : List Addr} {r : Fl} {D : Ends} {σ : L2.St} (hr : ∀ C x en s, r ≠ .err C x en s) (h1 : ∀ v s, r ≠ .ret v s) (h2 : ∀ v s, r ≠ .brk v s) (h3 : ∀ v s, r ≠ .cnt v s) (h : PstS P w K W H φ r D) : PstG P w K H φ r D.nx := by
  cases r with
  | nx en s => exact h
  | ret v s => exact (h1 v s rfl).elim
  | brk en s => exact (h2 en s rfl).elim
  | cnt en s => exact (h3 en s rfl).elim
  | err C y en s => exact (hr C y en s rfl).elim
  | bad => exact h.elim
end
end Br
set_option maxRecDepth 100000
set_option maxHeartbeats 1000000
/-! Assignments, loops, comprehensions. -/
namespace Br
open PySem L2 Mi

section
variable {F : Fam} {W : WX} {a b c e tg iter : Expr} {es : List Expr} {ma mb mc : ME} {pos : Pos} {body : List Stmt} {m m' : MS} {g : MG} {src : MI} {t : MT}
theorem PstS.gx_of {P : Program} {w : World} {K : PySem.W.Frag} {H : Hp} {φ : List Addr} {r : Fl} {D : Ends} (h : PstS P w K W H φ (S.gx r) D) : PstG P w K H φ r D.nx := by
  cases r <;> first | exact h | exact h.elim
theorem rs_asg (he : RE F W e ma) (hg : RG F tg g) (hs : ∀ i, swapsWithSole [tg] e pos.line (F.X i).env = pure false := by intro _; rfl) (hw : ∀ i, swappedStores [tg] e (F.X i).env = pure none := by intro _; rfl)
    (h1 : ∀ i, (assignEach [tg] (F.X i).env).map (·.2) = [assign tg (F.X i).env] := by intro _; rfl) : RS F W (.Assign [tg] e pos) (S.asg g ma) := by
  obtain ⟨t, a1, a2⟩ := he
  obtain ⟨u, b1, b2⟩ := hg
  refine ⟨_, fun i => ps_asg (a1 i) (b1 i) (hs i) (hw i) (h1 i), fun en s σ H φ D re st h => ?_⟩
  refine a2 en s σ H φ _ re st (h.fl_of re fun v s1 v' H1 φ1 x1 st1 r1 q => ?_)
  exact b2 v v' en s1 σ H1 φ1 _ (re.mono x1) st1 r1 q.gx_of
theorem rs_set {i : Nat} {x : Str} {pos' : Pos} (hN : ∀ k, (F.X k).N.Nodup) (hi : ∀ k, (F.X k).N[i]? = some x) (hx : ∀ k, Loc (F.X k).env.scope x) (he : RE F W e ma) (hs : ∀ k, swapsWith e (some (.Name x pos')) pos.line (F.X k).env = pure false := by intro _; rfl)
    (hf : ∀ k, (F.X k).fn x = true ∨ (F.X k).env.scope.names.lookup x = some .local := by first | exact (fun _ => .inl rfl) | exact (fun _ => .inr rfl)) : RS F W (.Assign [.Name x pos'] e pos) (S.asg (G.name i) ma) := by
  obtain ⟨t, a1, a2⟩ := he
  refine ⟨_, fun k => ps_set (hN k) (hi k) (hx k) (a1 k) (hs k) (hf := hf k), fun en s σ H φ D re st h => ?_⟩
  refine a2 en s σ H φ _ re st (h.fl_of re fun v s1 v' H1 φ1 x1 st1 r1 q => ?_)
  exact q _ H1 φ1 .refl st1 ((re.mono x1).set r1 i)
/-- a display stored into names at once -/
theorem par_core {is : List Nat} {mr : MA} {en : En} {s : Sto} {σ : L2.St} {H : Hp} {φ : List Addr} {D : Ends} {Q : List V → Hp → Prop} (re : RepE F.K H φ en σ)
    (h : PstS F.P F.w F.K W H φ (S.asg (G.unp (is.map G.name)) (E.tup mr) en s) D)
    (k : ∀ xs vs H1 φ1 s1, xs.length = is.length → Reps F.K H1 φ1 xs vs → RepE F.K H1 φ1 en σ → St0 F.P F.w F.K H1 φ1 s1 → PstG F.P F.w F.K H1 φ1 (G.all (is.map G.name) xs en s1) D.nx → Q vs H1) :
    Pst F.P F.w F.K (Reps F.K) W σ H φ (mr en s) Q := by
  unfold S.asg E.tup at h
  cases hm : mr en s with
  | ok vs s1 =>
    rw [hm] at h
    intro v' H1 φ1 x1 st1 r1
    dsimp only [Res.bind] at h
    split at h
    · dsimp only [Res.fl] at h
      have h := (show PstS F.P F.w F.K W H φ (S.gx (G.unp _ (.tup vs) en s1)) D from h).gx_of
      dsimp only [G.unp] at h
      split at h
      · rename_i hz
        rw [List.length_map] at hz
        exact k vs v' H1 φ1 s1 hz r1 (re.mono x1) st1 (PstG.mono h x1)
      · exact h.elim
    · exact h.elim
  | err C y s1 => rw [hm] at h; intro d x' H' φ' ex st' rx hd; exact h d x' σ H' φ' ex st' rx (re.mono ex) hd
  | bad => rw [hm] at h; exact h.elim
theorem rs_par {i j : Nat} {x y : Str} {a b : Expr} {mr : MA} {px py pt : Pos} {kt k2 pt2} (hc : ∀ k, (F.X k).calm = true) (hN : ∀ k, (F.X k).N.Nodup) (hi : ∀ k, (F.X k).N[i]? = some x) (hj : ∀ k, (F.X k).N[j]? = some y) (hij : i ≠ j)
    (hx : ∀ k, (F.X k).env.scope.names.lookup x = some .local) (hy : ∀ k, (F.X k).env.scope.names.lookup y = some .local) (ha : RA F W [a, b] mr)
    (hw : ∀ k, swappedStores [.Tuple [.Name x px, .Name y py] kt pt] (.Tuple [a, b] k2 pt2) (F.X k).env = pure (some [x, y]))
    (hs : ∀ k, swapsWithSole [.Tuple [.Name x px, .Name y py] kt pt] (.Tuple [a, b] k2 pt2) pos.line (F.X k).env = pure false := by intro _; rfl) :
    RS F W (.Assign [.Tuple [.Name x px, .Name y py] kt pt] (.Tuple [a, b] k2 pt2) pos) (S.asg (G.unp [G.name i, G.name j]) (E.tup mr)) := by
  obtain ⟨t, a1, a2⟩ := ha
  refine ⟨_, fun k => ps_par (hc k) (hN k) (hi k) (hj k) hij (hx k) (hy k) (a1 k) (hw k) (hs k), fun en s σ H φ D re st h => ?_⟩
  refine a2 en s σ H φ _ re st (par_core (is := [i, j]) re h fun xs vs H1 φ1 s1 hz r1 re1 st1 q => ?_)
  match xs, hz, r1, q with
  | [u, v], _, .cons (v := u') r (.cons (v := v'') r' .nil), q =>
    exact ⟨u', v'', rfl, q _ H1 φ1 .refl st1 ((re1.set r i).set r' j)⟩
theorem rs_par3 {i j l : Nat} {x y z : Str} {a b c : Expr} {mr : MA} {px py pz pt : Pos} {kt k2 pt2} (hc : ∀ k, (F.X k).calm = true) (hN : ∀ k, (F.X k).N.Nodup) (hi : ∀ k, (F.X k).N[i]? = some x) (hj : ∀ k, (F.X k).N[j]? = some y) (hl : ∀ k, (F.X k).N[l]? = some z) (hij : i ≠ j) (hil : i ≠ l) (hjl : j ≠ l)
    (hx : ∀ k, (F.X k).env.scope.names.lookup x = some .local) (hy : ∀ k, (F.X k).env.scope.names.lookup y = some .local) (hz : ∀ k, (F.X k).env.scope.names.lookup z = some .local) (ha : RA F W [a, b, c] mr)
    (hw : ∀ k, swappedStores [.Tuple [.Name x px, .Name y py, .Name z pz] kt pt] (.Tuple [a, b, c] k2 pt2) (F.X k).env = pure (some [x, y, z]))
    (hs : ∀ k, swapsWithSole [.Tuple [.Name x px, .Name y py, .Name z pz] kt pt] (.Tuple [a, b, c] k2 pt2) pos.line (F.X k).env = pure false := by intro _; rfl) :
    RS F W (.Assign [.Tuple [.Name x px, .Name y py, .Name z pz] kt pt] (.Tuple [a, b, c] k2 pt2) pos) (S.asg (G.unp [G.name i, G.name j, G.name l]) (E.tup mr)) := by
  obtain ⟨t, a1, a2⟩ := ha
  refine ⟨_, fun k => ps_par3 (hc k) (hN k) (hi k) (hj k) (hl k) hij hil hjl (hx k) (hy k) (hz k) (a1 k) (hw k) (hs k), fun en s σ H φ D re st h => ?_⟩
  refine a2 en s σ H φ _ re st (par_core (is := [i, j, l]) re h fun xs vs H1 φ1 s1 hz r1 re1 st1 q => ?_)
  match xs, hz, r1, q with
  | [u, v, w'], _, .cons (v := u') r (.cons (v := v'') r' (.cons (v := w'') r3 .nil)), q =>
    exact ⟨u', v'', w'', rfl, q _ H1 φ1 .refl st1 (((re1.set r i).set r' j).set r3 l)⟩
/-! loops -/
theorem PstS.turn_of {P : Program} {w : World} {K : PySem.W.Frag} {H : Hp} {φ : List Addr} {r : Fl} {f : En → Sto → Fl} {D D' : Ends} (h : PstS P w K W H φ (S.turn r f) D)
    (hr : D'.rt = D.rt) (hb : D'.bk = D.nx) (hc : D'.ct = D'.nx)
    (k : ∀ en s σ H1 φ1, Ext K H φ H1 φ1 → St0 P w K H1 φ1 s → RepE K H1 φ1 en σ → PstS P w K W H1 φ1 (f en s) D → D'.nx σ H1) : PstS P w K W H φ r D' := by
  cases r with
  | nx en s => exact fun σ' H' φ' x st re => k en s σ' H' φ' x st re (PstS.mono h x)
  | cnt en s => show ∀ _ _ _, _; rw [hc]; exact fun σ' H' φ' x st re => k en s σ' H' φ' x st re (PstS.mono h x)
  | ret v s => show ∀ _ _ _, _; rw [hr]; exact h
  | brk en s => show ∀ _ _ _, _; rw [hb]; exact h
  | err C y en s => exact h
  | bad => exact h
theorem rs_while (hp : ∀ i, PassesOwn (model (F.X i).prog (F.X i).w) (F.X i).A (F.X i).env (F.X i).xe) (hc : RT F W c t) (hb : RSs F W body m) : RS F W (.While c body [] pos) (S.while_ t m) := by
  obtain ⟨u, a1, a2⟩ := hc
  obtain ⟨v, b1, b2⟩ := hb
  refine ⟨_, fun i => ps_while (hp i) (a1 i) (b1 i), fun en s σ H φ D re st h => ?_⟩
  refine ⟨fun f σ H => ∃ en s φ, RepE F.K H φ en σ ∧ St0 F.P F.w F.K H φ s ∧ PstS F.P F.w F.K W H φ (S.loop t m f en s) D, ⟨_, en, s, φ, re, st, h⟩, ?_⟩
  rintro f σ H ⟨en, s, φ, re, st, h⟩
  cases f with
  | zero => exact h.elim
  | succ f =>
    refine a2 en s σ H φ _ re st (PstS.flT_of h re fun x s1 x' H1 φ1 x1 st1 r1 q => ?_)
    cases r1
    cases x with
    | false => exact iteF (q σ H1 φ1 .refl st1 (re.mono x1))
    | true =>
      refine iteT ⟨fun σ H => ∃ en s φ, RepE F.K H φ en σ ∧ St0 F.P F.w F.K H φ s ∧ PstS F.P F.w F.K W H φ (S.loop t m f en s) D, fun σ' H' z => ⟨f, Nat.lt_succ_self f, z⟩, ?_⟩
      refine b2 en s1 σ H1 φ1 _ (re.mono x1) st1 (PstS.turn_of q rfl rfl rfl fun en2 s2 σ2 H2 φ2 x2 st2 re2 q2 => ?_)
      exact ⟨en2, s2, φ2, re2, st2, q2⟩
theorem Pst.src_of {P : Program} {w : World} {K : PySem.W.Frag} {H : Hp} {φ : List Addr} {σ : L2.St} {R : Hp → List Addr → Mi.It → L2.It → Prop} {en : En} {s : Sto} {f : Mi.It → MS} {D : Ends} {Q' : L2.It → Hp → Prop}
    (h : PstS P w K W H φ (match src en s with
      | .ok j s => f j en s
      | .err C w s => .err C w en s
      | .bad => .bad) D) (re : RepE K H φ en σ)
    (k : ∀ j s J H1 φ1, Ext K H φ H1 φ1 → St0 P w K H1 φ1 s → R H1 φ1 j J → PstS P w K W H1 φ1 (f j en s) D → Q' J H1) : Pst P w K R W σ H φ (src en s) Q' := by
  cases hr : src en s with
  | ok v s =>
    rw [hr] at h
    exact fun v' H' φ' x st rv => k v s v' H' φ' x st rv (PstS.mono h x)
  | err C y s =>
    rw [hr] at h
    exact fun d x' H' φ' x st rx hd => h d x' σ H' φ' x st rx (re.mono x) hd
  | bad => rw [hr] at h; exact h
theorem drop_cons {α : Type} {xs : List α} {i : Nat} {x : α} (h : xs[i]? = some x) : xs.drop i = x :: xs.drop (i + 1) := by
  obtain ⟨hl, e⟩ := List.getElem?_eq_some_iff.mp h
  rw [← e]; exact List.drop_eq_getElem_cons hl
theorem rs_for (hp : ∀ i, PassesOwn (model (F.X i).prog (F.X i).w) (F.X i).A (F.X i).env (F.X i).xe) (hc : ∀ i, (F.X i).calm = true) (hi : RI F W tg iter src) (hg : RG F tg g) (hb : RSs F W body m)
    (hs : ∀ i x, foldedSetIterable iter (F.X i).env x = pure x := by intro _ _; rfl) : RS F W (.For tg iter body [] pos) (S.for_ src g m) := by
  obtain ⟨u, a1, a2⟩ := hi
  obtain ⟨v, b1, b2⟩ := hg
  obtain ⟨z, c1, c2⟩ := hb
  refine ⟨_, fun i => ps_for (hp i) (hc i) (a1 i) (b1 i) (c1 i) (hs i), fun en s σ H φ D re st h => ?_⟩
  refine a2 en s σ H φ _ re st (Pst.src_of (f := S.forI (fun v en s => (S.gx (g v en s)).next fun en s => m en s)) h re fun j s0 J H0 φ0 x0 st0 rj q => ?_)
  have re0 := re.mono x0
  -- one turn
  have turn : ∀ (x : AV) (v' : V) (en : En) (s : Sto) (σ : L2.St) (H : Hp) (φ : List Addr) (f : En → Sto → Fl) (N : L2.St → Hp → Prop), RepE F.K H φ en σ → St0 F.P F.w F.K H φ s → Rep F.K H φ x v' →
      PstS F.P F.w F.K W H φ (S.turn ((S.gx (g x en s)).next fun en s => m en s) f) D →
      (∀ en s σ H1 φ1, Ext F.K H φ H1 φ1 → St0 F.P F.w F.K H1 φ1 s → RepE F.K H1 φ1 en σ → PstS F.P F.w F.K W H1 φ1 (f en s) D → N σ H1) →
      v v' σ H fun σ2 H2 => z { D with nx := N, ct := N, bk := D.nx } σ2 H2 := by
    intro x v' en s σ H φ f N re st rx h k
    refine b2 x v' en s σ H φ _ re st rx ?_
    cases hgx : g x en s with
    | nx en1 s1 =>
      rw [hgx] at h
      intro σ1 H1 φ1 x1 st1 re1
      refine c2 en1 s1 σ1 H1 φ1 _ re1 st1 (PstS.turn_of (PstS.mono h x1) rfl rfl rfl fun en2 s2 σ2 H2 φ2 x2 st2 re2 q2 => ?_)
      exact k en2 s2 σ2 H2 φ2 (x1.trans x2) st2 re2 q2
    | _ => rw [hgx] at h; exact h.elim
  cases j with
  | fix xs =>
    refine ⟨fun i n σ H => n + i = xs.length ∧ ∃ en s φ, Ext F.K H0 φ0 H φ ∧ RepE F.K H φ en σ ∧ St0 F.P F.w F.K H φ s ∧ PstS F.P F.w F.K W H φ (S.forT (fun v en s => (S.gx (g v en s)).next fun en s => m en s) (xs.drop i) en s) D,
      ⟨xs.length, rfl, en, s0, φ0, .refl, re0, st0, by rw [List.drop_zero]; exact q⟩, ?_⟩
    rintro i n σ H ⟨hn, en, s, φ, x1, re, st, h⟩
    cases hx : xs[i]? with
    | none =>
      have hl : xs.length ≤ i := List.getElem?_eq_none_iff.mp hx
      rw [List.drop_eq_nil_of_le hl] at h
      exact .inl ⟨(rj i H φ x1).2 hx, h σ H φ .refl st re⟩
    | some x =>
      rw [drop_cons hx] at h
      obtain ⟨go, yld⟩ := (rj i H φ x1).1 x hx
      have hl : i < xs.length := (List.getElem?_eq_some_iff.mp hx).1
      refine .inr ⟨go, fun σ H => ∃ en s φ, Ext F.K H0 φ0 H φ ∧ RepE F.K H φ en σ ∧ St0 F.P F.w F.K H φ s ∧ PstS F.P F.w F.K W H φ (S.forT (fun v en s => (S.gx (g v en s)).next fun en s => m en s) (xs.drop (i + 1)) en s) D,
        fun σ' H' z => ⟨n - 1, by omega, by omega, z⟩, fun x' H' y => ?_⟩
      obtain ⟨e1, e2, rx⟩ := yld x' H' y
      refine turn x x' en s σ H' φ _ _ (re.mono e1) (e2 s st) rx (PstS.mono h e1) fun en2 s2 σ2 H2 φ2 x2 st2 re2 q2 => ?_
      exact ⟨en2, s2, φ2, (x1.trans e1).trans x2, re2, st2, q2⟩
  | lst l =>
    obtain ⟨a, ha, rfl⟩ := rj
    refine ⟨fun i n σ H => ∃ en s φ, Ext F.K H0 φ0 H φ ∧ RepE F.K H φ en σ ∧ St0 F.P F.w F.K H φ s ∧ PstS F.P F.w F.K W H φ (S.forL (fun v en s => (S.gx (g v en s)).next fun en s => m en s) l n i en s) D,
      ⟨_, en, s0, φ0, .refl, re0, st0, q⟩, ?_⟩
    rintro i n σ H ⟨en, s, φ, x1, re, st, h⟩
    cases n with
    | zero => exact h.elim
    | succ n =>
      unfold S.forL at h
      split at h
      · exact h.elim
      · rename_i xs hx
        obtain ⟨vs, hv, rv⟩ := st.seq hx (x1.at ha)
        split at h
        · rename_i hn
          refine .inl ⟨⟨vs, hv, ?_⟩, h σ H φ .refl st re⟩
          rw [← rv.length]
          exact List.getElem?_eq_none_iff.mp hn
        · rename_i x hxi
          obtain ⟨x', hv', rx⟩ := rv.get hxi
          refine .inr ⟨⟨vs, x', hv, hv'⟩, fun σ H => ∃ en s φ, Ext F.K H0 φ0 H φ ∧ RepE F.K H φ en σ ∧ St0 F.P F.w F.K H φ s ∧ PstS F.P F.w F.K W H φ (S.forL (fun v en s => (S.gx (g v en s)).next fun en s => m en s) l n (i + 1) en s) D,
            fun σ' H' z => ⟨n, Nat.lt_succ_self n, z⟩, ?_⟩
          rintro y H' ⟨rfl, hy⟩
          have e : vs[i]? = some y := hy vs hv
          rw [hv'] at e; cases e
          refine turn x x' en s σ H' φ _ _ re st rx h fun en2 s2 σ2 H2 φ2 x2 st2 re2 q2 => ?_
          exact ⟨en2, s2, φ2, x1.trans x2, re2, st2, q2⟩
/-! what is walked -/
theorem ri_tup (ha : RE F W iter ma) : RI F W tg iter (I.tup ma) := by
  obtain ⟨u, a1, a2⟩ := ha
  refine ⟨iTup F.K u, fun i => by have q := pi_tup (tg := tg) (a1 i); rw [F.hK i] at q; exact q, fun en s σ H φ Q re st h => ?_⟩
  refine a2 en s σ H φ _ re st (h.bind_of fun v s1 v' H1 φ1 x1 st1 r1 q => ?_)
  cases r1 with
  | tup hs hr =>
    rename_i a vs xs
    refine ⟨a, rfl, ⟨vs, hs⟩, q _ H1 φ1 .refl st1 ?_⟩
    intro i H φ ex
    refine ⟨fun x hx => ?_, fun hn => ⟨vs, ex.tup _ _ hs, by rw [← hr.length]; exact List.getElem?_eq_none_iff.mp hn⟩⟩
    obtain ⟨v, hv, rv⟩ := hr.get hx
    refine ⟨⟨vs, v, ex.tup _ _ hs, hv⟩, ?_⟩
    rintro v' H' ⟨rfl, hy⟩
    have e := hy vs (ex.tup _ _ hs)
    rw [hv] at e; cases e
    exact ⟨.refl, fun _ z => z, rv.mono ex⟩
  | _ => exact q.elim
theorem ri_lst (ha : RE F W iter ma) : RI F W tg iter (I.lst ma) := by
  obtain ⟨u, a1, a2⟩ := ha
  refine ⟨iList F.K u, fun i => by have q := pi_list (tg := tg) (a1 i); rw [F.hK i] at q; exact q, fun en s σ H φ Q re st h => ?_⟩
  refine a2 en s σ H φ _ re st (h.bind_of fun v s1 v' H1 φ1 x1 st1 r1 q => ?_)
  cases r1 with
  | ref hl =>
    rename_i l a
    cases hx : seqAt s1 l with
    | some xs =>
      simp only [hx] at q
      obtain ⟨vs, h1, h2⟩ := st1.seq hx hl
      exact ⟨a, rfl, ⟨vs, h1⟩, q _ H1 φ1 .refl st1 ⟨a, hl, rfl⟩⟩
    | none => simp only [hx] at q; exact q.elim
  | _ => exact q.elim
theorem pi_or {X : Cx} {tg iter : Expr} {t u : TI} (h : PI X tg iter t) (h' : PI X tg iter u) : PI X tg iter (fun σ H R => t σ H R ∨ u σ H R) :=
  ⟨fun pins s σ H R I q => q.elim (h.run pins s σ H R I) (h'.run pins s σ H R I)⟩
theorem ri_seq (ha : RE F W iter ma) : RI F W tg iter (I.seq ma) := by
  obtain ⟨t, t1, t2⟩ := ri_tup (tg := tg) ha
  obtain ⟨u, u1, u2⟩ := ri_lst (tg := tg) ha
  refine ⟨_, fun i => pi_or (t1 i) (u1 i), fun en s σ H φ Q re st h => ?_⟩
  have e : I.seq ma en s = I.tup ma en s ∨ I.seq ma en s = I.lst ma en s := by
    unfold I.seq I.tup I.lst
    cases ma en s with
    | ok v s1 => cases v <;> first | exact .inl rfl | exact .inr rfl
    | err C y s1 => exact .inl rfl
    | bad => exact .inl rfl
  rcases e with e | e
  · exact .inl (t2 en s σ H φ Q re st (e ▸ h))
  · exact .inr (u2 en s σ H φ Q re st (e ▸ h))
theorem pg_or {X : Cx} {tg : Expr} {t u : TG} (h : PG X tg t) (h' : PG X tg u) : PG X tg (fun v σ H Q => t v σ H Q ∨ u v σ H Q) :=
  ⟨fun pins s σ H v u Q I r q => q.elim (h.run pins s σ H v u Q I r) (h'.run pins s σ H v u Q I r)⟩
theorem rg_unp {gs : List MG} {k : Nat} {n : Nat} (hc : ∀ i, (F.X i).calm = true) (h : RGs F es gs) (hl : gs.length = n) (hn : ∀ i, (assignEach es (F.X i).env).length = n := by intro _; rfl) (hst : ∀ i, (assignEach es (F.X i).env).findIdx? (·.1) = none := by intro _; rfl) : RG F (.Tuple es k pos) (G.unp gs) := by
  obtain ⟨t, t1, t2⟩ := rg_tup (pos := pos) (k := k) hc h hl hn hst
  obtain ⟨u, u1, u2⟩ := rg_lst (pos := pos) (k := k) hc h hl hn hst
  refine ⟨_, fun i => pg_or (t1 i) (u1 i), fun v v' en s σ H φ Q re st r h => ?_⟩
  cases r with
  | tup hs hr => exact .inl (t2 _ _ en s σ H φ Q re st (.tup hs hr) h)
  | ref hr => exact .inr (u2 _ _ en s σ H φ Q re st (.ref hr) h)
  | _ => exact h.elim
theorem rng_ok {H0 : Hp} {φ0 : List Addr} {lo : Int} {n : Nat} : RepI F H0 φ0 (.fix (I.iot lo n)) (Itr lo n) := by
  intro i H φ ex
  unfold I.iot
  refine ⟨fun x hx => ?_, fun hn => ?_⟩
  · rw [List.getElem?_map] at hx
    have hl : i < n := by
      by_cases hl : i < n
      · exact hl
      · rw [List.getElem?_eq_none (by simpa using hl)] at hx; cases hx
    rw [List.getElem?_range hl] at hx
    cases hx
    refine ⟨hl, ?_⟩
    rintro v' H' ⟨rfl, rfl⟩
    exact ⟨.refl, fun _ z => z, .int _⟩
  · rw [List.getElem?_eq_none_iff, List.length_map, List.length_range] at hn
    exact hn
theorem ri_range1 {p : Pos} {mr : MA} (hg : ∀ i, Gl (F.X i) "range") (hm : F.mg "range" = none) (ha : RA F W [a] mr) (hs : ∀ i, starEach [a] (F.X i).env = [(false, eval a (F.X i).env)] := by intro _; rfl) : RI F W tg (.Call (.Name "range" p) [a] [] pos) (I.range1 mr) := by
  obtain ⟨u, a1, a2⟩ := ha
  refine ⟨_, fun i => pi_range1 (hg i) (by rw [F.hmg i]; exact hm) (a1 i) (hs i), fun en s σ H φ Q re st h => ?_⟩
  refine a2 en s σ H φ _ re st (h.bind_of fun v s1 v' H1 φ1 x1 st1 r1 q => ?_)
  match v, r1, q with
  | [.int j], .cons (.int _) .nil, q =>
    dsimp only at q
    split at q
    · rename_i hr
      unfold I.inR at hr
      have hr := of_decide_eq_true hr
      exact ⟨j, rfl, hr.1, hr.2, q _ H1 φ1 .refl st1 rng_ok⟩
    · exact q.elim
theorem ri_range2 {p : Pos} {mr : MA} (hg : ∀ i, Gl (F.X i) "range") (hm : F.mg "range" = none) (ha : RA F W [a, b] mr) (hs : ∀ i, starEach [a, b] (F.X i).env = [(false, eval a (F.X i).env), (false, eval b (F.X i).env)] := by intro _; rfl) (hs2 : ∀ i, starEach [b] (F.X i).env = [(false, eval b (F.X i).env)] := by intro _; rfl) : RI F W tg (.Call (.Name "range" p) [a, b] [] pos) (I.range2 mr) := by
  obtain ⟨u, a1, a2⟩ := ha
  refine ⟨_, fun i => pi_range2 (hg i) (by rw [F.hmg i]; exact hm) (a1 i) (hs i) (hs2 i), fun en s σ H φ Q re st h => ?_⟩
  refine a2 en s σ H φ _ re st (h.bind_of fun v s1 v' H1 φ1 x1 st1 r1 q => ?_)
  match v, r1, q with
  | [.int j, .int k], .cons (.int _) (.cons (.int _) .nil), q =>
    dsimp only at q
    split at q
    · rename_i hr
      unfold I.inR at hr
      have hr := Bool.and_eq_true_iff.mp hr
      have h1 := of_decide_eq_true hr.1
      have h2 := of_decide_eq_true hr.2
      exact ⟨j, k, rfl, ⟨h1.1, h1.2, h2.1, h2.2⟩, q _ H1 φ1 .refl st1 rng_ok⟩
    · exact q.elim
end
end Br
set_option maxRecDepth 100000
set_option maxHeartbeats 1000000
/-! Comprehensions. -/
namespace Br
open PySem L2 Mi

abbrev Wn : WX := fun _ _ _ _ => False
theorem wipe_get (σ : L2.St) (j : Nat) : ∀ own : List Nat, (L2.wipe σ own)[j]? = if j ∈ own then (σ[j]?).map (fun _ => none) else σ[j]?
  | [] => by simp [L2.wipe]
  | v :: vs => by
    show ((L2.wipe σ vs).set v none)[j]? = _
    by_cases e : v = j
    · subst e
      rw [if_pos List.mem_cons_self]
      by_cases hl : v < σ.length
      · rw [List.getElem?_set_self (by rw [L2.wipe_length]; exact hl), List.getElem?_eq_getElem hl]; rfl
      · rw [List.getElem?_eq_none (by rw [List.length_set, L2.wipe_length]; omega), List.getElem?_eq_none (by omega)]; rfl
    · rw [List.getElem?_set_ne e, wipe_get σ j vs]
      by_cases m : j ∈ vs
      · rw [if_pos m, if_pos (List.mem_cons_of_mem _ m)]
      · rw [if_neg m, if_neg (fun z => (List.mem_cons.mp z).elim (fun q => e q.symm) m)]
theorem wipe_set {σ : L2.St} {own : List Nat} {i : Nat} (h : i ∈ own) (x : Option V) : L2.wipe (σ.set i x) own = L2.wipe σ own := by
  apply List.ext_getElem?
  intro j
  rw [wipe_get, wipe_get]
  by_cases m : j ∈ own
  · rw [if_pos m, if_pos m]
    by_cases e : i = j
    · subst e
      by_cases hl : i < σ.length
      · rw [List.getElem?_set_self hl, List.getElem?_eq_getElem hl]; rfl
      · rw [List.getElem?_eq_none (by rw [List.length_set]; omega), List.getElem?_eq_none (by omega)]
    · rw [List.getElem?_set_ne e]
  · rw [if_neg m, if_neg m, List.getElem?_set_ne (fun e => m (by rw [← e]; exact h))]
theorem wipe_wipe (σ : L2.St) (own : List Nat) : L2.wipe (L2.wipe σ own) own = L2.wipe σ own := by
  apply List.ext_getElem?
  intro j
  rw [wipe_get, wipe_get]
  by_cases m : j ∈ own
  · rw [if_pos m, if_pos m]
    cases σ[j]? <;> rfl
  · rw [if_neg m, if_neg m]

section
variable (P : Program) (w : World) (K : PySem.W.Frag)
def PstO (own : List Nat) (σ : L2.St) (H : Hp) (φ : List Addr) (r : Fl) (Q : L2.St → Hp → Prop) : Prop := match r with
  | .nx en s => ∀ σ' H' φ', Ext K H φ H' φ' → St0 P w K H' φ' s → RepE K H' φ' en σ' → L2.wipe σ' own = L2.wipe σ own → Q σ' H'
  | _ => False
end
section
variable {F : Fam} {W : WX} {a b c e elt tg iter : Expr} {es ifs : List Expr} {ma mb mc me : ME} {pos : Pos} {g : MG} {src : MI} {t : MT} {own : List Nat}
def RGo (F : Fam) (own : List Nat) (tg : Expr) (g : MG) : Prop := ∃ t : TG, (∀ i, PG (F.X i) tg t) ∧ ∀ v v' en s σ H φ Q, RepE F.K H φ en σ → St0 F.P F.w F.K H φ s → Rep F.K H φ v v' → PstO F.P F.w F.K own σ H φ (g v en s) Q → t v' σ H Q
def RGos (F : Fam) (own : List Nat) (es : List Expr) (gs : List MG) : Prop := ∃ t : TGs, (∀ i, PGs (F.X i) es t) ∧ ∀ vs vs' en s σ H φ Q, RepE F.K H φ en σ → St0 F.P F.w F.K H φ s → Reps F.K H φ vs vs' → PstO F.P F.w F.K own σ H φ (G.all gs vs en s) Q → t vs' σ H Q
theorem rgo_name {i : Nat} {x : Str} (ho : i ∈ own) (hN : ∀ k, (F.X k).N.Nodup) (hi : ∀ k, (F.X k).N[i]? = some x) (hx : ∀ k, Loc (F.X k).env.scope x) (hf : ∀ k, (F.X k).fn x = true ∨ (F.X k).env.scope.names.lookup x = some .local := by first | exact (fun _ => .inl rfl) | exact (fun _ => .inr rfl)) : RGo F own (.Name x pos) (G.name i) :=
  ⟨_, fun k => pg_name (hN k) (hi k) (hx k) (hf k), fun v v' en s σ H φ Q re st r h => h _ H φ .refl st (re.set r i) (wipe_set ho _)⟩
theorem rgos_nil : RGos F own [] [] := ⟨_, fun _ => pgs_nil, fun vs vs' en s σ H φ Q re st r h => by
  cases r with
  | nil => exact ⟨rfl, h σ H φ .refl st re rfl⟩
  | cons _ _ => exact h.elim⟩
theorem rgos_cons {gs : List MG} (h1 : RGo F own e g) (h2 : RGos F own es gs) (hs : ∀ i, (assignEach (e :: es) (F.X i).env).map (·.2) = assign e (F.X i).env :: (assignEach es (F.X i).env).map (·.2) := by intro _; rfl) : RGos F own (e :: es) (g :: gs) := by
  obtain ⟨t, a1, a2⟩ := h1
  obtain ⟨u, b1, b2⟩ := h2
  refine ⟨_, fun i => pgs_cons (a1 i) (b1 i) (hs i), fun vs vs' en s σ H φ Q re st r h => ?_⟩
  cases r with
  | nil => exact h.elim
  | cons r rs =>
    rename_i x v xs us
    refine ⟨v, us, rfl, a2 x v en s σ H φ _ re st r ?_⟩
    unfold G.all at h
    cases hg : g x en s with
    | nx en1 s1 =>
      rw [hg] at h
      intro σ1 H1 φ1 x1 st1 re1 w1
      refine b2 xs us en1 s1 σ1 H1 φ1 Q re1 st1 (rs.mono x1) ?_
      have h : PstO F.P F.w F.K own σ H φ (G.all gs xs en1 s1) Q := h
      cases hh : G.all gs xs en1 s1 with
      | nx en2 s2 =>
        rw [hh] at h
        exact fun σ2 H2 φ2 x2 st2 re2 w2 => h σ2 H2 φ2 (x1.trans x2) st2 re2 (w2.trans w1)
      | _ => rw [hh] at h; exact h.elim
    | _ => rw [hg] at h; exact h.elim
theorem rgo_tup {gs : List MG} {k : Nat} {n : Nat} (hc : ∀ i, (F.X i).calm = true) (h : RGos F own es gs) (hl : gs.length = n) (hn : ∀ i, (assignEach es (F.X i).env).length = n := by intro _; rfl) (hst : ∀ i, (assignEach es (F.X i).env).findIdx? (·.1) = none := by intro _; rfl) : RGo F own (.Tuple es k pos) (G.unp gs) := by
  obtain ⟨t, a1, a2⟩ := h
  refine ⟨_, fun i => pg_or (by have q := pg_tup (pos := pos) (n := n) (k := k) (hc i) (a1 i) (hn i) (hst i); rw [F.hK i] at q; exact q) (by have q := pg_lst (pos := pos) (n := n) (k := k) (hc i) (a1 i) (hn i) (hst i); rw [F.hK i] at q; exact q), fun v v' en s σ H φ Q re st r h => ?_⟩
  cases r with
  | tup hs hr =>
    rename_i a us xs
    dsimp only [G.unp] at h
    split at h
    · rename_i hz
      exact .inl ⟨a, us, rfl, hs, by rw [← hr.length, hz, hl], a2 xs us en s σ H φ Q re st hr h⟩
    · exact h.elim
  | ref hr =>
    rename_i l a
    dsimp only [G.unp] at h
    cases hx : seqAt s l with
    | none => simp only [hx] at h; exact h.elim
    | some xs =>
      simp only [hx] at h
      obtain ⟨us, h1, h2⟩ := st.seq hx hr
      split at h
      · rename_i hz
        exact .inr ⟨a, us, rfl, h1, by rw [← h2.length, hz, hl], a2 xs us en s σ H φ Q re st h2 h⟩
      · exact h.elim
  | _ => exact h.elim
def RTs (F : Fam) (W : WX) (ifs : List Expr) (m : MT) : Prop := ∃ t : TT, (∀ i, PTs (F.X i) ifs t) ∧ ∀ en s σ H φ Q, RepE F.K H φ en σ → St0 F.P F.w F.K H φ s → Pst F.P F.w F.K eqB W σ H φ (m en s) Q → t σ H Q
theorem rts_nil : RTs F W [] T.yes := ⟨_, fun _ => pts_nil, fun en s σ H φ Q re st h => h true H φ .refl st rfl⟩
theorem rts_one (h : RT F W c t) : RTs F W [c] t := by
  obtain ⟨u, a1, a2⟩ := h
  exact ⟨_, fun i => pts_one (a1 i), a2⟩
theorem Pst.ne_of {α β α' β' : Type} {P : Program} {w : World} {K : PySem.W.Frag} {H : Hp} {φ : List Addr} {σ σ2 : L2.St} {R : Hp → List Addr → α → β → Prop} {R2 : Hp → List Addr → α' → β' → Prop} {r : Res α} {f : α → Sto → Res α'} {Q : β' → Hp → Prop} {Q' : β → Hp → Prop}
    (h : Pst P w K R2 W σ H φ (r.ne.bind f) Q)
    (k : ∀ v s v' H1 φ1, Ext K H φ H1 φ1 → St0 P w K H1 φ1 s → R H1 φ1 v v' → Pst P w K R2 W σ H1 φ1 (f v s) Q → Q' v' H1) : Pst P w K R Wn σ2 H φ r Q' := by
  cases r with
  | ok v s => exact fun v' H' φ' x st rv => k v s v' H' φ' x st rv (Pst.mono h x)
  | err C y s => exact h.elim
  | bad => exact h
/-- what a comprehension comes to -/
theorem lc_sound {src : MI} {wi : TI} {tG : TG} {tt : TT} {te : TE} (b2 : ∀ en s σ H φ (Q : L2.It → Hp → Prop), RepE F.K H φ en σ → St0 F.P F.w F.K H φ s → Pst F.P F.w F.K (RepI F) W σ H φ (src en s) Q → wi σ H Q)
    (g2 : ∀ v v' en s σ H φ Q, RepE F.K H φ en σ → St0 F.P F.w F.K H φ s → Rep F.K H φ v v' → PstO F.P F.w F.K own σ H φ (g v en s) Q → tG v' σ H Q)
    (t2 : ∀ en s σ H φ Q, RepE F.K H φ en σ → St0 F.P F.w F.K H φ s → Pst F.P F.w F.K eqB Wn σ H φ (t en s) Q → tt σ H Q)
    (e2 : ∀ en s σ H φ Q, RepE F.K H φ en σ → St0 F.P F.w F.K H φ s → Pst F.P F.w F.K (Rep F.K) Wn σ H φ (me en s) Q → te σ H Q) :
    ∀ en s σ H φ Q, RepE F.K H φ en σ → St0 F.P F.w F.K H φ s → Pst F.P F.w F.K (Rep F.K) W σ H φ (E.lc src g t me own en s) Q → tLc wi tG tt te own σ H Q := by
  intro en s σ H φ Q re st h
  refine b2 en s σ H φ _ re st (Pst.bind_of h fun j s0 J H0 φ0 x0 st0 rj q => ?_)
  intro D nD
  have re0 := re.mono x0
  have xD : Ext F.K H0 φ0 (upd H0 D (.lst [])) (φ0 ++ [D]) := .newRef nD
  have stD : St0 F.P F.w F.K (upd H0 D (.lst [])) (φ0 ++ [D]) (s0 ++ [MO.lst []]) := st0.newRef nD ⟨[], upd_same, .nil⟩
  have atD : (φ0 ++ [D])[s0.length]? = some D := by rw [← st0.len]; exact List.getElem?_concat_length
  -- one turn
  have turn : ∀ (x : AV) (v' : V) (s : Sto) (H : Hp) (φ : List Addr) (f : Unit → Sto → Res AV) (N : Hp → Prop), Ext F.K (upd H0 D (.lst [])) (φ0 ++ [D]) H φ → St0 F.P F.w F.K H φ s → Rep F.K H φ x v' →
      Pst F.P F.w F.K (Rep F.K) W σ H φ ((E.lcT g t me own en s0.length x s).bind f) Q →
      (∀ s H1 φ1, Ext F.K H φ H1 φ1 → St0 F.P F.w F.K H1 φ1 s → Pst F.P F.w F.K (Rep F.K) W σ H1 φ1 (f () s) Q → N H1) →
      tG v' (L2.wipe σ own) H fun σ2 H2 => L2.wipe σ2 own = L2.wipe σ own ∧ tt σ2 H2 fun b H3 =>
        if b = true then te σ2 H3 fun y H4 => ∃ acc, H4 D = some (.lst acc) ∧ acc.length < sizeLine ∧ N (upd H4 D (.lst (acc ++ [y]))) else N H3 := by
    intro x v' s H φ f N ex st rx h k
    have rw0 : RepE F.K H φ (Mi.wipe en own) (L2.wipe σ own) := ((re0.mono xD).mono ex).wipe own
    refine g2 x v' (Mi.wipe en own) s (L2.wipe σ own) H φ _ rw0 st rx ?_
    unfold E.lcT at h
    cases hg : g x (Mi.wipe en own) s with
    | nx en1 s1 =>
      simp only [hg] at h
      intro σ1 H1 φ1 x1 st1 re1 w1
      rw [wipe_wipe] at w1
      refine ⟨w1, t2 en1 s1 σ1 H1 φ1 _ re1 st1 ?_⟩
      have h := Pst.mono h x1
      rw [Res.bind_assoc] at h
      refine Pst.ne_of h fun b s2 b' H2 φ2 x2 st2 eb h => ?_
      cases eb
      cases b with
      | false =>
        refine iteF (k s2 H2 φ2 (x1.trans x2) st2 ?_)
        simpa using h
      | true =>
        refine iteT (e2 en1 s2 σ1 H2 φ2 _ (re1.mono x2) st2 ?_)
        rw [if_pos rfl, Res.bind_assoc] at h
        refine Pst.ne_of h fun y s3 y' H3 φ3 x3 st3 ry h => ?_
        unfold E.grow at h
        have hD : φ3[s0.length]? = some D := x3.at (x2.at (x1.at (ex.at atD)))
        cases hs : s3[s0.length]? with
        | none => simp only [hs] at h; exact h.elim
        | some o =>
          cases o with
          | lst acc =>
            simp only [hs] at h
            split at h
            · rename_i hz
              obtain ⟨vs, h1, h2⟩ := st3.lst hs hD
              refine ⟨vs, h1, by rw [← h2.length, ← line_eq]; exact hz, ?_⟩
              have x4 : Ext F.K H3 φ3 (upd H3 D (.lst (vs ++ [y']))) φ3 := .lst h1
              refine k _ _ φ3 (((x1.trans x2).trans x3).trans x4) (st3.set (u := .lst (acc ++ [y])) hs rfl hD x4 ⟨_, upd_same, (h2.append (.cons ry .nil)).mono x4⟩) ?_
              exact Pst.mono h x4
            · exact h.elim
          | _ => simp only [hs] at h; exact h.elim
    | _ => simp only [hg] at h; exact h.elim
  cases j with
  | fix xs =>
    have q : Pst F.P F.w F.K (Rep F.K) W σ (upd H0 D (.lst [])) (φ0 ++ [D]) ((E.lcFix (E.lcT g t me own en s0.length) xs (s0 ++ [MO.lst []])).bind fun _ s => .ok (.ref s0.length) s) Q := Pst.mono q xD
    refine ⟨fun i n H => n + i = xs.length ∧ ∃ s φ, Ext F.K (upd H0 D (.lst [])) (φ0 ++ [D]) H φ ∧ St0 F.P F.w F.K H φ s ∧ Pst F.P F.w F.K (Rep F.K) W σ H φ ((E.lcFix (E.lcT g t me own en s0.length) (xs.drop i) s).bind fun _ s => .ok (.ref s0.length) s) Q,
      ⟨xs.length, rfl, _, _, .refl, stD, by rw [List.drop_zero]; exact q⟩, ?_⟩
    rintro i n H ⟨hn, s, φ, x1, st, h⟩
    cases hx : xs[i]? with
    | none =>
      have hl : xs.length ≤ i := List.getElem?_eq_none_iff.mp hx
      rw [List.drop_eq_nil_of_le hl] at h
      exact .inl ⟨(rj i H φ (xD.trans x1)).2 hx, h _ H φ .refl st (.ref (x1.at atD))⟩
    | some x =>
      rw [drop_cons hx] at h
      obtain ⟨go, yld⟩ := (rj i H φ (xD.trans x1)).1 x hx
      have hl : i < xs.length := (List.getElem?_eq_some_iff.mp hx).1
      refine .inr ⟨go, fun H => ∃ s φ, Ext F.K (upd H0 D (.lst [])) (φ0 ++ [D]) H φ ∧ St0 F.P F.w F.K H φ s ∧ Pst F.P F.w F.K (Rep F.K) W σ H φ ((E.lcFix (E.lcT g t me own en s0.length) (xs.drop (i + 1)) s).bind fun _ s => .ok (.ref s0.length) s) Q,
        fun H' z => ⟨n - 1, by omega, by omega, z⟩, fun x' H' y => ?_⟩
      obtain ⟨e1, e3, rx⟩ := yld x' H' y
      have h : Pst F.P F.w F.K (Rep F.K) W σ H φ ((E.lcT g t me own en s0.length x s).bind fun _ s => (E.lcFix (E.lcT g t me own en s0.length) (xs.drop (i + 1)) s).bind fun _ s => .ok (.ref s0.length) s) Q := by
        unfold E.lcFix at h
        rw [Res.bind_assoc] at h
        exact h
      refine turn x x' s H' φ _ _ (x1.trans e1) (e3 s st) rx (Pst.mono h e1) fun s2 H2 φ2 x2 st2 q2 => ?_
      exact ⟨s2, φ2, (x1.trans e1).trans x2, st2, q2⟩
  | lst l =>
    obtain ⟨a, ha, rfl⟩ := rj
    have q : Pst F.P F.w F.K (Rep F.K) W σ (upd H0 D (.lst [])) (φ0 ++ [D]) ((E.lcLst (E.lcT g t me own en s0.length) l S.fuel 0 (s0 ++ [MO.lst []])).bind fun _ s => .ok (.ref s0.length) s) Q := Pst.mono q xD
    refine ⟨fun i n H => ∃ s φ, Ext F.K (upd H0 D (.lst [])) (φ0 ++ [D]) H φ ∧ St0 F.P F.w F.K H φ s ∧ Pst F.P F.w F.K (Rep F.K) W σ H φ ((E.lcLst (E.lcT g t me own en s0.length) l n i s).bind fun _ s => .ok (.ref s0.length) s) Q,
      ⟨_, _, _, .refl, stD, q⟩, ?_⟩
    rintro i n H ⟨s, φ, x1, st, h⟩
    cases n with
    | zero => exact h.elim
    | succ n =>
      unfold E.lcLst at h
      cases hx : seqAt s l with
      | none => simp only [hx] at h; exact h.elim
      | some xs =>
        simp only [hx] at h
        obtain ⟨vs, hv, rv⟩ := st.seq hx (x1.at (xD.at ha))
        cases hxi : xs[i]? with
        | none =>
          simp only [hxi] at h
          refine .inl ⟨⟨vs, hv, ?_⟩, h _ H φ .refl st (.ref (x1.at atD))⟩
          rw [← rv.length]
          exact List.getElem?_eq_none_iff.mp hxi
        | some x =>
          simp only [hxi] at h
          obtain ⟨x', hv', rx⟩ := rv.get hxi
          refine .inr ⟨⟨vs, x', hv, hv'⟩, fun H => ∃ s φ, Ext F.K (upd H0 D (.lst [])) (φ0 ++ [D]) H φ ∧ St0 F.P F.w F.K H φ s ∧ Pst F.P F.w F.K (Rep F.K) W σ H φ ((E.lcLst (E.lcT g t me own en s0.length) l n (i + 1) s).bind fun _ s => .ok (.ref s0.length) s) Q,
            fun H' z => ⟨n, Nat.lt_succ_self n, z⟩, ?_⟩
          rintro y H' ⟨rfl, hy⟩
          have e : vs[i]? = some y := hy vs hv
          rw [hv'] at e; cases e
          have h : Pst F.P F.w F.K (Rep F.K) W σ H' φ ((E.lcT g t me own en s0.length x s).bind fun _ s => (E.lcLst (E.lcT g t me own en s0.length) l n (i + 1) s).bind fun _ s => .ok (.ref s0.length) s) Q := by
            rw [Res.bind_assoc] at h
            exact h
          refine turn x x' s H' φ _ _ x1 st rx h fun s2 H2 φ2 x2 st2 q2 => ?_
          exact ⟨s2, φ2, x1.trans x2, st2, q2⟩
theorem re_lc {scope : Scope} {own : List (Str × Nat)} (hc : ∀ i, (F.X i).calm = true) (hN : ∀ i, (F.X i).N.Nodup) (hi : RI F W tg iter src) (ok : ∀ i, BlkOk (F.X i).N (F.X i).env.scope scope own)
    (hg : RGo (F.blk scope) (own.map (·.2)) tg g) (ht : RTs (F.blk scope) Wn ifs t) (he : RE (F.blk scope) Wn elt me) (hs : ∀ i x, foldedSetIterable iter (F.X i).env x = pure x := by intro _ _; rfl) :
    RE F W (.ListComp elt [⟨tg, iter, ifs, 0⟩] scope pos) (E.lc src g t me (own.map (·.2))) := by
  obtain ⟨u, u1, u2⟩ := hi
  obtain ⟨x, x1, x2⟩ := hg
  obtain ⟨y, y1, y2⟩ := ht
  obtain ⟨z, z1, z2⟩ := he
  exact ⟨_, fun i => pe_lc (hc i) (hN i) (u1 i) (ok i) (fun s H C cl fp => x1 (i, s, H, C, cl, fp)) (fun s H C cl fp => y1 (i, s, H, C, cl, fp)) (fun s H C cl fp => z1 (i, s, H, C, cl, fp)) (hs i), lc_sound u2 x2 y2 z2⟩
end
end Br
set_option maxRecDepth 100000
set_option maxHeartbeats 1000000
/-! Operators and built-ins. -/
namespace Br
open PySem L2 Mi

section
variable {P : Program} {w : World} {K : PySem.W.Frag} {H : Hp} {φ : List Addr}
theorem mapM_cons {α β : Type} (f : α → Option β) (x : α) (xs : List α) : (x :: xs).mapM f = (f x).bind fun y => (xs.mapM f).map fun ys => y :: ys := by
  rw [List.mapM_cons]
  cases f x with
  | none => rfl
  | some y => cases xs.mapM f <;> rfl
mutual
theorem pd_dp {s : Sto} (st : St0 P w K H φ s) : ∀ (n : Nat) (x : AV) (v : V) (d : PyData), pd s n x = some d → Rep K H φ x v → Dp K H v d
  | _, .non, _, _, h, .non => by cases (Option.some.inj (by simpa only [pd] using h)); exact .non
  | _, .bl b, _, _, h, .bl _ => by cases (Option.some.inj (by simpa only [pd] using h)); exact .bl b
  | _, .int i, _, _, h, .int _ => by cases (Option.some.inj (by simpa only [pd] using h)); exact .int i
  | _, .str x, _, _, h, .str _ => by cases (Option.some.inj (by simpa only [pd] using h)); exact .str x
  | 0, .tup xs, _, _, h, _ => by simp [pd] at h
  | 0, .ref l, _, _, h, _ => by simp [pd] at h
  | 0, .adr l, _, _, h, _ => by simp [pd] at h
  | 0, .ty l, _, _, h, _ => by simp [pd] at h
  | n + 1, .adr l, _, _, h, _ => by simp [pd] at h
  | n + 1, .ty l, _, _, h, _ => by simp [pd] at h
  | n + 1, .tup xs, _, d, h, .tup hs hr => by
    simp only [pd] at h
    cases hm : xs.mapM (pd s n) with
    | none => rw [hm] at h; cases h
    | some ds =>
      rw [hm] at h
      cases h
      exact .tup hs (pd_dps st n _ _ ds hm hr)
  | n + 1, .ref l, _, d, h, .ref hl => by
    simp only [pd] at h
    cases hq : seqAt s l with
    | none => rw [hq] at h; cases h
    | some xs =>
      rw [hq] at h
      obtain ⟨vs, h1, h2⟩ := st.seq hq hl
      cases hm : xs.mapM (pd s n) with
      | none => simp only [hm] at h; cases h
      | some ds =>
        simp only [hm] at h
        cases h
        exact .lst h1 (pd_dps st n _ _ ds hm h2)
theorem pd_dps {s : Sto} (st : St0 P w K H φ s) : ∀ (n : Nat) (xs : List AV) (vs : List V) (ds : List PyData), xs.mapM (pd s n) = some ds → Reps K H φ xs vs → DpAll K H vs ds
  | _, [], _, _, h, .nil => by cases (Option.some.inj (by simpa using h)); exact .nil
  | n, x :: xs, _, ds, h, .cons r rs => by
    rw [mapM_cons] at h
    cases hx : pd s n x with
    | none => rw [hx] at h; cases h
    | some d =>
      rw [hx] at h
      cases hm : xs.mapM (pd s n) with
      | none => rw [hm] at h; cases h
      | some es =>
        rw [hm] at h
        cases h
        exact .cons (pd_dp st n x _ d hx r) (pd_dps st n xs _ es hm rs)
end
theorem reps_ints : ∀ {xs : List AV} {vs : List V} {ns : List Int}, Reps K H φ xs vs → ints? xs = some ns → vs = ns.map V.int
  | _, _, _, .nil, h => by cases (Option.some.inj (by simpa only [ints?] using h)); rfl
  | _, _, _, .cons (xs := xs) r rs, h => by
    cases r with
    | int i =>
      simp only [ints?] at h
      cases hm : ints? xs with
      | none => rw [hm] at h; cases h
      | some ms =>
        rw [hm] at h
        cases h
        rw [reps_ints rs hm]; rfl
    | _ => simp [ints?] at h
theorem lexLt_eq : ∀ a b : List Int, Mi.lexLt a b = HT.lexLt a b
  | [], [] => rfl
  | [], _ :: _ => rfl
  | _ :: _, [] => rfl
  | x :: xs, y :: ys => by show (if x = y then Mi.lexLt xs ys else _) = (if x = y then HT.lexLt xs ys else _); rw [lexLt_eq xs ys]
theorem lexAt_shift (e r : Nat → Bool) (z : Bool) : ∀ (k i : Nat), Ob.lexAt (fun j => e (j + 1)) (fun j => r (j + 1)) z i k = Ob.lexAt e r z (i + 1) k
  | 0, i => by rw [Ob.lexAt_zero, Ob.lexAt_zero]
  | k + 1, i => by rw [Ob.lexAt_succ, Ob.lexAt_succ, lexAt_shift e r z k (i + 1)]
theorem lexLe_eq : ∀ ns ms : List Int, Ob.lexAt (fun j => decide (ns.getD j 0 = ms.getD j 0)) (fun j => decide (ns.getD j 0 ≤ ms.getD j 0)) (decide (ns.length ≤ ms.length)) 0 (min ns.length ms.length) = Mi.lexLe ns ms
  | [], ms => by simp [Mi.lexLe, Ob.lexAt_zero]
  | n :: ns, [] => by simp [Mi.lexLe, Ob.lexAt_zero]
  | n :: ns, m :: ms => by
    have ih := lexLe_eq ns ms
    have e : min (n :: ns).length (m :: ms).length = min ns.length ms.length + 1 := by simp only [List.length_cons]; omega
    rw [e, Ob.lexAt_succ]
    have sh := lexAt_shift (fun j => decide ((n :: ns).getD j 0 = (m :: ms).getD j 0)) (fun j => decide ((n :: ns).getD j 0 ≤ (m :: ms).getD j 0)) (decide ((n :: ns).length ≤ (m :: ms).length)) (min ns.length ms.length) 0
    rw [← sh]
    have z : decide ((n :: ns).length ≤ (m :: ms).length) = decide (ns.length ≤ ms.length) := by simp
    rw [z]
    show (if decide (n = m) = true then Ob.lexAt (fun j => decide (ns.getD j 0 = ms.getD j 0)) (fun j => decide (ns.getD j 0 ≤ ms.getD j 0)) _ 0 _ else decide (n ≤ m)) = (if n = m then Mi.lexLe ns ms else decide (n ≤ m))
    rw [ih]
    by_cases h : n = m
    · rw [if_pos (decide_eq_true h), if_pos h]
    · rw [if_neg (by simpa using h), if_neg h]
end

section
variable {F : Fam} {W : WX}
theorem orR {f : Value → Value → Sem Value} {r r' : R2} (h : ∀ i, OpR (F.X i) f r) (h' : ∀ i, OpR (F.X i) f r') : ∀ i, OpR (F.X i) f (fun x y H Q => r x y H Q ∨ r' x y H Q) := fun i => (h i).or (h' i)
/-- a new list in the place of its mirror -/
theorem newL {σ : L2.St} {H : Hp} {φ : List Addr} {s : Sto} {xs : List AV} {vs : List V} {Q : VK} (st : St0 F.P F.w F.K H φ s) (r : Reps F.K H φ xs vs)
    (h : Pst F.P F.w F.K (Rep F.K) W σ H φ (.ok (.ref s.length) (s ++ [.lst xs])) Q) : ∀ p, H p = none → Q (.ref p) (upd H p (.lst vs)) := fun p np =>
  h _ _ (φ ++ [p]) (.newRef np) (st.newRef np ⟨vs, upd_same, r.mono (.newRef np)⟩) (.ref (by rw [← st.len]; exact List.getElem?_concat_length))
theorem newT {σ : L2.St} {H : Hp} {φ : List Addr} {s : Sto} {xs : List AV} {vs : List V} {Q : VK} (st : St0 F.P F.w F.K H φ s) (r : Reps F.K H φ xs vs)
    (h : Pst F.P F.w F.K (Rep F.K) W σ H φ (.ok (.tup xs) s) Q) : ∀ p, H p = none → Q (.ref p) (upd H p (.tup vs)) := fun p np =>
  h _ _ φ (.new np) (st.new np) (.tup (SqT.of upd_same) (r.mono (.new np)))
theorem sameV {σ : L2.St} {H : Hp} {φ : List Addr} {s : Sto} {v : AV} {v' : V} {Q : VK} (st : St0 F.P F.w F.K H φ s) (r : Rep F.K H φ v v') (h : Pst F.P F.w F.K (Rep F.K) W σ H φ (.ok v s) Q) : Q v' H := h v' H φ .refl st r
theorem opm_add : OpM F W (binaryOp .Add) addAV := by
  refine ⟨_, orR (fun i => op_add) (orR (fun i => op_add_str) (orR (r := rCatA F.K) (fun i => by have q := op_catA (X := F.X i); rw [F.hK i] at q; exact q) (fun i => op_cat))), fun x y x' y' s σ H φ Q st rx ry h => ?_⟩
  cases rx with
  | int i => cases ry with
    | int j => exact .inl ⟨i, j, rfl, rfl, sameV st (.int _) h⟩
    | _ => exact h.elim
  | str z => cases ry with
    | str u =>
      dsimp only [addAV] at h
      split at h
      · rename_i hz
        exact .inr (.inl ⟨z, u, rfl, rfl, by rw [← line_eq]; exact hz, sameV st (.str _) h⟩)
      · exact h.elim
    | _ => exact h.elim
  | tup hs hr => cases ry with
    | tup ht hq =>
      rename_i a vs xs b us ys
      dsimp only [addAV] at h
      split at h
      · rename_i hz
        refine .inr (.inr (.inl ⟨a, b, vs, us, rfl, rfl, hs, ht, by rw [← hr.length, ← hq.length, ← line_eq]; exact hz, fun e => ?_, fun _ e => ?_, fun _ _ => newT st (hr.append hq) h⟩))
        · subst e; cases hr; exact sameV st (.tup ht hq) h
        · subst e; cases hq; exact sameV st (.tup (by simpa using hs) hr) (by simpa using h)
      · exact h.elim
    | _ => exact h.elim
  | ref hl => cases ry with
    | ref hm =>
      rename_i l a m b
      dsimp only [addAV] at h
      split at h
      · rename_i xs ys hx hy
        obtain ⟨vs, h1, h2⟩ := st.lst hx hl
        obtain ⟨us, g1, g2⟩ := st.lst hy hm
        split at h
        · rename_i hz
          unfold newLst at h
          rw [if_pos (by rw [List.length_append]; exact hz)] at h
          exact .inr (.inr (.inr ⟨a, b, vs, us, rfl, rfl, h1, g1, by rw [← h2.length, ← g2.length, ← line_eq]; exact hz, newL st (h2.append g2) h⟩))
        · exact h.elim
      · exact h.elim
    | _ => exact h.elim
  | non => cases ry <;> exact h.elim
  | bl _ => cases ry <;> exact h.elim
  | adr _ => cases ry <;> exact h.elim
  | ty _ => cases ry <;> exact h.elim
theorem opm_sub : OpM F W (binaryOp .Sub) subAV := by
  refine ⟨_, fun i => op_sub, fun x y x' y' s σ H φ Q st rx ry h => ?_⟩
  cases rx <;> cases ry <;> first | exact h.elim | skip
  exact ⟨_, _, rfl, rfl, sameV st (.int _) h⟩
theorem opm_mul : OpM F W (binaryOp .Mult) mulAV := by
  refine ⟨_, orR (fun i => op_mul) (fun i => op_rep), fun x y x' y' s σ H φ Q st rx ry h => ?_⟩
  cases rx with
  | int i => cases ry with
    | int j =>
      dsimp only [mulAV] at h
      split at h
      · rename_i hz
        refine .inl ⟨i, j, rfl, rfl, ?_, sameV st (.int _) h⟩
        rcases (Bool.or_eq_true _ _).mp hz with z | z
        · exact .inl (of_decide_eq_true z)
        · exact .inr (of_decide_eq_true z)
      · exact h.elim
    | _ => exact h.elim
  | ref hl => cases ry with
    | int k =>
      rename_i l a
      dsimp only [mulAV] at h
      split at h
      · rename_i xs hx
        obtain ⟨vs, h1, h2⟩ := st.lst hx hl
        split at h
        · rename_i hz
          obtain ⟨z1, z2⟩ := Bool.and_eq_true_iff.mp hz
          have z1 := of_decide_eq_true z1
          have z2 := of_decide_eq_true z2
          have e : (repL xs k.toNat).length = xs.length * k.toNat := by unfold repL; rw [List.length_flatten, List.map_replicate, List.sum_replicate_nat, Nat.mul_comm]
          unfold newLst at h
          rw [if_pos (by rw [e]; exact z2)] at h
          exact .inr ⟨a, k, vs, rfl, rfl, h1, z1.1, z1.2, by rw [← h2.length, ← line_eq]; exact z2, newL st (h2.rep _) h⟩
        · exact h.elim
      · exact h.elim
    | _ => exact h.elim
  | _ => exact h.elim
theorem opm_div : OpM F W (binaryOp .FloorDiv) divAV := by
  refine ⟨_, fun i => op_fdiv, fun x y x' y' s σ H φ Q st rx ry h => ?_⟩
  cases rx <;> cases ry <;> first | exact h.elim | skip
  dsimp only [divAV] at h
  split at h
  · rename_i hz
    exact ⟨_, _, rfl, rfl, hz, sameV st (.int _) h⟩
  · exact h.elim
theorem opm_mod : OpM F W (binaryOp .Mod) modAV := by
  refine ⟨_, fun i => op_mod, fun x y x' y' s σ H φ Q st rx ry h => ?_⟩
  cases rx <;> cases ry <;> first | exact h.elim | skip
  dsimp only [modAV] at h
  split at h
  · rename_i hz
    exact ⟨_, _, rfl, rfl, hz, sameV st (.int _) h⟩
  · exact h.elim
theorem opm_pow : OpM F W (binaryOp .Pow) powAV := by
  refine ⟨_, fun i => op_pow, fun x y x' y' s σ H φ Q st rx ry h => ?_⟩
  cases rx <;> cases ry <;> first | exact h.elim | skip
  dsimp only [powAV] at h
  split at h
  · rename_i hz
    exact ⟨_, _, rfl, rfl, hz, sameV st (.int _) h⟩
  · exact h.elim
theorem opm_gt : OpM F W (compareOp .Gt) gtAV := by
  refine ⟨_, fun i => op_gt, fun x y x' y' s σ H φ Q st rx ry h => ?_⟩
  cases rx with
  | int i => cases ry with
    | int j => exact ⟨_, _, rfl, rfl, sameV st (.bl _) h⟩
    | _ => exact h.elim
  | tup _ _ => cases ry with
    | tup _ _ => dsimp only [gtAV, cmpAV] at h; split at h <;> exact h.elim
    | _ => exact h.elim
  | _ => exact h.elim
theorem opm_ge : OpM F W (compareOp .GtE) geAV := by
  refine ⟨_, fun i => op_ge, fun x y x' y' s σ H φ Q st rx ry h => ?_⟩
  cases rx with
  | int i => cases ry with
    | int j => exact ⟨_, _, rfl, rfl, sameV st (.bl _) h⟩
    | _ => exact h.elim
  | tup _ _ => cases ry with
    | tup _ _ => dsimp only [geAV, cmpAV] at h; split at h <;> exact h.elim
    | _ => exact h.elim
  | _ => exact h.elim
theorem opm_lt (hr : ∀ i, Room 0 (F.X i).A) : OpM F W (compareOp .Lt) ltAV := by
  refine ⟨_, orR (fun i => op_lt) (r' := rLtT F.K) (fun i => by have q := op_ltT (X := F.X i) (hr i).units0; rw [F.hK i] at q; exact q), fun x y x' y' s σ H φ Q st rx ry h => ?_⟩
  cases rx with
  | int i => cases ry with
    | int j => exact .inl ⟨_, _, rfl, rfl, sameV st (.bl _) h⟩
    | _ => exact h.elim
  | tup hs hq => cases ry with
    | tup ht hu =>
      rename_i a vs xs b us ys
      dsimp only [ltAV, cmpAV] at h
      split at h
      · rename_i ns ms h1 h2
        have e1 := reps_ints hq h1
        have e2 := reps_ints hu h2
        subst e1 e2
        rw [lexLt_eq] at h
        exact .inr ⟨a, b, ns, ms, rfl, rfl, hs, ht, sameV st (.bl _) h⟩
      · exact h.elim
    | _ => exact h.elim
  | _ => exact h.elim
theorem opm_le (hr : ∀ i, Room 0 (F.X i).A) : OpM F W (compareOp .LtE) leAV := by
  refine ⟨_, orR (fun i => op_le) (r' := rLeT F.K) (fun i => by have q := op_leT (X := F.X i) (hr i).units0; rw [F.hK i] at q; exact q), fun x y x' y' s σ H φ Q st rx ry h => ?_⟩
  cases rx with
  | int i => cases ry with
    | int j => exact .inl ⟨_, _, rfl, rfl, sameV st (.bl _) h⟩
    | _ => exact h.elim
  | tup hs hq => cases ry with
    | tup ht hu =>
      rename_i a vs xs b us ys
      dsimp only [leAV, cmpAV] at h
      split at h
      · rename_i ns ms h1 h2
        have e1 := reps_ints hq h1
        have e2 := reps_ints hu h2
        subst e1 e2
        refine .inr ⟨a, b, ns, ms, rfl, rfl, hs, ht, ?_⟩
        rw [lexLe_eq]
        exact sameV st (.bl _) h
      · exact h.elim
    | _ => exact h.elim
  | _ => exact h.elim
theorem opm_eq (hr : ∀ i, Room 0 (F.X i).A) : OpM F W (compareOp .Eq) (eqAV false) := by
  refine ⟨rEqD F.K, fun i => by have q := op_eqD (X := F.X i) (hr i).units; rw [F.hK i] at q; exact q, fun x y x' y' s σ H φ Q st rx ry h => ?_⟩
  unfold eqAV at h
  split at h
  · rename_i d e h1 h2
    split at h
    · rename_i hz
      obtain ⟨z1, z2⟩ := Bool.and_eq_true_iff.mp hz
      refine ⟨d, e, pd_dp st _ _ _ _ h1 rx, pd_dp st _ _ _ _ h2 ry, z1, z2, ?_⟩
      have q := sameV st (.bl _) h
      simpa using q
    · exact h.elim
  · exact h.elim
theorem opm_ne (hr : ∀ i, Room 0 (F.X i).A) : OpM F W (compareOp .NotEq) (eqAV true) := by
  refine ⟨rNeD F.K, fun i => by have q := op_neD (X := F.X i) (hr i).units; rw [F.hK i] at q; exact q, fun x y x' y' s σ H φ Q st rx ry h => ?_⟩
  unfold eqAV at h
  split at h
  · rename_i d e h1 h2
    split at h
    · rename_i hz
      obtain ⟨z1, z2⟩ := Bool.and_eq_true_iff.mp hz
      refine ⟨d, e, pd_dp st _ _ _ _ h1 rx, pd_dp st _ _ _ _ h2 ry, z1, z2, ?_⟩
      have q := sameV st (.bl _) h
      simpa using q
    · exact h.elim
  · exact h.elim
theorem rep_non {H : Hp} {φ : List Addr} {x : AV} {v : V} (r : Rep F.K H φ x v) : decide (v = .non) = decide (x = .non) := by
  cases r <;> first | rfl | simp
theorem opm_is : OpM F W (compareOp .Is) (isAV false) := by
  refine ⟨_, orR (fun i => op_isN) (fun i => op_isBl), fun x y x' y' s σ H φ Q st rx ry h => ?_⟩
  cases ry with
  | non =>
    refine .inl ⟨rfl, ?_⟩
    rw [rep_non rx]
    have q := sameV st (.bl _) h
    simpa using q
  | bl c => cases rx with
    | bl d =>
      have q := sameV st (.bl _) h
      exact .inr ⟨d, c, rfl, rfl, by simpa using q⟩
    | _ => exact h.elim
  | _ => exact h.elim
theorem opm_isnot : OpM F W (compareOp .IsNot) (isAV true) := by
  refine ⟨_, orR (fun i => op_notN) (fun i => op_notBl), fun x y x' y' s σ H φ Q st rx ry h => ?_⟩
  cases ry with
  | non =>
    refine .inl ⟨rfl, ?_⟩
    rw [rep_non rx]
    have q := sameV st (.bl _) h
    simpa using q
  | bl c => cases rx with
    | bl d =>
      have q := sameV st (.bl _) h
      exact .inr ⟨d, c, rfl, rfl, by simpa using q⟩
    | _ => exact h.elim
  | _ => exact h.elim
theorem flat_eq {H : Hp} {φ : List Addr} {x : AV} {v : V} (r : Rep F.K H φ x v) : flatV v = flat x := by cases r <;> rfl
theorem flats_eq {H : Hp} {φ : List Addr} : ∀ {xs : List AV} {vs : List V}, Reps F.K H φ xs vs → vs.all flatV = xs.all flat
  | _, _, .nil => rfl
  | _, _, .cons r rs => by rw [List.all_cons, List.all_cons, flat_eq r, flats_eq rs]
theorem eqF_eq {H : Hp} {φ : List Addr} {x y : AV} {v u : V} (r : Rep F.K H φ x v) (q : Rep F.K H φ y u) (fx : flat x = true) (fy : flat y = true) : eqV v u = eqF x y := by
  cases r <;> cases q <;> first | rfl | cases fx | cases fy
theorem inV_eq {H : Hp} {φ : List Addr} {x : AV} {v : V} (r : Rep F.K H φ x v) (fx : flat x = true) : ∀ {xs : List AV} {vs : List V}, Reps F.K H φ xs vs → xs.all flat = true → (vs.any fun y => eqV y v) = xs.any fun y => eqF y x
  | _, _, .nil, _ => rfl
  | _, _, .cons q rs, f => by
    rw [List.all_cons, Bool.and_eq_true] at f
    rw [List.any_cons, List.any_cons, eqF_eq q r f.1 fx, inV_eq r fx rs f.2]
theorem items_of {H : Hp} {φ : List Addr} {s : Sto} {y : AV} {v : V} {xs : List AV} (st : St0 F.P F.w F.K H φ s) (r : Rep F.K H φ y v) (h : items? s y = some xs) : ∃ p vs, v = .ref p ∧ Reps F.K H φ xs vs ∧ (SqL F.K H p vs ∨ SqT F.K H p vs) := by
  cases r with
  | tup hs hr => cases h; exact ⟨_, _, rfl, hr, .inr hs⟩
  | ref hl =>
    obtain ⟨vs, h1, h2⟩ := st.seq h hl
    exact ⟨_, vs, rfl, h2, .inl h1⟩
  | _ => cases h
theorem opm_in : OpM F W (compareOp .In) (inAV false) := by
  refine ⟨rIn F.K false, fun i => by have q := op_in_seq (X := F.X i); rw [F.hK i] at q; exact q, fun x y x' y' s σ H φ Q st rx ry h => ?_⟩
  unfold inAV at h
  split at h
  · rename_i xs hx
    split at h
    · rename_i hz
      obtain ⟨z1, z2⟩ := Bool.and_eq_true_iff.mp hz
      obtain ⟨p, vs, rfl, hr, hs⟩ := items_of st ry hx
      refine ⟨p, vs, rfl, hs, by rw [flat_eq rx]; exact z1, by rw [flats_eq hr]; exact z2, ?_⟩
      unfold inV
      rw [inV_eq rx z1 hr z2]
      have q := sameV st (.bl _) h
      simpa using q
    · exact h.elim
  · exact h.elim
theorem opm_notin : OpM F W (compareOp .NotIn) (inAV true) := by
  refine ⟨rIn F.K true, fun i => by have q := op_notIn_seq (X := F.X i); rw [F.hK i] at q; exact q, fun x y x' y' s σ H φ Q st rx ry h => ?_⟩
  unfold inAV at h
  split at h
  · rename_i xs hx
    split at h
    · rename_i hz
      obtain ⟨z1, z2⟩ := Bool.and_eq_true_iff.mp hz
      obtain ⟨p, vs, rfl, hr, hs⟩ := items_of st ry hx
      refine ⟨p, vs, rfl, hs, by rw [flat_eq rx]; exact z1, by rw [flats_eq hr]; exact z2, ?_⟩
      unfold inV
      rw [inV_eq rx z1 hr z2]
      have q := sameV st (.bl _) h
      simpa using q
    · exact h.elim
  · exact h.elim
/-! items, slices -/
variable {a b e o : Expr} {es : List Expr} {ma mb : ME} {mr : MA} {pos : Pos}
theorem re_ix (ha : RE F W a ma) (hb : RE F W b mb) (hs : PlainIx b := by exact fun _ _ => rfl) : RE F W (.Subscript a b pos) (E.op ixAV ma mb) := by
  obtain ⟨t, a1, a2⟩ := ha
  obtain ⟨u, b1, b2⟩ := hb
  refine ⟨tOp (fun x y H Q => rIxL F.K x y H Q ∨ rIxT F.K x y H Q) t u, fun i => by have q := pe_ix (pos := pos) (ix_list.or ix_tup) (a1 i) (b1 i) hs; rw [F.hK i] at q; exact q, two a2 b2 fun x y x' y' s σ H φ Q st rx ry h => ?_⟩
  unfold ixAV at h
  cases ry with
  | int k =>
    dsimp only at h
    cases hx : items? s x with
    | none => simp only [hx] at h; exact h.elim
    | some xs =>
      simp only [hx] at h
      obtain ⟨p, vs, rfl, hr, hs⟩ := items_of st rx hx
      cases hn : Mi.ixN xs.length k with
      | none => simp only [hn, Option.bind_none] at h; exact h.elim
      | some j =>
        simp only [hn, Option.bind_some] at h
        cases hv : xs[j]? with
        | none => simp only [hv] at h; exact h.elim
        | some v =>
          simp only [hv] at h
          obtain ⟨v', h1, h2⟩ := hr.get hv
          have hat : atI vs k = some v' := by
            unfold atI
            rw [← hr.length, ← ixN_eq, hn, Option.bind_some, h1]
          rcases hs with hs | hs
          · exact .inl ⟨p, vs, k, v', rfl, rfl, hs, hat, sameV st h2 h⟩
          · exact .inr ⟨p, vs, k, v', rfl, rfl, hs, hat, sameV st h2 h⟩
  | _ => exact h.elim
theorem sIx_eq (n d : Nat) (o : Option Int) : Mi.sIx n d o = HT.sIx n d o := by cases o <;> rfl
theorem cut_rep {H : Hp} {φ : List Addr} {xs : List AV} {vs : List V} (r : Reps F.K H φ xs vs) (lo hi : Option Int) : Reps F.K H φ (Mi.cut xs lo hi) (cutV vs lo hi) := by
  unfold Mi.cut cutV
  rw [sIx_eq, sIx_eq, ← r.length]
  exact (r.drop _).take _
def rSlU (K : PySem.W.Frag) : V → Option Int → Option Int → Hp → VK → Prop := fun x lo hi H Q => rSlL K x lo hi H Q ∨ rSlA K x lo hi H Q
theorem slice_ok {x : AV} {x' : V} {lo hi : Option Int} {s : Sto} {σ : L2.St} {H : Hp} {φ : List Addr} {Q : VK} (st : St0 F.P F.w F.K H φ s) (rx : Rep F.K H φ x x') (h : Pst F.P F.w F.K (Rep F.K) W σ H φ (sliceAV x lo hi s) Q) : rSlU F.K x' lo hi H Q := by
  cases rx with
  | tup hs hr =>
    rename_i a vs xs
    refine .inr ⟨a, vs, rfl, hs, fun e => ?_, fun _ => newT st (cut_rep hr lo hi) h⟩
    have e1 : cutV vs lo hi = vs := by unfold cutV; rw [e.1, e.2]; simp
    have r2 := cut_rep hr lo hi
    rw [e1] at r2
    exact sameV st (.tup hs r2) h
  | ref hl =>
    rename_i l a
    dsimp only [sliceAV] at h
    cases hx : seqAt s l with
    | none => simp only [hx] at h; exact h.elim
    | some xs =>
      simp only [hx] at h
      obtain ⟨vs, h1, h2⟩ := st.seq hx hl
      exact .inl ⟨a, vs, rfl, h1, newL st (cut_rep h2 lo hi) h⟩
  | _ => exact h.elim
theorem slU (i : F.ι) : SlR (F.X i) (rSlU F.K) := by
  have q := (sl_list (X := F.X i)).or (sl_tupA (X := F.X i))
  rw [F.hK i] at q
  exact q
theorem re_slice00 {p2 : Pos} (ha : RE F W a ma) : RE F W (.Subscript a (.Slice none none none p2) pos) (E.slice ma none none) := by
  obtain ⟨t, a1, a2⟩ := ha
  refine ⟨_, fun i => pe_slice (slU i) (a1 i) po_none po_none, fun en s σ H φ Q re st h => ?_⟩
  exact a2 en s σ H φ _ re st (Pst.bind_of h fun v s1 v' H1 φ1 x1 st1 r1 q => slice_ok st1 r1 q)
theorem part_of {P : Program} {w : World} {K : PySem.W.Frag} {H : Hp} {φ : List Addr} {σ : L2.St} {k : Option Int → Sto → Res AV} {en : En} {s : Sto} {Q : VK} {Q' : VK} (h : Pst P w K (Rep K) W σ H φ (E.part ma k en s) Q)
    (c : ∀ i s1 H1 φ1, Ext K H φ H1 φ1 → St0 P w K H1 φ1 s1 → Pst P w K (Rep K) W σ H1 φ1 (k (some i) s1) Q → Q' (.int i) H1) : Pst P w K (Rep K) W σ H φ (ma en s) Q' := by
  refine Pst.bind_of h fun v s1 v' H1 φ1 x1 st1 r1 q => ?_
  cases r1 with
  | int i => exact c i s1 H1 φ1 x1 st1 q
  | _ => exact q.elim
theorem re_slice10 {p2 : Pos} (ha : RE F W a ma) (hb : RE F W b mb) : RE F W (.Subscript a (.Slice (some b) none none p2) pos) (E.slice ma (some mb) none) := by
  obtain ⟨t, a1, a2⟩ := ha
  obtain ⟨u, b1, b2⟩ := hb
  refine ⟨_, fun i => pe_slice (slU i) (a1 i) (po_some (b1 i)) po_none, fun en s σ H φ Q re st h => ?_⟩
  refine a2 en s σ H φ _ re st (Pst.bind_of h fun v s1 v' H1 φ1 x1 st1 r1 q => ?_)
  refine b2 en s1 σ H1 φ1 _ (re.mono x1) st1 (part_of q fun i s2 H2 φ2 x2 st2 q2 => ?_)
  exact ⟨i, rfl, slice_ok st2 (r1.mono x2) q2⟩
theorem re_slice01 {p2 : Pos} (ha : RE F W a ma) (hb : RE F W b mb) : RE F W (.Subscript a (.Slice none (some b) none p2) pos) (E.slice ma none (some mb)) := by
  obtain ⟨t, a1, a2⟩ := ha
  obtain ⟨u, b1, b2⟩ := hb
  refine ⟨_, fun i => pe_slice (slU i) (a1 i) po_none (po_some (b1 i)), fun en s σ H φ Q re st h => ?_⟩
  refine a2 en s σ H φ _ re st (Pst.bind_of h fun v s1 v' H1 φ1 x1 st1 r1 q => ?_)
  refine b2 en s1 σ H1 φ1 _ (re.mono x1) st1 (part_of q fun i s2 H2 φ2 x2 st2 q2 => ?_)
  exact ⟨i, rfl, slice_ok st2 (r1.mono x2) q2⟩
theorem re_slice11 {p2 : Pos} {c : Expr} {mc : ME} (ha : RE F W a ma) (hb : RE F W b mb) (hc : RE F W c mc) : RE F W (.Subscript a (.Slice (some b) (some c) none p2) pos) (E.slice ma (some mb) (some mc)) := by
  obtain ⟨t, a1, a2⟩ := ha
  obtain ⟨u, b1, b2⟩ := hb
  obtain ⟨z, c1, c2⟩ := hc
  refine ⟨_, fun i => pe_slice (slU i) (a1 i) (po_some (b1 i)) (po_some (c1 i)), fun en s σ H φ Q re st h => ?_⟩
  refine a2 en s σ H φ _ re st (Pst.bind_of h fun v s1 v' H1 φ1 x1 st1 r1 q => ?_)
  refine b2 en s1 σ H1 φ1 _ (re.mono x1) st1 (part_of q fun i s2 H2 φ2 x2 st2 q2 => ?_)
  refine ⟨i, rfl, c2 en s2 σ H2 φ2 _ ((re.mono x1).mono x2) st2 (part_of q2 fun j s3 H3 φ3 x3 st3 q3 => ?_)⟩
  exact ⟨j, rfl, slice_ok st3 ((r1.mono x2).mono x3) q3⟩
end
end Br
set_option maxRecDepth 100000
set_option maxHeartbeats 1000000
/-! Calls: built-ins, methods of lists, defs. -/
namespace Br
open PySem L2 Mi PySem.Spec PyProof.Rows

section
variable {F : Fam} {W : WX} {a b e o : Expr} {es : List Expr} {ma mb mo : ME} {mr : MA} {pos p : Pos} {x : Str} {id T : String}
/-- a call by values refines a mirror -/
def CallM (F : Fam) (W : WX) (f : Value) (g : MF) : Prop := ∃ r : List V → Hp → VK → Prop, (∀ i, CallR (F.X i) f r) ∧ ∀ xs vs s σ H φ Q, St0 F.P F.w F.K H φ s → Reps F.K H φ xs vs → Pst F.P F.w F.K (Rep F.K) W σ H φ (g xs s) Q → r vs H Q
theorem re_callB {g : MF} (hc : CallM F W (.builtin id) g) (hg : ∀ i, Gl (F.X i) x) (hm : F.mg x = none) (hv : bootBuiltins x = some (.builtin id)) (ha : RA F W (e :: es) mr) (hn : x ≠ "__name__" := by decide) (hdb : (x == ("__debug__" : Str)) = false := by decide)
    (he : ∀ i, starEach (e :: es) (F.X i).env = (false, eval e (F.X i).env) :: starEach es (F.X i).env := by intro _; rfl) (hpl : ∀ i, (backTo pos (starEach es (F.X i).env)).any (·.1) = false := by intro _; rfl) : RE F W (.Call (.Name x p) (e :: es) [] pos) (E.call g mr) := by
  obtain ⟨r, h1, h2⟩ := hc
  obtain ⟨t, a1, a2⟩ := ha
  refine ⟨_, fun i => pe_callB (h1 i) (hg i) (by rw [F.hmg i]; exact hm) hv (a1 i) hn hdb (he i) (hpl i), fun en s σ H φ Q re st h => ?_⟩
  exact a2 en s σ H φ _ re st (Pst.bind_of h fun v s1 v' H1 φ1 x1 st1 r1 q => h2 v v' s1 σ H1 φ1 Q st1 r1 q)
theorem re_callTy {g : MF} (hc : CallM F W (.type T) g) (hg : ∀ i, Gl (F.X i) x) (hm : F.mg x = none) (hv : bootBuiltins x = some (.type T)) (ha : RA F W (e :: es) mr) (hn : x ≠ "__name__" := by decide) (hdb : (x == ("__debug__" : Str)) = false := by decide)
    (he : ∀ i, starEach (e :: es) (F.X i).env = (false, eval e (F.X i).env) :: starEach es (F.X i).env := by intro _; rfl) (hpl : ∀ i, (backTo pos (starEach es (F.X i).env)).any (·.1) = false := by intro _; rfl) : RE F W (.Call (.Name x p) (e :: es) [] pos) (E.call g mr) := by
  obtain ⟨r, h1, h2⟩ := hc
  obtain ⟨t, a1, a2⟩ := ha
  refine ⟨_, fun i => pe_callTy (h1 i) (hg i) (by rw [F.hmg i]; exact hm) hv (a1 i) hn hdb (he i) (hpl i), fun en s σ H φ Q re st h => ?_⟩
  exact a2 en s σ H φ _ re st (Pst.bind_of h fun v s1 v' H1 φ1 x1 st1 r1 q => h2 v v' s1 σ H1 φ1 Q st1 r1 q)
theorem reps1 {H : Hp} {φ : List Addr} {x : AV} {vs : List V} (r : Reps F.K H φ [x] vs) : ∃ v, vs = [v] ∧ Rep F.K H φ x v := by
  cases r with
  | cons r rs => cases rs; exact ⟨_, rfl, r⟩
theorem reps2 {H : Hp} {φ : List Addr} {x y : AV} {vs : List V} (r : Reps F.K H φ [x, y] vs) : ∃ v u, vs = [v, u] ∧ Rep F.K H φ x v ∧ Rep F.K H φ y u := by
  cases r with
  | cons r rs =>
    obtain ⟨u, rfl, q⟩ := reps1 rs
    exact ⟨_, u, rfl, r, q⟩
theorem cm_len : CallM F W (.builtin "len") B.len := by
  refine ⟨fun xs H Q => (∃ p ys, xs = [.ref p] ∧ (SqL F.K H p ys ∨ SqT F.K H p ys) ∧ Q (.int ys.length) H) ∨ ∃ z, xs = [.str z] ∧ z.length ≤ sizeLine ∧ Q (.int z.length) H, fun i => by have q := (call_len_seq (X := F.X i)).or call_len_str; rw [F.hK i] at q; exact q, fun xs vs s σ H φ Q st r h => ?_⟩
  unfold B.len at h
  split at h
  · obtain ⟨v, rfl, rv⟩ := reps1 r
    cases rv
    split at h
    · rename_i hz
      exact .inr ⟨_, rfl, by rw [← line_eq]; exact hz, sameV st (.int _) h⟩
    · exact h.elim
  · obtain ⟨v, rfl, rv⟩ := reps1 r
    cases rv with
    | ref hl =>
      have key : ∀ ys, seqAt s _ = some ys → Pst F.P F.w F.K (Rep F.K) W σ H φ (.ok (.int ys.length) s) Q → ∃ p zs, [V.ref _] = [.ref p] ∧ (SqL F.K H p zs ∨ SqT F.K H p zs) ∧ Q (.int zs.length) H := fun ys hy h => by
        obtain ⟨us, h1, h2⟩ := st.seq hy hl
        exact ⟨_, us, rfl, .inl h1, by rw [← h2.length]; exact sameV st (.int _) h⟩
      split at h
      · rename_i ys hy
        exact .inl (key ys (by unfold seqAt; rw [hy]) h)
      · rename_i ys hy
        exact .inl (key ys (by unfold seqAt; rw [hy]) h)
      · exact h.elim
  · obtain ⟨v, rfl, rv⟩ := reps1 r
    cases rv with
    | tup hs hr => exact .inl ⟨_, _, rfl, .inr hs, by rw [← hr.length]; exact sameV st (.int _) h⟩
  · exact h.elim
theorem kit_ii : kitB "int" "int" = some true := by decide +kernel
theorem ty_of {H : Hp} {φ : List Addr} {s : Sto} {x : AV} {v : V} {k : String} (st : St0 F.P F.w F.K H φ s) (r : Rep F.K H φ x v) (h : B.kind s x = some k) : TyX F.K H v (.type k) ∧ (k = "NoneType" ∨ k = "bool" ∨ k = "int" ∨ k = "str" ∨ k = "tuple" ∨ k = "list") := by
  cases r with
  | non => cases h; exact ⟨.base .non, by simp⟩
  | bl b => cases h; exact ⟨.base (.bl b), by simp⟩
  | int i => cases h; exact ⟨.base (.int i), by simp⟩
  | str z => cases h; exact ⟨.base (.str z), by simp⟩
  | tup hs hr =>
    cases h
    refine ⟨?_, by simp⟩
    rcases hs with (hs | ⟨ob, hs⟩) | ⟨ob, _, _, h1, h2, _⟩
    · exact .base (.tup hs)
    · exact .fTuple hs
    · exact .kTuple h1 h2
  | ref hl =>
    rename_i l a
    unfold B.kind at h
    dsimp only at h
    cases hs : s[l]? with
    | none => simp only [hs] at h; cases h
    | some ob =>
      cases ob with
      | lst xs =>
        simp only [hs] at h
        cases h
        obtain ⟨vs, h1, h2⟩ := st.lst hs hl
        exact ⟨.base (.lst h1), by simp⟩
      | _ => simp only [hs] at h; cases h
  | _ => cases h
theorem kits (k t : String) (hk : k = "NoneType" ∨ k = "bool" ∨ k = "int" ∨ k = "str" ∨ k = "tuple" ∨ k = "list") (ht : t = "int" ∨ t = "bool" ∨ t = "tuple" ∨ t = "str") : kitB k t = some (decide (k = t) || (decide (k = "bool") && decide (t = "int"))) := by
  rcases hk with rfl | rfl | rfl | rfl | rfl | rfl <;> rcases ht with rfl | rfl | rfl | rfl <;> decide +kernel
theorem cm_isa : CallM F W (.builtin "isinstance") B.isa := by
  refine ⟨rIsi F.K, fun i => by have q := call_isi (X := F.X i); rw [F.hK i] at q; exact q, fun xs vs s σ H φ Q st r h => ?_⟩
  unfold B.isa at h
  split at h
  · rename_i x t
    obtain ⟨v, u, rfl, rv, ru⟩ := reps2 r
    cases ru
    split at h
    · rename_i ht
      cases hk : B.kind s x with
      | none => simp only [hk] at h; exact h.elim
      | some k =>
        simp only [hk] at h
        obtain ⟨ty, hk'⟩ := ty_of st rv hk
        exact ⟨v, .ty t, .type k, .type t, _, rfl, .ty t, ty, kit_ty (kits k t hk' ht), sameV st (.bl _) h⟩
    · exact h.elim
  · exact h.elim
theorem cm_int : CallM F W (.type "int") B.int_ := by
  refine ⟨_, fun i => call_int1, fun xs vs s σ H φ Q st r h => ?_⟩
  unfold B.int_ at h
  split at h
  · obtain ⟨v, rfl, rv⟩ := reps1 r
    cases rv
    exact .inl ⟨_, rfl, sameV st (.int _) h⟩
  · obtain ⟨v, rfl, rv⟩ := reps1 r
    cases rv
    exact .inr ⟨_, rfl, sameV st (.int _) h⟩
  · exact h.elim
theorem cm_list : CallM F W (.type "list") B.list_ := by
  refine ⟨fun xs H Q => ∃ p ys, xs = [.ref p] ∧ (SqL F.K H p ys ∨ SqT F.K H p ys) ∧ ∀ l, H l = none → Q (.ref l) (upd H l (.lst ys)), fun i => by have q := call_list_of (X := F.X i); rw [F.hK i] at q; exact q, fun xs vs s σ H φ Q st r h => ?_⟩
  unfold B.list_ at h
  split at h
  · obtain ⟨v, rfl, rv⟩ := reps1 r
    split at h
    · rename_i xs hx
      obtain ⟨p, us, rfl, hr, hs⟩ := items_of st rv hx
      exact ⟨p, us, rfl, hs, newL st hr h⟩
    · exact h.elim
  · exact h.elim
theorem cm_tuple : CallM F W (.type "tuple") B.tuple_ := by
  refine ⟨fun xs H Q => ∃ p ys, xs = [.ref p] ∧ ((SqL F.K H p ys ∧ ∀ l, H l = none → Q (.ref l) (upd H l (.tup ys))) ∨ (SqT F.K H p ys ∧ Q (.ref p) H)), fun i => by have q := call_tuple_of (X := F.X i); rw [F.hK i] at q; exact q, fun xs vs s σ H φ Q st r h => ?_⟩
  unfold B.tuple_ at h
  split at h
  · obtain ⟨v, rfl, rv⟩ := reps1 r
    split at h
    · rename_i xs hx
      cases rv with
      | tup hs hr =>
        cases hx
        exact ⟨_, _, rfl, .inr ⟨hs, sameV st (.tup hs hr) h⟩⟩
      | ref hl =>
        obtain ⟨us, h1, h2⟩ := st.seq hx hl
        exact ⟨_, us, rfl, .inl ⟨h1, newT st h2 h⟩⟩
      | _ => cases hx
    · exact h.elim
  · exact h.elim
theorem cm_min2 (hc : ∀ i, (F.X i).calm = true) : CallM F W (.builtin "min") B.min2 := by
  refine ⟨_, fun i => call_min2 (hc i), fun xs vs s σ H φ Q st r h => ?_⟩
  unfold B.min2 at h
  split at h
  · obtain ⟨v, u, rfl, rv, ru⟩ := reps2 r
    cases rv; cases ru
    exact ⟨_, _, rfl, sameV st (.int _) h⟩
  · exact h.elim
theorem cm_max2 (hc : ∀ i, (F.X i).calm = true) : CallM F W (.builtin "max") B.max2 := by
  refine ⟨_, fun i => call_max2 (hc i), fun xs vs s σ H φ Q st r h => ?_⟩
  unfold B.max2 at h
  split at h
  · obtain ⟨v, u, rfl, rv, ru⟩ := reps2 r
    cases rv; cases ru
    exact ⟨_, _, rfl, sameV st (.int _) h⟩
  · exact h.elim
/-- a method of a built-in type, by values -/
def MethM (F : Fam) (W : WX) (T id : String) (g : AV → MF) : Prop := ∃ r : V → List V → Hp → VK → Prop, (∀ i, MtR (F.X i) id r) ∧ ∀ x v xs vs s s0 σ H H0 φ φ0 Q, St0 F.P F.w F.K H0 φ0 s0 → Rep F.K H0 φ0 x v → Ext F.K H0 φ0 H φ → St0 F.P F.w F.K H φ s → Reps F.K H φ xs vs → Pst F.P F.w F.K (Rep F.K) W σ H φ (g x xs s) Q → r v vs H Q
theorem tyV_lst {H : Hp} {φ : List Addr} {s : Sto} {x : AV} {v : V} (st : St0 F.P F.w F.K H φ s) (r : Rep F.K H φ x v) (h : Mi.isLst s x = true) : tyV F.K "list" v H := by
  unfold Mi.isLst at h
  split at h
  · rename_i l
    split at h
    · rename_i xs hx
      cases r with
      | ref hl =>
        obtain ⟨vs, h1, h2⟩ := st.lst hx hl
        exact .inl ⟨rfl, vs, SqL.of h1⟩
    · cases h
  · cases h
theorem re_lm0 {g : AV → MF} {name : Str} {apos : Pos} (pa : PlainAttrs "list") (slot : Slot "list" name id) (hty : typeOf (.builtin id) = pure (.type "method_descriptor")) (hm : MethM F W "list" id g) (ho : RE F W o mo)
    (hbase : ∀ i, attributeBase o name (F.X i).env (eval o (F.X i).env) = eval o (F.X i).env := by intro _; rfl) (hline : (apos.endLine == pos.line) = true := by rfl) : RE F W (.Call (.Attribute o name apos) [] [] pos) (E.lmeth g mo E.nil) := by
  obtain ⟨r, h1, h2⟩ := hm
  obtain ⟨t, a1, a2⟩ := ho
  refine ⟨tBM0 F.K "list" r t, fun i => by have q := pe_bm0 (cpos := pos) (apos := apos) pa slot hty (h1 i) (a1 i) (hbase i) hline; rw [F.hK i] at q; exact q, fun en s σ H φ Q re st h => ?_⟩
  refine a2 en s σ H φ _ re st (Pst.bind_of h fun v s1 v' H1 φ1 x1 st1 r1 q => ?_)
  split at q
  · rename_i hz
    exact ⟨tyV_lst st1 r1 hz, h2 v v' [] [] s1 s1 σ H1 H1 φ1 φ1 Q st1 r1 .refl st1 .nil q⟩
  · exact q.elim
theorem re_lm {g : AV → MF} {name : Str} {apos : Pos} (pa : PlainAttrs "list") (slot : Slot "list" name id) (hty : typeOf (.builtin id) = pure (.type "method_descriptor")) (hm : MethM F W "list" id g) (ho : RE F W o mo) (ha : RA F W (e :: es) mr)
    (hbase : ∀ i, attributeBase o name (F.X i).env (eval o (F.X i).env) = eval o (F.X i).env := by intro _; rfl)
    (hfew : ∀ i, ((backTo pos (starEach (e :: es) (F.X i).env)).all (fun x => !x.1) && (backToKw pos (keywordEach [] (F.X i).env)).all (fun x => x.1.isSome)
      && decide ((e :: es).length + ([] : List Keyword).length + (if ([] : List Keyword).isEmpty then 0 else 1) < 30)) = true := by intro _; rfl)
    (hline : (apos.endLine == pos.line) = true := by rfl) (hs : ∀ i, starEach (e :: es) (F.X i).env = (false, eval e (F.X i).env) :: starEach es (F.X i).env := by intro _; rfl) (hplain : ∀ i, (backTo pos (starEach es (F.X i).env)).any (·.1) = false := by intro _; rfl) :
    RE F W (.Call (.Attribute o name apos) (e :: es) [] pos) (E.lmeth g mo mr) := by
  obtain ⟨r, h1, h2⟩ := hm
  obtain ⟨t, a1, a2⟩ := ho
  obtain ⟨u, b1, b2⟩ := ha
  refine ⟨tBM F.K "list" r t u, fun i => by have q := pe_bm (cpos := pos) (apos := apos) pa slot hty (h1 i) (a1 i) (b1 i) (hbase i) (hfew i) hline (hs i) (hplain i); rw [F.hK i] at q; exact q, fun en s σ H φ Q re st h => ?_⟩
  refine a2 en s σ H φ _ re st (Pst.bind_of h fun v s1 v' H1 φ1 x1 st1 r1 q => ?_)
  split at q
  · rename_i hz
    refine ⟨tyV_lst st1 r1 hz, b2 en s1 σ H1 φ1 _ (re.mono x1) st1 (Pst.bind_of q fun w s2 w' H2 φ2 x2 st2 r2 q2 => ?_)⟩
    exact h2 v v' w w' s2 s1 σ H2 H1 φ2 φ1 Q st1 r1 x2 st2 r2 q2
  · exact q.elim
theorem mm_append : MethM F W "list" "list.append" B.append := by
  refine ⟨rAppend, fun i => mt_append, fun x v xs vs s s0 σ H H0 φ φ0 Q st0 rx ex st r h => ?_⟩
  unfold B.append at h
  split at h
  · rename_i l y
    obtain ⟨u, rfl, ru⟩ := reps1 r
    cases rx with
    | ref hl =>
      split at h
      · rename_i ys hy
        obtain ⟨us, h1, h2⟩ := st.lst hy (ex.at hl)
        split at h
        · rename_i hz
          refine ⟨_, us, u, rfl, rfl, h1, by rw [← h2.length, ← line_eq]; exact hz, ?_⟩
          exact h _ _ φ (.lst h1) (st.set (u := .lst (ys ++ [y])) hy rfl (ex.at hl) (.lst h1) ⟨_, upd_same, (h2.append (.cons ru .nil)).mono (.lst h1)⟩) .non
        · exact h.elim
      · exact h.elim
  · exact h.elim
theorem seqIx {n : Nat} {i : Int} {k : Nat} (h : Mi.ixN n i = some k) : seqIndex? i n = some k := (ixN_seq (by rw [← ixN_eq]; exact h)).1
theorem mm_pop : MethM F W "list" "list.pop" B.pop := by
  refine ⟨_, fun i => MtR.or (r := rPop) (r' := rPopAt) mt_pop mt_popAt, fun x v xs vs s s0 σ H H0 φ φ0 Q st0 rx ex st r h => ?_⟩
  unfold B.pop at h
  split at h
  · rename_i l
    cases rx with
    | ref hl =>
      split at h
      · rename_i ys hy
        obtain ⟨us, h1, h2⟩ := st.lst hy (ex.at hl)
        split at h
        · cases r
          split at h
          · rename_i y hyl
            obtain ⟨u, hu, ru⟩ := h2.get hyl
            refine .inl ⟨_, us, u, rfl, rfl, h1, by rw [← h2.length]; exact hu, ?_⟩
            refine h _ _ φ (.lst h1) (st.set (u := .lst ys.dropLast) hy rfl (ex.at hl) (.lst h1) ⟨_, upd_same, ?_⟩) (ru.mono (.lst h1))
            rw [List.dropLast_eq_take, List.dropLast_eq_take, ← h2.length]
            exact (h2.take _).mono (.lst h1)
          · exact h.elim
        · obtain ⟨u, rfl, ru⟩ := reps1 r
          cases ru
          split at h
          · rename_i hz
            have hz := of_decide_eq_true hz
            split at h
            · rename_i k hk
              split at h
              · rename_i y hyk
                obtain ⟨u, hu, ru⟩ := h2.get hyk
                refine .inr ⟨_, us, _, k, u, rfl, rfl, h1, hz.1, hz.2, by rw [← h2.length]; exact seqIx hk, hu, ?_⟩
                exact h _ _ φ (.lst h1) (st.set (u := .lst (ys.eraseIdx k)) hy rfl (ex.at hl) (.lst h1) ⟨_, upd_same, (h2.eraseIdx k).mono (.lst h1)⟩) (ru.mono (.lst h1))
              · exact h.elim
            · exact h.elim
          · exact h.elim
        · exact h.elim
      · exact h.elim
  · exact h.elim
end
end Br
set_option maxRecDepth 100000
set_option maxHeartbeats 1000000
/-! Defs: their promise by their mirror; calls of them; the law's own call. -/
namespace Br
open PySem L2 Mi PySem.Spec PyProof.Rows

/-- room for calls, and nothing is being shown (repr) around -/
structure RoomG (k : Nat) (A : Around) : Prop where
  rm : Room k A
  gd : A.guards = some []
theorem RoomG.mono {j k : Nat} {A : Around} (r : RoomG k A) (h : j ≤ k) : RoomG j A := ⟨r.rm.mono h, r.gd⟩
/-- a def keeps its promise where nothing is being shown -/
structure FnG (P : Program) (w : World) (K : PySem.W.Frag) (mg : Str → Option Value) (base : Heap) (CX : CXT) (k : Nat) (f : Addr) (fd : FuncData) (ps : List Str) (sp : Sp) : Prop where
  len : ∀ vs H Q E, sp vs H Q E → vs.length = ps.length
  run : ∀ (A : Around) (outer : List Env) (s : Shared) (H : Hp) (args : Args) (us : List Value) (vs : List V) (Q : VK) (E : XK), RoomG k A → Env0 P w K mg base A outer s H →
    BindsTo s fd args (ps.zip us) → Vals vs us → sp vs H Q E → codeAny (model P w) A (.call (.ref f) args) (CR CX outer P w H s Q E) s
/-- the promise of a def by its mirror -/
def spM (P : Program) (w : World) (K : PySem.W.Frag) (m : MF) : Sp := fun vs H Q E => ∃ xs s φ, St0 P w K H φ s ∧ Reps K H φ xs vs ∧ Pst P w K (Rep K) (fun c d _ H' => E c d H') [] H φ (m xs s) Q

section
variable {X : Cx} {CX : CXT} {k : Nat} {f : Addr} {fd : FuncData} {ps : List Str} {sp : Sp} {E : XK} {x : Str} {p pos : Pos} {e : Expr} {es : List Expr} {t : TA}
/-- a def is called, by values -/
theorem runG (G : FnG X.prog X.w X.K X.mg X.base CX k f fd ps sp) (hr : RoomG k X.A) (hb : Binds X.K fd ps []) (hx : Passes CX X E) {pins : List (Addr × Obj)} {σ : L2.St} {H : Hp} {s : Shared} {Q : VK} {us : List Value} {vs : List V}
    (I : Inv X pins σ H s) (rv : Vals vs us) (h : sp vs H Q E) : wpAny (model X.prog X.w) X.A (call (.ref f) us) (EP X pins σ Q) X.xe s := by
  have hl : us.length = ps.length := rv.length ▸ G.len vs H Q E h
  have bind : BindsTo s fd ⟨us, []⟩ (ps.zip us) := by
    have z := hb s us I.kIn (by rw [List.append_nil]; exact hl)
    rw [List.append_nil] at z
    exact z
  refine wpAny_call (codeAny_mono (G.run X.A X.stack s H _ us vs Q E hr I.env0 bind rv h) ?_)
  intro r s' hq
  match r, hq with
  | .error e, hq => exact hx pins σ H s e s' I hq
  | .ok (.ret u), hq => exact I.after hq
  | .ok .next, hq => exact hq.elim
  | .ok .brk, hq => exact hq.elim
  | .ok .cont, hq => exact hq.elim
theorem peG (G : FnG X.prog X.w X.K X.mg X.base CX k f fd ps sp) (hr : RoomG k X.A) (hg : Gl X x) (hm : X.mg x = some (.ref f)) (hk : PySem.W.keepIn X.K (.ref f) = true) (hb : Binds X.K fd ps []) (hx : Passes CX X E)
    (ha : PA X (e :: es) t) (hdb : (x == ("__debug__" : Str)) = false) (he : starEach (e :: es) X.env = (false, eval e X.env) :: starEach es X.env) (hpl : (backTo pos (starEach es X.env)).any (·.1) = false) :
    PE X (.Call (.Name x p) (e :: es) [] pos) (fun σ H Q => t σ H fun vs H1 => sp vs H1 Q E) where
  run pins s σ H Q I h := by
    have args := thn (ha.run pos pins s σ H _ I h) (Q' := fun us s1 => X.K.In s1.heap ∧ wpAny (model X.prog X.w) X.A (call (.ref f) us) (EP X pins σ Q) X.xe s1)
      (by rintro us s1 ⟨vs, H1, I1, r1, q1⟩; exact ⟨I1.kIn, runG G hr hb hx I1 r1 q1⟩)
    exact wpAny_Call_Name_kw (ld_glob I hg hm (PySem.W.callWith_K (h₀ := X.base) I.ok.mod.kin hk args he hpl) hdb)
end
/-- where a def stands, how it takes its arguments -/
structure DefAt (K : PySem.W.Frag) (mg : Str → Option Value) (x : Str) (st : Stmt) (ps : List Str) (f : Addr) (fd : FuncData) : Prop where
  mg : mg x = some (.ref f)
  fn : Fun K x x st f fd
  bd : Binds K fd ps []
section
variable {F : Fam} {W : WX} {e : Expr} {es : List Expr} {mr : MA} {pos p : Pos} {x : Str} {k n : Nat} {f : Addr} {fd : FuncData} {ps : List Str} {st : Stmt} {m : MF}
theorem FnG.at {sp : Sp} {CX : CXT} (G : FnG F.P F.w F.K F.mg F.base CX k f fd ps sp) (i : F.ι) : FnG (F.X i).prog (F.X i).w (F.X i).K (F.X i).mg (F.X i).base CX k f fd ps sp := by
  rw [F.hP i, F.hw i, F.hK i, F.hmg i, F.hbase i]; exact G
/-- a call of a def out of which no error comes -/
theorem re_call (G : FnG F.P F.w F.K F.mg F.base CX0 k f fd ps (spM F.P F.w F.K m)) (A : DefAt F.K F.mg x st ps f fd) (hr : ∀ i, RoomG k (F.X i).A) (hg : ∀ i, Gl (F.X i) x) (ha : RA F W (e :: es) mr)
    (hdb : (x == ("__debug__" : Str)) = false := by decide) (he : ∀ i, starEach (e :: es) (F.X i).env = (false, eval e (F.X i).env) :: starEach es (F.X i).env := by intro _; rfl) (hpl : ∀ i, (backTo pos (starEach es (F.X i).env)).any (·.1) = false := by intro _; rfl) :
    RE F W (.Call (.Name x p) (e :: es) [] pos) (E.calln m mr) := by
  obtain ⟨t, a1, a2⟩ := ha
  refine ⟨_, fun i => peG (CX := CX0) (E := E0) (G.at i) (hr i) (hg i) (by rw [F.hmg i]; exact A.mg) (by rw [F.hK i]; exact A.fn.kp) (by rw [F.hK i]; exact A.bd) pass0 (a1 i) hdb (he i) (hpl i), fun en s σ H φ Q re st h => ?_⟩
  refine a2 en s σ H φ _ re st (Pst.bind_of h fun v s1 v' H1 φ1 x1 st1 r1 q => ⟨v, s1, φ1, st1, r1, ?_⟩)
  revert q
  cases m v s1 with
  | ok u s2 => exact id
  | err C y s2 => exact fun q => q.elim
  | bad => exact fun q => q.elim
/-- the promise of a def, by its body's mirror -/
theorem fnG {P : Program} {w : World} {K : PySem.W.Frag} {mg : Str → Option Value} {base : Heap} {qual : Str} {N : List Str} {b : MS} (Fu : Fun K x qual st f fd) (S : FnScope N ps (defScope st)) {np n : Nat} (hnp : ps.length = np) (hn : N.length = n)
    (body : ∀ (cdv : Value) (A : Around) (outer : List Env) (s : Shared) (H : Hp), RoomG k (A.deeper (envOfC qual (defScope st) s.heap.objs.size f cdv)) →
      RSs (Fam.one (cxOf CX0 P w K mg base N qual (defScope st) f cdv A outer s H E0).nox) Wn (defBody st) b) :
    FnG P w K mg base CX0 (k + 1) f fd ps (spM P w K (runDefn np n b)) := by
  have lens : ∀ vs H Q E, spM P w K (runDefn np n b) vs H Q E → vs.length = ps.length := by
    rintro vs H Q E ⟨xs, s, φ, _, r, h⟩
    unfold runDefn at h
    split at h
    · exact h.elim
    · rename_i hz
      rw [hnp, ← r.length]
      exact Classical.not_not.mp hz
  obtain ⟨oc, od, kV, doc, pm, an, cdv, ct, osl, rfl, lk, hcd⟩ := Fu.ex
  refine ⟨lens, fun A outer s H args us vs Q E hr e0 hb rv hsp => ?_⟩
  have hl := lens _ _ _ _ hsp
  have inK : K.In s.heap := e0.mod.kin.keeps fun c o z => (e0.bs c o z).1
  have noL : s.heap.NoLimit := e0.mod.nolimit.keeps fun c o z => (e0.bs c o z).1
  have kinds : ∀ y ∈ ps.zip us, (defScope st).names.lookup y.1 = some .local ∨ ((defScope st).names.lookup y.1 = some .cell ∧ ((cellsFrom (s.heap.objs.size + 1) (defScope st).names []).lookup y.1).isSome = true) := by
    rintro ⟨nm, v⟩ hy
    exact (S.par nm (List.of_mem_zip hy).1).imp id fun z => ⟨z, PySem.W.cellsFrom_some _ _ _ (.inl z)⟩
  apply codeAny_call_function hr.rm.depth (inK _ _ lk) rfl S.co S.gen rfl (PySem.W.codeRec_of inK hcd)
  refine hb _ _ _ _ (wpAny_newFunctionEnv_cells S.kind kinds ?_)
  rintro env rfl s1 z
  refine ⟨noL.keeps z.toInCall.keep, codeAny_func ?_⟩
  have hr' : RoomG k (A.deeper (envOfC qual (defScope st) s.heap.objs.size f cdv)) := ⟨hr.rm.deeper _, hr.gd⟩
  obtain ⟨t, t1, t2⟩ := body cdv A outer s H hr'
  have I : Inv (cxOf CX0 P w K mg base N qual (defScope st) f cdv A outer s H E0) [] (start N vs) H s1 := inv_start S hr.rm.hd e0 hl rv z
  obtain ⟨xs, s0, φ, st0, rx, hp⟩ := hsp
  have hq : t { nx := fun _ H' => Q .non H', rt := Q } (start N vs) H := by
    refine t2 (xs.map some ++ List.replicate (n - xs.length) none) s0 (start N vs) H φ _ ⟨?_, fun i y q => ?_⟩ st0 ?_
    · unfold L2.start
      simp only [List.length_append, List.length_map, List.length_replicate]
      rw [rx.length, hn]
    · by_cases hi : i < xs.length
      · rw [List.getElem?_append_left (by rw [List.length_map]; exact hi), List.getElem?_map] at q
        cases hxi : xs[i]? with
        | none => rw [hxi] at q; cases q
        | some u =>
          rw [hxi] at q
          cases q
          obtain ⟨v, h1, h2⟩ := rx.get hxi
          refine ⟨v, ?_, h2⟩
          unfold L2.start
          rw [List.getElem?_append_left (by rw [List.length_map, ← rx.length]; exact hi), List.getElem?_map, h1]; rfl
      · rw [List.getElem?_append_right (by rw [List.length_map]; omega)] at q
        rw [List.getElem?_replicate] at q
        split at q <;> cases q
    · unfold runDefn at hp
      split at hp
      · exact hp.elim
      · revert hp
        show Pst P w K (Rep K) _ [] H φ (match b (xs.map some ++ List.replicate (n - xs.length) none) s0 with
          | .nx _ s => .ok .non s
          | .ret v s => .ok v s
          | _ => .bad) Q → PstS P w K Wn H φ (b (xs.map some ++ List.replicate (n - xs.length) none) s0) _
        cases b (xs.map some ++ List.replicate (n - xs.length) none) s0 with
        | nx en s => exact fun h σ' H' φ' e st re => h .non H' φ' e st .non
        | ret v s => exact id
        | err C y en s => exact fun h => h.elim
        | brk en s => exact fun h => h.elim
        | cnt en s => exact fun h => h.elim
        | bad => exact id
  refine wpAny_mono ((t1 ()).nox.run [] s1 (start N vs) H _ I hq) ?_ (fun e s' hs => hs)
  rintro fl s' hs
  have fin : ∀ (σ' : L2.St) (H' : Hp) (v : V) (u : Value), Inv (cxOf CX0 P w K mg base N qual (defScope st) f cdv A outer s H E0) [] σ' H' s' → RelV v u → Q v H' → CE outer P w H s Q u s' :=
    fun _ H' v _ J r q => ⟨v, H', J.os, J.bare, J.base, J.hok, r, q⟩
  match fl, hs with
  | .ret u, ⟨v, σ', H', J, r, q⟩ => exact fin σ' H' v u J r q
  | .next, ⟨σ', H', J, q⟩ => exact fin σ' H' .non .none J rfl q
  | .brk, ⟨_, _, _, q⟩ => exact q.elim
  | .cont, ⟨_, _, _, q⟩ => exact q.elim
end
end Br
namespace Br
open PySem L2 Mi PySem.Spec PyProof.Rows
/-- what the law's def must promise: from a store that is the script alone its mirror comes to True -/
def LawOk (m : MF) : Prop := ∀ ns : List Int, ns.length ≤ 63 → ∃ s, m [.ref 0] [.rol (ns.map AV.int)] = .ok (.bl true) s
theorem reps_int {K : PySem.W.Frag} {H : Hp} {φ : List Addr} : ∀ ns : List Int, Reps K H φ (ns.map AV.int) (ns.map V.int)
  | [] => .nil
  | n :: ns => .cons (.int n) (reps_int ns)
section
variable {P : Program} {w : World} {K : PySem.W.Frag} {mg mb : Str → Option Value} {k : Nat} {fa a : Addr} {fd : FuncData} {x : Str} {m : MF} {s₁ : Shared} {vs : List Value} {ns : List Int}
/-- from an abstract heap that tracks the script or nothing -/
theorem law_core (KX : K.In s₁.heap) (hns : s₁.heap.Ns mainGlobals mg) (hb : s₁.heap.Ns builtinsNs mb) (hbb : ∀ x : Str, x ≠ "__name__" → mb x = bootBuiltins x) (hlim : s₁.heap.NoLimit) (hg : s₁.gens = #[])
    (ha : s₁.heap.get? a = some { cls := .type "list", data := .seq vs.toArray }) (hl : ns.length ≤ 63) (hr : Room k callerA)
    (G : ∀ base : Heap, K.In base → base.Ns mainGlobals mg → FnG P w K mg base CX0 k fa fd [x] (spM P w K m)) (hbind : ∀ (s : Shared) (u : Value), BindsTo s fd ⟨[u], []⟩ [(x, u)]) (law : LawOk m)
    (H : Hp) (hS : (∃ o, H a = some (.frz o (.lst (ns.map V.int)))) ∨ SqL K (fun _ => none) a (ns.map V.int)) (hok : HOk P w H s₁.heap) (only : ∀ b, H b ≠ none → b = a) (hK : H a ≠ none → K.lookup a = none)
    (frz : ∀ b o, H b = some o → ∃ ob u, o = .frz ob u) :
    codeAny (model P w) callerA (.call (.ref fa) ⟨[.ref a], []⟩) (fun r s' => r = .ok (.ret (.bool true)) ∧ OldK s₁.heap s'.heap ∧ s'.os = s₁.os ∧ AllBare s'.gens) s₁ := by
  have free : ∀ {b : Addr} {o : Obj} {es : Array DictEntry} {ep : Nat}, s₁.heap.get? b = some o → o.data = .dict es ep → H b = none := by
    intro b o es ep e d
    cases q : H b with
    | none => rfl
    | some u =>
      obtain rfl := only b (by rw [q]; nofun)
      rw [ha] at e; cases e; cases d
  have inB : ∀ {b : Addr} {y : Str → Option Value}, s₁.heap.Ns b y → (hidT s₁.heap H).Ns b y := fun ⟨o, es, ep, e, d, r⟩ => ⟨o, es, ep, hidT_get e (free e d), d, r⟩
  have kin : K.In (hidT s₁.heap H) := by
    intro b o e
    refine hidT_get (KX b o e) ?_
    cases q : H b with
    | none => rfl
    | some u =>
      obtain rfl := only b (by rw [q]; nofun)
      rw [hK (by rw [q]; nofun)] at e; cases e
  obtain ⟨mc, lim1, lim2⟩ := hlim
  have mod : Mod K mg (hidT s₁.heap H) := ⟨kin, inB hns, ⟨mb, inB hb, hbb⟩, ⟨mc, inB lim1, lim2⟩⟩
  have e0 : Env0 P w K mg (hidT s₁.heap H) callerA [] s₁ H :=
    { frames := rfl, mod := mod, bs := fun _ _ e => of_hidT e, bsz := Nat.le_of_eq (hidT_size _ _), funs := trivial, frf := nofun, hok := hok, bare := .of_eq hg }
  obtain ⟨s0, lw⟩ := law ns hl
  have sp : spM P w K m [.ref a] H (fun v _ => v = .bl true) (fun _ _ _ => False) := by
    refine ⟨[.ref 0], [.rol (ns.map AV.int)], [a], ⟨rfl, ?_, ?_⟩, .cons (.ref rfl) .nil, ?_⟩
    · intro l l' o o' b h1 _ m1
      match l, h1 with
      | 0, h1 => cases h1; cases m1
      | l + 1, h1 => simp at h1
    · intro l o b h1 h2
      match l, h1, h2 with
      | 0, h1, h2 => cases h1; cases h2; exact ⟨_, hS, reps_int ns⟩
      | l + 1, h1, _ => simp at h1
    · rw [lw]
      intro v' H' φ' _ _ r
      cases r; rfl
  refine codeAny_mono ((G _ kin (inB hns)).run callerA [] s₁ H ⟨[.ref a], []⟩ [.ref a] [.ref a] _ _ ⟨hr, rfl⟩ e0 (hbind _ _) (.cons rfl .nil) sp) ?_
  intro r s' h
  match r, h with
  | .error e, h => exact h.elim
  | .ok .next, h => exact h.elim
  | .ok .brk, h => exact h.elim
  | .ok .cont, h => exact h.elim
  | .ok (.ret u), ⟨v, H', os, bare, un, hok', rv, q⟩ =>
    have q : v = V.bl true := q
    subst q
    have rv : u = Value.bool true := rv
    subst rv
    refine ⟨rfl, OldK.of_keep fun b o e => ?_, os, bare⟩
    cases q : H b with
    | none => exact un.keep b o e q nofun nofun
    | some z =>
      obtain ⟨ob, y, rfl⟩ := frz b z q
      have q1 := (hok b _ q).1
      have q2 := (hok' b _ (un.frzs b ob y q)).1
      rw [q1] at e; cases e; exact q2
theorem law_callG (KX : K.In s₁.heap) (hns : s₁.heap.Ns mainGlobals mg) (hb : s₁.heap.Ns builtinsNs mb) (hbb : ∀ x : Str, x ≠ "__name__" → mb x = bootBuiltins x) (hlim : s₁.heap.NoLimit) (hg : s₁.gens = #[])
    (ha : s₁.heap.get? a = some { cls := .type "list", data := .seq vs.toArray }) (hi : IntsAre vs ns) (hl : ns.length ≤ 63) (hr : Room k callerA)
    (G : ∀ base : Heap, K.In base → base.Ns mainGlobals mg → FnG P w K mg base CX0 k fa fd [x] (spM P w K m)) (hbind : ∀ (s : Shared) (u : Value), BindsTo s fd ⟨[u], []⟩ [(x, u)]) (law : LawOk m) :
    codeAny (model P w) callerA (.call (.ref fa) ⟨[.ref a], []⟩) (fun r s' => r = .ok (.ret (.bool true)) ∧ OldK s₁.heap s'.heap ∧ s'.os = s₁.os ∧ AllBare s'.gens) s₁ := by
  have rv := vals_of_ints hi
  have line : ns.length ≤ sizeLine := Nat.le_trans hl (by decide)
  cases hk : K.lookup a with
  | some o =>
    have e := KX a o hk
    rw [ha] at e
    cases e
    refine law_core KX hns hb hbb hlim hg ha hl hr G hbind law (fun _ => none) (.inr (.inr ⟨_, vs.toArray, _, hk, rfl, rfl, rfl, ?_, by simpa using rv⟩)) nofun (fun _ z => (z rfl).elim) (fun z => (z rfl).elim) nofun
    rw [List.size_toArray, hi.length]; exact line
  | none =>
    let ob : Obj := { cls := .type "list", data := .seq vs.toArray }
    have at_ : (fun b => if b = a then some (HO.frz ob (.lst (ns.map V.int))) else none : Hp) a = some (HO.frz ob (.lst (ns.map V.int))) := if_pos rfl
    have el : ∀ b, b ≠ a → (fun b => if b = a then some (HO.frz ob (.lst (ns.map V.int))) else none : Hp) b = none := fun b h => if_neg h
    refine law_core KX hns hb hbb hlim hg ha hl hr G hbind law (fun b => if b = a then some (.frz ob (.lst (ns.map V.int))) else none) (.inl ⟨ob, at_⟩) ?_ ?_ (fun _ => hk) ?_
    · intro b u z
      by_cases h : b = a
      · subst h
        rw [at_] at z; cases z
        exact ⟨ha, by rw [List.length_map]; exact line, vs, _, rv, ha⟩
      · rw [el b h] at z; cases z
    · intro b z
      by_cases h : b = a
      · exact h
      · exact (z (el b h)).elim
    · intro b o z
      by_cases h : b = a
      · subst h
        have z' := at_.symm.trans z
        cases z'
        exact ⟨_, _, rfl⟩
      · have z' := (el b h).symm.trans z
        cases z'
end
/-- the goal that the head leaves, from the law's def -/
theorem walkG {l : PySem.W.OpenLaw} {k : Nat} {q : Program} {loose : List Str} {XP : (Str → Option Value) → Heap → Prop} {YP : World → Heap → Prop} {d : DefRec} {K : Params → PySem.W.Frag} {x : Str} {m : World → MF}
    (hn : l.most = some 63) (hdf : d.params.defaults = []) (hr : Room k callerA) (hY : ∀ (w : World) (h : Heap), YP w h → (K w.params).In h)
    (G : ∀ (w : World) (mg : Str → Option Value) (fa : Addr) (h : Heap), (K w.params).In h → h.Ns mainGlobals mg → mg d.name = some (.ref fa) →
      ∃ fd : FuncData, (∀ (s : Shared) (u : Value), BindsTo s fd ⟨[u], []⟩ [(x, u)]) ∧ ∀ base : Heap, (K w.params).In base → base.Ns mainGlobals mg → FnG l.prog w (K w.params) mg base CX0 k fa fd [x] (spM l.prog w (K w.params) (m w)))
    (law : ∀ w, LawOk (m w)) : PySem.W.WalkO q loose XP YP l.row.toRowW d [] (fun f vs => PySem.call f vs) := by
  apply Att.attach_call hn hdf
  intro w s₀ s₁ mg mb fa o pm cd doc a vs ns Gr Y ho hd hcd hmg hobj hints hlen hg
  have KX := hY w _ Y
  obtain ⟨fd, hb, hF⟩ := G w mg fa _ KX Gr.T.g hmg
  exact law_callG KX Gr.T.g Gr.T.b Gr.T.builtins Gr.T.nolimit hg hobj hints hlen hr hF hb (law w)
end Br
set_option maxRecDepth 100000
set_option maxHeartbeats 1000000
/-! repr, sorted. -/
namespace Br
open PySem L2 Mi PySem.Spec PyProof.Rows BrS

section
variable {F : Fam} {W : WX}
theorem pd_noDict (s : Sto) : ∀ (n : Nat) (x : AV) (d : PyData), pd s n x = some d → d.hasDict = false
  | _, .non, _, h => by cases (Option.some.inj (by simpa only [pd] using h)); simp only [PyData.hasDict]
  | _, .bl b, _, h => by cases (Option.some.inj (by simpa only [pd] using h)); simp only [PyData.hasDict]
  | _, .int b, _, h => by cases (Option.some.inj (by simpa only [pd] using h)); simp only [PyData.hasDict]
  | _, .str b, _, h => by cases (Option.some.inj (by simpa only [pd] using h)); simp only [PyData.hasDict]
  | 0, .tup xs, _, h => by simp [pd] at h
  | 0, .ref l, _, h => by simp [pd] at h
  | 0, .adr l, _, h => by simp [pd] at h
  | 0, .ty l, _, h => by simp [pd] at h
  | n + 1, .adr l, _, h => by simp [pd] at h
  | n + 1, .ty l, _, h => by simp [pd] at h
  | n + 1, .tup xs, d, h => by
    simp only [pd] at h
    cases hm : xs.mapM (pd s n) with
    | none => rw [hm] at h; cases h
    | some ds =>
      rw [hm] at h
      cases h
      simp only [PyData.hasDict]
      exact all (s := []) xs ds hm n (pd_noDict s n)
  | n + 1, .ref l, d, h => by
    simp only [pd] at h
    cases hq : seqAt s l with
    | none => rw [hq] at h; cases h
    | some xs =>
      rw [hq] at h
      cases hm : xs.mapM (pd s n) with
      | none => simp only [hm] at h; cases h
      | some ds =>
        simp only [hm] at h
        cases h
        simp only [PyData.hasDict]
        exact all (s := []) xs ds hm n (pd_noDict s n)
where all : ∀ (xs : List AV) (ds : List PyData) {s : Sto} {f : AV → Option PyData}, xs.mapM f = some ds → (n : Nat) → (∀ x d, f x = some d → d.hasDict = false) → PyData.hasDictAll ds = false
  | [], _, _, _, h, _, _ => by cases (Option.some.inj (by simpa using h)); simp only [PyData.hasDictAll]
  | x :: xs, _, _, f, h, n, k => by
    rw [mapM_cons] at h
    cases hx : f x with
    | none => rw [hx] at h; cases h
    | some d =>
      rw [hx] at h
      cases hm : xs.mapM f with
      | none => rw [hm] at h; cases h
      | some es =>
        rw [hm] at h
        cases h
        have q := all (s := []) xs es hm n k
        simp only [PyData.hasDictAll, k x d hx, q, Bool.or_self]
theorem pd_depth (s : Sto) : ∀ (n : Nat) (x : AV) (d : PyData), pd s n x = some d → d.depth ≤ n
  | _, .non, _, h => by cases (Option.some.inj (by simpa only [pd] using h)); simp [PyData.depth]
  | _, .bl b, _, h => by cases (Option.some.inj (by simpa only [pd] using h)); simp [PyData.depth]
  | _, .int b, _, h => by cases (Option.some.inj (by simpa only [pd] using h)); simp [PyData.depth]
  | _, .str b, _, h => by cases (Option.some.inj (by simpa only [pd] using h)); simp [PyData.depth]
  | 0, .tup xs, _, h => by simp [pd] at h
  | 0, .ref l, _, h => by simp [pd] at h
  | 0, .adr l, _, h => by simp [pd] at h
  | 0, .ty l, _, h => by simp [pd] at h
  | n + 1, .adr l, _, h => by simp [pd] at h
  | n + 1, .ty l, _, h => by simp [pd] at h
  | n + 1, .tup xs, d, h => by
    simp only [pd] at h
    cases hm : xs.mapM (pd s n) with
    | none => rw [hm] at h; cases h
    | some ds =>
      rw [hm] at h
      cases h
      simp only [PyData.depth]
      have := all xs ds hm n (pd_depth s n)
      omega
  | n + 1, .ref l, d, h => by
    simp only [pd] at h
    cases hq : seqAt s l with
    | none => rw [hq] at h; cases h
    | some xs =>
      rw [hq] at h
      cases hm : xs.mapM (pd s n) with
      | none => simp only [hm] at h; cases h
      | some ds =>
        simp only [hm] at h
        cases h
        simp only [PyData.depth]
        have := all xs ds hm n (pd_depth s n)
        omega
where all : ∀ (xs : List AV) (ds : List PyData) {f : AV → Option PyData}, xs.mapM f = some ds → (n : Nat) → (∀ x d, f x = some d → d.depth ≤ n) → PyData.depthAll ds ≤ n
  | [], _, _, h, _, _ => by cases (Option.some.inj (by simpa using h)); simp [PyData.depthAll]
  | x :: xs, _, f, h, n, k => by
    rw [mapM_cons] at h
    cases hx : f x with
    | none => rw [hx] at h; cases h
    | some d =>
      rw [hx] at h
      cases hm : xs.mapM f with
      | none => rw [hm] at h; cases h
      | some es =>
        rw [hm] at h
        cases h
        have h1 := k x d hx
        have h2 := all xs es hm n k
        simp only [PyData.depthAll]
        omega
/-- repr of a list or a tuple of data; of an int -/
def rRepr (K : PySem.W.Frag) : List V → Hp → VK → Prop := fun xs H Q => (∃ a d, xs = [.ref a] ∧ Dp K H (.ref a) d ∧ d.showable = true ∧ d.hasDict = false ∧ d.depth ≤ 60 ∧ d.shown.length ≤ sizeLine ∧ Q (.str d.shown) H) ∨
  ∃ i, xs = [.int i] ∧ i.natAbs.log2 < 1920 ∧ Q (.str (toString i)) H
theorem cr_repr {X : Cx} (hu : X.A.units + 64 < cLine) (hg : X.A.guards = some []) : CallR X (.builtin "repr") (rRepr X.K) := by
  rintro pins s σ H xs us Q I r (⟨a, d, rfl, dp, hs, hn, hd, hz, q⟩ | ⟨i, rfl, hi, q⟩)
  · rw [Vals.ref1 r]
    obtain ⟨as, rd⟩ := Dp.reads I d (.ref a) (.ref a) dp rfl
    exact repr_of_reads' rd hs (fun z => by rw [hn] at z; cases z) hg (by omega) (fun _ _ z => z) (fun h' u tk k => ⟨.str d.shown, H, I.kept (t' := tk) k, ⟨u, rfl⟩, q⟩) hz
  · exact SkE.call_repr_int pins s σ H _ us Q I r ⟨i, rfl, hi, q⟩
theorem cm_repr (hr : ∀ i, RoomG 0 (F.X i).A) : CallM F W (.builtin "repr") B.repr_ := by
  refine ⟨rRepr F.K, fun i => by have q := cr_repr (X := F.X i) (hr i).rm.units (hr i).gd; rw [F.hK i] at q; exact q, fun xs vs s σ H φ Q st r h => ?_⟩
  unfold B.repr_ at h
  split at h
  · obtain ⟨v, rfl, rv⟩ := reps1 r
    split at h
    · rename_i x d hd
      split at h
      · rename_i hz
        obtain ⟨z1, z2⟩ := Bool.and_eq_true_iff.mp hz
        have z2 := of_decide_eq_true z2
        have dp := pd_dp st _ _ _ _ hd rv
        have q1 := pd_noDict _ _ _ _ hd
        have q2 := pd_depth _ _ _ _ hd
        rw [line_eq] at z2
        cases rv with
        | tup hs hr => exact .inl ⟨_, d, rfl, dp, z1, q1, q2, z2, sameV st (.str _) h⟩
        | ref hl => exact .inl ⟨_, d, rfl, dp, z1, q1, q2, z2, sameV st (.str _) h⟩
        | int i =>
          have e : d = .int i := by
            have := hd
            simp only [pd, Option.some.injEq] at this
            exact this.symm
          subst e
          refine .inr ⟨i, rfl, ?_, ?_⟩
          · simpa [PyData.showable] using z1
          · have q := sameV st (.str _) h
            simpa only [PyData.shown] using q
        | _ => exact h.elim
      · exact h.elim
    · exact h.elim
  · exact h.elim
/-! sorted -/
def toD : AV → PyData
  | .int i => .int i
  | .tup xs => .tuple (((ints? xs).getD []).map .int)
  | _ => .none
theorem ints_all : ∀ {xs : List AV}, xs.all B.isInt = true → ∃ ns, ints? xs = some ns ∧ xs = ns.map AV.int
  | [], _ => ⟨[], by simp [ints?], rfl⟩
  | x :: xs, h => by
    rw [List.all_cons, Bool.and_eq_true] at h
    obtain ⟨ns, h1, h2⟩ := ints_all h.2
    cases x with
    | int i => exact ⟨i :: ns, by simp [ints?, h1], by rw [h2]; rfl⟩
    | _ => cases h.1
theorem dp_ints {K : PySem.W.Frag} {H : Hp} {φ : List Addr} : ∀ {ns : List Int} {vs : List V}, Reps K H φ (ns.map AV.int) vs → DpAll K H vs (ns.map PyData.int)
  | [], _, .nil => .nil
  | n :: ns, _, .cons r rs => by cases r; exact .cons (.int n) (dp_ints rs)
theorem dp_toD {H : Hp} {φ : List Addr} {x : AV} {v : V} (r : Rep F.K H φ x v) (h : B.isInt x = true ∨ B.isTupI x = true) : Dp F.K H v (toD x) := by
  cases r with
  | int i => exact .int i
  | tup hs hr =>
    have h : B.isTupI _ = true := h.elim (fun z => by cases z) id
    unfold B.isTupI at h
    obtain ⟨ns, h1, h2⟩ := ints_all (Bool.and_eq_true_iff.mp h).2
    subst h2
    have e : toD (.tup (ns.map AV.int)) = .tuple (ns.map .int) := by
      show PyData.tuple (((ints? (ns.map AV.int)).getD []).map .int) = _
      rw [h1]; rfl
    rw [e]
    exact .tup hs (dp_ints hr)
  | _ => rcases h with h | h <;> cases h
theorem sLe_eq {x y : AV} (h : (B.isInt x = true ∧ B.isInt y = true) ∨ (B.isTupI x = true ∧ B.isTupI y = true)) : (!PySem.W.dataLt (toD y) (toD x)) = B.sLe x y := by
  rcases h with ⟨hx, hy⟩ | ⟨hx, hy⟩
  · match x, y, hx, hy with
    | .int i, .int j, _, _ =>
      show (!PySem.W.dataLt (.int j) (.int i)) = decide (i ≤ j)
      rw [PySem.W.dataLt_int, PySem.W.not_lt_int]
  · match x, y, hx, hy with
    | .tup xs, .tup ys, hx, hy =>
      obtain ⟨ns, h1, h2⟩ := ints_all (Bool.and_eq_true_iff.mp hx).2
      obtain ⟨ms, g1, g2⟩ := ints_all (Bool.and_eq_true_iff.mp hy).2
      show (!PySem.W.dataLt (.tuple (((ints? ys).getD []).map .int)) (.tuple (((ints? xs).getD []).map .int))) = (match ints? xs, ints? ys with
        | some a, some b => lexLe a b
        | _, _ => false)
      rw [h1, g1]
      exact lexD_le ns ms
theorem sLe_trans {x y z : AV} (h : (B.isInt x = true ∧ B.isInt y = true ∧ B.isInt z = true) ∨ (B.isTupI x = true ∧ B.isTupI y = true ∧ B.isTupI z = true)) : B.sLe x y = true → B.sLe y z = true → B.sLe x z = true := by
  rcases h with ⟨hx, hy, hz⟩ | ⟨hx, hy, hz⟩
  · match x, y, z, hx, hy, hz with
    | .int i, .int j, .int k, _, _, _ =>
      intro a b
      exact decide_eq_true (Int.le_trans (of_decide_eq_true a) (of_decide_eq_true b))
  · match x, y, z, hx, hy, hz with
    | .tup xs, .tup ys, .tup zs, hx, hy, hz =>
      obtain ⟨ns, h1, _⟩ := ints_all (Bool.and_eq_true_iff.mp hx).2
      obtain ⟨ms, g1, _⟩ := ints_all (Bool.and_eq_true_iff.mp hy).2
      obtain ⟨ks, k1, _⟩ := ints_all (Bool.and_eq_true_iff.mp hz).2
      unfold B.sLe
      dsimp only
      rw [h1, g1, k1]
      exact lexLe_trans ns ms ks
theorem sorts_mem {xs : List AV} (h : B.sorts xs = true) : ∀ x ∈ xs, ∀ y ∈ xs, (B.isInt x = true ∧ B.isInt y = true) ∨ (B.isTupI x = true ∧ B.isTupI y = true) := by
  intro x hx y hy
  rcases (Bool.or_eq_true _ _).mp h with h | h
  · exact .inl ⟨List.all_eq_true.mp h x hx, List.all_eq_true.mp h y hy⟩
  · exact .inr ⟨List.all_eq_true.mp h x hx, List.all_eq_true.mp h y hy⟩
abbrev encV (b : V × AV) : PyData := toD b.2
abbrev leV (b c : V × AV) : Bool := B.sLe b.2 c.2
/-- sorted of a list of ints or of int tuples, of any length -/
def rSortV (K : PySem.W.Frag) : List V → Hp → VK → Prop := fun vs H Q => ∃ (a : Addr) (bs : List (V × AV)), vs = [.ref a] ∧ SqL K H a (bs.map (·.1)) ∧ B.sorts (bs.map (·.2)) = true ∧ (∀ b ∈ bs, Dp K H b.1 (encV b)) ∧
  ∀ p, H p = none → Q (.ref p) (upd H p (.lst ((bs.mergeSort leV).map (·.1))))
theorem each_vals : ∀ {bs : List (V × AV)} {its : List Value}, Vals (bs.map (·.1)) its → PySem.W.EachIs (fun u (b : V × AV) => RelV b.1 u) its bs
  | [], _, .nil => .nil
  | b :: bs, _, .cons r rs => .cons r (each_vals rs)
theorem vals_each : ∀ {bs : List (V × AV)} {its : List Value}, PySem.W.EachIs (fun u (b : V × AV) => RelV b.1 u) its bs → Vals (bs.map (·.1)) its
  | _, _, .nil => .nil
  | _, _, .cons r rs => .cons r (vals_each rs)
theorem each_reads {X : Cx} {pins : List (Addr × Obj)} {σ : L2.St} {H : Hp} {s : Shared} (I : Inv X pins σ H s) : ∀ {bs : List (V × AV)} {its : List Value}, Vals (bs.map (·.1)) its → (∀ b ∈ bs, Dp X.K H b.1 (encV b)) → PySem.W.EachIs (fun u (b : V × AV) => ∃ as, Reads s.heap u (encV b) as) its bs
  | [], _, .nil, _ => .nil
  | b :: bs, _, .cons r rs, h => .cons (Dp.reads I _ _ _ (h b List.mem_cons_self) r) (each_reads I rs fun c hc => h c (List.mem_cons_of_mem _ hc))
theorem depth_toD (x : AV) : (toD x).depth ≤ 1 := by
  cases x with
  | tup xs => exact depth_tup _
  | _ => simp [toD, PyData.depth]
theorem cr_sortV {X : Cx} (hu : X.A.units + 64 < cLine) : CallR X (.builtin "sorted") (rSortV X.K) := by
  rintro pins s σ H xs us Q I r ⟨a, bs, rfl, hl, hs, hd, q⟩
  rw [Vals.ref1 r]
  obtain ⟨its, rv, pl, hz⟩ := I.list hl
  rw [List.length_map] at hz
  refine PySem.W.sorted_data (enc := encV) (R := fun u (b : V × AV) => RelV b.1 u) (bs := bs) pl.isList (each_vals rv) (each_reads I rv hd) ?_ ?_ hz ?_ ?_
  · intro d hd' e he'
    obtain ⟨b, hb, rfl⟩ := List.mem_map.mp hd'
    obtain ⟨c, hc, rfl⟩ := List.mem_map.mp he'
    rcases sorts_mem hs b.2 (List.mem_map.mpr ⟨b, hb, rfl⟩) c.2 (List.mem_map.mpr ⟨c, hc, rfl⟩) with ⟨h1, h2⟩ | ⟨h1, h2⟩
    · unfold encV
      match b.2, c.2, h1, h2 with
      | .int i, .int j, _, _ => simp only [toD, PySem.W.alike]
    · unfold encV
      match b.2, c.2, h1, h2 with
      | .tup xs, .tup ys, _, _ => simpa only [toD, PySem.W.alike] using PySem.W.alike_ints _ _
  · rcases (Bool.or_eq_true _ _).mp hs with h | h
    · refine .inr fun d hd' => ?_
      obtain ⟨b, hb, rfl⟩ := List.mem_map.mp hd'
      have h1 := List.all_eq_true.mp h b.2 (List.mem_map.mpr ⟨b, hb, rfl⟩)
      unfold encV
      match b.2, h1 with
      | .int i, _ => exact ⟨(by intro z; cases z), (by intro _ z; cases z)⟩
    · refine .inl fun d hd' => ?_
      obtain ⟨b, hb, rfl⟩ := List.mem_map.mp hd'
      have h1 := List.all_eq_true.mp h b.2 (List.mem_map.mpr ⟨b, hb, rfl⟩)
      unfold encV
      match b.2, h1 with
      | .tup xs, h1 =>
        obtain ⟨ne, al⟩ := Bool.and_eq_true_iff.mp h1
        obtain ⟨ns, e1, e2⟩ := ints_all al
        cases ns with
        | nil => subst e2; cases ne
        | cons n ns => exact ⟨.int n, ns.map .int, by show PyData.tuple (((ints? xs).getD []).map .int) = _; rw [e1]; rfl⟩
  · intro b _
    have := depth_toD b.2
    show _ + (toD b.2).depth < _
    omega
  · intro out hlo eo
    have e : bs.mergeSort (PySem.W.dataLe false encV) = bs.mergeSort leV := by
      have z := List.map_mergeSort (r := PySem.W.dataLe false encV) (s := leV) (f := id) (l := bs) (fun b hb c hc => sLe_eq (sorts_mem hs b.2 (List.mem_map.mpr ⟨b, hb, rfl⟩) c.2 (List.mem_map.mpr ⟨c, hc, rfl⟩)))
      simpa using z
    rw [e] at eo
    have rv2 := vals_each eo
    obtain ⟨c, hc⟩ := sortedAll_at s.heap its out.toArray
    have np : H (s.heap.objs.size + 1) = none := I.hok.fresh (Nat.le_succ _)
    have lenO : ((bs.mergeSort leV).map (·.1)).length ≤ sizeLine := by rw [List.length_map, List.length_mergeSort]; exact hz
    exact ⟨.ref (s.heap.objs.size + 1), _, I.laid (o := .lst ((bs.mergeSort leV).map (·.1))) (t' := s.toks) (fun b u e => sortedAll_old e) (Nat.le_succ _) ⟨lenO, out, c, rv2, hc⟩, rfl, q _ np⟩
theorem zip_fst {K : PySem.W.Frag} {H : Hp} {φ : List Addr} : ∀ {xs : List AV} {vs : List V}, Reps K H φ xs vs → (vs.zip xs).map (·.1) = vs ∧ (vs.zip xs).map (·.2) = xs
  | _, _, .nil => ⟨rfl, rfl⟩
  | _, _, .cons r rs => by
    obtain ⟨h1, h2⟩ := zip_fst rs
    exact ⟨by rw [List.zip_cons_cons, List.map_cons, h1], by rw [List.zip_cons_cons, List.map_cons, h2]⟩
theorem zip_rep {K : PySem.W.Frag} {H : Hp} {φ : List Addr} : ∀ {xs : List AV} {vs : List V}, Reps K H φ xs vs → ∀ b ∈ vs.zip xs, Rep K H φ b.2 b.1
  | _, _, .nil => fun b hb => by cases hb
  | _, _, .cons r rs => fun b hb => by
    rw [List.zip_cons_cons] at hb
    rcases List.mem_cons.mp hb with rfl | hb
    · exact r
    · exact zip_rep rs b hb
theorem reps_pairs {K : PySem.W.Frag} {H : Hp} {φ : List Addr} : ∀ (bs : List (V × AV)), (∀ b ∈ bs, Rep K H φ b.2 b.1) → Reps K H φ (bs.map (·.2)) (bs.map (·.1))
  | [], _ => .nil
  | b :: bs, h => .cons (h b List.mem_cons_self) (reps_pairs bs fun c hc => h c (List.mem_cons_of_mem _ hc))
/-! sets -/
def rSetI (K : PySem.W.Frag) (w : World) : List V → Hp → VK → Prop := fun vs H Q => ∃ (a : Addr) (ns : List Int), vs = [.ref a] ∧ SqL K H a (ns.map V.int) ∧ ns.length < 64 ∧ ∀ p c, c < 64 → H p = none → Q (.ref p) (upd H p (SetO w p (fun j => decide (j ∈ ns)) c))
theorem cr_setI {X : Cx} (hc : X.calm = true) : CallR X (.type "set") (rSetI X.K X.w) := by
  rintro pins s σ H xs us Q I r ⟨a, ns, rfl, hl, h64, q⟩
  rw [Vals.ref1 r]
  obtain ⟨its, rv, pl, hz⟩ := I.list hl
  have np : H s.heap.objs.size = none := I.hok.fresh (Nat.le_refl _)
  refine set_of_list (P := X.prog) (w := X.w) ns (I.ok.hd hc) pl.isList (by simpa using rv.ints) (by unfold scanBound; omega) ?_
  intro h' tk c R hcl k
  exact ⟨.ref s.heap.objs.size, _, I.laid (t' := tk) k (Nat.le_refl _) (setO_new R), rfl, q _ c (by omega) np⟩
/-- sorted(set), int tuples of any lengths -/
def rSortedST (K : PySem.W.Frag) (P : Program) (w : World) : List V → Hp → VK → Prop := fun vs H Q => ∃ (a : Addr) (L : List (Addr × List Int)), vs = [V.ref a] ∧ H a = some (SetTO P w a L) ∧ (∀ p ∈ L, SqT K H p.1 (p.2.map V.int)) ∧ (∀ p ∈ L, p.2 ≠ []) ∧
  ∀ (L' : List (Addr × List Int)) (p : Addr), L'.Perm L → L'.Pairwise (fun q r => keyLe q r = true) → H p = none → Q (.ref p) (upd H p (.lst (L'.map fun q => V.ref q.1)))
theorem cr_sortedST {X : Cx} (hc : X.calm = true) (hu : X.A.units + 64 < cLine) : CallR X (.builtin "sorted") (rSortedST X.K X.prog X.w) := by
  rintro pins s σ H vs us Q I r ⟨a, L, rfl, ha, hk, hne, q⟩
  have R0 : SetT0 X.prog X.w s.heap a L := (I.hok a _ ha).1
  obtain ⟨es, ep, t, R⟩ := R0.full fun p hp => I.isT (hk p hp)
  rw [Vals.ref1 r]
  refine sorted_setV R (I.ok.hd hc) hne hu ?_
  intro s' p out c L' k g o hp hg hout pm pw
  have few : L'.length < 64 := by rw [pm.length_eq]; exact R.few
  have line : (L'.map fun q => V.ref q.1).length ≤ sizeLine := by rw [List.length_map, sizeLine_eq]; omega
  have np : H p = none := I.hok.fresh hp
  have vals : Vals (L'.map fun q => V.ref q.1) out.toList := by rw [hout]; exact vals_of_refs L'
  have J := I.call (g' := s'.gens) (d' := s'.drawn) (t' := s'.toks) (ch := []) (Un.laid k hp np) (I.hok.laid (o := .lst (L'.map fun q => V.ref q.1)) k hp ⟨line, out.toList, c, vals, hg⟩) (by rw [g]; exact I.bare) (fun _ z => nomatch z)
  obtain ⟨a1, a2, a3, a4, a5⟩ := s'
  obtain rfl : a5 = s.os := o
  exact ⟨.ref p, _, J, rfl, q L' p pm pw np⟩
theorem dedup_nil : B.dedup [] = [] := rfl
theorem dedup_go (f : AV → AV → Bool) : ∀ (xs acc : List AV), acc.Nodup → (xs.foldl (fun acc x => if x ∈ acc then acc else acc ++ [x]) acc).Nodup ∧ ∀ y, y ∈ xs.foldl (fun acc x => if x ∈ acc then acc else acc ++ [x]) acc ↔ y ∈ acc ∨ y ∈ xs
  | [], acc, h => ⟨h, fun y => by simp⟩
  | x :: xs, acc, h => by
    rw [List.foldl_cons]
    by_cases hx : x ∈ acc
    · rw [if_pos hx]
      obtain ⟨h1, h2⟩ := dedup_go f xs acc h
      refine ⟨h1, fun y => ?_⟩
      rw [h2 y, List.mem_cons]
      constructor
      · rintro (z | z)
        · exact .inl z
        · exact .inr (.inr z)
      · rintro (z | z | z)
        · exact .inl z
        · exact .inl (z ▸ hx)
        · exact .inr z
    · rw [if_neg hx]
      have nd : (acc ++ [x]).Nodup := by
        rw [List.nodup_append]
        refine ⟨h, by simp, fun a ha b hb => ?_⟩
        rw [List.mem_singleton.mp hb]
        rintro rfl; exact hx ha
      obtain ⟨h1, h2⟩ := dedup_go f xs (acc ++ [x]) nd
      refine ⟨h1, fun y => ?_⟩
      rw [h2 y, List.mem_append, List.mem_singleton, List.mem_cons]
      constructor
      · rintro ((z | z) | z)
        · exact .inl z
        · exact .inr (.inl z)
        · exact .inr (.inr z)
      · rintro (z | z | z)
        · exact .inl (.inl z)
        · exact .inl (.inr z)
        · exact .inr z
theorem dedup_nodup (xs : List AV) : (B.dedup xs).Nodup := (dedup_go (fun _ _ => true) xs [] List.nodup_nil).1
theorem mem_dedup (xs : List AV) (y : AV) : y ∈ B.dedup xs ↔ y ∈ xs := by
  have := (dedup_go (fun _ _ => true) xs [] List.nodup_nil).2 y
  unfold B.dedup
  simpa using this
theorem int_inj {a b : Int} (h : AV.int a = AV.int b) : a = b := AV.int.inj h
theorem nodup_map_int {ns : List Int} : (ns.map AV.int).Nodup → ns.Nodup := by
  intro h
  rw [List.nodup_iff_pairwise_ne, List.pairwise_map] at h
  exact List.nodup_iff_pairwise_ne.mpr (h.imp fun q e => q (by rw [e]))
abbrev avT (k : List Int) : AV := .tup (k.map AV.int)
theorem avT_inj {a b : List Int} (h : avT a = avT b) : a = b := by
  have h := AV.tup.inj h
  have inj : Function.Injective (AV.int) := fun _ _ z => AV.int.inj z
  exact List.map_inj_right (f := AV.int) (fun _ _ z => AV.int.inj z) |>.mp h
theorem tups_all : ∀ {xs : List AV}, xs.all B.isTupI = true → ∃ kss : List (List Int), xs = kss.map avT ∧ ∀ k ∈ kss, k ≠ []
  | [], _ => ⟨[], rfl, fun _ z => by cases z⟩
  | x :: xs, h => by
    rw [List.all_cons, Bool.and_eq_true] at h
    obtain ⟨kss, h1, h2⟩ := tups_all h.2
    match x, h.1 with
    | .tup ys, hy =>
      obtain ⟨ne, al⟩ := Bool.and_eq_true_iff.mp hy
      obtain ⟨ns, e1, e2⟩ := ints_all al
      refine ⟨ns :: kss, by rw [h1, e2]; rfl, fun k hk => ?_⟩
      rcases List.mem_cons.mp hk with rfl | hk
      · rintro rfl
        subst e2
        cases ne
      · exact h2 k hk
theorem reps_tups {H : Hp} {φ : List Addr} : ∀ {kss : List (List Int)} {vs : List V}, Reps F.K H φ (kss.map avT) vs → ∃ ks : List (Addr × List Int), vs = ks.map (fun p => V.ref p.1) ∧ ks.map (·.2) = kss ∧ ∀ p ∈ ks, SqT F.K H p.1 (p.2.map V.int)
  | [], _, .nil => ⟨[], rfl, rfl, fun _ z => by cases z⟩
  | k :: kss, _, .cons r rs => by
    obtain ⟨ks, h1, h2, h3⟩ := reps_tups rs
    cases r with
    | tup hs hr =>
      rename_i a us
      have e := reps_ints hr (show ints? (k.map AV.int) = some k from ints_map k)
      refine ⟨(a, k) :: ks, by rw [h1]; rfl, by rw [← h2]; rfl, fun p hp => ?_⟩
      rcases List.mem_cons.mp hp with rfl | hp
      · rw [← e]; exact hs
      · exact h3 p hp
where ints_map : ∀ k : List Int, ints? (k.map AV.int) = some k
  | [] => by simp [ints?]
  | n :: k => by simp [ints?, ints_map k]
theorem ints_map : ∀ k : List Int, ints? (k.map AV.int) = some k
  | [] => by simp [ints?]
  | n :: k => by simp [ints?, ints_map k]
theorem filter_nodup_perm {xs ys : List (List Int)} (hx : xs.Nodup) (hy : ys.Nodup) (h : ∀ y, y ∈ xs ↔ y ∈ ys) : xs.Perm ys := (List.perm_ext_iff_of_nodup hx hy).mpr h
theorem keys_nodup {P : Program} {w : World} {h : Heap} {a : Addr} {L : List (Addr × List Int)} {es : Array (Int × Value)} {ep : Nat} {t : SetTable} (R : SetTR P w h a L es ep t) : (L.map (·.2)).Nodup := R.nd
/-- set of a list of int tuples: the keys stand once each -/
def rSetT (K : PySem.W.Frag) (P : Program) (w : World) : List V → Hp → VK → Prop := fun xs H Q => ∃ (l : Addr) (ks : List (Addr × List Int)), xs = [V.ref l] ∧ SqL K H l (ks.map fun p => V.ref p.1) ∧ (∀ p ∈ ks, SqT K H p.1 (p.2.map V.int)) ∧ ks.length < 64 ∧
  ∀ a L, H a = none → (∀ p ∈ L, p ∈ ks) → (∀ p ∈ ks, p.2 ∈ L.map (·.2)) → (L.map (·.2)).Nodup → Q (.ref a) (upd H a (SetTO P w a L))
theorem cr_setT {X : Cx} (hc : X.calm = true) (hu : X.A.units + 64 < cLine) : CallR X (.type "set") (rSetT X.K X.prog X.w) := by
  rintro pins s σ H xs us Q I r ⟨l, ks, rfl, hl, hk, hf, q⟩
  rw [Vals.ref1 r]
  obtain ⟨its, rv, pl, hz⟩ := I.list hl
  have np : H s.heap.objs.size = none := I.hok.fresh (Nat.le_refl _)
  refine call_set_tups (P := X.prog) (w := X.w) ks (I.ok.hd hc) pl.isList (by simpa using refs_of_vals rv) (fun p hp => I.isT (hk p hp)) hf (by omega) ?_
  intro h' tk L es ep t R g k
  refine ⟨.ref s.heap.objs.size, _, I.laid (t' := tk) k (Nat.le_refl _) (setTO_new R.t0), rfl, q _ L np (fun p hp => List.mem_of_mem_take (g.sub p hp)) (fun p hp => ?_) R.nd⟩
  exact g.all p (by rw [List.take_length]; exact hp)
theorem newO {σ : L2.St} {H : Hp} {φ : List Addr} {s : Sto} {u : MO} {o : Addr → HO} {Q : VK} (st : St0 F.P F.w F.K H φ s) {p : Addr} (np : H p = none) (hu : RepO F.P F.w F.K (upd H p (o p)) (φ ++ [p]) u p)
    (h : Pst F.P F.w F.K (Rep F.K) W σ H φ (.ok (.ref s.length) (s ++ [u])) Q) : Q (.ref p) (upd H p (o p)) :=
  h _ _ (φ ++ [p]) (.newRef np) (st.newRef np hu) (.ref (by rw [← st.len]; exact List.getElem?_concat_length))
theorem dedup_ints (ns : List Int) : ∃ ms : List Int, B.dedup (ns.map AV.int) = ms.map AV.int ∧ ms.Nodup ∧ ∀ i, i ∈ ms ↔ i ∈ ns := by
  have al : (B.dedup (ns.map AV.int)).all B.isInt = true := by
    rw [List.all_eq_true]
    intro y hy
    obtain ⟨n, _, rfl⟩ := List.mem_map.mp ((mem_dedup _ _).mp hy)
    rfl
  obtain ⟨ms, _, e⟩ := ints_all al
  have nd := dedup_nodup (ns.map AV.int)
  rw [e] at nd
  refine ⟨ms, e, nodup_map_int nd, fun i => ?_⟩
  have z := mem_dedup (ns.map AV.int) (.int i)
  rw [e] at z
  constructor
  · intro h
    obtain ⟨n, h1, h2⟩ := List.mem_map.mp (z.mp (List.mem_map.mpr ⟨i, h, rfl⟩))
    rw [← int_inj h2]; exact h1
  · intro h
    obtain ⟨n, h1, h2⟩ := List.mem_map.mp (z.mpr (List.mem_map.mpr ⟨i, h, rfl⟩))
    rw [← int_inj h2]; exact h1
theorem nodup_map_avT {kss : List (List Int)} : (kss.map avT).Nodup → kss.Nodup := by
  intro h
  rw [List.nodup_iff_pairwise_ne, List.pairwise_map] at h
  exact List.nodup_iff_pairwise_ne.mpr (h.imp fun q e => q (by rw [e]))
theorem dedup_tups (kss : List (List Int)) : ∃ ms : List (List Int), B.dedup (kss.map avT) = ms.map avT ∧ ms.Nodup ∧ ∀ i, i ∈ ms ↔ i ∈ kss := by
  have key : ∀ ys : List AV, (∀ y ∈ ys, ∃ k, y = avT k) → ∃ ms : List (List Int), ys = ms.map avT := by
    intro ys
    induction ys with
    | nil => exact fun _ => ⟨[], rfl⟩
    | cons y ys ih =>
      intro h
      obtain ⟨k, rfl⟩ := h y List.mem_cons_self
      obtain ⟨ms, rfl⟩ := ih fun z hz => h z (List.mem_cons_of_mem _ hz)
      exact ⟨k :: ms, rfl⟩
  obtain ⟨ms, e⟩ := key (B.dedup (kss.map avT)) fun y hy => by
    obtain ⟨k, _, rfl⟩ := List.mem_map.mp ((mem_dedup _ _).mp hy)
    exact ⟨k, rfl⟩
  have nd := dedup_nodup (kss.map avT)
  rw [e] at nd
  refine ⟨ms, e, nodup_map_avT nd, fun i => ?_⟩
  have z := mem_dedup (kss.map avT) (avT i)
  rw [e] at z
  constructor
  · intro h
    obtain ⟨n, h1, h2⟩ := List.mem_map.mp (z.mp (List.mem_map.mpr ⟨i, h, rfl⟩))
    rw [← avT_inj h2]; exact h1
  · intro h
    obtain ⟨n, h1, h2⟩ := List.mem_map.mp (z.mpr (List.mem_map.mpr ⟨i, h, rfl⟩))
    rw [← avT_inj h2]; exact h1
def rSet1 (K : PySem.W.Frag) (P : Program) (w : World) : List V → Hp → VK → Prop := fun vs H Q => rSetI K w vs H Q ∨ rSetT K P w vs H Q
theorem cm_set (hc : ∀ i, (F.X i).calm = true) (hr : ∀ i, Room 0 (F.X i).A) : CallM F W (.type "set") B.set_ := by
  refine ⟨rSet1 F.K F.P F.w, fun i => by have q := (cr_setI (X := F.X i) (hc i)).or (cr_setT (hc i) (hr i).units); rw [F.hK i, F.hP i, F.hw i] at q; exact q, fun xs vs s σ H φ Q st r h => ?_⟩
  unfold B.set_ at h
  split at h
  · rename_i l
    obtain ⟨v, rfl, rv⟩ := reps1 r
    cases rv with
    | ref hl =>
      rename_i a
      split at h
      · rename_i ys hy
        split at h
        · rename_i hz
          obtain ⟨z1, z2⟩ := Bool.and_eq_true_iff.mp hz
          have z2 := of_decide_eq_true z2
          obtain ⟨us, h1, h2⟩ := st.lst hy hl
          rcases (Bool.or_eq_true _ _).mp z1 with al | al
          · obtain ⟨ns, e1, e2⟩ := ints_all al
            have e3 := reps_ints h2 e1
            subst e2 e3
            obtain ⟨ms, d1, d2, d3⟩ := dedup_ints ns
            refine .inl ⟨a, ns, rfl, SqL.of h1, by simpa using z2, fun p c hcc np => ?_⟩
            refine newO (o := fun p => SetO F.w p (fun j => decide (j ∈ ns)) c) st np ?_ h
            exact .inl ⟨_, c, ms, upd_same, d1, d2, hcc, fun i => by simp only [d3 i]⟩
          · obtain ⟨kss, e1, e2⟩ := tups_all al
            subst e1
            obtain ⟨ks, f1, f2, f3⟩ := reps_tups h2
            subst f1
            obtain ⟨ms, d1, d2, d3⟩ := dedup_tups kss
            refine .inr ⟨a, ks, rfl, SqL.of h1, f3, by have := h2.length; simp at this z2; omega, fun p L np g1 g2 g3 => ?_⟩
            refine newO (o := fun p => SetTO F.P F.w p L) st np ?_ h
            refine .inr ⟨L, ms, upd_same, fun q hq => (Ext.new np : Ext F.K H φ _ φ).tup _ _ (f3 q (g1 q hq)), d1, d2, filter_nodup_perm g3 d2 fun y => ?_⟩
            rw [d3 y, ← f2]
            constructor
            · intro hy
              obtain ⟨q, hq, rfl⟩ := List.mem_map.mp hy
              exact List.mem_map.mpr ⟨q, g1 q hq, rfl⟩
            · intro hy
              obtain ⟨q, hq, rfl⟩ := List.mem_map.mp hy
              exact g2 q hq
        · exact h.elim
      · exact h.elim
  · exact h.elim
theorem mergeSort_ints (ns : List Int) : (ns.map AV.int).mergeSort B.sLe = (ns.mergeSort (fun a b => decide (a ≤ b))).map AV.int :=
  (List.map_mergeSort (f := AV.int) (s := B.sLe) (fun a _ b _ => rfl)).symm
theorem mergeSort_tups (kss : List (List Int)) : (kss.map avT).mergeSort B.sLe = (kss.mergeSort Mi.lexLe).map avT :=
  (List.map_mergeSort (f := avT) (s := B.sLe) (fun a _ b _ => by unfold B.sLe avT; dsimp only; rw [ints_map, ints_map])).symm
def rSorted1 (K : PySem.W.Frag) (P : Program) (w : World) : List V → Hp → VK → Prop := fun vs H Q => rSortV K vs H Q ∨ rSortedSet w vs H Q ∨ rSortedST K P w vs H Q
theorem cm_sorted (hc : ∀ i, (F.X i).calm = true) (hr : ∀ i, Room 0 (F.X i).A) : CallM F W (.builtin "sorted") B.sorted := by
  refine ⟨rSorted1 F.K F.P F.w, fun i => by have q := (cr_sortV (X := F.X i) (hr i).units).or ((cr_sortedSet (hc i)).or (cr_sortedST (hc i) (hr i).units)); rw [F.hK i, F.hP i, F.hw i] at q; exact q, fun xs vs s σ H φ Q st r h => ?_⟩
  unfold B.sorted at h
  split at h
  · rename_i l
    obtain ⟨v, rfl, rv⟩ := reps1 r
    cases rv with
    | ref hl =>
      rename_i a
      split at h
      · rename_i ys hy
        split at h
        · rename_i hz
          obtain ⟨us, h1, h2⟩ := st.lst hy hl
          obtain ⟨f1, f2⟩ := zip_fst h2
          have zr := zip_rep h2
          have es : ((us.zip ys).mergeSort leV).map (·.2) = ys.mergeSort B.sLe := by
            rw [List.map_mergeSort (s := B.sLe) (fun b _ c _ => rfl), f2]
          have rep2 := reps_pairs ((us.zip ys).mergeSort leV) fun b hb => zr b (List.mem_mergeSort.mp hb)
          rw [es] at rep2
          unfold newLst at h
          split at h
          · refine .inl ⟨a, us.zip ys, rfl, by rw [f1]; exact SqL.of h1, by rw [f2]; exact hz, fun b hb => ?_, newL st rep2 h⟩
            refine dp_toD (zr b hb) ?_
            have hb2 : b.2 ∈ ys := by rw [← f2]; exact List.mem_map.mpr ⟨b, hb, rfl⟩
            rcases sorts_mem hz b.2 hb2 b.2 hb2 with z | z
            · exact .inl z.1
            · exact .inr z.1
          · exact h.elim
        · exact h.elim
      · rename_i ys hy
        split at h
        · rename_i hz
          unfold newLst at h
          split at h
          · rcases st.ob l _ a hy hl with ⟨S, n, ns, h1, rfl, nd, h64, hS⟩ | ⟨L, kss, h1, h2, rfl, nd, pm⟩
            · refine .inr (.inl ⟨a, S, n, rfl, h1, h64, fun ms p pw mem len np => ?_⟩)
              have e : ns.mergeSort (fun a b => decide (a ≤ b)) = ms := by
                have p1 : (ns.mergeSort (fun a b => decide (a ≤ b))).Perm ms := by
                  refine (List.mergeSort_perm _ _).trans ((List.perm_ext_iff_of_nodup nd (pw.imp Int.ne_of_lt)).mpr fun i => ?_)
                  rw [mem i, hS i, decide_eq_true_iff]
                refine p1.eq_of_pairwise (le := fun a b => a ≤ b) (fun a b _ _ => Int.le_antisymm) ?_ (pw.imp Int.le_of_lt)
                exact (List.pairwise_mergeSort (le := fun a b : Int => decide (a ≤ b)) (fun a b c h1 h2 => decide_eq_true (Int.le_trans (of_decide_eq_true h1) (of_decide_eq_true h2))) (fun a b => by simpa using Int.le_total a b) ns).imp fun z => of_decide_eq_true z
              rw [mergeSort_ints, e] at h
              exact newL st (reps_int ms) h p np
            · refine .inr (.inr ⟨a, L, rfl, h1, h2, fun q hq e => ?_, fun L' p pm' pw np => ?_⟩)
              · have hz : B.sorts (kss.map avT) = true := hz
                have hk : avT q.2 ∈ kss.map avT := List.mem_map.mpr ⟨q.2, pm.mem_iff.mp (List.mem_map.mpr ⟨q, hq, rfl⟩), rfl⟩
                rcases sorts_mem hz _ hk _ hk with z | z
                · cases z.1
                · have z := z.1
                  rw [e] at z
                  cases z
              · have e : kss.mergeSort Mi.lexLe = L'.map (·.2) := by
                  have p1 : (kss.mergeSort Mi.lexLe).Perm (L'.map (·.2)) := (List.mergeSort_perm _ _).trans (pm.symm.trans (pm'.map (·.2)).symm)
                  refine p1.eq_of_pairwise (le := fun a b => Mi.lexLe a b = true) (fun a b _ _ => lexLe_antisymm a b) (List.pairwise_mergeSort lexLe_trans lexLe_total kss) ?_
                  exact List.pairwise_map.mpr pw
                have h : Pst F.P F.w F.K (Rep F.K) W σ H φ (.ok (.ref s.length) (s ++ [.lst ((kss.map avT).mergeSort B.sLe)])) Q := h
                rw [mergeSort_tups, e] at h
                have rp : Reps F.K H φ ((L'.map (·.2)).map avT) (L'.map fun q => V.ref q.1) := by
                  have : ∀ M : List (Addr × List Int), (∀ q ∈ M, q ∈ L) → Reps F.K H φ ((M.map (·.2)).map avT) (M.map fun q => V.ref q.1) := by
                    intro M
                    induction M with
                    | nil => exact fun _ => .nil
                    | cons q M ih => exact fun hM => .cons (.tup (h2 q (hM q List.mem_cons_self)) (reps_int q.2)) (ih fun r hr => hM r (List.mem_cons_of_mem _ hr))
                  exact this L' fun q hq => pm'.mem_iff.mp hq
                exact newL st rp h p np
          · exact h.elim
        · exact h.elim
      · exact h.elim
  · exact h.elim
end
end Br
set_option maxRecDepth 100000
set_option maxHeartbeats 1000000
/-! Short forms for the printed texts. -/
namespace Br
open PySem L2 Mi PySem.Spec PyProof.Rows

section
variable {F : Fam} {W : WX} {a b c e elt tg iter : Expr} {es ifs : List Expr} {ma mb mc me : ME} {mr : MA} {pos p : Pos} {g : MG} {src : MI} {t : MT} {x : Str}
theorem rv (i : Nat) (hN : ∀ k, (F.X k).N[i]? = some x := by intro _; rfl) (hv : ∀ k, Vis (F.X k).env.scope x := by first | exact (fun _ => .inl rfl) | exact (fun _ => .inr (.inl rfl)) | exact (fun _ => .inr (.inr rfl)))
    (hd : (x == ("__debug__" : Str)) = false := by decide) (hcd : (x == ("__classdict__" : Str)) = false := by decide) : RE F W (.Name x pos) (E.var i) := re_var i hN hv hd hcd
theorem rk {i : Int} (hc : ∃ t, F.mg x = some (.int i t)) (hg : ∀ k, Gl (F.X k) x := by intro _; rfl) (hd : (x == ("__debug__" : Str)) = false := by decide) : RE F W (.Name x pos) (E.c (.int i)) := by
  obtain ⟨t, h⟩ := hc
  exact re_glob (v' := .int i) hg h ⟨t, rfl⟩ (fun _ _ => .int i) hd
theorem rty {n : String} (hm : F.mg x = none) (hv : bootBuiltins x = some (.type n) := by decide +kernel) (hg : ∀ k, Gl (F.X k) x := by intro _; rfl) (hn : x ≠ "__name__" := by decide) (hd : (x == ("__debug__" : Str)) = false := by decide) : RE F W (.Name x pos) (E.c (.ty n)) :=
  re_bltn hg hm hv hn hd
theorem rset (i : Nat) {pos' : Pos} (he : RE F W e ma) (hN : ∀ k, (F.X k).N.Nodup) (hi : ∀ k, (F.X k).N[i]? = some x := by intro _; rfl) (hx : ∀ k, Loc (F.X k).env.scope x := by first | exact (fun _ => .inl rfl) | exact (fun _ => .inr rfl)) (hs : ∀ k, swapsWith e (some (.Name x pos')) pos.line (F.X k).env = pure false := by intro _; rfl)
    (hf : ∀ k, (F.X k).fn x = true ∨ (F.X k).env.scope.names.lookup x = some .local := by first | exact (fun _ => .inl rfl) | exact (fun _ => .inr rfl)) : RS F W (.Assign [.Name x pos'] e pos) (S.asg (G.name i) ma) := rs_set hN hi hx he hs hf
theorem rgn (i : Nat) (hN : ∀ k, (F.X k).N.Nodup) (hi : ∀ k, (F.X k).N[i]? = some x := by intro _; rfl) (hx : ∀ k, Loc (F.X k).env.scope x := by first | exact (fun _ => .inl rfl) | exact (fun _ => .inr rfl))
    (hf : ∀ k, (F.X k).fn x = true ∨ (F.X k).env.scope.names.lookup x = some .local := by first | exact (fun _ => .inl rfl) | exact (fun _ => .inr rfl)) : RG F (.Name x pos) (G.name i) := rg_name hN hi hx hf
theorem rgon (i : Nat) {own : List Nat} (hN : ∀ k, (F.X k).N.Nodup) (ho : i ∈ own := by decide) (hi : ∀ k, (F.X k).N[i]? = some x := by intro _; rfl) (hx : ∀ k, Loc (F.X k).env.scope x := by first | exact (fun _ => .inl rfl) | exact (fun _ => .inr rfl))
    (hf : ∀ k, (F.X k).fn x = true ∨ (F.X k).env.scope.names.lookup x = some .local := by first | exact (fun _ => .inl rfl) | exact (fun _ => .inr rfl)) : RGo F own (.Name x pos) (G.name i) := rgo_name ho hN hi hx hf
theorem rs_setLc {i : Nat} {y : Str} {py : Pos} {scope : Scope} {own : List (Str × Nat)} {spos : Pos} (hc : ∀ i, (F.X i).calm = true) (hN : ∀ i, (F.X i).N.Nodup) (hy : ∀ k, (F.X k).N[i]? = some y) (hyl : ∀ k, (F.X k).env.scope.names.lookup y = some .local)
    (hsw : ∀ k, swapsWith (.ListComp elt [⟨tg, iter, ifs, 0⟩] scope pos) (some (.Name y py)) spos.line (F.X k).env = pure true) (hi : RI F W tg iter src) (ok : ∀ i, BlkOk (F.X i).N (F.X i).env.scope scope own)
    (hg : RGo (F.blk scope) (own.map (·.2)) tg g) (ht : RTs (F.blk scope) Wn ifs t) (he : RE (F.blk scope) Wn elt me) (hs : ∀ i x, foldedSetIterable iter (F.X i).env x = pure x := by intro _ _; rfl) :
    RS F W (.Assign [.Name y py] (.ListComp elt [⟨tg, iter, ifs, 0⟩] scope pos) spos) (S.asg (G.name i) (E.lc src g t me (own.map (·.2)))) := by
  obtain ⟨u, u1, u2⟩ := hi
  obtain ⟨x, x1, x2⟩ := hg
  obtain ⟨z, z1, z2⟩ := ht
  obtain ⟨v, v1, v2⟩ := he
  refine ⟨_, fun k => ps_setLc (hc k) (hN k) (hy k) (hyl k) (hsw k) (u1 k) (ok k) (fun s H C cl fp => x1 (k, s, H, C, cl, fp)) (fun s H C cl fp => z1 (k, s, H, C, cl, fp)) (fun s H C cl fp => v1 (k, s, H, C, cl, fp)) (hs k), fun en s σ H φ D re st h => ?_⟩
  exact lc_sound u2 x2 z2 v2 en s σ H φ _ re st (PstS.fl_of h re fun v s1 v' H1 φ1 x1 st1 r1 q => q _ H1 φ1 .refl st1 ((re.mono x1).set r1 i))
end
section
variable {F : Fam} {W : WX} {a : Expr} {ma : ME} {pos p p2 pos2 : Pos}
theorem re_neg (ha : RE F W a ma) : RE F W (.UnaryOp .USub a pos) (E.un negAV ma) := by
  obtain ⟨t, a1, a2⟩ := ha
  refine ⟨_, fun i => pe_un un_neg (a1 i), fun en s σ H φ Q re st h => ?_⟩
  refine a2 en s σ H φ _ re st (Pst.bind_of h fun v s1 v' H1 φ1 x1 st1 r1 q => ?_)
  cases r1 with
  | int i => exact ⟨i, rfl, q _ H1 φ1 .refl st1 (.int _)⟩
  | _ => exact q.elim
theorem rg_reps {K : PySem.W.Frag} {H : Hp} {φ : List Addr} (j : Int) : Reps K H φ (I.iot 0 j.toNat) (rgV 0 j) := by
  unfold I.iot rgV
  rw [Int.sub_zero]
  induction List.range j.toNat with
  | nil => exact .nil
  | cons x xs ih => exact .cons (.int _) ih
theorem re_lstR (hc : ∀ i, (F.X i).calm = true) (hm : F.mg "list" = none) (hm2 : F.mg "range" = none) (ha : RE F W a ma) (hg : ∀ i, Gl (F.X i) "list" := by intro _; rfl) (hg2 : ∀ i, Gl (F.X i) "range" := by intro _; rfl)
    (na : ∀ i, starEach [a] (F.X i).env = (false, eval a (F.X i).env) :: starEach [] (F.X i).env := by intro _; rfl)
    (nb : ∀ i, starEach [(Expr.Call (.Name "range" p2) [a] [] pos2)] (F.X i).env = (false, eval (Expr.Call (.Name "range" p2) [a] [] pos2) (F.X i).env) :: starEach [] (F.X i).env := by intro _; rfl) :
    RE F W (.Call (.Name "list" p) [.Call (.Name "range" p2) [a] [] pos2] [] pos) (E.lstR ma) := by
  obtain ⟨t, a1, a2⟩ := ha
  refine ⟨_, fun i => pe_listRg (hc i) (hg i) (by rw [F.hmg i]; exact hm) (prg_1 (hg2 i) (by rw [F.hmg i]; exact hm2) (a1 i) (na i)) (nb i), fun en s σ H φ Q re st h => ?_⟩
  refine a2 en s σ H φ _ re st (Pst.bind_of h fun v s1 v' H1 φ1 x1 st1 r1 q => ?_)
  cases r1 with
  | int j =>
    dsimp only at q
    split at q
    · rename_i hz
      obtain ⟨z1, z2⟩ := Bool.and_eq_true_iff.mp hz
      unfold I.inR at z1
      have z1 := of_decide_eq_true z1
      have z2 := of_decide_eq_true z2
      exact ⟨j, rfl, ⟨by decide, by decide, z1.1, z1.2, by rw [Int.sub_zero]; exact z2⟩, newL st1 (rg_reps j) q⟩
    · exact q.elim
  | _ => exact q.elim
theorem re_tupR (hc : ∀ i, (F.X i).calm = true) (hm : F.mg "tuple" = none) (hm2 : F.mg "range" = none) (ha : RE F W a ma) (hg : ∀ i, Gl (F.X i) "tuple" := by intro _; rfl) (hg2 : ∀ i, Gl (F.X i) "range" := by intro _; rfl)
    (na : ∀ i, starEach [a] (F.X i).env = (false, eval a (F.X i).env) :: starEach [] (F.X i).env := by intro _; rfl)
    (nb : ∀ i, starEach [(Expr.Call (.Name "range" p2) [a] [] pos2)] (F.X i).env = (false, eval (Expr.Call (.Name "range" p2) [a] [] pos2) (F.X i).env) :: starEach [] (F.X i).env := by intro _; rfl) :
    RE F W (.Call (.Name "tuple" p) [.Call (.Name "range" p2) [a] [] pos2] [] pos) (E.tupR ma) := by
  obtain ⟨t, a1, a2⟩ := ha
  refine ⟨_, fun i => pe_tupRg (hc i) (hg i) (by rw [F.hmg i]; exact hm) (prg_1 (hg2 i) (by rw [F.hmg i]; exact hm2) (a1 i) (na i)) (nb i), fun en s σ H φ Q re st h => ?_⟩
  refine a2 en s σ H φ _ re st (Pst.bind_of h fun v s1 v' H1 φ1 x1 st1 r1 q => ?_)
  cases r1 with
  | int j =>
    dsimp only at q
    split at q
    · rename_i hz
      obtain ⟨z1, z2⟩ := Bool.and_eq_true_iff.mp hz
      unfold I.inR at z1
      have z1 := of_decide_eq_true z1
      have z2 := of_decide_eq_true z2
      exact ⟨j, rfl, ⟨by decide, by decide, z1.1, z1.2, by rw [Int.sub_zero]; exact z2⟩, newT st1 (rg_reps j) q⟩
    · exact q.elim
  | _ => exact q.elim
end
theorem blk1 {F : Fam} {N : List Str} {sc0 scope : Scope} {own : List (Str × Nat)} (h : blkC N sc0 scope own = true) (hN : ∀ i, (F.X i).N = N := by intro _; rfl) (hs : ∀ i, (F.X i).env.scope = sc0 := by intro _; rfl) : ∀ i, BlkOk (F.X i).N (F.X i).env.scope scope own := fun i => by
  rw [hN i, hs i]; exact blkOk_by h
theorem blk2 {F : Fam} {N : List Str} {sc0 sc1 scope : Scope} {own : List (Str × Nat)} (h : blkC N (relS sc1 sc0) scope own = true) (hN : ∀ i, ((F.blk sc1).X i).N = N := by intro _; rfl) (hs : ∀ i, ((F.blk sc1).X i).env.scope = relS sc1 sc0 := by intro _; rfl) : ∀ i, BlkOk ((F.blk sc1).X i).N ((F.blk sc1).X i).env.scope scope own := fun i => by
  rw [hN i, hs i]; exact blkOk_by h
/-- the names that stand by themselves -/
abbrev DefN (K : PySem.W.Frag) (mg : Str → Option Value) (x : Str) (st : Stmt) (ps : List Str) : Type := { z : Addr × FuncData // DefAt K mg x st ps z.1 z.2 }
end Br
/-! Printed by gen.py: the mirror. -/
namespace Mr
open PySem Mi
def b_is_whole : MS := S.ret (E.and (E.call B.isa (E.cons (E.var 0) (E.cons (E.c (.ty "int")) (E.nil)))) (E.and (E.not (E.call B.isa (E.cons (E.var 0) (E.cons (E.c (.ty "bool")) (E.nil))))) (E.chain (leAV) (leAV) (E.var 1) (E.var 0) (E.var 2))))
def m_is_whole : MF := runDefn 3 3 b_is_whole
def b_is_road : MS := S.seq (S.ife (T.or (T.not (T.tru (E.call B.isa (E.cons (E.var 0) (E.cons (E.c (.ty "tuple")) (E.nil)))))) (T.val (E.op (eqAV true) (E.call B.len (E.cons (E.var 0) (E.nil))) (E.c (.int 2))))) (S.ret (E.c (.bl false))) (S.skip)) (S.ret (E.and (E.calln m_is_whole (E.cons (E.op ixAV (E.var 0) (E.c (.int 0))) (E.cons (E.c (.int 0)) (E.cons (E.op subAV (E.var 1) (E.c (.int 1))) (E.nil))))) (E.calln m_is_whole (E.cons (E.op ixAV (E.var 0) (E.c (.int 1))) (E.cons (E.c (.int 0)) (E.cons (E.op subAV (E.var 1) (E.c (.int 1))) (E.nil)))))))
def m_is_road : MF := runDefn 2 2 b_is_road
def b_first_bad_place : MS := S.seq (S.for_ (I.range1 (E.cons (E.call B.len (E.cons (E.var 0) (E.nil))) (E.nil))) (G.name 2) (S.ife (T.or (T.not (T.tru (E.calln m_is_whole (E.cons (E.op ixAV (E.var 0) (E.var 2)) (E.cons (E.c (.int 0)) (E.cons (E.op subAV (E.var 1) (E.c (.int 1))) (E.nil))))))) (T.and (T.val (E.op (gtAV) (E.var 2) (E.c (.int 0)))) (T.val (E.op (leAV) (E.op ixAV (E.var 0) (E.var 2)) (E.op ixAV (E.var 0) (E.op subAV (E.var 2) (E.c (.int 1)))))))) (S.ret (E.var 2)) (S.skip))) (S.ret (E.c .non))
def m_first_bad_place : MF := runDefn 2 3 b_first_bad_place
def b_first_bad_road : MS := S.seq (S.for_ (I.range1 (E.cons (E.call B.len (E.cons (E.var 0) (E.nil))) (E.nil))) (G.name 2) (S.ife (T.or (T.not (T.tru (E.calln m_is_road (E.cons (E.op ixAV (E.var 0) (E.var 2)) (E.cons (E.var 1) (E.nil)))))) (T.and (T.val (E.op (gtAV) (E.var 2) (E.c (.int 0)))) (T.val (E.op (leAV) (E.op ixAV (E.var 0) (E.var 2)) (E.op ixAV (E.var 0) (E.op subAV (E.var 2) (E.c (.int 1)))))))) (S.ret (E.var 2)) (S.skip))) (S.ret (E.c .non))
def m_first_bad_road : MF := runDefn 2 3 b_first_bad_road
def b_wrong_roads : MS := S.seq (S.ife (T.or (T.not (T.tru (E.call B.isa (E.cons (E.var 0) (E.cons (E.c (.ty "tuple")) (E.nil)))))) (T.val (E.op (eqAV true) (E.call B.len (E.cons (E.var 0) (E.nil))) (E.c (.int 3))))) (S.ret (E.un negAV (E.c (.int 1)))) (S.skip)) (S.seq (S.ife (T.not (T.tru (E.calln m_is_whole (E.cons (E.op ixAV (E.var 0) (E.c (.int 0))) (E.cons (E.c (.int 0)) (E.cons (E.c (.int 60)) (E.nil))))))) (S.ret (E.un negAV (E.c (.int 2)))) (S.skip)) (S.seq (S.ife (T.or (T.not (T.tru (E.call B.isa (E.cons (E.op ixAV (E.var 0) (E.c (.int 1))) (E.cons (E.c (.ty "tuple")) (E.nil)))))) (T.val (E.op (gtAV) (E.call B.len (E.cons (E.op ixAV (E.var 0) (E.c (.int 1))) (E.nil))) (E.c (.int 240))))) (S.ret (E.un negAV (E.c (.int 3)))) (S.skip)) (S.ret (E.calln m_first_bad_road (E.cons (E.op ixAV (E.var 0) (E.c (.int 1))) (E.cons (E.op ixAV (E.var 0) (E.c (.int 0))) (E.nil)))))))
def m_wrong_roads : MF := runDefn 1 1 b_wrong_roads
def b_wrong_wishes : MS := S.seq (S.ife (T.not (T.tru (E.call B.isa (E.cons (E.op ixAV (E.var 0) (E.c (.int 2))) (E.cons (E.c (.ty "tuple")) (E.nil)))))) (S.ret (E.un negAV (E.c (.int 1)))) (S.skip)) (S.ret (E.calln m_first_bad_place (E.cons (E.op ixAV (E.var 0) (E.c (.int 2))) (E.cons (E.op ixAV (E.var 0) (E.c (.int 0))) (E.nil)))))
def m_wrong_wishes : MF := runDefn 1 1 b_wrong_wishes
def b_made_map : MS := S.seq (S.asg (G.name 1) (E.calln m_wrong_roads (E.cons (E.var 0) (E.nil)))) (S.seq (S.ife (T.val (E.op (isAV true) (E.var 1) (E.c .non))) (S.never) (S.skip)) (S.seq (S.asg (G.name 1) (E.calln m_wrong_wishes (E.cons (E.var 0) (E.nil)))) (S.seq (S.ife (T.val (E.op (isAV true) (E.var 1) (E.c .non))) (S.never) (S.skip)) (S.ret (E.var 0)))))
def m_made_map : MF := runDefn 1 2 b_made_map
def b_is_place : MS := S.ret (E.calln m_is_whole (E.cons (E.var 1) (E.cons (E.c (.int 0)) (E.cons (E.op subAV (E.op ixAV (E.var 0) (E.c (.int 0))) (E.c (.int 1))) (E.nil)))))
def m_is_place : MF := runDefn 2 2 b_is_place
def b_check_place : MS := S.ife (T.not (T.tru (E.calln m_is_place (E.cons (E.var 0) (E.cons (E.var 1) (E.nil)))))) (S.never) (S.skip)
def m_check_place : MF := runDefn 2 2 b_check_place
def b_roads_from : MS := S.seq (S.asg (G.name 1) (E.lc (I.range1 (E.cons (E.op ixAV (E.var 0) (E.c (.int 0))) (E.nil))) (G.name 2) (T.yes) (E.lst (E.nil)) [2])) (S.seq (S.for_ (I.seq (E.op ixAV (E.var 0) (E.c (.int 1)))) (G.unp [G.name 2, G.name 3]) (S.expr (E.lmeth B.append (E.op ixAV (E.var 1) (E.var 2)) (E.cons (E.var 3) (E.nil))))) (S.ret (E.var 1)))
def m_roads_from : MF := runDefn 1 4 b_roads_from
def b_met_by : MS := S.seq (S.asg (G.name 3) (E.op mulAV (E.lst (E.cons (E.c (.bl false)) (E.nil))) (E.call B.len (E.cons (E.var 0) (E.nil))))) (S.seq (S.asg (G.name 4) (E.lst (E.cons (E.var 2) (E.nil)))) (S.seq (S.while_ (T.tru (E.var 4)) (S.seq (S.asg (G.name 5) (E.lmeth B.pop (E.var 4) E.nil)) (S.for_ (I.seq (E.op ixAV (E.var 0) (E.var 5))) (G.name 6) (S.ife (T.not (T.tru (E.op ixAV (E.var 3) (E.var 6)))) (S.seq (S.asg (G.sub (E.var 3) (E.var 6)) (E.c (.bl true))) (S.ife (T.val (E.op (inAV true) (E.var 6) (E.var 1))) (S.expr (E.lmeth B.append (E.var 4) (E.cons (E.var 6) (E.nil)))) (S.skip))) (S.skip))))) (S.ret (E.var 3))))
def m_met_by : MF := runDefn 3 7 b_met_by
def b_met : MS := S.ret (E.calln m_met_by (E.cons (E.calln m_roads_from (E.cons (E.var 0) (E.nil))) (E.cons (E.op ixAV (E.var 0) (E.c (.int 2))) (E.cons (E.var 1) (E.nil)))))
def m_met : MF := runDefn 2 2 b_met
def b_turned_roads : MS := S.ret (E.calln m_roads_from (E.cons (E.tup (E.cons (E.op ixAV (E.var 0) (E.c (.int 0))) (E.cons (E.lc (I.seq (E.op ixAV (E.var 0) (E.c (.int 1)))) (G.unp [G.name 1, G.name 2]) (T.yes) (E.tup (E.cons (E.var 2) (E.cons (E.var 1) (E.nil)))) [1, 2]) (E.cons (E.op ixAV (E.var 0) (E.c (.int 2))) (E.nil))))) (E.nil)))
def m_turned_roads : MF := runDefn 1 3 b_turned_roads
def b_piece_from : MS := S.seq (S.ife (T.val (E.op (inAV false) (E.var 1) (E.op ixAV (E.var 0) (E.c (.int 2))))) (S.ret (E.tup (E.cons (E.var 1) (E.nil)))) (S.skip)) (S.seq (S.asg (G.unp [G.name 2, G.name 3]) (E.tup (E.cons (E.calln m_met (E.cons (E.var 0) (E.cons (E.var 1) (E.nil)))) (E.cons (E.calln m_met_by (E.cons (E.calln m_turned_roads (E.cons (E.var 0) (E.nil))) (E.cons (E.op ixAV (E.var 0) (E.c (.int 2))) (E.cons (E.var 1) (E.nil))))) (E.nil))))) (S.ret (E.call B.tuple_ (E.cons (E.lc (I.range1 (E.cons (E.op ixAV (E.var 0) (E.c (.int 0))) (E.nil))) (G.name 4) (T.or (T.val (E.op (eqAV false) (E.var 4) (E.var 1))) (T.and (T.tru (E.op ixAV (E.var 2) (E.var 4))) (T.and (T.tru (E.op ixAV (E.var 3) (E.var 4))) (T.val (E.op (inAV true) (E.var 4) (E.op ixAV (E.var 0) (E.c (.int 2)))))))) (E.var 4) [4]) (E.nil)))))
def m_piece_from : MF := runDefn 2 5 b_piece_from
def b_tables : MS := S.seq (S.asg (G.unp [G.name 1, G.name 2, G.name 3]) (E.var 0)) (S.seq (S.asg (G.unp [G.name 4, G.name 5]) (E.tup (E.cons (E.calln m_roads_from (E.cons (E.var 0) (E.nil))) (E.cons (E.calln m_turned_roads (E.cons (E.var 0) (E.nil))) (E.nil))))) (S.seq (S.asg (G.name 6) (E.lc (I.range1 (E.cons (E.var 1) (E.nil))) (G.name 10) (T.val (E.op (inAV true) (E.var 10) (E.var 3))) (E.var 10) [10])) (S.seq (S.asg (G.unp [G.name 7, G.name 8, G.name 9]) (E.tup (E.cons (E.op mulAV (E.lst (E.cons (E.tup (E.nil)) (E.nil))) (E.var 1)) (E.cons (E.op mulAV (E.lst (E.cons (E.tup (E.nil)) (E.nil))) (E.var 1)) (E.cons (E.op mulAV (E.lst (E.cons (E.tup (E.nil)) (E.nil))) (E.var 1)) (E.nil)))))) (S.seq (S.for_ (I.range1 (E.cons (E.var 1) (E.nil))) (G.name 10) (S.ife (T.val (E.op (eqAV false) (E.op ixAV (E.var 9) (E.var 10)) (E.tup (E.nil)))) (S.seq (S.asg (G.unp [G.name 11, G.name 12]) (E.tup (E.cons (E.calln m_met_by (E.cons (E.var 4) (E.cons (E.var 3) (E.cons (E.var 10) (E.nil))))) (E.cons (E.tup (E.cons (E.var 10) (E.nil))) (E.nil))))) (S.seq (S.ife (T.val (E.op (inAV true) (E.var 10) (E.var 3))) (S.seq (S.asg (G.name 13) (E.calln m_met_by (E.cons (E.var 5) (E.cons (E.var 3) (E.cons (E.var 10) (E.nil)))))) (S.asg (G.name 12) (E.call B.tuple_ (E.cons (E.lc (I.seq (E.var 6)) (G.name 16) (T.or (T.val (E.op (eqAV false) (E.var 16) (E.var 10))) (T.and (T.tru (E.op ixAV (E.var 11) (E.var 16))) (T.tru (E.op ixAV (E.var 13) (E.var 16))))) (E.var 16) [16]) (E.nil))))) (S.skip)) (S.seq (S.asg (G.unp [G.name 14, G.name 15]) (E.tup (E.cons (E.call B.tuple_ (E.cons (E.lc (I.seq (E.var 6)) (G.name 16) (T.tru (E.op ixAV (E.var 11) (E.var 16))) (E.var 16) [16]) (E.nil))) (E.cons (E.call B.tuple_ (E.cons (E.lc (I.seq (E.var 3)) (G.name 16) (T.tru (E.op ixAV (E.var 11) (E.var 16))) (E.var 16) [16]) (E.nil))) (E.nil))))) (S.for_ (I.seq (E.var 12)) (G.name 16) (S.asg (G.unp [G.sub (E.var 7) (E.var 16), G.sub (E.var 8) (E.var 16), G.sub (E.var 9) (E.var 16)]) (E.tup (E.cons (E.var 14) (E.cons (E.var 15) (E.cons (E.var 12) (E.nil)))))))))) (S.skip))) (S.ret (E.tup (E.cons (E.var 7) (E.cons (E.var 8) (E.cons (E.var 9) (E.nil))))))))))
def m_tables : MF := runDefn 1 17 b_tables
def b_piece : MS := S.seq (S.expr (E.calln m_check_place (E.cons (E.calln m_made_map (E.cons (E.var 0) (E.nil))) (E.cons (E.var 1) (E.nil))))) (S.ret (E.calln m_piece_from (E.cons (E.var 0) (E.cons (E.var 1) (E.nil)))))
def m_piece : MF := runDefn 2 2 b_piece
def b_pieces : MS := S.seq (S.expr (E.calln m_made_map (E.cons (E.var 0) (E.nil)))) (S.seq (S.asg (G.unp [G.name 1, G.name 2, G.name 3]) (E.calln m_tables (E.cons (E.var 0) (E.nil)))) (S.ret (E.call B.tuple_ (E.cons (E.lc (I.range1 (E.cons (E.op ixAV (E.var 0) (E.c (.int 0))) (E.nil))) (G.name 4) (T.and (T.val (E.op (inAV true) (E.var 4) (E.op ixAV (E.var 0) (E.c (.int 2))))) (T.val (E.op (eqAV false) (E.op ixAV (E.op ixAV (E.var 3) (E.var 4)) (E.c (.int 0))) (E.var 4)))) (E.op ixAV (E.var 3) (E.var 4)) [4]) (E.nil)))))
def m_pieces : MF := runDefn 1 5 b_pieces
def b__law_pool : MS := S.seq (S.asg (G.name 1) (E.ite (T.val (E.op (gtAV) (E.call B.len (E.cons (E.var 0) (E.nil))) (E.c (.int 0)))) (E.call B.int_ (E.cons (E.op ixAV (E.var 0) (E.c (.int 0))) (E.nil))) (E.c (.int 0)))) (S.seq (S.asg (G.name 2) (E.ite (T.val (E.op (geAV) (E.var 1) (E.c (.int 0)))) (E.op mulAV (E.c (.int 2)) (E.var 1)) (E.op subAV (E.un negAV (E.c (.int 1))) (E.op mulAV (E.c (.int 2)) (E.var 1))))) (S.ret (E.lst (E.cons (E.ite (T.val (E.op (geAV) (E.var 2) (E.op powAV (E.c (.int 10)) (E.c (.int 18))))) (E.var 2) (E.c (.int 0))) (E.cons (E.op addAV (E.op modAV (E.call B.int_ (E.cons (E.op addAV (E.op mulAV (E.var 2) (E.c (.int 48271))) (E.c (.int 1009))) (E.nil))) (E.c (.int 2147483629))) (E.c (.int 3))) (E.cons (E.call B.list_ (E.cons (E.slice (E.var 0) (some (E.c (.int 1))) none) (E.nil))) (E.nil)))))))
def m__law_pool : MF := runDefn 1 3 b__law_pool
def b__law_draw : MS := S.seq (S.ife (T.and (T.val (E.op (eqAV false) (E.op ixAV (E.var 0) (E.c (.int 0))) (E.c (.int 0)))) (T.val (E.op (eqAV true) (E.op ixAV (E.var 0) (E.c (.int 2))) (E.lst (E.nil))))) (S.seq (S.asg (G.name 2) (E.call B.int_ (E.cons (E.lmeth B.pop (E.op ixAV (E.var 0) (E.c (.int 2))) (E.cons (E.c (.int 0)) (E.nil))) (E.nil)))) (S.seq (S.asg (G.name 3) (E.ite (T.val (E.op (geAV) (E.var 2) (E.c (.int 0)))) (E.op mulAV (E.c (.int 2)) (E.var 2)) (E.op subAV (E.un negAV (E.c (.int 1))) (E.op mulAV (E.c (.int 2)) (E.var 2))))) (S.seq (S.asg (G.sub (E.var 0) (E.c (.int 0))) (E.ite (T.val (E.op (geAV) (E.var 3) (E.op powAV (E.c (.int 10)) (E.c (.int 18))))) (E.var 3) (E.c (.int 0)))) (S.asg (G.sub (E.var 0) (E.c (.int 1))) (E.op addAV (E.op modAV (E.call B.int_ (E.cons (E.op addAV (E.op ixAV (E.var 0) (E.c (.int 1))) (E.op mulAV (E.var 3) (E.c (.int 69621)))) (E.nil))) (E.c (.int 2147483629))) (E.c (.int 3))))))) (S.skip)) (S.seq (S.ife (T.val (E.op (gtAV) (E.op ixAV (E.var 0) (E.c (.int 0))) (E.c (.int 0)))) (S.seq (S.asg (G.name 4) (E.op modAV (E.call B.int_ (E.cons (E.op ixAV (E.var 0) (E.c (.int 0))) (E.nil))) (E.var 1))) (S.seq (S.asg (G.sub (E.var 0) (E.c (.int 0))) (E.op divAV (E.op ixAV (E.var 0) (E.c (.int 0))) (E.var 1))) (S.ret (E.var 4)))) (S.skip)) (S.seq (S.asg (G.sub (E.var 0) (E.c (.int 1))) (E.op modAV (E.call B.int_ (E.cons (E.op addAV (E.op mulAV (E.op ixAV (E.var 0) (E.c (.int 1))) (E.c (.int 48271))) (E.c (.int 11))) (E.nil))) (E.c (.int 2147483647)))) (S.ret (E.op modAV (E.op divAV (E.op modAV (E.call B.int_ (E.cons (E.op mulAV (E.op ixAV (E.var 0) (E.c (.int 1))) (E.op ixAV (E.var 0) (E.c (.int 1)))) (E.nil))) (E.c (.int 2147483629))) (E.c (.int 32))) (E.var 1)))))
def m__law_draw : MF := runDefn 2 5 b__law_draw
def b__law_pick : MS := S.ret (E.op ixAV (E.var 1) (E.calln m__law_draw (E.cons (E.var 0) (E.cons (E.call B.len (E.cons (E.var 1) (E.nil))) (E.nil)))))
def m__law_pick : MF := runDefn 2 2 b__law_pick
def b__law_turned : MS := S.seq (S.asg (G.unp [G.name 2, G.name 3]) (E.tup (E.cons (E.lstR (E.var 1)) (E.cons (E.lst (E.nil)) (E.nil))))) (S.seq (S.for_ (I.range1 (E.cons (E.var 1) (E.nil))) (G.name 4) (S.expr (E.lmeth B.append (E.var 3) (E.cons (E.lmeth B.pop (E.var 2) (E.cons (E.calln m__law_draw (E.cons (E.var 0) (E.cons (E.call B.len (E.cons (E.var 2) (E.nil))) (E.nil)))) (E.nil))) (E.nil))))) (S.ret (E.var 3)))
def m__law_turned : MF := runDefn 2 5 b__law_turned
def b__law_map_named : MS := S.seq (S.asg (G.name 4) (E.calln m__law_turned (E.cons (E.var 0) (E.cons (E.var 1) (E.nil))))) (S.seq (S.asg (G.name 5) (E.call B.tuple_ (E.cons (E.call B.sorted (E.cons (E.call B.set_ (E.cons (E.lc (I.seq (E.var 2)) (G.unp [G.name 6, G.name 7]) (T.yes) (E.tup (E.cons (E.op ixAV (E.var 4) (E.var 6)) (E.cons (E.op ixAV (E.var 4) (E.var 7)) (E.nil)))) [6, 7]) (E.nil))) (E.nil))) (E.nil)))) (S.ret (E.lst (E.cons (E.tup (E.cons (E.var 1) (E.cons (E.var 5) (E.cons (E.call B.tuple_ (E.cons (E.call B.sorted (E.cons (E.call B.set_ (E.cons (E.lc (I.seq (E.var 3)) (G.name 6) (T.yes) (E.op ixAV (E.var 4) (E.var 6)) [6]) (E.nil))) (E.nil))) (E.nil))) (E.nil))))) (E.cons (E.var 4) (E.nil))))))
def m__law_map_named : MF := runDefn 4 8 b__law_map_named
def b__law_map_some_wished : MS := S.seq (S.asg (G.unp [G.name 3, G.name 4]) (E.tup (E.cons (E.calln m__law_draw (E.cons (E.var 0) (E.cons (E.c (.int 8)) (E.nil)))) (E.cons (E.lc (I.range1 (E.cons (E.var 1) (E.nil))) (G.name 6) (T.val (E.op (eqAV false) (E.lc (I.seq (E.var 2)) (G.name 5) (T.val (E.op (eqAV false) (E.op ixAV (E.var 5) (E.c (.int 0))) (E.var 6))) (E.var 5) [5]) (E.lst (E.nil)))) (E.var 6) [6]) (E.nil))))) (S.seq (S.ife (T.val (E.op (ltAV) (E.var 3) (E.c (.int 4)))) (S.ret (E.op addAV (E.var 4) (E.lc (I.range1 (E.cons (E.var 1) (E.nil))) (G.name 6) (T.and (T.val (E.op (inAV true) (E.var 6) (E.var 4))) (T.and (T.val (E.op (gtAV) (E.var 3) (E.c (.int 1)))) (T.val (E.op (eqAV false) (E.calln m__law_draw (E.cons (E.var 0) (E.cons (E.c (.int 6)) (E.nil)))) (E.c (.int 0)))))) (E.var 6) [6]))) (S.skip)) (S.seq (S.ife (T.val (E.op (ltAV) (E.var 3) (E.c (.int 7)))) (S.ret (E.lc (I.range1 (E.cons (E.var 1) (E.nil))) (G.name 6) (T.val (E.op (eqAV false) (E.calln m__law_draw (E.cons (E.var 0) (E.cons (E.op subAV (E.var 3) (E.c (.int 2))) (E.nil)))) (E.c (.int 0)))) (E.var 6) [6])) (S.skip)) (S.ret (E.ite (T.val (E.op (gtAV) (E.calln m__law_draw (E.cons (E.var 0) (E.cons (E.c (.int 3)) (E.nil)))) (E.c (.int 0)))) (E.lst (E.nil)) (E.lstR (E.var 1))))))
def m__law_map_some_wished : MF := runDefn 3 7 b__law_map_some_wished
def b__law_map_drawn : MS := S.seq (S.asg (G.name 2) (E.calln m__law_draw (E.cons (E.var 0) (E.cons (E.op addAV (E.var 1) (E.c (.int 1))) (E.nil))))) (S.seq (S.ife (T.val (E.op (eqAV false) (E.var 2) (E.c (.int 0)))) (S.ret (E.tup (E.cons (E.c (.int 0)) (E.cons (E.tup (E.nil)) (E.cons (E.tup (E.nil)) (E.nil)))))) (S.skip)) (S.seq (S.asg (G.unp [G.name 3, G.name 4]) (E.tup (E.cons (E.calln m__law_draw (E.cons (E.var 0) (E.cons (E.c (.int 4)) (E.nil)))) (E.cons (E.lst (E.nil)) (E.nil))))) (S.seq (S.for_ (I.range1 (E.cons (E.calln m__law_draw (E.cons (E.var 0) (E.cons (E.op addAV (E.op mulAV (E.c (.int 2)) (E.var 2)) (E.c (.int 2))) (E.nil)))) (E.nil))) (G.name 5) (S.seq (S.asg (G.unp [G.name 6, G.name 7]) (E.tup (E.cons (E.calln m__law_draw (E.cons (E.var 0) (E.cons (E.var 2) (E.nil)))) (E.cons (E.calln m__law_draw (E.cons (E.var 0) (E.cons (E.var 2) (E.nil)))) (E.nil))))) (S.seq (S.asg (G.name 8) (E.or (E.op (eqAV false) (E.var 3) (E.c (.int 1))) (E.and (E.op (gtAV) (E.var 3) (E.c (.int 1))) (E.op (gtAV) (E.calln m__law_draw (E.cons (E.var 0) (E.cons (E.c (.int 5)) (E.nil)))) (E.c (.int 0)))))) (S.expr (E.lmeth B.append (E.var 4) (E.cons (E.ite (T.tru (E.var 8)) (E.tup (E.cons (E.call B.min2 (E.cons (E.var 6) (E.cons (E.var 7) (E.nil)))) (E.cons (E.call B.max2 (E.cons (E.var 6) (E.cons (E.var 7) (E.nil)))) (E.nil)))) (E.tup (E.cons (E.var 6) (E.cons (E.var 7) (E.nil))))) (E.nil))))))) (S.seq (S.ife (T.val (E.op (eqAV false) (E.var 3) (E.c (.int 3)))) (S.seq (S.asg (G.name 9) (E.op addAV (E.c (.int 1)) (E.calln m__law_draw (E.cons (E.var 0) (E.cons (E.c (.int 3)) (E.nil)))))) (S.asg (G.name 4) (E.op addAV (E.var 4) (E.lc (I.range1 (E.cons (E.op subAV (E.var 2) (E.c (.int 1))) (E.nil))) (G.name 6) (T.yes) (E.tup (E.cons (E.var 6) (E.cons (E.ite (T.and (T.val (E.op (gtAV) (E.op modAV (E.call B.int_ (E.cons (E.op addAV (E.var 6) (E.c (.int 1))) (E.nil))) (E.var 9)) (E.c (.int 0)))) (T.val (E.op (ltAV) (E.op addAV (E.var 6) (E.c (.int 1))) (E.var 2)))) (E.op addAV (E.var 6) (E.c (.int 1))) (E.op mulAV (E.op divAV (E.var 6) (E.var 9)) (E.var 9))) (E.nil)))) [6])))) (S.skip)) (S.ret (E.op ixAV (E.calln m__law_map_named (E.cons (E.var 0) (E.cons (E.var 2) (E.cons (E.var 4) (E.cons (E.calln m__law_map_some_wished (E.cons (E.var 0) (E.cons (E.var 2) (E.cons (E.var 4) (E.nil))))) (E.nil)))))) (E.c (.int 0))))))))
def m__law_map_drawn : MF := runDefn 2 10 b__law_map_drawn
def b__law_map_planted : MS := S.seq (S.asg (G.unp [G.name 4, G.name 5, G.name 6]) (E.tup (E.cons (E.op addAV (E.var 1) (E.var 2)) (E.cons (E.lc (I.range1 (E.cons (E.var 1) (E.nil))) (G.name 14) (T.yes) (E.tup (E.cons (E.var 14) (E.cons (E.op modAV (E.call B.int_ (E.cons (E.op addAV (E.var 14) (E.c (.int 1))) (E.nil))) (E.var 1)) (E.nil)))) [14]) (E.cons (E.lst (E.nil)) (E.nil)))))) (S.seq (S.for_ (I.range1 (E.cons (E.var 2) (E.nil))) (G.name 7) (S.seq (S.expr (E.lmeth B.append (E.var 5) (E.cons (E.tup (E.cons (E.calln m__law_draw (E.cons (E.var 0) (E.cons (E.var 1) (E.nil)))) (E.cons (E.op addAV (E.var 1) (E.var 7)) (E.nil)))) (E.nil)))) (S.seq (S.expr (E.lmeth B.append (E.var 6) (E.cons (E.lst (E.nil)) (E.nil)))) (S.for_ (I.range1 (E.cons (E.op addAV (E.c (.int 1)) (E.calln m__law_draw (E.cons (E.var 0) (E.cons (E.var 3) (E.nil))))) (E.nil))) (G.name 8) (S.seq (S.expr (E.lmeth B.append (E.var 5) (E.cons (E.tup (E.cons (E.op addAV (E.var 1) (E.var 7)) (E.cons (E.var 4) (E.nil)))) (E.nil)))) (S.seq (S.expr (E.lmeth B.append (E.op ixAV (E.var 6) (E.var 7)) (E.cons (E.var 4) (E.nil)))) (S.asg (G.name 4) (E.op addAV (E.var 4) (E.c (.int 1)))))))))) (S.seq (S.asg (G.name 9) (E.lst (E.nil))) (S.seq (S.for_ (I.seq (E.var 6)) (G.name 10) (S.asg (G.name 9) (E.op addAV (E.var 9) (E.var 10)))) (S.seq (S.asg (G.unp [G.name 11, G.name 12]) (E.calln m__law_map_named (E.cons (E.var 0) (E.cons (E.var 4) (E.cons (E.var 5) (E.cons (E.var 9) (E.nil))))))) (S.seq (S.asg (G.name 13) (E.lc (I.seq (E.var 6)) (G.name 10) (T.yes) (E.call B.sorted (E.cons (E.lc (I.seq (E.var 10)) (G.name 14) (T.yes) (E.op ixAV (E.var 12) (E.var 14)) [14]) (E.nil))) [10])) (S.ret (E.lst (E.cons (E.var 11) (E.cons (E.call B.sorted (E.cons (E.lc (I.range1 (E.cons (E.var 1) (E.nil))) (G.name 14) (T.yes) (E.op ixAV (E.var 12) (E.var 14)) [14]) (E.nil))) (E.cons (E.lc (I.range1 (E.cons (E.var 2) (E.nil))) (G.name 7) (T.yes) (E.op ixAV (E.var 12) (E.op addAV (E.var 1) (E.var 7))) [7]) (E.cons (E.var 13) (E.nil))))))))))))
def m__law_map_planted : MF := runDefn 4 15 b__law_map_planted
def b__law_map_met : MS := S.seq (S.asg (G.unp [G.name 2, G.name 3]) (E.tup (E.cons (E.lst (E.nil)) (E.cons (E.lst (E.cons (E.var 1) (E.nil))) (E.nil))))) (S.seq (S.for_ (I.range1 (E.cons (E.op addAV (E.op ixAV (E.var 0) (E.c (.int 0))) (E.c (.int 1))) (E.nil))) (G.name 4) (S.seq (S.asg (G.name 5) (E.lc (I.seq (E.op ixAV (E.var 0) (E.c (.int 1)))) (G.name 6) (T.val (E.op (inAV false) (E.op ixAV (E.var 6) (E.c (.int 0))) (E.var 3))) (E.op ixAV (E.var 6) (E.c (.int 1))) [6])) (S.seq (S.asg (G.name 5) (E.lc (I.seq (E.call B.sorted (E.cons (E.call B.set_ (E.cons (E.var 5) (E.nil))) (E.nil)))) (G.name 7) (T.val (E.op (inAV true) (E.var 7) (E.var 2))) (E.var 7) [7])) (S.seq (S.asg (G.name 2) (E.op addAV (E.var 2) (E.var 5))) (S.seq (S.asg (G.name 3) (E.lc (I.seq (E.var 5)) (G.name 7) (T.val (E.op (inAV true) (E.var 7) (E.op ixAV (E.var 0) (E.c (.int 2))))) (E.var 7) [7])) (S.ife (T.val (E.op (eqAV false) (E.var 3) (E.lst (E.nil)))) (S.brk) (S.skip))))))) (S.ret (E.call B.sorted (E.cons (E.var 2) (E.nil)))))
def m__law_map_met : MF := runDefn 2 8 b__law_map_met
def b__law_map_table : MS := S.ret (E.lc (I.range1 (E.cons (E.op ixAV (E.var 0) (E.c (.int 0))) (E.nil))) (G.name 1) (T.yes) (E.calln m__law_map_met (E.cons (E.var 0) (E.cons (E.var 1) (E.nil)))) [1])
def m__law_map_table : MF := runDefn 1 2 b__law_map_table
def b__law_map_piece : MS := S.seq (S.ife (T.val (E.op (inAV false) (E.var 2) (E.op ixAV (E.var 0) (E.c (.int 2))))) (S.ret (E.tup (E.cons (E.var 2) (E.nil)))) (S.skip)) (S.ret (E.call B.tuple_ (E.cons (E.lc (I.range1 (E.cons (E.op ixAV (E.var 0) (E.c (.int 0))) (E.nil))) (G.name 3) (T.and (T.val (E.op (inAV true) (E.var 3) (E.op ixAV (E.var 0) (E.c (.int 2))))) (T.or (T.val (E.op (eqAV false) (E.var 3) (E.var 2))) (T.and (T.val (E.op (inAV false) (E.var 3) (E.op ixAV (E.var 1) (E.var 2)))) (T.val (E.op (inAV false) (E.var 2) (E.op ixAV (E.var 1) (E.var 3))))))) (E.var 3) [3]) (E.nil))))
def m__law_map_piece : MF := runDefn 3 4 b__law_map_piece
def b__law_map_pieces : MS := S.seq (S.asg (G.name 2) (E.lc (I.range1 (E.cons (E.op ixAV (E.var 0) (E.c (.int 0))) (E.nil))) (G.name 3) (T.val (E.op (inAV true) (E.var 3) (E.op ixAV (E.var 0) (E.c (.int 2))))) (E.calln m__law_map_piece (E.cons (E.var 0) (E.cons (E.var 1) (E.cons (E.var 3) (E.nil))))) [3])) (S.ret (E.call B.tuple_ (E.cons (E.call B.sorted (E.cons (E.call B.set_ (E.cons (E.var 2) (E.nil))) (E.nil))) (E.nil))))
def m__law_map_pieces : MF := runDefn 2 4 b__law_map_pieces
def b__law_parted : MS := S.seq (S.asg (G.name 2) (E.calln m__law_map_table (E.cons (E.var 1) (E.nil)))) (S.seq (S.ife (T.val (E.op (eqAV true) (E.call B.repr_ (E.cons (E.calln m_pieces (E.cons (E.var 1) (E.nil))) (E.nil))) (E.call B.repr_ (E.cons (E.calln m__law_map_pieces (E.cons (E.var 1) (E.cons (E.var 2) (E.nil)))) (E.nil))))) (S.ret (E.c (.bl false))) (S.skip)) (S.seq (S.for_ (I.range1 (E.cons (E.ite (T.val (E.op (gtAV) (E.op ixAV (E.var 1) (E.c (.int 0))) (E.c (.int 0)))) (E.c (.int 3)) (E.c (.int 0))) (E.nil))) (G.name 3) (S.seq (S.asg (G.name 4) (E.calln m__law_draw (E.cons (E.var 0) (E.cons (E.op ixAV (E.var 1) (E.c (.int 0))) (E.nil))))) (S.ife (T.val (E.op (eqAV true) (E.call B.repr_ (E.cons (E.calln m_piece (E.cons (E.var 1) (E.cons (E.var 4) (E.nil)))) (E.nil))) (E.call B.repr_ (E.cons (E.calln m__law_map_piece (E.cons (E.var 1) (E.cons (E.var 2) (E.cons (E.var 4) (E.nil))))) (E.nil))))) (S.ret (E.c (.bl false))) (S.skip)))) (S.ret (E.c (.bl true)))))
def m__law_parted : MF := runDefn 2 5 b__law_parted
def b_law : MS := S.seq (S.asg (G.name 1) (E.tup (E.cons (E.tup (E.cons (E.c (.int 0)) (E.cons (E.c (.int 1)) (E.nil)))) (E.cons (E.tup (E.cons (E.c (.int 0)) (E.cons (E.c (.int 2)) (E.nil)))) (E.cons (E.tup (E.cons (E.c (.int 1)) (E.cons (E.c (.int 0)) (E.nil)))) (E.cons (E.tup (E.cons (E.c (.int 1)) (E.cons (E.c (.int 4)) (E.nil)))) (E.cons (E.tup (E.cons (E.c (.int 2)) (E.cons (E.c (.int 3)) (E.nil)))) (E.cons (E.tup (E.cons (E.c (.int 2)) (E.cons (E.c (.int 5)) (E.nil)))) (E.cons (E.tup (E.cons (E.c (.int 3)) (E.cons (E.c (.int 0)) (E.nil)))) (E.cons (E.tup (E.cons (E.c (.int 3)) (E.cons (E.c (.int 6)) (E.nil)))) (E.nil))))))))))) (S.seq (S.ife (T.or (T.val (E.op (eqAV true) (E.calln m_pieces (E.cons (E.tup (E.cons (E.c (.int 7)) (E.cons (E.var 1) (E.cons (E.tup (E.cons (E.c (.int 4)) (E.cons (E.c (.int 5)) (E.cons (E.c (.int 6)) (E.nil))))) (E.nil))))) (E.nil))) (E.tup (E.cons (E.tup (E.cons (E.c (.int 0)) (E.cons (E.c (.int 1)) (E.cons (E.c (.int 2)) (E.cons (E.c (.int 3)) (E.nil)))))) (E.nil))))) (T.val (E.op (eqAV true) (E.calln m_pieces (E.cons (E.tup (E.cons (E.c (.int 7)) (E.cons (E.var 1) (E.cons (E.tup (E.cons (E.c (.int 0)) (E.cons (E.c (.int 4)) (E.cons (E.c (.int 5)) (E.cons (E.c (.int 6)) (E.nil)))))) (E.nil))))) (E.nil))) (E.tup (E.cons (E.tup (E.cons (E.c (.int 1)) (E.nil))) (E.cons (E.tup (E.cons (E.c (.int 2)) (E.nil))) (E.cons (E.tup (E.cons (E.c (.int 3)) (E.nil))) (E.nil)))))))) (S.ret (E.c (.bl false))) (S.skip)) (S.seq (S.asg (G.name 2) (E.calln m__law_pool (E.cons (E.var 0) (E.nil)))) (S.seq (S.ife (T.not (T.tru (E.calln m__law_parted (E.cons (E.var 2) (E.cons (E.calln m__law_map_drawn (E.cons (E.var 2) (E.cons (E.c (.int 8)) (E.nil)))) (E.nil)))))) (S.ret (E.c (.bl false))) (S.skip)) (S.seq (S.asg (G.name 3) (E.ite (T.val (E.op (eqAV false) (E.calln m__law_draw (E.cons (E.var 2) (E.cons (E.c (.int 8)) (E.nil)))) (E.c (.int 0)))) (E.c (.int 24)) (E.op addAV (E.c (.int 1)) (E.calln m__law_draw (E.cons (E.var 2) (E.cons (E.c (.int 8)) (E.nil))))))) (S.seq (S.asg (G.unp [G.name 4, G.name 5, G.name 6, G.name 7]) (E.calln m__law_map_planted (E.cons (E.var 2) (E.cons (E.var 3) (E.cons (E.calln m__law_draw (E.cons (E.var 2) (E.cons (E.c (.int 4)) (E.nil)))) (E.cons (E.c (.int 2)) (E.nil))))))) (S.seq (S.asg (G.name 8) (E.call B.sorted (E.cons (E.op addAV (E.lst (E.cons (E.call B.tuple_ (E.cons (E.var 5) (E.nil))) (E.nil))) (E.lc (I.seq (E.var 6)) (G.name 12) (T.yes) (E.tup (E.cons (E.var 12) (E.nil))) [12])) (E.nil)))) (S.seq (S.ife (T.or (T.val (E.op (eqAV true) (E.call B.repr_ (E.cons (E.calln m_pieces (E.cons (E.var 4) (E.nil))) (E.nil))) (E.call B.repr_ (E.cons (E.call B.tuple_ (E.cons (E.var 8) (E.nil))) (E.nil))))) (T.val (E.op (eqAV true) (E.call B.repr_ (E.cons (E.calln m_piece (E.cons (E.var 4) (E.cons (E.calln m__law_pick (E.cons (E.var 2) (E.cons (E.var 5) (E.nil)))) (E.nil)))) (E.nil))) (E.call B.repr_ (E.cons (E.call B.tuple_ (E.cons (E.var 5) (E.nil))) (E.nil)))))) (S.ret (E.c (.bl false))) (S.skip)) (S.seq (S.asg (G.name 9) (E.call B.sorted (E.cons (E.call B.set_ (E.cons (E.lst (E.cons (E.calln m__law_pick (E.cons (E.var 2) (E.cons (E.var 5) (E.nil)))) (E.cons (E.calln m__law_pick (E.cons (E.var 2) (E.cons (E.var 5) (E.nil)))) (E.nil)))) (E.nil))) (E.nil)))) (S.seq (S.asg (G.name 10) (E.tup (E.cons (E.op ixAV (E.var 4) (E.c (.int 0))) (E.cons (E.op ixAV (E.var 4) (E.c (.int 1))) (E.cons (E.call B.tuple_ (E.cons (E.call B.sorted (E.cons (E.op addAV (E.call B.list_ (E.cons (E.op ixAV (E.var 4) (E.c (.int 2))) (E.nil))) (E.var 9)) (E.nil))) (E.nil))) (E.nil)))))) (S.seq (S.asg (G.name 11) (E.call B.sorted (E.cons (E.lc (I.seq (E.op addAV (E.var 5) (E.var 6))) (G.name 12) (T.val (E.op (inAV true) (E.var 12) (E.var 9))) (E.tup (E.cons (E.var 12) (E.nil))) [12]) (E.nil)))) (S.seq (S.ife (T.val (E.op (eqAV true) (E.call B.repr_ (E.cons (E.calln m_pieces (E.cons (E.var 10) (E.nil))) (E.nil))) (E.call B.repr_ (E.cons (E.call B.tuple_ (E.cons (E.var 11) (E.nil))) (E.nil))))) (S.ret (E.c (.bl false))) (S.skip)) (S.seq (S.asg (G.name 12) (E.calln m__law_pick (E.cons (E.var 2) (E.cons (E.var 5) (E.nil))))) (S.ret (E.and (E.op (eqAV false) (E.call B.repr_ (E.cons (E.calln m_piece (E.cons (E.var 10) (E.cons (E.var 12) (E.nil)))) (E.nil))) (E.call B.repr_ (E.cons (E.tup (E.cons (E.var 12) (E.nil))) (E.nil)))) (E.op (eqAV false) (E.call B.repr_ (E.cons (E.calln m_piece (E.cons (E.var 10) (E.cons (E.op ixAV (E.var 9) (E.c (.int 0))) (E.nil)))) (E.nil))) (E.call B.repr_ (E.cons (E.tup (E.cons (E.op ixAV (E.var 9) (E.c (.int 0))) (E.nil))) (E.nil))))))))))))))))))
def m_law : MF := runDefn 1 13 b_law
end Mr
set_option Elab.async false
set_option maxRecDepth 100000
set_option maxHeartbeats 4000000
/-! Printed by gen.py: each def refines its mirror. -/
namespace Rf
open PySem L2 Mi Mr Br PySem.Spec PyProof.Rows
def top (i : Nat) : Stmt := PySem.Challenge.pw_fewtraps_k04_pieces_of_maps.main.body.getD i (.Pass ⟨0, 0, 0, 0⟩)
abbrev s_is_whole : Stmt := top 8
abbrev s_is_road : Stmt := top 9
abbrev s_first_bad_place : Stmt := top 10
abbrev s_first_bad_road : Stmt := top 11
abbrev s_wrong_roads : Stmt := top 12
abbrev s_wrong_wishes : Stmt := top 13
abbrev s_made_map : Stmt := top 14
abbrev s_is_place : Stmt := top 15
abbrev s_check_place : Stmt := top 16
abbrev s_roads_from : Stmt := top 17
abbrev s_met_by : Stmt := top 19
abbrev s_met : Stmt := top 20
abbrev s_turned_roads : Stmt := top 22
abbrev s_piece_from : Stmt := top 23
abbrev s_tables : Stmt := top 24
abbrev s_piece : Stmt := top 25
abbrev s_pieces : Stmt := top 26
abbrev s__law_pool : Stmt := top 28
abbrev s__law_draw : Stmt := top 29
abbrev s__law_pick : Stmt := top 30
abbrev s__law_turned : Stmt := top 31
abbrev s__law_map_named : Stmt := top 32
abbrev s__law_map_some_wished : Stmt := top 33
abbrev s__law_map_drawn : Stmt := top 34
abbrev s__law_map_planted : Stmt := top 35
abbrev s__law_map_met : Stmt := top 36
abbrev s__law_map_table : Stmt := top 37
abbrev s__law_map_piece : Stmt := top 38
abbrev s__law_map_pieces : Stmt := top 39
abbrev s__law_parted : Stmt := top 40
abbrev s_law : Stmt := top 41
structure Tops (K : PySem.W.Frag) (mg : Str → Option Value) where
  d_is_whole : DefN K mg "is_whole" s_is_whole ["thing", "low", "high"]
  d_is_road : DefN K mg "is_road" s_is_road ["thing", "places"]
  d_first_bad_place : DefN K mg "first_bad_place" s_first_bad_place ["things", "places"]
  d_first_bad_road : DefN K mg "first_bad_road" s_first_bad_road ["things", "places"]
  d_wrong_roads : DefN K mg "wrong_roads" s_wrong_roads ["thing"]
  d_wrong_wishes : DefN K mg "wrong_wishes" s_wrong_wishes ["thing"]
  d_made_map : DefN K mg "made_map" s_made_map ["thing"]
  d_is_place : DefN K mg "is_place" s_is_place ["chart", "thing"]
  d_check_place : DefN K mg "check_place" s_check_place ["chart", "a"]
  d_roads_from : DefN K mg "roads_from" s_roads_from ["chart"]
  d_met_by : DefN K mg "met_by" s_met_by ["leads", "wished", "a"]
  d_met : DefN K mg "met" s_met ["chart", "a"]
  d_turned_roads : DefN K mg "turned_roads" s_turned_roads ["chart"]
  d_piece_from : DefN K mg "piece_from" s_piece_from ["chart", "a"]
  d_tables : DefN K mg "tables" s_tables ["chart"]
  d_piece : DefN K mg "piece" s_piece ["chart", "a"]
  d_pieces : DefN K mg "pieces" s_pieces ["chart"]
  d__law_pool : DefN K mg "_law_pool" s__law_pool ["script"]
  d__law_draw : DefN K mg "_law_draw" s__law_draw ["pool", "many"]
  d__law_pick : DefN K mg "_law_pick" s__law_pick ["pool", "things"]
  d__law_turned : DefN K mg "_law_turned" s__law_turned ["pool", "many"]
  d__law_map_named : DefN K mg "_law_map_named" s__law_map_named ["pool", "places", "roads", "wished"]
  d__law_map_some_wished : DefN K mg "_law_map_some_wished" s__law_map_some_wished ["pool", "places", "roads"]
  d__law_map_drawn : DefN K mg "_law_map_drawn" s__law_map_drawn ["pool", "most"]
  d__law_map_planted : DefN K mg "_law_map_planted" s__law_map_planted ["pool", "ring", "ways", "behind"]
  d__law_map_met : DefN K mg "_law_map_met" s__law_map_met ["chart", "a"]
  d__law_map_table : DefN K mg "_law_map_table" s__law_map_table ["chart"]
  d__law_map_piece : DefN K mg "_law_map_piece" s__law_map_piece ["chart", "table", "a"]
  d__law_map_pieces : DefN K mg "_law_map_pieces" s__law_map_pieces ["chart", "table"]
  d__law_parted : DefN K mg "_law_parted" s__law_parted ["pool", "chart"]
  d_law : DefN K mg "law" s_law ["script"]
  n_int : mg "int" = none
  n_isinstance : mg "isinstance" = none
  n_bool : mg "bool" = none
  n_tuple : mg "tuple" = none
  n_len : mg "len" = none
  n_range : mg "range" = none
  n_list : mg "list" = none
  n_set : mg "set" = none
  n_sorted : mg "sorted" = none
  n_min : mg "min" = none
  n_max : mg "max" = none
  n_repr : mg "repr" = none
  c_MOST_PLACES : ∃ t, mg "MOST_PLACES" = some (.int 60 t)
  c_MOST_ROADS : ∃ t, mg "MOST_ROADS" = some (.int 240 t)
section
variable {P : Program} {w : World} {K : PySem.W.Frag} {mg : Str → Option Value} {base : Heap}
theorem sc_is_whole : FnScope ["thing", "low", "high"] ["thing", "low", "high"] (defScope s_is_whole) := ⟨rfl, rfl, rfl, by decide +kernel, rfl, by decide +kernel, by decide +kernel⟩
theorem ok_is_whole (T : Tops K mg) : FnG P w K mg base CX0 1 T.d_is_whole.1.1 T.d_is_whole.1.2 ["thing", "low", "high"] (spM P w K m_is_whole) := by
  refine fnG (b := b_is_whole) T.d_is_whole.2.fn sc_is_whole rfl rfl (fun cdv A outer s H hr => ?_)
  exact rss_one (rs_ret (re_and (re_callB (cm_isa) (by exact fun _ => rfl) T.n_isinstance (by decide +kernel) (ra_cons (rv 0) (ra_cons (rty (n := "int") T.n_int) (ra_nil)))) (re_and (re_not (re_callB (cm_isa) (by exact fun _ => rfl) T.n_isinstance (by decide +kernel) (ra_cons (rv 0) (ra_cons (rty (n := "bool") T.n_bool) (ra_nil))))) (re_one (re_chain (opm_le (fun _ => (hr.mono (Nat.zero_le _)).rm)) (opm_le (fun _ => (hr.mono (Nat.zero_le _)).rm)) (rv 1) (rv 0) (rv 2))))))
theorem sc_is_road : FnScope ["thing", "places"] ["thing", "places"] (defScope s_is_road) := ⟨rfl, rfl, rfl, by decide +kernel, rfl, by decide +kernel, by decide +kernel⟩
theorem ok_is_road (T : Tops K mg) : FnG P w K mg base CX0 2 T.d_is_road.1.1 T.d_is_road.1.2 ["thing", "places"] (spM P w K m_is_road) := by
  have G_is_whole := ok_is_whole (P := P) (w := w) (base := base) T
  refine fnG (b := b_is_road) T.d_is_road.2.fn sc_is_road rfl rfl (fun cdv A outer s H hr => ?_)
  exact rss_cons (rs_if ((rw_or (rt_not (rt_tru (re_callB (cm_isa) (by exact fun _ => rfl) T.n_isinstance (by decide +kernel) (ra_cons (rv 0) (ra_cons (rty (n := "tuple") T.n_tuple) (ra_nil)))))) (rw_or1 (rt_cmp (opm_ne (fun _ => (hr.mono (Nat.zero_le _)).rm)) (re_callB (cm_len) (by exact fun _ => rfl) T.n_len (by decide +kernel) (ra_cons (rv 0) (ra_nil))) (re_int) (nomark _)))).rt) (rss_one (rs_ret (re_bl))) (rss_nil)) (rss_one (rs_ret (re_and (re_call G_is_whole T.d_is_whole.2 (fun _ => hr.mono (by decide)) (by exact fun _ => rfl) (ra_cons (re_ix (rv 0) (re_int)) (ra_cons (re_int) (ra_cons (re_op opm_sub (rv 1) (re_int)) (ra_nil))))) (re_one (re_call G_is_whole T.d_is_whole.2 (fun _ => hr.mono (by decide)) (by exact fun _ => rfl) (ra_cons (re_ix (rv 0) (re_int)) (ra_cons (re_int) (ra_cons (re_op opm_sub (rv 1) (re_int)) (ra_nil)))))))))
theorem sc_first_bad_place : FnScope ["things", "places", "at"] ["things", "places"] (defScope s_first_bad_place) := ⟨rfl, rfl, rfl, by decide +kernel, rfl, by decide +kernel, by decide +kernel⟩
theorem ok_first_bad_place (T : Tops K mg) : FnG P w K mg base CX0 2 T.d_first_bad_place.1.1 T.d_first_bad_place.1.2 ["things", "places"] (spM P w K m_first_bad_place) := by
  have G_is_whole := ok_is_whole (P := P) (w := w) (base := base) T
  refine fnG (b := b_first_bad_place) T.d_first_bad_place.2.fn sc_first_bad_place rfl rfl (fun cdv A outer s H hr => ?_)
  exact rss_cons (rs_for (fun _ => PassesOwn.never) (fun _ => rfl) (ri_range1 (by exact fun _ => rfl) T.n_range (ra_cons (re_callB (cm_len) (by exact fun _ => rfl) T.n_len (by decide +kernel) (ra_cons (rv 0) (ra_nil))) (ra_nil))) (rgn 2 (fun _ => sc_first_bad_place.nd)) (rss_one (rs_if ((rw_or (rt_not (rt_tru (re_call G_is_whole T.d_is_whole.2 (fun _ => hr.mono (by decide)) (by exact fun _ => rfl) (ra_cons (re_ix (rv 0) (rv 2)) (ra_cons (re_int) (ra_cons (re_op opm_sub (rv 1) (re_int)) (ra_nil))))))) (rw_or1 ((rw_and (rt_cmp (opm_gt) (rv 2) (re_int) (nomark _)) (rw_and1 (rt_cmp (opm_le (fun _ => (hr.mono (Nat.zero_le _)).rm)) (re_ix (rv 0) (rv 2)) (re_ix (rv 0) (re_op opm_sub (rv 2) (re_int))) (nomark _)))).rt))).rt) (rss_one (rs_ret (rv 2))) (rss_nil)))) (rss_one (rs_ret (re_non)))
theorem sc_first_bad_road : FnScope ["things", "places", "at"] ["things", "places"] (defScope s_first_bad_road) := ⟨rfl, rfl, rfl, by decide +kernel, rfl, by decide +kernel, by decide +kernel⟩
theorem ok_first_bad_road (T : Tops K mg) : FnG P w K mg base CX0 3 T.d_first_bad_road.1.1 T.d_first_bad_road.1.2 ["things", "places"] (spM P w K m_first_bad_road) := by
  have G_is_road := ok_is_road (P := P) (w := w) (base := base) T
  refine fnG (b := b_first_bad_road) T.d_first_bad_road.2.fn sc_first_bad_road rfl rfl (fun cdv A outer s H hr => ?_)
  exact rss_cons (rs_for (fun _ => PassesOwn.never) (fun _ => rfl) (ri_range1 (by exact fun _ => rfl) T.n_range (ra_cons (re_callB (cm_len) (by exact fun _ => rfl) T.n_len (by decide +kernel) (ra_cons (rv 0) (ra_nil))) (ra_nil))) (rgn 2 (fun _ => sc_first_bad_road.nd)) (rss_one (rs_if ((rw_or (rt_not (rt_tru (re_call G_is_road T.d_is_road.2 (fun _ => hr.mono (by decide)) (by exact fun _ => rfl) (ra_cons (re_ix (rv 0) (rv 2)) (ra_cons (rv 1) (ra_nil)))))) (rw_or1 ((rw_and (rt_cmp (opm_gt) (rv 2) (re_int) (nomark _)) (rw_and1 (rt_cmp (opm_le (fun _ => (hr.mono (Nat.zero_le _)).rm)) (re_ix (rv 0) (rv 2)) (re_ix (rv 0) (re_op opm_sub (rv 2) (re_int))) (nomark _)))).rt))).rt) (rss_one (rs_ret (rv 2))) (rss_nil)))) (rss_one (rs_ret (re_non)))
theorem sc_wrong_roads : FnScope ["thing"] ["thing"] (defScope s_wrong_roads) := ⟨rfl, rfl, rfl, by decide +kernel, rfl, by decide +kernel, by decide +kernel⟩
theorem ok_wrong_roads (T : Tops K mg) : FnG P w K mg base CX0 4 T.d_wrong_roads.1.1 T.d_wrong_roads.1.2 ["thing"] (spM P w K m_wrong_roads) := by
  have G_is_whole := ok_is_whole (P := P) (w := w) (base := base) T
  have G_first_bad_road := ok_first_bad_road (P := P) (w := w) (base := base) T
  refine fnG (b := b_wrong_roads) T.d_wrong_roads.2.fn sc_wrong_roads rfl rfl (fun cdv A outer s H hr => ?_)
  exact rss_cons (rs_if ((rw_or (rt_not (rt_tru (re_callB (cm_isa) (by exact fun _ => rfl) T.n_isinstance (by decide +kernel) (ra_cons (rv 0) (ra_cons (rty (n := "tuple") T.n_tuple) (ra_nil)))))) (rw_or1 (rt_cmp (opm_ne (fun _ => (hr.mono (Nat.zero_le _)).rm)) (re_callB (cm_len) (by exact fun _ => rfl) T.n_len (by decide +kernel) (ra_cons (rv 0) (ra_nil))) (re_int) (nomark _)))).rt) (rss_one (rs_ret (re_neg (re_int)))) (rss_nil)) (rss_cons (rs_if (rt_not (rt_tru (re_call G_is_whole T.d_is_whole.2 (fun _ => hr.mono (by decide)) (by exact fun _ => rfl) (ra_cons (re_ix (rv 0) (re_int)) (ra_cons (re_int) (ra_cons (rk T.c_MOST_PLACES) (ra_nil))))))) (rss_one (rs_ret (re_neg (re_int)))) (rss_nil)) (rss_cons (rs_if ((rw_or (rt_not (rt_tru (re_callB (cm_isa) (by exact fun _ => rfl) T.n_isinstance (by decide +kernel) (ra_cons (re_ix (rv 0) (re_int)) (ra_cons (rty (n := "tuple") T.n_tuple) (ra_nil)))))) (rw_or1 (rt_cmp (opm_gt) (re_callB (cm_len) (by exact fun _ => rfl) T.n_len (by decide +kernel) (ra_cons (re_ix (rv 0) (re_int)) (ra_nil))) (rk T.c_MOST_ROADS) (nomark _)))).rt) (rss_one (rs_ret (re_neg (re_int)))) (rss_nil)) (rss_one (rs_ret (re_call G_first_bad_road T.d_first_bad_road.2 (fun _ => hr.mono (by decide)) (by exact fun _ => rfl) (ra_cons (re_ix (rv 0) (re_int)) (ra_cons (re_ix (rv 0) (re_int)) (ra_nil))))))))
theorem sc_wrong_wishes : FnScope ["thing"] ["thing"] (defScope s_wrong_wishes) := ⟨rfl, rfl, rfl, by decide +kernel, rfl, by decide +kernel, by decide +kernel⟩
theorem ok_wrong_wishes (T : Tops K mg) : FnG P w K mg base CX0 3 T.d_wrong_wishes.1.1 T.d_wrong_wishes.1.2 ["thing"] (spM P w K m_wrong_wishes) := by
  have G_first_bad_place := ok_first_bad_place (P := P) (w := w) (base := base) T
  refine fnG (b := b_wrong_wishes) T.d_wrong_wishes.2.fn sc_wrong_wishes rfl rfl (fun cdv A outer s H hr => ?_)
  exact rss_cons (rs_if (rt_not (rt_tru (re_callB (cm_isa) (by exact fun _ => rfl) T.n_isinstance (by decide +kernel) (ra_cons (re_ix (rv 0) (re_int)) (ra_cons (rty (n := "tuple") T.n_tuple) (ra_nil)))))) (rss_one (rs_ret (re_neg (re_int)))) (rss_nil)) (rss_one (rs_ret (re_call G_first_bad_place T.d_first_bad_place.2 (fun _ => hr.mono (by decide)) (by exact fun _ => rfl) (ra_cons (re_ix (rv 0) (re_int)) (ra_cons (re_ix (rv 0) (re_int)) (ra_nil))))))
theorem sc_made_map : FnScope ["thing", "wrong"] ["thing"] (defScope s_made_map) := ⟨rfl, rfl, rfl, by decide +kernel, rfl, by decide +kernel, by decide +kernel⟩
theorem ok_made_map (T : Tops K mg) : FnG P w K mg base CX0 5 T.d_made_map.1.1 T.d_made_map.1.2 ["thing"] (spM P w K m_made_map) := by
  have G_wrong_roads := ok_wrong_roads (P := P) (w := w) (base := base) T
  have G_wrong_wishes := ok_wrong_wishes (P := P) (w := w) (base := base) T
  refine fnG (b := b_made_map) T.d_made_map.2.fn sc_made_map rfl rfl (fun cdv A outer s H hr => ?_)
  exact rss_cons (rset 1 (re_call G_wrong_roads T.d_wrong_roads.2 (fun _ => hr.mono (by decide)) (by exact fun _ => rfl) (ra_cons (rv 0) (ra_nil))) (fun _ => sc_made_map.nd)) (rss_cons (rs_if (rt_cmp (opm_isnot) (rv 1) (re_non) (nomark _)) (rss_one (rs_never)) (rss_nil)) (rss_cons (rset 1 (re_call G_wrong_wishes T.d_wrong_wishes.2 (fun _ => hr.mono (by decide)) (by exact fun _ => rfl) (ra_cons (rv 0) (ra_nil))) (fun _ => sc_made_map.nd)) (rss_cons (rs_if (rt_cmp (opm_isnot) (rv 1) (re_non) (nomark _)) (rss_one (rs_never)) (rss_nil)) (rss_one (rs_ret (rv 0))))))
theorem sc_is_place : FnScope ["chart", "thing"] ["chart", "thing"] (defScope s_is_place) := ⟨rfl, rfl, rfl, by decide +kernel, rfl, by decide +kernel, by decide +kernel⟩
theorem ok_is_place (T : Tops K mg) : FnG P w K mg base CX0 2 T.d_is_place.1.1 T.d_is_place.1.2 ["chart", "thing"] (spM P w K m_is_place) := by
  have G_is_whole := ok_is_whole (P := P) (w := w) (base := base) T
  refine fnG (b := b_is_place) T.d_is_place.2.fn sc_is_place rfl rfl (fun cdv A outer s H hr => ?_)
  exact rss_one (rs_ret (re_call G_is_whole T.d_is_whole.2 (fun _ => hr.mono (by decide)) (by exact fun _ => rfl) (ra_cons (rv 1) (ra_cons (re_int) (ra_cons (re_op opm_sub (re_ix (rv 0) (re_int)) (re_int)) (ra_nil))))))
theorem sc_check_place : FnScope ["chart", "a"] ["chart", "a"] (defScope s_check_place) := ⟨rfl, rfl, rfl, by decide +kernel, rfl, by decide +kernel, by decide +kernel⟩
theorem ok_check_place (T : Tops K mg) : FnG P w K mg base CX0 3 T.d_check_place.1.1 T.d_check_place.1.2 ["chart", "a"] (spM P w K m_check_place) := by
  have G_is_place := ok_is_place (P := P) (w := w) (base := base) T
  refine fnG (b := b_check_place) T.d_check_place.2.fn sc_check_place rfl rfl (fun cdv A outer s H hr => ?_)
  exact rss_one (rs_if (rt_not (rt_tru (re_call G_is_place T.d_is_place.2 (fun _ => hr.mono (by decide)) (by exact fun _ => rfl) (ra_cons (rv 0) (ra_cons (rv 1) (ra_nil)))))) (rss_one (rs_never)) (rss_nil))
theorem sc_roads_from : FnScope ["chart", "found", "a", "b"] ["chart"] (defScope s_roads_from) := ⟨rfl, rfl, rfl, by decide +kernel, rfl, by decide +kernel, by decide +kernel⟩
theorem ok_roads_from (T : Tops K mg) : FnG P w K mg base CX0 1 T.d_roads_from.1.1 T.d_roads_from.1.2 ["chart"] (spM P w K m_roads_from) := by
  refine fnG (b := b_roads_from) T.d_roads_from.2.fn sc_roads_from rfl rfl (fun cdv A outer s H hr => ?_)
  exact rss_cons (rs_setLc (i := 1) (own := [("a", 2)]) (fun _ => rfl) (fun _ => sc_roads_from.nd) (fun _ => rfl) (fun _ => rfl) (fun _ => sw_true rfl rfl rfl (by decide +kernel)) (ri_range1 (by exact fun _ => rfl) T.n_range (ra_cons (re_ix (rv 0) (re_int)) (ra_nil))) (blk1 (N := ["chart", "found", "a", "b"]) (sc0 := defScope s_roads_from) (by decide +kernel)) (rgon 2 (fun _ => sc_roads_from.nd)) (rts_nil) (re_lst (ra_nil))) (rss_cons (rs_for (fun _ => PassesOwn.never) (fun _ => rfl) (ri_seq (re_ix (rv 0) (re_int))) (rg_unp (n := 2) (fun _ => rfl) (rgs_cons (rgn 2 (fun _ => sc_roads_from.nd)) (rgs_cons (rgn 3 (fun _ => sc_roads_from.nd)) (rgs_nil))) rfl) (rss_one (rs_expr (re_lm PySem.F.plainAttrs_list PySem.F.slot_list_append PySem.F.type_list_append mm_append (re_ix (rv 1) (rv 2)) (ra_cons (rv 3) (ra_nil)))))) (rss_one (rs_ret (rv 1))))
theorem sc_met_by : FnScope ["leads", "wished", "a", "found", "left", "here", "there"] ["leads", "wished", "a"] (defScope s_met_by) := ⟨rfl, rfl, rfl, by decide +kernel, rfl, by decide +kernel, by decide +kernel⟩
theorem ok_met_by (T : Tops K mg) : FnG P w K mg base CX0 1 T.d_met_by.1.1 T.d_met_by.1.2 ["leads", "wished", "a"] (spM P w K m_met_by) := by
  refine fnG (b := b_met_by) T.d_met_by.2.fn sc_met_by rfl rfl (fun cdv A outer s H hr => ?_)
  exact rss_cons (rset 3 (re_op opm_mul (re_lst (ra_cons (re_bl) (ra_nil))) (re_callB (cm_len) (by exact fun _ => rfl) T.n_len (by decide +kernel) (ra_cons (rv 0) (ra_nil)))) (fun _ => sc_met_by.nd)) (rss_cons (rset 4 (re_lst (ra_cons (rv 2) (ra_nil))) (fun _ => sc_met_by.nd)) (rss_cons (rs_while (fun _ => PassesOwn.never) (rt_tru (rv 4)) (rss_cons (rset 5 (re_lm0 PySem.F.plainAttrs_list PySem.F.slot_list_pop PySem.F.type_list_pop mm_pop (rv 4)) (fun _ => sc_met_by.nd)) (rss_one (rs_for (fun _ => PassesOwn.never) (fun _ => rfl) (ri_seq (re_ix (rv 0) (rv 5))) (rgn 6 (fun _ => sc_met_by.nd)) (rss_one (rs_if (rt_not (rt_tru (re_ix (rv 3) (rv 6)))) (rss_cons (rs_asg (re_bl) (rg_sub (W := Wn) (rv 3) (rv 6))) (rss_one (rs_if (rt_cmp (opm_notin) (rv 6) (rv 1) rfl) (rss_one (rs_expr (re_lm PySem.F.plainAttrs_list PySem.F.slot_list_append PySem.F.type_list_append mm_append (rv 4) (ra_cons (rv 6) (ra_nil))))) (rss_nil)))) (rss_nil))))))) (rss_one (rs_ret (rv 3)))))
theorem sc_met : FnScope ["chart", "a"] ["chart", "a"] (defScope s_met) := ⟨rfl, rfl, rfl, by decide +kernel, rfl, by decide +kernel, by decide +kernel⟩
theorem ok_met (T : Tops K mg) : FnG P w K mg base CX0 2 T.d_met.1.1 T.d_met.1.2 ["chart", "a"] (spM P w K m_met) := by
  have G_roads_from := ok_roads_from (P := P) (w := w) (base := base) T
  have G_met_by := ok_met_by (P := P) (w := w) (base := base) T
  refine fnG (b := b_met) T.d_met.2.fn sc_met rfl rfl (fun cdv A outer s H hr => ?_)
  exact rss_one (rs_ret (re_call G_met_by T.d_met_by.2 (fun _ => hr.mono (by decide)) (by exact fun _ => rfl) (ra_cons (re_call G_roads_from T.d_roads_from.2 (fun _ => hr.mono (by decide)) (by exact fun _ => rfl) (ra_cons (rv 0) (ra_nil))) (ra_cons (re_ix (rv 0) (re_int)) (ra_cons (rv 1) (ra_nil))))))
theorem sc_turned_roads : FnScope ["chart", "one", "two"] ["chart"] (defScope s_turned_roads) := ⟨rfl, rfl, rfl, by decide +kernel, rfl, by decide +kernel, by decide +kernel⟩
theorem ok_turned_roads (T : Tops K mg) : FnG P w K mg base CX0 2 T.d_turned_roads.1.1 T.d_turned_roads.1.2 ["chart"] (spM P w K m_turned_roads) := by
  have G_roads_from := ok_roads_from (P := P) (w := w) (base := base) T
  refine fnG (b := b_turned_roads) T.d_turned_roads.2.fn sc_turned_roads rfl rfl (fun cdv A outer s H hr => ?_)
  exact rss_one (rs_ret (re_call G_roads_from T.d_roads_from.2 (fun _ => hr.mono (by decide)) (by exact fun _ => rfl) (ra_cons (re_tup (ra_cons (re_ix (rv 0) (re_int)) (ra_cons (re_lc (own := [("one", 1), ("two", 2)]) (fun _ => rfl) (fun _ => sc_turned_roads.nd) (ri_seq (re_ix (rv 0) (re_int))) (blk1 (N := ["chart", "one", "two"]) (sc0 := defScope s_turned_roads) (by decide +kernel)) (rgo_tup (n := 2) (fun _ => rfl) (rgos_cons (rgon 1 (fun _ => sc_turned_roads.nd)) (rgos_cons (rgon 2 (fun _ => sc_turned_roads.nd)) (rgos_nil))) rfl) (rts_nil) (re_tup (ra_cons (rv 2) (ra_cons (rv 1) (ra_nil))))) (ra_cons (re_ix (rv 0) (re_int)) (ra_nil))))) (ra_nil))))
theorem sc_piece_from : FnScope ["chart", "a", "there", "back", "b"] ["chart", "a"] (defScope s_piece_from) := ⟨rfl, rfl, rfl, by decide +kernel, rfl, by decide +kernel, by decide +kernel⟩
theorem ok_piece_from (T : Tops K mg) : FnG P w K mg base CX0 3 T.d_piece_from.1.1 T.d_piece_from.1.2 ["chart", "a"] (spM P w K m_piece_from) := by
  have G_met := ok_met (P := P) (w := w) (base := base) T
  have G_turned_roads := ok_turned_roads (P := P) (w := w) (base := base) T
  have G_met_by := ok_met_by (P := P) (w := w) (base := base) T
  refine fnG (b := b_piece_from) T.d_piece_from.2.fn sc_piece_from rfl rfl (fun cdv A outer s H hr => ?_)
  exact rss_cons (rs_if (rt_cmp (opm_in) (rv 1) (re_ix (rv 0) (re_int)) rfl) (rss_one (rs_ret (re_tup (ra_cons (rv 1) (ra_nil))))) (rss_nil)) (rss_cons (rs_asg (re_tup (ra_cons (re_call G_met T.d_met.2 (fun _ => hr.mono (by decide)) (by exact fun _ => rfl) (ra_cons (rv 0) (ra_cons (rv 1) (ra_nil)))) (ra_cons (re_call G_met_by T.d_met_by.2 (fun _ => hr.mono (by decide)) (by exact fun _ => rfl) (ra_cons (re_call G_turned_roads T.d_turned_roads.2 (fun _ => hr.mono (by decide)) (by exact fun _ => rfl) (ra_cons (rv 0) (ra_nil))) (ra_cons (re_ix (rv 0) (re_int)) (ra_cons (rv 1) (ra_nil))))) (ra_nil)))) (rg_unp (n := 2) (fun _ => rfl) (rgs_cons (rgn 2 (fun _ => sc_piece_from.nd)) (rgs_cons (rgn 3 (fun _ => sc_piece_from.nd)) (rgs_nil))) rfl)) (rss_one (rs_ret (re_callTy (cm_tuple) (by exact fun _ => rfl) T.n_tuple (by decide +kernel) (ra_cons (re_lc (own := [("b", 4)]) (fun _ => rfl) (fun _ => sc_piece_from.nd) (ri_range1 (by exact fun _ => rfl) T.n_range (ra_cons (re_ix (rv 0) (re_int)) (ra_nil))) (blk1 (N := ["chart", "a", "there", "back", "b"]) (sc0 := defScope s_piece_from) (by decide +kernel)) (rgon 4 (fun _ => sc_piece_from.nd)) (rts_one ((rw_or (rt_cmp (opm_eq (fun _ => (hr.mono (Nat.zero_le _)).rm)) (rv 4) (rv 1) (nomark _)) (rw_or1 ((rw_and (rt_tru (re_ix (rv 2) (rv 4))) (rw_and (rt_tru (re_ix (rv 3) (rv 4))) (rw_and1 (rt_cmp (opm_notin) (rv 4) (re_ix (rv 0) (re_int)) rfl)))).rt))).rt)) (rv 4)) (ra_nil))))))
theorem sc_tables : FnScope ["chart", "places", "roads", "wished", "leads", "back", "plain", "found", "last", "lots", "a", "there", "mine", "home", "ahead", "behind", "b"] ["chart"] (defScope s_tables) := ⟨rfl, rfl, rfl, by decide +kernel, rfl, by decide +kernel, by decide +kernel⟩
theorem ok_tables (T : Tops K mg) : FnG P w K mg base CX0 3 T.d_tables.1.1 T.d_tables.1.2 ["chart"] (spM P w K m_tables) := by
  have G_roads_from := ok_roads_from (P := P) (w := w) (base := base) T
  have G_turned_roads := ok_turned_roads (P := P) (w := w) (base := base) T
  have G_met_by := ok_met_by (P := P) (w := w) (base := base) T
  refine fnG (b := b_tables) T.d_tables.2.fn sc_tables rfl rfl (fun cdv A outer s H hr => ?_)
  exact rss_cons (rs_asg (rv 0) (rg_unp (n := 3) (fun _ => rfl) (rgs_cons (rgn 1 (fun _ => sc_tables.nd)) (rgs_cons (rgn 2 (fun _ => sc_tables.nd)) (rgs_cons (rgn 3 (fun _ => sc_tables.nd)) (rgs_nil)))) rfl)) (rss_cons (rs_par (i := 4) (j := 5) (fun _ => rfl) (fun _ => sc_tables.nd) (fun _ => rfl) (fun _ => rfl) (by decide) (fun _ => rfl) (fun _ => rfl) (ra_cons (re_call G_roads_from T.d_roads_from.2 (fun _ => hr.mono (by decide)) (by exact fun _ => rfl) (ra_cons (rv 0) (ra_nil))) (ra_cons (re_call G_turned_roads T.d_turned_roads.2 (fun _ => hr.mono (by decide)) (by exact fun _ => rfl) (ra_cons (rv 0) (ra_nil))) (ra_nil))) (fun _ => rfl)) (rss_cons (rs_setLc (i := 6) (own := [("a", 10)]) (fun _ => rfl) (fun _ => sc_tables.nd) (fun _ => rfl) (fun _ => rfl) (fun _ => sw_true rfl rfl rfl (by decide +kernel)) (ri_range1 (by exact fun _ => rfl) T.n_range (ra_cons (rv 1) (ra_nil))) (blk1 (N := ["chart", "places", "roads", "wished", "leads", "back", "plain", "found", "last", "lots", "a", "there", "mine", "home", "ahead", "behind", "b"]) (sc0 := defScope s_tables) (by decide +kernel)) (rgon 10 (fun _ => sc_tables.nd)) (rts_one (rt_cmp (opm_notin) (rv 10) (rv 3) rfl)) (rv 10)) (rss_cons (rs_par3 (i := 7) (j := 8) (l := 9) (fun _ => rfl) (fun _ => sc_tables.nd) (fun _ => rfl) (fun _ => rfl) (fun _ => rfl) (by decide) (by decide) (by decide) (fun _ => rfl) (fun _ => rfl) (fun _ => rfl) (ra_cons (re_op opm_mul (re_lst (ra_cons (re_tup (ra_nil)) (ra_nil))) (rv 1)) (ra_cons (re_op opm_mul (re_lst (ra_cons (re_tup (ra_nil)) (ra_nil))) (rv 1)) (ra_cons (re_op opm_mul (re_lst (ra_cons (re_tup (ra_nil)) (ra_nil))) (rv 1)) (ra_nil)))) (fun _ => rfl)) (rss_cons (rs_for (fun _ => PassesOwn.never) (fun _ => rfl) (ri_range1 (by exact fun _ => rfl) T.n_range (ra_cons (rv 1) (ra_nil))) (rgn 10 (fun _ => sc_tables.nd)) (rss_one (rs_if (rt_cmp (opm_eq (fun _ => (hr.mono (Nat.zero_le _)).rm)) (re_ix (rv 9) (rv 10)) (re_tup (ra_nil)) (nomark _)) (rss_cons (rs_asg (re_tup (ra_cons (re_call G_met_by T.d_met_by.2 (fun _ => hr.mono (by decide)) (by exact fun _ => rfl) (ra_cons (rv 4) (ra_cons (rv 3) (ra_cons (rv 10) (ra_nil))))) (ra_cons (re_tup (ra_cons (rv 10) (ra_nil))) (ra_nil)))) (rg_unp (n := 2) (fun _ => rfl) (rgs_cons (rgn 11 (fun _ => sc_tables.nd)) (rgs_cons (rgn 12 (fun _ => sc_tables.nd)) (rgs_nil))) rfl)) (rss_cons (rs_if (rt_cmp (opm_notin) (rv 10) (rv 3) rfl) (rss_cons (rset 13 (re_call G_met_by T.d_met_by.2 (fun _ => hr.mono (by decide)) (by exact fun _ => rfl) (ra_cons (rv 5) (ra_cons (rv 3) (ra_cons (rv 10) (ra_nil))))) (fun _ => sc_tables.nd)) (rss_one (rset 12 (re_callTy (cm_tuple) (by exact fun _ => rfl) T.n_tuple (by decide +kernel) (ra_cons (re_lc (own := [("b", 16)]) (fun _ => rfl) (fun _ => sc_tables.nd) (ri_seq (rv 6)) (blk1 (N := ["chart", "places", "roads", "wished", "leads", "back", "plain", "found", "last", "lots", "a", "there", "mine", "home", "ahead", "behind", "b"]) (sc0 := defScope s_tables) (by decide +kernel)) (rgon 16 (fun _ => sc_tables.nd)) (rts_one ((rw_or (rt_cmp (opm_eq (fun _ => (hr.mono (Nat.zero_le _)).rm)) (rv 16) (rv 10) (nomark _)) (rw_or1 ((rw_and (rt_tru (re_ix (rv 11) (rv 16))) (rw_and1 (rt_tru (re_ix (rv 13) (rv 16))))).rt))).rt)) (rv 16)) (ra_nil))) (fun _ => sc_tables.nd)))) (rss_nil)) (rss_cons (rs_par (i := 14) (j := 15) (fun _ => rfl) (fun _ => sc_tables.nd) (fun _ => rfl) (fun _ => rfl) (by decide) (fun _ => rfl) (fun _ => rfl) (ra_cons (re_callTy (cm_tuple) (by exact fun _ => rfl) T.n_tuple (by decide +kernel) (ra_cons (re_lc (own := [("b", 16)]) (fun _ => rfl) (fun _ => sc_tables.nd) (ri_seq (rv 6)) (blk1 (N := ["chart", "places", "roads", "wished", "leads", "back", "plain", "found", "last", "lots", "a", "there", "mine", "home", "ahead", "behind", "b"]) (sc0 := defScope s_tables) (by decide +kernel)) (rgon 16 (fun _ => sc_tables.nd)) (rts_one (rt_tru (re_ix (rv 11) (rv 16)))) (rv 16)) (ra_nil))) (ra_cons (re_callTy (cm_tuple) (by exact fun _ => rfl) T.n_tuple (by decide +kernel) (ra_cons (re_lc (own := [("b", 16)]) (fun _ => rfl) (fun _ => sc_tables.nd) (ri_seq (rv 3)) (blk1 (N := ["chart", "places", "roads", "wished", "leads", "back", "plain", "found", "last", "lots", "a", "there", "mine", "home", "ahead", "behind", "b"]) (sc0 := defScope s_tables) (by decide +kernel)) (rgon 16 (fun _ => sc_tables.nd)) (rts_one (rt_tru (re_ix (rv 11) (rv 16)))) (rv 16)) (ra_nil))) (ra_nil))) (fun _ => rfl)) (rss_one (rs_for (fun _ => PassesOwn.never) (fun _ => rfl) (ri_seq (rv 12)) (rgn 16 (fun _ => sc_tables.nd)) (rss_one (rs_asg (re_tup (ra_cons (rv 14) (ra_cons (rv 15) (ra_cons (rv 12) (ra_nil))))) (rg_unp (n := 3) (fun _ => rfl) (rgs_cons (rg_sub (W := Wn) (rv 7) (rv 16)) (rgs_cons (rg_sub (W := Wn) (rv 8) (rv 16)) (rgs_cons (rg_sub (W := Wn) (rv 9) (rv 16)) (rgs_nil)))) rfl)))))))) (rss_nil)))) (rss_one (rs_ret (re_tup (ra_cons (rv 7) (ra_cons (rv 8) (ra_cons (rv 9) (ra_nil)))))))))))
theorem sc_piece : FnScope ["chart", "a"] ["chart", "a"] (defScope s_piece) := ⟨rfl, rfl, rfl, by decide +kernel, rfl, by decide +kernel, by decide +kernel⟩
theorem ok_piece (T : Tops K mg) : FnG P w K mg base CX0 6 T.d_piece.1.1 T.d_piece.1.2 ["chart", "a"] (spM P w K m_piece) := by
  have G_made_map := ok_made_map (P := P) (w := w) (base := base) T
  have G_check_place := ok_check_place (P := P) (w := w) (base := base) T
  have G_piece_from := ok_piece_from (P := P) (w := w) (base := base) T
  refine fnG (b := b_piece) T.d_piece.2.fn sc_piece rfl rfl (fun cdv A outer s H hr => ?_)
  exact rss_cons (rs_expr (re_call G_check_place T.d_check_place.2 (fun _ => hr.mono (by decide)) (by exact fun _ => rfl) (ra_cons (re_call G_made_map T.d_made_map.2 (fun _ => hr.mono (by decide)) (by exact fun _ => rfl) (ra_cons (rv 0) (ra_nil))) (ra_cons (rv 1) (ra_nil))))) (rss_one (rs_ret (re_call G_piece_from T.d_piece_from.2 (fun _ => hr.mono (by decide)) (by exact fun _ => rfl) (ra_cons (rv 0) (ra_cons (rv 1) (ra_nil))))))
theorem sc_pieces : FnScope ["chart", "found", "last", "lots", "a"] ["chart"] (defScope s_pieces) := ⟨rfl, rfl, rfl, by decide +kernel, rfl, by decide +kernel, by decide +kernel⟩
theorem ok_pieces (T : Tops K mg) : FnG P w K mg base CX0 6 T.d_pieces.1.1 T.d_pieces.1.2 ["chart"] (spM P w K m_pieces) := by
  have G_made_map := ok_made_map (P := P) (w := w) (base := base) T
  have G_tables := ok_tables (P := P) (w := w) (base := base) T
  refine fnG (b := b_pieces) T.d_pieces.2.fn sc_pieces rfl rfl (fun cdv A outer s H hr => ?_)
  exact rss_cons (rs_expr (re_call G_made_map T.d_made_map.2 (fun _ => hr.mono (by decide)) (by exact fun _ => rfl) (ra_cons (rv 0) (ra_nil)))) (rss_cons (rs_asg (re_call G_tables T.d_tables.2 (fun _ => hr.mono (by decide)) (by exact fun _ => rfl) (ra_cons (rv 0) (ra_nil))) (rg_unp (n := 3) (fun _ => rfl) (rgs_cons (rgn 1 (fun _ => sc_pieces.nd)) (rgs_cons (rgn 2 (fun _ => sc_pieces.nd)) (rgs_cons (rgn 3 (fun _ => sc_pieces.nd)) (rgs_nil)))) rfl)) (rss_one (rs_ret (re_callTy (cm_tuple) (by exact fun _ => rfl) T.n_tuple (by decide +kernel) (ra_cons (re_lc (own := [("a", 4)]) (fun _ => rfl) (fun _ => sc_pieces.nd) (ri_range1 (by exact fun _ => rfl) T.n_range (ra_cons (re_ix (rv 0) (re_int)) (ra_nil))) (blk1 (N := ["chart", "found", "last", "lots", "a"]) (sc0 := defScope s_pieces) (by decide +kernel)) (rgon 4 (fun _ => sc_pieces.nd)) (rts_one ((rw_and (rt_cmp (opm_notin) (rv 4) (re_ix (rv 0) (re_int)) rfl) (rw_and1 (rt_cmp (opm_eq (fun _ => (hr.mono (Nat.zero_le _)).rm)) (re_ix (re_ix (rv 3) (rv 4)) (re_int)) (rv 4) (nomark _)))).rt)) (re_ix (rv 3) (rv 4))) (ra_nil))))))
theorem sc__law_pool : FnScope ["script", "first", "size"] ["script"] (defScope s__law_pool) := ⟨rfl, rfl, rfl, by decide +kernel, rfl, by decide +kernel, by decide +kernel⟩
theorem ok__law_pool (T : Tops K mg) : FnG P w K mg base CX0 1 T.d__law_pool.1.1 T.d__law_pool.1.2 ["script"] (spM P w K m__law_pool) := by
  refine fnG (b := b__law_pool) T.d__law_pool.2.fn sc__law_pool rfl rfl (fun cdv A outer s H hr => ?_)
  exact rss_cons (rset 1 (re_ite (rt_cmp (opm_gt) (re_callB (cm_len) (by exact fun _ => rfl) T.n_len (by decide +kernel) (ra_cons (rv 0) (ra_nil))) (re_int) (nomark _)) (re_callTy (cm_int) (by exact fun _ => rfl) T.n_int (by decide +kernel) (ra_cons (re_ix (rv 0) (re_int)) (ra_nil))) (re_int)) (fun _ => sc__law_pool.nd)) (rss_cons (rset 2 (re_ite (rt_cmp (opm_ge) (rv 1) (re_int) (nomark _)) (re_op opm_mul (re_int) (rv 1)) (re_op opm_sub (re_neg (re_int)) (re_op opm_mul (re_int) (rv 1)))) (fun _ => sc__law_pool.nd)) (rss_one (rs_ret (re_lst (ra_cons (re_ite (rt_cmp (opm_ge) (rv 2) (re_op opm_pow (re_int) (re_int)) (nomark _)) (rv 2) (re_int)) (ra_cons (re_op opm_add (re_op opm_mod (re_callTy (cm_int) (by exact fun _ => rfl) T.n_int (by decide +kernel) (ra_cons (re_op opm_add (re_op opm_mul (rv 2) (re_int)) (re_int)) (ra_nil))) (re_int)) (re_int)) (ra_cons (re_callTy (cm_list) (by exact fun _ => rfl) T.n_list (by decide +kernel) (ra_cons (re_slice10 (rv 0) (re_int)) (ra_nil))) (ra_nil))))))))
theorem sc__law_draw : FnScope ["pool", "many", "cell", "size", "found"] ["pool", "many"] (defScope s__law_draw) := ⟨rfl, rfl, rfl, by decide +kernel, rfl, by decide +kernel, by decide +kernel⟩
theorem ok__law_draw (T : Tops K mg) : FnG P w K mg base CX0 1 T.d__law_draw.1.1 T.d__law_draw.1.2 ["pool", "many"] (spM P w K m__law_draw) := by
  refine fnG (b := b__law_draw) T.d__law_draw.2.fn sc__law_draw rfl rfl (fun cdv A outer s H hr => ?_)
  exact rss_cons (rs_if ((rw_and (rt_cmp (opm_eq (fun _ => (hr.mono (Nat.zero_le _)).rm)) (re_ix (rv 0) (re_int)) (re_int) (nomark _)) (rw_and1 (rt_cmp (opm_ne (fun _ => (hr.mono (Nat.zero_le _)).rm)) (re_ix (rv 0) (re_int)) (re_lst (ra_nil)) (nomark _)))).rt) (rss_cons (rset 2 (re_callTy (cm_int) (by exact fun _ => rfl) T.n_int (by decide +kernel) (ra_cons (re_lm PySem.F.plainAttrs_list PySem.F.slot_list_pop PySem.F.type_list_pop mm_pop (re_ix (rv 0) (re_int)) (ra_cons (re_int) (ra_nil))) (ra_nil))) (fun _ => sc__law_draw.nd)) (rss_cons (rset 3 (re_ite (rt_cmp (opm_ge) (rv 2) (re_int) (nomark _)) (re_op opm_mul (re_int) (rv 2)) (re_op opm_sub (re_neg (re_int)) (re_op opm_mul (re_int) (rv 2)))) (fun _ => sc__law_draw.nd)) (rss_cons (rs_asg (re_ite (rt_cmp (opm_ge) (rv 3) (re_op opm_pow (re_int) (re_int)) (nomark _)) (rv 3) (re_int)) (rg_sub (W := Wn) (rv 0) (re_int))) (rss_one (rs_asg (re_op opm_add (re_op opm_mod (re_callTy (cm_int) (by exact fun _ => rfl) T.n_int (by decide +kernel) (ra_cons (re_op opm_add (re_ix (rv 0) (re_int)) (re_op opm_mul (rv 3) (re_int))) (ra_nil))) (re_int)) (re_int)) (rg_sub (W := Wn) (rv 0) (re_int))))))) (rss_nil)) (rss_cons (rs_if (rt_cmp (opm_gt) (re_ix (rv 0) (re_int)) (re_int) (nomark _)) (rss_cons (rset 4 (re_op opm_mod (re_callTy (cm_int) (by exact fun _ => rfl) T.n_int (by decide +kernel) (ra_cons (re_ix (rv 0) (re_int)) (ra_nil))) (rv 1)) (fun _ => sc__law_draw.nd)) (rss_cons (rs_asg (re_op opm_div (re_ix (rv 0) (re_int)) (rv 1)) (rg_sub (W := Wn) (rv 0) (re_int))) (rss_one (rs_ret (rv 4))))) (rss_nil)) (rss_cons (rs_asg (re_op opm_mod (re_callTy (cm_int) (by exact fun _ => rfl) T.n_int (by decide +kernel) (ra_cons (re_op opm_add (re_op opm_mul (re_ix (rv 0) (re_int)) (re_int)) (re_int)) (ra_nil))) (re_int)) (rg_sub (W := Wn) (rv 0) (re_int))) (rss_one (rs_ret (re_op opm_mod (re_op opm_div (re_op opm_mod (re_callTy (cm_int) (by exact fun _ => rfl) T.n_int (by decide +kernel) (ra_cons (re_op opm_mul (re_ix (rv 0) (re_int)) (re_ix (rv 0) (re_int))) (ra_nil))) (re_int)) (re_int)) (rv 1))))))
theorem sc__law_pick : FnScope ["pool", "things"] ["pool", "things"] (defScope s__law_pick) := ⟨rfl, rfl, rfl, by decide +kernel, rfl, by decide +kernel, by decide +kernel⟩
theorem ok__law_pick (T : Tops K mg) : FnG P w K mg base CX0 2 T.d__law_pick.1.1 T.d__law_pick.1.2 ["pool", "things"] (spM P w K m__law_pick) := by
  have G__law_draw := ok__law_draw (P := P) (w := w) (base := base) T
  refine fnG (b := b__law_pick) T.d__law_pick.2.fn sc__law_pick rfl rfl (fun cdv A outer s H hr => ?_)
  exact rss_one (rs_ret (re_ix (rv 1) (re_call G__law_draw T.d__law_draw.2 (fun _ => hr.mono (by decide)) (by exact fun _ => rfl) (ra_cons (rv 0) (ra_cons (re_callB (cm_len) (by exact fun _ => rfl) T.n_len (by decide +kernel) (ra_cons (rv 1) (ra_nil))) (ra_nil))))))
theorem sc__law_turned : FnScope ["pool", "many", "left", "found", "turn"] ["pool", "many"] (defScope s__law_turned) := ⟨rfl, rfl, rfl, by decide +kernel, rfl, by decide +kernel, by decide +kernel⟩
theorem ok__law_turned (T : Tops K mg) : FnG P w K mg base CX0 2 T.d__law_turned.1.1 T.d__law_turned.1.2 ["pool", "many"] (spM P w K m__law_turned) := by
  have G__law_draw := ok__law_draw (P := P) (w := w) (base := base) T
  refine fnG (b := b__law_turned) T.d__law_turned.2.fn sc__law_turned rfl rfl (fun cdv A outer s H hr => ?_)
  exact rss_cons (rs_par (i := 2) (j := 3) (fun _ => rfl) (fun _ => sc__law_turned.nd) (fun _ => rfl) (fun _ => rfl) (by decide) (fun _ => rfl) (fun _ => rfl) (ra_cons (re_lstR (fun _ => rfl) T.n_list T.n_range (rv 1)) (ra_cons (re_lst (ra_nil)) (ra_nil))) (fun _ => rfl)) (rss_cons (rs_for (fun _ => PassesOwn.never) (fun _ => rfl) (ri_range1 (by exact fun _ => rfl) T.n_range (ra_cons (rv 1) (ra_nil))) (rgn 4 (fun _ => sc__law_turned.nd)) (rss_one (rs_expr (re_lm PySem.F.plainAttrs_list PySem.F.slot_list_append PySem.F.type_list_append mm_append (rv 3) (ra_cons (re_lm PySem.F.plainAttrs_list PySem.F.slot_list_pop PySem.F.type_list_pop mm_pop (rv 2) (ra_cons (re_call G__law_draw T.d__law_draw.2 (fun _ => hr.mono (by decide)) (by exact fun _ => rfl) (ra_cons (rv 0) (ra_cons (re_callB (cm_len) (by exact fun _ => rfl) T.n_len (by decide +kernel) (ra_cons (rv 2) (ra_nil))) (ra_nil)))) (ra_nil))) (ra_nil)))))) (rss_one (rs_ret (rv 3))))
theorem sc__law_map_named : FnScope ["pool", "places", "roads", "wished", "names", "told", "a", "b"] ["pool", "places", "roads", "wished"] (defScope s__law_map_named) := ⟨rfl, rfl, rfl, by decide +kernel, rfl, by decide +kernel, by decide +kernel⟩
theorem ok__law_map_named (T : Tops K mg) : FnG P w K mg base CX0 3 T.d__law_map_named.1.1 T.d__law_map_named.1.2 ["pool", "places", "roads", "wished"] (spM P w K m__law_map_named) := by
  have G__law_turned := ok__law_turned (P := P) (w := w) (base := base) T
  refine fnG (b := b__law_map_named) T.d__law_map_named.2.fn sc__law_map_named rfl rfl (fun cdv A outer s H hr => ?_)
  exact rss_cons (rset 4 (re_call G__law_turned T.d__law_turned.2 (fun _ => hr.mono (by decide)) (by exact fun _ => rfl) (ra_cons (rv 0) (ra_cons (rv 1) (ra_nil)))) (fun _ => sc__law_map_named.nd)) (rss_cons (rset 5 (re_callTy (cm_tuple) (by exact fun _ => rfl) T.n_tuple (by decide +kernel) (ra_cons (re_callB (cm_sorted (fun _ => rfl) (fun _ => (hr.mono (Nat.zero_le _)).rm)) (by exact fun _ => rfl) T.n_sorted (by decide +kernel) (ra_cons (re_callTy (cm_set (fun _ => rfl) (fun _ => (hr.mono (Nat.zero_le _)).rm)) (by exact fun _ => rfl) T.n_set (by decide +kernel) (ra_cons (re_lc (own := [("a", 6), ("b", 7)]) (fun _ => rfl) (fun _ => sc__law_map_named.nd) (ri_seq (rv 2)) (blk1 (N := ["pool", "places", "roads", "wished", "names", "told", "a", "b"]) (sc0 := defScope s__law_map_named) (by decide +kernel)) (rgo_tup (n := 2) (fun _ => rfl) (rgos_cons (rgon 6 (fun _ => sc__law_map_named.nd)) (rgos_cons (rgon 7 (fun _ => sc__law_map_named.nd)) (rgos_nil))) rfl) (rts_nil) (re_tup (ra_cons (re_ix (rv 4) (rv 6)) (ra_cons (re_ix (rv 4) (rv 7)) (ra_nil))))) (ra_nil))) (ra_nil))) (ra_nil))) (fun _ => sc__law_map_named.nd)) (rss_one (rs_ret (re_lst (ra_cons (re_tup (ra_cons (rv 1) (ra_cons (rv 5) (ra_cons (re_callTy (cm_tuple) (by exact fun _ => rfl) T.n_tuple (by decide +kernel) (ra_cons (re_callB (cm_sorted (fun _ => rfl) (fun _ => (hr.mono (Nat.zero_le _)).rm)) (by exact fun _ => rfl) T.n_sorted (by decide +kernel) (ra_cons (re_callTy (cm_set (fun _ => rfl) (fun _ => (hr.mono (Nat.zero_le _)).rm)) (by exact fun _ => rfl) T.n_set (by decide +kernel) (ra_cons (re_lc (own := [("a", 6)]) (fun _ => rfl) (fun _ => sc__law_map_named.nd) (ri_seq (rv 3)) (blk1 (N := ["pool", "places", "roads", "wished", "names", "told", "a", "b"]) (sc0 := defScope s__law_map_named) (by decide +kernel)) (rgon 6 (fun _ => sc__law_map_named.nd)) (rts_nil) (re_ix (rv 4) (rv 6))) (ra_nil))) (ra_nil))) (ra_nil))) (ra_nil))))) (ra_cons (rv 4) (ra_nil)))))))
theorem sc__law_map_some_wished : FnScope ["pool", "places", "roads", "way", "last", "road", "a"] ["pool", "places", "roads"] (defScope s__law_map_some_wished) := ⟨rfl, rfl, rfl, by decide +kernel, rfl, by decide +kernel, by decide +kernel⟩
theorem ok__law_map_some_wished (T : Tops K mg) : FnG P w K mg base CX0 2 T.d__law_map_some_wished.1.1 T.d__law_map_some_wished.1.2 ["pool", "places", "roads"] (spM P w K m__law_map_some_wished) := by
  have G__law_draw := ok__law_draw (P := P) (w := w) (base := base) T
  refine fnG (b := b__law_map_some_wished) T.d__law_map_some_wished.2.fn sc__law_map_some_wished rfl rfl (fun cdv A outer s H hr => ?_)
  exact rss_cons (rs_asg (re_tup (ra_cons (re_call G__law_draw T.d__law_draw.2 (fun _ => hr.mono (by decide)) (by exact fun _ => rfl) (ra_cons (rv 0) (ra_cons (re_int) (ra_nil)))) (ra_cons (re_lc (own := [("a", 6)]) (fun _ => rfl) (fun _ => sc__law_map_some_wished.nd) (ri_range1 (by exact fun _ => rfl) T.n_range (ra_cons (rv 1) (ra_nil))) (blk1 (N := ["pool", "places", "roads", "way", "last", "road", "a"]) (sc0 := defScope s__law_map_some_wished) (by decide +kernel)) (rgon 6 (fun _ => sc__law_map_some_wished.nd)) (rts_one (rt_cmp (opm_eq (fun _ => (hr.mono (Nat.zero_le _)).rm)) (re_lc (own := [("road", 5)]) (fun _ => rfl) (fun _ => sc__law_map_some_wished.nd) (ri_seq (rv 2)) (blk2 (N := ["pool", "places", "roads", "way", "last", "road", "a"]) (sc0 := defScope s__law_map_some_wished) (by decide +kernel)) (rgon 5 (fun _ => sc__law_map_some_wished.nd)) (rts_one (rt_cmp (opm_eq (fun _ => (hr.mono (Nat.zero_le _)).rm)) (re_ix (rv 5) (re_int)) (rv 6) (nomark _))) (rv 5)) (re_lst (ra_nil)) (nomark _))) (rv 6)) (ra_nil)))) (rg_unp (n := 2) (fun _ => rfl) (rgs_cons (rgn 3 (fun _ => sc__law_map_some_wished.nd)) (rgs_cons (rgn 4 (fun _ => sc__law_map_some_wished.nd)) (rgs_nil))) rfl)) (rss_cons (rs_if (rt_cmp (opm_lt (fun _ => (hr.mono (Nat.zero_le _)).rm)) (rv 3) (re_int) (nomark _)) (rss_one (rs_ret (re_op opm_add (rv 4) (re_lc (own := [("a", 6)]) (fun _ => rfl) (fun _ => sc__law_map_some_wished.nd) (ri_range1 (by exact fun _ => rfl) T.n_range (ra_cons (rv 1) (ra_nil))) (blk1 (N := ["pool", "places", "roads", "way", "last", "road", "a"]) (sc0 := defScope s__law_map_some_wished) (by decide +kernel)) (rgon 6 (fun _ => sc__law_map_some_wished.nd)) (rts_one ((rw_and (rt_cmp (opm_notin) (rv 6) (rv 4) rfl) (rw_and (rt_cmp (opm_gt) (rv 3) (re_int) (nomark _)) (rw_and1 (rt_cmp (opm_eq (fun _ => (hr.mono (Nat.zero_le _)).rm)) (re_call G__law_draw T.d__law_draw.2 (fun _ => hr.mono (by decide)) (by exact fun _ => rfl) (ra_cons (rv 0) (ra_cons (re_int) (ra_nil)))) (re_int) (nomark _))))).rt)) (rv 6))))) (rss_nil)) (rss_cons (rs_if (rt_cmp (opm_lt (fun _ => (hr.mono (Nat.zero_le _)).rm)) (rv 3) (re_int) (nomark _)) (rss_one (rs_ret (re_lc (own := [("a", 6)]) (fun _ => rfl) (fun _ => sc__law_map_some_wished.nd) (ri_range1 (by exact fun _ => rfl) T.n_range (ra_cons (rv 1) (ra_nil))) (blk1 (N := ["pool", "places", "roads", "way", "last", "road", "a"]) (sc0 := defScope s__law_map_some_wished) (by decide +kernel)) (rgon 6 (fun _ => sc__law_map_some_wished.nd)) (rts_one (rt_cmp (opm_eq (fun _ => (hr.mono (Nat.zero_le _)).rm)) (re_call G__law_draw T.d__law_draw.2 (fun _ => hr.mono (by decide)) (by exact fun _ => rfl) (ra_cons (rv 0) (ra_cons (re_op opm_sub (rv 3) (re_int)) (ra_nil)))) (re_int) (nomark _))) (rv 6)))) (rss_nil)) (rss_one (rs_ret (re_ite (rt_cmp (opm_gt) (re_call G__law_draw T.d__law_draw.2 (fun _ => hr.mono (by decide)) (by exact fun _ => rfl) (ra_cons (rv 0) (ra_cons (re_int) (ra_nil)))) (re_int) (nomark _)) (re_lst (ra_nil)) (re_lstR (fun _ => rfl) T.n_list T.n_range (rv 1)))))))
theorem sc__law_map_drawn : FnScope ["pool", "most", "places", "way", "roads", "turn", "a", "b", "ahead", "size"] ["pool", "most"] (defScope s__law_map_drawn) := ⟨rfl, rfl, rfl, by decide +kernel, rfl, by decide +kernel, by decide +kernel⟩
theorem ok__law_map_drawn (T : Tops K mg) : FnG P w K mg base CX0 4 T.d__law_map_drawn.1.1 T.d__law_map_drawn.1.2 ["pool", "most"] (spM P w K m__law_map_drawn) := by
  have G__law_draw := ok__law_draw (P := P) (w := w) (base := base) T
  have G__law_map_some_wished := ok__law_map_some_wished (P := P) (w := w) (base := base) T
  have G__law_map_named := ok__law_map_named (P := P) (w := w) (base := base) T
  refine fnG (b := b__law_map_drawn) T.d__law_map_drawn.2.fn sc__law_map_drawn rfl rfl (fun cdv A outer s H hr => ?_)
  exact rss_cons (rset 2 (re_call G__law_draw T.d__law_draw.2 (fun _ => hr.mono (by decide)) (by exact fun _ => rfl) (ra_cons (rv 0) (ra_cons (re_op opm_add (rv 1) (re_int)) (ra_nil)))) (fun _ => sc__law_map_drawn.nd)) (rss_cons (rs_if (rt_cmp (opm_eq (fun _ => (hr.mono (Nat.zero_le _)).rm)) (rv 2) (re_int) (nomark _)) (rss_one (rs_ret (re_tup (ra_cons (re_int) (ra_cons (re_tup (ra_nil)) (ra_cons (re_tup (ra_nil)) (ra_nil))))))) (rss_nil)) (rss_cons (rs_par (i := 3) (j := 4) (fun _ => rfl) (fun _ => sc__law_map_drawn.nd) (fun _ => rfl) (fun _ => rfl) (by decide) (fun _ => rfl) (fun _ => rfl) (ra_cons (re_call G__law_draw T.d__law_draw.2 (fun _ => hr.mono (by decide)) (by exact fun _ => rfl) (ra_cons (rv 0) (ra_cons (re_int) (ra_nil)))) (ra_cons (re_lst (ra_nil)) (ra_nil))) (fun _ => rfl)) (rss_cons (rs_for (fun _ => PassesOwn.never) (fun _ => rfl) (ri_range1 (by exact fun _ => rfl) T.n_range (ra_cons (re_call G__law_draw T.d__law_draw.2 (fun _ => hr.mono (by decide)) (by exact fun _ => rfl) (ra_cons (rv 0) (ra_cons (re_op opm_add (re_op opm_mul (re_int) (rv 2)) (re_int)) (ra_nil)))) (ra_nil))) (rgn 5 (fun _ => sc__law_map_drawn.nd)) (rss_cons (rs_par (i := 6) (j := 7) (fun _ => rfl) (fun _ => sc__law_map_drawn.nd) (fun _ => rfl) (fun _ => rfl) (by decide) (fun _ => rfl) (fun _ => rfl) (ra_cons (re_call G__law_draw T.d__law_draw.2 (fun _ => hr.mono (by decide)) (by exact fun _ => rfl) (ra_cons (rv 0) (ra_cons (rv 2) (ra_nil)))) (ra_cons (re_call G__law_draw T.d__law_draw.2 (fun _ => hr.mono (by decide)) (by exact fun _ => rfl) (ra_cons (rv 0) (ra_cons (rv 2) (ra_nil)))) (ra_nil))) (fun _ => rfl)) (rss_cons (rset 8 (re_or (re_cmp (opm_eq (fun _ => (hr.mono (Nat.zero_le _)).rm)) (rv 3) (re_int) (nomark _)) (re_one (re_and (re_cmp (opm_gt) (rv 3) (re_int) (nomark _)) (re_one (re_cmp (opm_gt) (re_call G__law_draw T.d__law_draw.2 (fun _ => hr.mono (by decide)) (by exact fun _ => rfl) (ra_cons (rv 0) (ra_cons (re_int) (ra_nil)))) (re_int) (nomark _)))))) (fun _ => sc__law_map_drawn.nd)) (rss_one (rs_expr (re_lm PySem.F.plainAttrs_list PySem.F.slot_list_append PySem.F.type_list_append mm_append (rv 4) (ra_cons (re_ite (rt_tru (rv 8)) (re_tup (ra_cons (re_callB (cm_min2 (fun _ => rfl)) (by exact fun _ => rfl) T.n_min (by decide +kernel) (ra_cons (rv 6) (ra_cons (rv 7) (ra_nil)))) (ra_cons (re_callB (cm_max2 (fun _ => rfl)) (by exact fun _ => rfl) T.n_max (by decide +kernel) (ra_cons (rv 6) (ra_cons (rv 7) (ra_nil)))) (ra_nil)))) (re_tup (ra_cons (rv 6) (ra_cons (rv 7) (ra_nil))))) (ra_nil)))))))) (rss_cons (rs_if (rt_cmp (opm_eq (fun _ => (hr.mono (Nat.zero_le _)).rm)) (rv 3) (re_int) (nomark _)) (rss_cons (rset 9 (re_op opm_add (re_int) (re_call G__law_draw T.d__law_draw.2 (fun _ => hr.mono (by decide)) (by exact fun _ => rfl) (ra_cons (rv 0) (ra_cons (re_int) (ra_nil))))) (fun _ => sc__law_map_drawn.nd)) (rss_one (rset 4 (re_op opm_add (rv 4) (re_lc (own := [("a", 6)]) (fun _ => rfl) (fun _ => sc__law_map_drawn.nd) (ri_range1 (by exact fun _ => rfl) T.n_range (ra_cons (re_op opm_sub (rv 2) (re_int)) (ra_nil))) (blk1 (N := ["pool", "most", "places", "way", "roads", "turn", "a", "b", "ahead", "size"]) (sc0 := defScope s__law_map_drawn) (by decide +kernel)) (rgon 6 (fun _ => sc__law_map_drawn.nd)) (rts_nil) (re_tup (ra_cons (rv 6) (ra_cons (re_ite ((rw_and (rt_cmp (opm_gt) (re_op opm_mod (re_callTy (cm_int) (by exact fun _ => rfl) T.n_int (by decide +kernel) (ra_cons (re_op opm_add (rv 6) (re_int)) (ra_nil))) (rv 9)) (re_int) (nomark _)) (rw_and1 (rt_cmp (opm_lt (fun _ => (hr.mono (Nat.zero_le _)).rm)) (re_op opm_add (rv 6) (re_int)) (rv 2) (nomark _)))).rt) (re_op opm_add (rv 6) (re_int)) (re_op opm_mul (re_op opm_div (rv 6) (rv 9)) (rv 9))) (ra_nil)))))) (fun _ => sc__law_map_drawn.nd)))) (rss_nil)) (rss_one (rs_ret (re_ix (re_call G__law_map_named T.d__law_map_named.2 (fun _ => hr.mono (by decide)) (by exact fun _ => rfl) (ra_cons (rv 0) (ra_cons (rv 2) (ra_cons (rv 4) (ra_cons (re_call G__law_map_some_wished T.d__law_map_some_wished.2 (fun _ => hr.mono (by decide)) (by exact fun _ => rfl) (ra_cons (rv 0) (ra_cons (rv 2) (ra_cons (rv 4) (ra_nil))))) (ra_nil)))))) (re_int))))))))
theorem sc__law_map_planted : FnScope ["pool", "ring", "ways", "behind", "places", "roads", "last", "way", "turn", "wished", "lot", "chart", "names", "told", "a"] ["pool", "ring", "ways", "behind"] (defScope s__law_map_planted) := ⟨rfl, rfl, rfl, by decide +kernel, rfl, by decide +kernel, by decide +kernel⟩
theorem ok__law_map_planted (T : Tops K mg) : FnG P w K mg base CX0 4 T.d__law_map_planted.1.1 T.d__law_map_planted.1.2 ["pool", "ring", "ways", "behind"] (spM P w K m__law_map_planted) := by
  have G__law_draw := ok__law_draw (P := P) (w := w) (base := base) T
  have G__law_map_named := ok__law_map_named (P := P) (w := w) (base := base) T
  refine fnG (b := b__law_map_planted) T.d__law_map_planted.2.fn sc__law_map_planted rfl rfl (fun cdv A outer s H hr => ?_)
  exact rss_cons (rs_par3 (i := 4) (j := 5) (l := 6) (fun _ => rfl) (fun _ => sc__law_map_planted.nd) (fun _ => rfl) (fun _ => rfl) (fun _ => rfl) (by decide) (by decide) (by decide) (fun _ => rfl) (fun _ => rfl) (fun _ => rfl) (ra_cons (re_op opm_add (rv 1) (rv 2)) (ra_cons (re_lc (own := [("a", 14)]) (fun _ => rfl) (fun _ => sc__law_map_planted.nd) (ri_range1 (by exact fun _ => rfl) T.n_range (ra_cons (rv 1) (ra_nil))) (blk1 (N := ["pool", "ring", "ways", "behind", "places", "roads", "last", "way", "turn", "wished", "lot", "chart", "names", "told", "a"]) (sc0 := defScope s__law_map_planted) (by decide +kernel)) (rgon 14 (fun _ => sc__law_map_planted.nd)) (rts_nil) (re_tup (ra_cons (rv 14) (ra_cons (re_op opm_mod (re_callTy (cm_int) (by exact fun _ => rfl) T.n_int (by decide +kernel) (ra_cons (re_op opm_add (rv 14) (re_int)) (ra_nil))) (rv 1)) (ra_nil))))) (ra_cons (re_lst (ra_nil)) (ra_nil)))) (fun _ => rfl)) (rss_cons (rs_for (fun _ => PassesOwn.never) (fun _ => rfl) (ri_range1 (by exact fun _ => rfl) T.n_range (ra_cons (rv 2) (ra_nil))) (rgn 7 (fun _ => sc__law_map_planted.nd)) (rss_cons (rs_expr (re_lm PySem.F.plainAttrs_list PySem.F.slot_list_append PySem.F.type_list_append mm_append (rv 5) (ra_cons (re_tup (ra_cons (re_call G__law_draw T.d__law_draw.2 (fun _ => hr.mono (by decide)) (by exact fun _ => rfl) (ra_cons (rv 0) (ra_cons (rv 1) (ra_nil)))) (ra_cons (re_op opm_add (rv 1) (rv 7)) (ra_nil)))) (ra_nil)))) (rss_cons (rs_expr (re_lm PySem.F.plainAttrs_list PySem.F.slot_list_append PySem.F.type_list_append mm_append (rv 6) (ra_cons (re_lst (ra_nil)) (ra_nil)))) (rss_one (rs_for (fun _ => PassesOwn.never) (fun _ => rfl) (ri_range1 (by exact fun _ => rfl) T.n_range (ra_cons (re_op opm_add (re_int) (re_call G__law_draw T.d__law_draw.2 (fun _ => hr.mono (by decide)) (by exact fun _ => rfl) (ra_cons (rv 0) (ra_cons (rv 3) (ra_nil))))) (ra_nil))) (rgn 8 (fun _ => sc__law_map_planted.nd)) (rss_cons (rs_expr (re_lm PySem.F.plainAttrs_list PySem.F.slot_list_append PySem.F.type_list_append mm_append (rv 5) (ra_cons (re_tup (ra_cons (re_op opm_add (rv 1) (rv 7)) (ra_cons (rv 4) (ra_nil)))) (ra_nil)))) (rss_cons (rs_expr (re_lm PySem.F.plainAttrs_list PySem.F.slot_list_append PySem.F.type_list_append mm_append (re_ix (rv 6) (rv 7)) (ra_cons (rv 4) (ra_nil)))) (rss_one (rset 4 (re_op opm_add (rv 4) (re_int)) (fun _ => sc__law_map_planted.nd)))))))))) (rss_cons (rset 9 (re_lst (ra_nil)) (fun _ => sc__law_map_planted.nd)) (rss_cons (rs_for (fun _ => PassesOwn.never) (fun _ => rfl) (ri_seq (rv 6)) (rgn 10 (fun _ => sc__law_map_planted.nd)) (rss_one (rset 9 (re_op opm_add (rv 9) (rv 10)) (fun _ => sc__law_map_planted.nd)))) (rss_cons (rs_asg (re_call G__law_map_named T.d__law_map_named.2 (fun _ => hr.mono (by decide)) (by exact fun _ => rfl) (ra_cons (rv 0) (ra_cons (rv 4) (ra_cons (rv 5) (ra_cons (rv 9) (ra_nil)))))) (rg_unp (n := 2) (fun _ => rfl) (rgs_cons (rgn 11 (fun _ => sc__law_map_planted.nd)) (rgs_cons (rgn 12 (fun _ => sc__law_map_planted.nd)) (rgs_nil))) rfl)) (rss_cons (rs_setLc (i := 13) (own := [("lot", 10)]) (fun _ => rfl) (fun _ => sc__law_map_planted.nd) (fun _ => rfl) (fun _ => rfl) (fun _ => sw_true rfl rfl rfl (by decide +kernel)) (ri_seq (rv 6)) (blk1 (N := ["pool", "ring", "ways", "behind", "places", "roads", "last", "way", "turn", "wished", "lot", "chart", "names", "told", "a"]) (sc0 := defScope s__law_map_planted) (by decide +kernel)) (rgon 10 (fun _ => sc__law_map_planted.nd)) (rts_nil) (re_callB (cm_sorted (fun _ => rfl) (fun _ => (hr.mono (Nat.zero_le _)).rm)) (by exact fun _ => rfl) T.n_sorted (by decide +kernel) (ra_cons (re_lc (own := [("a", 14)]) (fun _ => rfl) (fun _ => sc__law_map_planted.nd) (ri_seq (rv 10)) (blk2 (N := ["pool", "ring", "ways", "behind", "places", "roads", "last", "way", "turn", "wished", "lot", "chart", "names", "told", "a"]) (sc0 := defScope s__law_map_planted) (by decide +kernel)) (rgon 14 (fun _ => sc__law_map_planted.nd)) (rts_nil) (re_ix (rv 12) (rv 14))) (ra_nil)))) (rss_one (rs_ret (re_lst (ra_cons (rv 11) (ra_cons (re_callB (cm_sorted (fun _ => rfl) (fun _ => (hr.mono (Nat.zero_le _)).rm)) (by exact fun _ => rfl) T.n_sorted (by decide +kernel) (ra_cons (re_lc (own := [("a", 14)]) (fun _ => rfl) (fun _ => sc__law_map_planted.nd) (ri_range1 (by exact fun _ => rfl) T.n_range (ra_cons (rv 1) (ra_nil))) (blk1 (N := ["pool", "ring", "ways", "behind", "places", "roads", "last", "way", "turn", "wished", "lot", "chart", "names", "told", "a"]) (sc0 := defScope s__law_map_planted) (by decide +kernel)) (rgon 14 (fun _ => sc__law_map_planted.nd)) (rts_nil) (re_ix (rv 12) (rv 14))) (ra_nil))) (ra_cons (re_lc (own := [("way", 7)]) (fun _ => rfl) (fun _ => sc__law_map_planted.nd) (ri_range1 (by exact fun _ => rfl) T.n_range (ra_cons (rv 2) (ra_nil))) (blk1 (N := ["pool", "ring", "ways", "behind", "places", "roads", "last", "way", "turn", "wished", "lot", "chart", "names", "told", "a"]) (sc0 := defScope s__law_map_planted) (by decide +kernel)) (rgon 7 (fun _ => sc__law_map_planted.nd)) (rts_nil) (re_ix (rv 12) (re_op opm_add (rv 1) (rv 7)))) (ra_cons (rv 13) (ra_nil)))))))))))))
theorem sc__law_map_met : FnScope ["chart", "a", "found", "left", "turn", "ahead", "road", "b"] ["chart", "a"] (defScope s__law_map_met) := ⟨rfl, rfl, rfl, by decide +kernel, rfl, by decide +kernel, by decide +kernel⟩
theorem ok__law_map_met (T : Tops K mg) : FnG P w K mg base CX0 1 T.d__law_map_met.1.1 T.d__law_map_met.1.2 ["chart", "a"] (spM P w K m__law_map_met) := by
  refine fnG (b := b__law_map_met) T.d__law_map_met.2.fn sc__law_map_met rfl rfl (fun cdv A outer s H hr => ?_)
  exact rss_cons (rs_asg (re_tup (ra_cons (re_lst (ra_nil)) (ra_cons (re_lst (ra_cons (rv 1) (ra_nil))) (ra_nil)))) (rg_unp (n := 2) (fun _ => rfl) (rgs_cons (rgn 2 (fun _ => sc__law_map_met.nd)) (rgs_cons (rgn 3 (fun _ => sc__law_map_met.nd)) (rgs_nil))) rfl)) (rss_cons (rs_for (fun _ => PassesOwn.never) (fun _ => rfl) (ri_range1 (by exact fun _ => rfl) T.n_range (ra_cons (re_op opm_add (re_ix (rv 0) (re_int)) (re_int)) (ra_nil))) (rgn 4 (fun _ => sc__law_map_met.nd)) (rss_cons (rs_setLc (i := 5) (own := [("road", 6)]) (fun _ => rfl) (fun _ => sc__law_map_met.nd) (fun _ => rfl) (fun _ => rfl) (fun _ => sw_true rfl rfl rfl (by decide +kernel)) (ri_seq (re_ix (rv 0) (re_int))) (blk1 (N := ["chart", "a", "found", "left", "turn", "ahead", "road", "b"]) (sc0 := defScope s__law_map_met) (by decide +kernel)) (rgon 6 (fun _ => sc__law_map_met.nd)) (rts_one (rt_cmp (opm_in) (re_ix (rv 6) (re_int)) (rv 3) rfl)) (re_ix (rv 6) (re_int))) (rss_cons (rs_setLc (i := 5) (own := [("b", 7)]) (fun _ => rfl) (fun _ => sc__law_map_met.nd) (fun _ => rfl) (fun _ => rfl) (fun _ => sw_true rfl rfl rfl (by decide +kernel)) (ri_seq (re_callB (cm_sorted (fun _ => rfl) (fun _ => (hr.mono (Nat.zero_le _)).rm)) (by exact fun _ => rfl) T.n_sorted (by decide +kernel) (ra_cons (re_callTy (cm_set (fun _ => rfl) (fun _ => (hr.mono (Nat.zero_le _)).rm)) (by exact fun _ => rfl) T.n_set (by decide +kernel) (ra_cons (rv 5) (ra_nil))) (ra_nil)))) (blk1 (N := ["chart", "a", "found", "left", "turn", "ahead", "road", "b"]) (sc0 := defScope s__law_map_met) (by decide +kernel)) (rgon 7 (fun _ => sc__law_map_met.nd)) (rts_one (rt_cmp (opm_notin) (rv 7) (rv 2) rfl)) (rv 7)) (rss_cons (rset 2 (re_op opm_add (rv 2) (rv 5)) (fun _ => sc__law_map_met.nd)) (rss_cons (rset 3 (re_lc (own := [("b", 7)]) (fun _ => rfl) (fun _ => sc__law_map_met.nd) (ri_seq (rv 5)) (blk1 (N := ["chart", "a", "found", "left", "turn", "ahead", "road", "b"]) (sc0 := defScope s__law_map_met) (by decide +kernel)) (rgon 7 (fun _ => sc__law_map_met.nd)) (rts_one (rt_cmp (opm_notin) (rv 7) (re_ix (rv 0) (re_int)) rfl)) (rv 7)) (fun _ => sc__law_map_met.nd)) (rss_one (rs_if (rt_cmp (opm_eq (fun _ => (hr.mono (Nat.zero_le _)).rm)) (rv 3) (re_lst (ra_nil)) (nomark _)) (rss_one (rs_break)) (rss_nil)))))))) (rss_one (rs_ret (re_callB (cm_sorted (fun _ => rfl) (fun _ => (hr.mono (Nat.zero_le _)).rm)) (by exact fun _ => rfl) T.n_sorted (by decide +kernel) (ra_cons (rv 2) (ra_nil))))))
theorem sc__law_map_table : FnScope ["chart", "a"] ["chart"] (defScope s__law_map_table) := ⟨rfl, rfl, rfl, by decide +kernel, rfl, by decide +kernel, by decide +kernel⟩
theorem ok__law_map_table (T : Tops K mg) : FnG P w K mg base CX0 2 T.d__law_map_table.1.1 T.d__law_map_table.1.2 ["chart"] (spM P w K m__law_map_table) := by
  have G__law_map_met := ok__law_map_met (P := P) (w := w) (base := base) T
  refine fnG (b := b__law_map_table) T.d__law_map_table.2.fn sc__law_map_table rfl rfl (fun cdv A outer s H hr => ?_)
  exact rss_one (rs_ret (re_lc (own := [("a", 1)]) (fun _ => rfl) (fun _ => sc__law_map_table.nd) (ri_range1 (by exact fun _ => rfl) T.n_range (ra_cons (re_ix (rv 0) (re_int)) (ra_nil))) (blk1 (N := ["chart", "a"]) (sc0 := defScope s__law_map_table) (by decide +kernel)) (rgon 1 (fun _ => sc__law_map_table.nd)) (rts_nil) (re_call G__law_map_met T.d__law_map_met.2 (fun _ => hr.mono (by decide)) (by exact fun _ => rfl) (ra_cons (rv 0) (ra_cons (rv 1) (ra_nil))))))
theorem sc__law_map_piece : FnScope ["chart", "table", "a", "b"] ["chart", "table", "a"] (defScope s__law_map_piece) := ⟨rfl, rfl, rfl, by decide +kernel, rfl, by decide +kernel, by decide +kernel⟩
theorem ok__law_map_piece (T : Tops K mg) : FnG P w K mg base CX0 1 T.d__law_map_piece.1.1 T.d__law_map_piece.1.2 ["chart", "table", "a"] (spM P w K m__law_map_piece) := by
  refine fnG (b := b__law_map_piece) T.d__law_map_piece.2.fn sc__law_map_piece rfl rfl (fun cdv A outer s H hr => ?_)
  exact rss_cons (rs_if (rt_cmp (opm_in) (rv 2) (re_ix (rv 0) (re_int)) rfl) (rss_one (rs_ret (re_tup (ra_cons (rv 2) (ra_nil))))) (rss_nil)) (rss_one (rs_ret (re_callTy (cm_tuple) (by exact fun _ => rfl) T.n_tuple (by decide +kernel) (ra_cons (re_lc (own := [("b", 3)]) (fun _ => rfl) (fun _ => sc__law_map_piece.nd) (ri_range1 (by exact fun _ => rfl) T.n_range (ra_cons (re_ix (rv 0) (re_int)) (ra_nil))) (blk1 (N := ["chart", "table", "a", "b"]) (sc0 := defScope s__law_map_piece) (by decide +kernel)) (rgon 3 (fun _ => sc__law_map_piece.nd)) (rts_one ((rw_and (rt_cmp (opm_notin) (rv 3) (re_ix (rv 0) (re_int)) rfl) (rw_and1 ((rw_or (rt_cmp (opm_eq (fun _ => (hr.mono (Nat.zero_le _)).rm)) (rv 3) (rv 2) (nomark _)) (rw_or1 ((rw_and (rt_cmp (opm_in) (rv 3) (re_ix (rv 1) (rv 2)) rfl) (rw_and1 (rt_cmp (opm_in) (rv 2) (re_ix (rv 1) (rv 3)) rfl))).rt))).rt))).rt)) (rv 3)) (ra_nil)))))
theorem sc__law_map_pieces : FnScope ["chart", "table", "lots", "a"] ["chart", "table"] (defScope s__law_map_pieces) := ⟨rfl, rfl, rfl, by decide +kernel, rfl, by decide +kernel, by decide +kernel⟩
theorem ok__law_map_pieces (T : Tops K mg) : FnG P w K mg base CX0 2 T.d__law_map_pieces.1.1 T.d__law_map_pieces.1.2 ["chart", "table"] (spM P w K m__law_map_pieces) := by
  have G__law_map_piece := ok__law_map_piece (P := P) (w := w) (base := base) T
  refine fnG (b := b__law_map_pieces) T.d__law_map_pieces.2.fn sc__law_map_pieces rfl rfl (fun cdv A outer s H hr => ?_)
  exact rss_cons (rs_setLc (i := 2) (own := [("a", 3)]) (fun _ => rfl) (fun _ => sc__law_map_pieces.nd) (fun _ => rfl) (fun _ => rfl) (fun _ => sw_true rfl rfl rfl (by decide +kernel)) (ri_range1 (by exact fun _ => rfl) T.n_range (ra_cons (re_ix (rv 0) (re_int)) (ra_nil))) (blk1 (N := ["chart", "table", "lots", "a"]) (sc0 := defScope s__law_map_pieces) (by decide +kernel)) (rgon 3 (fun _ => sc__law_map_pieces.nd)) (rts_one (rt_cmp (opm_notin) (rv 3) (re_ix (rv 0) (re_int)) rfl)) (re_call G__law_map_piece T.d__law_map_piece.2 (fun _ => hr.mono (by decide)) (by exact fun _ => rfl) (ra_cons (rv 0) (ra_cons (rv 1) (ra_cons (rv 3) (ra_nil)))))) (rss_one (rs_ret (re_callTy (cm_tuple) (by exact fun _ => rfl) T.n_tuple (by decide +kernel) (ra_cons (re_callB (cm_sorted (fun _ => rfl) (fun _ => (hr.mono (Nat.zero_le _)).rm)) (by exact fun _ => rfl) T.n_sorted (by decide +kernel) (ra_cons (re_callTy (cm_set (fun _ => rfl) (fun _ => (hr.mono (Nat.zero_le _)).rm)) (by exact fun _ => rfl) T.n_set (by decide +kernel) (ra_cons (rv 2) (ra_nil))) (ra_nil))) (ra_nil)))))
theorem sc__law_parted : FnScope ["pool", "chart", "table", "turn", "a"] ["pool", "chart"] (defScope s__law_parted) := ⟨rfl, rfl, rfl, by decide +kernel, rfl, by decide +kernel, by decide +kernel⟩
theorem ok__law_parted (T : Tops K mg) : FnG P w K mg base CX0 7 T.d__law_parted.1.1 T.d__law_parted.1.2 ["pool", "chart"] (spM P w K m__law_parted) := by
  have G__law_map_table := ok__law_map_table (P := P) (w := w) (base := base) T
  have G_pieces := ok_pieces (P := P) (w := w) (base := base) T
  have G__law_map_pieces := ok__law_map_pieces (P := P) (w := w) (base := base) T
  have G__law_draw := ok__law_draw (P := P) (w := w) (base := base) T
  have G_piece := ok_piece (P := P) (w := w) (base := base) T
  have G__law_map_piece := ok__law_map_piece (P := P) (w := w) (base := base) T
  refine fnG (b := b__law_parted) T.d__law_parted.2.fn sc__law_parted rfl rfl (fun cdv A outer s H hr => ?_)
  exact rss_cons (rset 2 (re_call G__law_map_table T.d__law_map_table.2 (fun _ => hr.mono (by decide)) (by exact fun _ => rfl) (ra_cons (rv 1) (ra_nil))) (fun _ => sc__law_parted.nd)) (rss_cons (rs_if (rt_cmp (opm_ne (fun _ => (hr.mono (Nat.zero_le _)).rm)) (re_callB (cm_repr (fun _ => hr.mono (Nat.zero_le _))) (by exact fun _ => rfl) T.n_repr (by decide +kernel) (ra_cons (re_call G_pieces T.d_pieces.2 (fun _ => hr.mono (by decide)) (by exact fun _ => rfl) (ra_cons (rv 1) (ra_nil))) (ra_nil))) (re_callB (cm_repr (fun _ => hr.mono (Nat.zero_le _))) (by exact fun _ => rfl) T.n_repr (by decide +kernel) (ra_cons (re_call G__law_map_pieces T.d__law_map_pieces.2 (fun _ => hr.mono (by decide)) (by exact fun _ => rfl) (ra_cons (rv 1) (ra_cons (rv 2) (ra_nil)))) (ra_nil))) (nomark _)) (rss_one (rs_ret (re_bl))) (rss_nil)) (rss_cons (rs_for (fun _ => PassesOwn.never) (fun _ => rfl) (ri_range1 (by exact fun _ => rfl) T.n_range (ra_cons (re_ite (rt_cmp (opm_gt) (re_ix (rv 1) (re_int)) (re_int) (nomark _)) (re_int) (re_int)) (ra_nil))) (rgn 3 (fun _ => sc__law_parted.nd)) (rss_cons (rset 4 (re_call G__law_draw T.d__law_draw.2 (fun _ => hr.mono (by decide)) (by exact fun _ => rfl) (ra_cons (rv 0) (ra_cons (re_ix (rv 1) (re_int)) (ra_nil)))) (fun _ => sc__law_parted.nd)) (rss_one (rs_if (rt_cmp (opm_ne (fun _ => (hr.mono (Nat.zero_le _)).rm)) (re_callB (cm_repr (fun _ => hr.mono (Nat.zero_le _))) (by exact fun _ => rfl) T.n_repr (by decide +kernel) (ra_cons (re_call G_piece T.d_piece.2 (fun _ => hr.mono (by decide)) (by exact fun _ => rfl) (ra_cons (rv 1) (ra_cons (rv 4) (ra_nil)))) (ra_nil))) (re_callB (cm_repr (fun _ => hr.mono (Nat.zero_le _))) (by exact fun _ => rfl) T.n_repr (by decide +kernel) (ra_cons (re_call G__law_map_piece T.d__law_map_piece.2 (fun _ => hr.mono (by decide)) (by exact fun _ => rfl) (ra_cons (rv 1) (ra_cons (rv 2) (ra_cons (rv 4) (ra_nil))))) (ra_nil))) (nomark _)) (rss_one (rs_ret (re_bl))) (rss_nil))))) (rss_one (rs_ret (re_bl)))))
theorem sc_law : FnScope ["script", "roads", "pool", "size", "chart", "ring", "waists", "last", "lots", "gone", "cut", "alone", "a"] ["script"] (defScope s_law) := ⟨rfl, rfl, rfl, by decide +kernel, rfl, by decide +kernel, by decide +kernel⟩
theorem ok_law (T : Tops K mg) : FnG P w K mg base CX0 8 T.d_law.1.1 T.d_law.1.2 ["script"] (spM P w K m_law) := by
  have G_pieces := ok_pieces (P := P) (w := w) (base := base) T
  have G__law_pool := ok__law_pool (P := P) (w := w) (base := base) T
  have G__law_map_drawn := ok__law_map_drawn (P := P) (w := w) (base := base) T
  have G__law_parted := ok__law_parted (P := P) (w := w) (base := base) T
  have G__law_draw := ok__law_draw (P := P) (w := w) (base := base) T
  have G__law_map_planted := ok__law_map_planted (P := P) (w := w) (base := base) T
  have G__law_pick := ok__law_pick (P := P) (w := w) (base := base) T
  have G_piece := ok_piece (P := P) (w := w) (base := base) T
  refine fnG (b := b_law) T.d_law.2.fn sc_law rfl rfl (fun cdv A outer s H hr => ?_)
  exact rss_cons (rset 1 (re_tup (ra_cons (re_tup (ra_cons (re_int) (ra_cons (re_int) (ra_nil)))) (ra_cons (re_tup (ra_cons (re_int) (ra_cons (re_int) (ra_nil)))) (ra_cons (re_tup (ra_cons (re_int) (ra_cons (re_int) (ra_nil)))) (ra_cons (re_tup (ra_cons (re_int) (ra_cons (re_int) (ra_nil)))) (ra_cons (re_tup (ra_cons (re_int) (ra_cons (re_int) (ra_nil)))) (ra_cons (re_tup (ra_cons (re_int) (ra_cons (re_int) (ra_nil)))) (ra_cons (re_tup (ra_cons (re_int) (ra_cons (re_int) (ra_nil)))) (ra_cons (re_tup (ra_cons (re_int) (ra_cons (re_int) (ra_nil)))) (ra_nil)))))))))) (fun _ => sc_law.nd)) (rss_cons (rs_if ((rw_or (rt_cmp (opm_ne (fun _ => (hr.mono (Nat.zero_le _)).rm)) (re_call G_pieces T.d_pieces.2 (fun _ => hr.mono (by decide)) (by exact fun _ => rfl) (ra_cons (re_tup (ra_cons (re_int) (ra_cons (rv 1) (ra_cons (re_tup (ra_cons (re_int) (ra_cons (re_int) (ra_cons (re_int) (ra_nil))))) (ra_nil))))) (ra_nil))) (re_tup (ra_cons (re_tup (ra_cons (re_int) (ra_cons (re_int) (ra_cons (re_int) (ra_cons (re_int) (ra_nil)))))) (ra_nil))) (nomark _)) (rw_or1 (rt_cmp (opm_ne (fun _ => (hr.mono (Nat.zero_le _)).rm)) (re_call G_pieces T.d_pieces.2 (fun _ => hr.mono (by decide)) (by exact fun _ => rfl) (ra_cons (re_tup (ra_cons (re_int) (ra_cons (rv 1) (ra_cons (re_tup (ra_cons (re_int) (ra_cons (re_int) (ra_cons (re_int) (ra_cons (re_int) (ra_nil)))))) (ra_nil))))) (ra_nil))) (re_tup (ra_cons (re_tup (ra_cons (re_int) (ra_nil))) (ra_cons (re_tup (ra_cons (re_int) (ra_nil))) (ra_cons (re_tup (ra_cons (re_int) (ra_nil))) (ra_nil))))) (nomark _)))).rt) (rss_one (rs_ret (re_bl))) (rss_nil)) (rss_cons (rset 2 (re_call G__law_pool T.d__law_pool.2 (fun _ => hr.mono (by decide)) (by exact fun _ => rfl) (ra_cons (rv 0) (ra_nil))) (fun _ => sc_law.nd)) (rss_cons (rs_if (rt_not (rt_tru (re_call G__law_parted T.d__law_parted.2 (fun _ => hr.mono (by decide)) (by exact fun _ => rfl) (ra_cons (rv 2) (ra_cons (re_call G__law_map_drawn T.d__law_map_drawn.2 (fun _ => hr.mono (by decide)) (by exact fun _ => rfl) (ra_cons (rv 2) (ra_cons (re_int) (ra_nil)))) (ra_nil)))))) (rss_one (rs_ret (re_bl))) (rss_nil)) (rss_cons (rset 3 (re_ite (rt_cmp (opm_eq (fun _ => (hr.mono (Nat.zero_le _)).rm)) (re_call G__law_draw T.d__law_draw.2 (fun _ => hr.mono (by decide)) (by exact fun _ => rfl) (ra_cons (rv 2) (ra_cons (re_int) (ra_nil)))) (re_int) (nomark _)) (re_int) (re_op opm_add (re_int) (re_call G__law_draw T.d__law_draw.2 (fun _ => hr.mono (by decide)) (by exact fun _ => rfl) (ra_cons (rv 2) (ra_cons (re_int) (ra_nil)))))) (fun _ => sc_law.nd)) (rss_cons (rs_asg (re_call G__law_map_planted T.d__law_map_planted.2 (fun _ => hr.mono (by decide)) (by exact fun _ => rfl) (ra_cons (rv 2) (ra_cons (rv 3) (ra_cons (re_call G__law_draw T.d__law_draw.2 (fun _ => hr.mono (by decide)) (by exact fun _ => rfl) (ra_cons (rv 2) (ra_cons (re_int) (ra_nil)))) (ra_cons (re_int) (ra_nil)))))) (rg_unp (n := 4) (fun _ => rfl) (rgs_cons (rgn 4 (fun _ => sc_law.nd)) (rgs_cons (rgn 5 (fun _ => sc_law.nd)) (rgs_cons (rgn 6 (fun _ => sc_law.nd)) (rgs_cons (rgn 7 (fun _ => sc_law.nd)) (rgs_nil))))) rfl)) (rss_cons (rset 8 (re_callB (cm_sorted (fun _ => rfl) (fun _ => (hr.mono (Nat.zero_le _)).rm)) (by exact fun _ => rfl) T.n_sorted (by decide +kernel) (ra_cons (re_op opm_add (re_lst (ra_cons (re_callTy (cm_tuple) (by exact fun _ => rfl) T.n_tuple (by decide +kernel) (ra_cons (rv 5) (ra_nil))) (ra_nil))) (re_lc (own := [("a", 12)]) (fun _ => rfl) (fun _ => sc_law.nd) (ri_seq (rv 6)) (blk1 (N := ["script", "roads", "pool", "size", "chart", "ring", "waists", "last", "lots", "gone", "cut", "alone", "a"]) (sc0 := defScope s_law) (by decide +kernel)) (rgon 12 (fun _ => sc_law.nd)) (rts_nil) (re_tup (ra_cons (rv 12) (ra_nil))))) (ra_nil))) (fun _ => sc_law.nd)) (rss_cons (rs_if ((rw_or (rt_cmp (opm_ne (fun _ => (hr.mono (Nat.zero_le _)).rm)) (re_callB (cm_repr (fun _ => hr.mono (Nat.zero_le _))) (by exact fun _ => rfl) T.n_repr (by decide +kernel) (ra_cons (re_call G_pieces T.d_pieces.2 (fun _ => hr.mono (by decide)) (by exact fun _ => rfl) (ra_cons (rv 4) (ra_nil))) (ra_nil))) (re_callB (cm_repr (fun _ => hr.mono (Nat.zero_le _))) (by exact fun _ => rfl) T.n_repr (by decide +kernel) (ra_cons (re_callTy (cm_tuple) (by exact fun _ => rfl) T.n_tuple (by decide +kernel) (ra_cons (rv 8) (ra_nil))) (ra_nil))) (nomark _)) (rw_or1 (rt_cmp (opm_ne (fun _ => (hr.mono (Nat.zero_le _)).rm)) (re_callB (cm_repr (fun _ => hr.mono (Nat.zero_le _))) (by exact fun _ => rfl) T.n_repr (by decide +kernel) (ra_cons (re_call G_piece T.d_piece.2 (fun _ => hr.mono (by decide)) (by exact fun _ => rfl) (ra_cons (rv 4) (ra_cons (re_call G__law_pick T.d__law_pick.2 (fun _ => hr.mono (by decide)) (by exact fun _ => rfl) (ra_cons (rv 2) (ra_cons (rv 5) (ra_nil)))) (ra_nil)))) (ra_nil))) (re_callB (cm_repr (fun _ => hr.mono (Nat.zero_le _))) (by exact fun _ => rfl) T.n_repr (by decide +kernel) (ra_cons (re_callTy (cm_tuple) (by exact fun _ => rfl) T.n_tuple (by decide +kernel) (ra_cons (rv 5) (ra_nil))) (ra_nil))) (nomark _)))).rt) (rss_one (rs_ret (re_bl))) (rss_nil)) (rss_cons (rset 9 (re_callB (cm_sorted (fun _ => rfl) (fun _ => (hr.mono (Nat.zero_le _)).rm)) (by exact fun _ => rfl) T.n_sorted (by decide +kernel) (ra_cons (re_callTy (cm_set (fun _ => rfl) (fun _ => (hr.mono (Nat.zero_le _)).rm)) (by exact fun _ => rfl) T.n_set (by decide +kernel) (ra_cons (re_lst (ra_cons (re_call G__law_pick T.d__law_pick.2 (fun _ => hr.mono (by decide)) (by exact fun _ => rfl) (ra_cons (rv 2) (ra_cons (rv 5) (ra_nil)))) (ra_cons (re_call G__law_pick T.d__law_pick.2 (fun _ => hr.mono (by decide)) (by exact fun _ => rfl) (ra_cons (rv 2) (ra_cons (rv 5) (ra_nil)))) (ra_nil)))) (ra_nil))) (ra_nil))) (fun _ => sc_law.nd)) (rss_cons (rset 10 (re_tup (ra_cons (re_ix (rv 4) (re_int)) (ra_cons (re_ix (rv 4) (re_int)) (ra_cons (re_callTy (cm_tuple) (by exact fun _ => rfl) T.n_tuple (by decide +kernel) (ra_cons (re_callB (cm_sorted (fun _ => rfl) (fun _ => (hr.mono (Nat.zero_le _)).rm)) (by exact fun _ => rfl) T.n_sorted (by decide +kernel) (ra_cons (re_op opm_add (re_callTy (cm_list) (by exact fun _ => rfl) T.n_list (by decide +kernel) (ra_cons (re_ix (rv 4) (re_int)) (ra_nil))) (rv 9)) (ra_nil))) (ra_nil))) (ra_nil))))) (fun _ => sc_law.nd)) (rss_cons (rset 11 (re_callB (cm_sorted (fun _ => rfl) (fun _ => (hr.mono (Nat.zero_le _)).rm)) (by exact fun _ => rfl) T.n_sorted (by decide +kernel) (ra_cons (re_lc (own := [("a", 12)]) (fun _ => rfl) (fun _ => sc_law.nd) (ri_seq (re_op opm_add (rv 5) (rv 6))) (blk1 (N := ["script", "roads", "pool", "size", "chart", "ring", "waists", "last", "lots", "gone", "cut", "alone", "a"]) (sc0 := defScope s_law) (by decide +kernel)) (rgon 12 (fun _ => sc_law.nd)) (rts_one (rt_cmp (opm_notin) (rv 12) (rv 9) rfl)) (re_tup (ra_cons (rv 12) (ra_nil)))) (ra_nil))) (fun _ => sc_law.nd)) (rss_cons (rs_if (rt_cmp (opm_ne (fun _ => (hr.mono (Nat.zero_le _)).rm)) (re_callB (cm_repr (fun _ => hr.mono (Nat.zero_le _))) (by exact fun _ => rfl) T.n_repr (by decide +kernel) (ra_cons (re_call G_pieces T.d_pieces.2 (fun _ => hr.mono (by decide)) (by exact fun _ => rfl) (ra_cons (rv 10) (ra_nil))) (ra_nil))) (re_callB (cm_repr (fun _ => hr.mono (Nat.zero_le _))) (by exact fun _ => rfl) T.n_repr (by decide +kernel) (ra_cons (re_callTy (cm_tuple) (by exact fun _ => rfl) T.n_tuple (by decide +kernel) (ra_cons (rv 11) (ra_nil))) (ra_nil))) (nomark _)) (rss_one (rs_ret (re_bl))) (rss_nil)) (rss_cons (rset 12 (re_call G__law_pick T.d__law_pick.2 (fun _ => hr.mono (by decide)) (by exact fun _ => rfl) (ra_cons (rv 2) (ra_cons (rv 5) (ra_nil)))) (fun _ => sc_law.nd)) (rss_one (rs_ret (re_and (re_cmp (opm_eq (fun _ => (hr.mono (Nat.zero_le _)).rm)) (re_callB (cm_repr (fun _ => hr.mono (Nat.zero_le _))) (by exact fun _ => rfl) T.n_repr (by decide +kernel) (ra_cons (re_call G_piece T.d_piece.2 (fun _ => hr.mono (by decide)) (by exact fun _ => rfl) (ra_cons (rv 10) (ra_cons (rv 12) (ra_nil)))) (ra_nil))) (re_callB (cm_repr (fun _ => hr.mono (Nat.zero_le _))) (by exact fun _ => rfl) T.n_repr (by decide +kernel) (ra_cons (re_tup (ra_cons (rv 12) (ra_nil))) (ra_nil))) (nomark _)) (re_one (re_cmp (opm_eq (fun _ => (hr.mono (Nat.zero_le _)).rm)) (re_callB (cm_repr (fun _ => hr.mono (Nat.zero_le _))) (by exact fun _ => rfl) T.n_repr (by decide +kernel) (ra_cons (re_call G_piece T.d_piece.2 (fun _ => hr.mono (by decide)) (by exact fun _ => rfl) (ra_cons (rv 10) (ra_cons (re_ix (rv 9) (re_int)) (ra_nil)))) (ra_nil))) (re_callB (cm_repr (fun _ => hr.mono (Nat.zero_le _))) (by exact fun _ => rfl) T.n_repr (by decide +kernel) (ra_cons (re_tup (ra_cons (re_ix (rv 9) (re_int)) (ra_nil))) (ra_nil))) (nomark _))))))))))))))))))
end
theorem all_mk {l : PySem.W.OpenLaw} {w : World} {K : PySem.W.Frag} {h : Heap} {mg : Str → Option Value} {fa f0 f1 f2 f3 f4 f5 f6 f7 f8 f9 f10 f11 f12 f13 f14 f15 f16 f17 f18 f19 f20 f21 f22 f23 f24 f25 f26 f27 f28 f29 f30 : Addr} {tk_MOST_PLACES tk_MOST_ROADS : Tok} (X : K.In h) (G : h.Ns mainGlobals mg) (hfa : mg "law" = some (.ref fa))
    {od0 an0 : Option Addr} {sl0 : Array (Option Value)} {oc0 kV0 dc0 pm0 cd0 ct0 : Value}
    {od1 an1 : Option Addr} {sl1 : Array (Option Value)} {oc1 kV1 dc1 pm1 cd1 ct1 : Value}
    {od2 an2 : Option Addr} {sl2 : Array (Option Value)} {oc2 kV2 dc2 pm2 cd2 ct2 : Value}
    {od3 an3 : Option Addr} {sl3 : Array (Option Value)} {oc3 kV3 dc3 pm3 cd3 ct3 : Value}
    {od4 an4 : Option Addr} {sl4 : Array (Option Value)} {oc4 kV4 dc4 pm4 cd4 ct4 : Value}
    {od5 an5 : Option Addr} {sl5 : Array (Option Value)} {oc5 kV5 dc5 pm5 cd5 ct5 : Value}
    {od6 an6 : Option Addr} {sl6 : Array (Option Value)} {oc6 kV6 dc6 pm6 cd6 ct6 : Value}
    {od7 an7 : Option Addr} {sl7 : Array (Option Value)} {oc7 kV7 dc7 pm7 cd7 ct7 : Value}
    {od8 an8 : Option Addr} {sl8 : Array (Option Value)} {oc8 kV8 dc8 pm8 cd8 ct8 : Value}
    {od9 an9 : Option Addr} {sl9 : Array (Option Value)} {oc9 kV9 dc9 pm9 cd9 ct9 : Value}
    {od10 an10 : Option Addr} {sl10 : Array (Option Value)} {oc10 kV10 dc10 pm10 cd10 ct10 : Value}
    {od11 an11 : Option Addr} {sl11 : Array (Option Value)} {oc11 kV11 dc11 pm11 cd11 ct11 : Value}
    {od12 an12 : Option Addr} {sl12 : Array (Option Value)} {oc12 kV12 dc12 pm12 cd12 ct12 : Value}
    {od13 an13 : Option Addr} {sl13 : Array (Option Value)} {oc13 kV13 dc13 pm13 cd13 ct13 : Value}
    {od14 an14 : Option Addr} {sl14 : Array (Option Value)} {oc14 kV14 dc14 pm14 cd14 ct14 : Value}
    {od15 an15 : Option Addr} {sl15 : Array (Option Value)} {oc15 kV15 dc15 pm15 cd15 ct15 : Value}
    {od16 an16 : Option Addr} {sl16 : Array (Option Value)} {oc16 kV16 dc16 pm16 cd16 ct16 : Value}
    {od17 an17 : Option Addr} {sl17 : Array (Option Value)} {oc17 kV17 dc17 pm17 cd17 ct17 : Value}
    {od18 an18 : Option Addr} {sl18 : Array (Option Value)} {oc18 kV18 dc18 pm18 cd18 ct18 : Value}
    {od19 an19 : Option Addr} {sl19 : Array (Option Value)} {oc19 kV19 dc19 pm19 cd19 ct19 : Value}
    {od20 an20 : Option Addr} {sl20 : Array (Option Value)} {oc20 kV20 dc20 pm20 cd20 ct20 : Value}
    {od21 an21 : Option Addr} {sl21 : Array (Option Value)} {oc21 kV21 dc21 pm21 cd21 ct21 : Value}
    {od22 an22 : Option Addr} {sl22 : Array (Option Value)} {oc22 kV22 dc22 pm22 cd22 ct22 : Value}
    {od23 an23 : Option Addr} {sl23 : Array (Option Value)} {oc23 kV23 dc23 pm23 cd23 ct23 : Value}
    {od24 an24 : Option Addr} {sl24 : Array (Option Value)} {oc24 kV24 dc24 pm24 cd24 ct24 : Value}
    {od25 an25 : Option Addr} {sl25 : Array (Option Value)} {oc25 kV25 dc25 pm25 cd25 ct25 : Value}
    {od26 an26 : Option Addr} {sl26 : Array (Option Value)} {oc26 kV26 dc26 pm26 cd26 ct26 : Value}
    {od27 an27 : Option Addr} {sl27 : Array (Option Value)} {oc27 kV27 dc27 pm27 cd27 ct27 : Value}
    {od28 an28 : Option Addr} {sl28 : Array (Option Value)} {oc28 kV28 dc28 pm28 cd28 ct28 : Value}
    {od29 an29 : Option Addr} {sl29 : Array (Option Value)} {oc29 kV29 dc29 pm29 cd29 ct29 : Value}
    {od30 an30 : Option Addr} {sl30 : Array (Option Value)} {oc30 kV30 dc30 pm30 cd30 ct30 : Value}
    (a0 : PySem.W.nsIn K mainGlobals "is_whole" = some (some (.ref f0)))
    (l0 : K.lookup f0 = some ⟨oc0, od0, .func (PySem.W.fnOf "is_whole" "is_whole" (defArgs s_is_whole) (defBody s_is_whole) (defScope s_is_whole) .none kV0 dc0 pm0 an0 cd0 ct0), sl0⟩)
    (c0 : PySem.W.codeIn K cd0 "is_whole" = true)
    (k0 : PySem.W.keepIn K (.ref f0) = true)
    (a1 : PySem.W.nsIn K mainGlobals "is_road" = some (some (.ref f1)))
    (l1 : K.lookup f1 = some ⟨oc1, od1, .func (PySem.W.fnOf "is_road" "is_road" (defArgs s_is_road) (defBody s_is_road) (defScope s_is_road) .none kV1 dc1 pm1 an1 cd1 ct1), sl1⟩)
    (c1 : PySem.W.codeIn K cd1 "is_road" = true)
    (k1 : PySem.W.keepIn K (.ref f1) = true)
    (a2 : PySem.W.nsIn K mainGlobals "first_bad_place" = some (some (.ref f2)))
    (l2 : K.lookup f2 = some ⟨oc2, od2, .func (PySem.W.fnOf "first_bad_place" "first_bad_place" (defArgs s_first_bad_place) (defBody s_first_bad_place) (defScope s_first_bad_place) .none kV2 dc2 pm2 an2 cd2 ct2), sl2⟩)
    (c2 : PySem.W.codeIn K cd2 "first_bad_place" = true)
    (k2 : PySem.W.keepIn K (.ref f2) = true)
    (a3 : PySem.W.nsIn K mainGlobals "first_bad_road" = some (some (.ref f3)))
    (l3 : K.lookup f3 = some ⟨oc3, od3, .func (PySem.W.fnOf "first_bad_road" "first_bad_road" (defArgs s_first_bad_road) (defBody s_first_bad_road) (defScope s_first_bad_road) .none kV3 dc3 pm3 an3 cd3 ct3), sl3⟩)
    (c3 : PySem.W.codeIn K cd3 "first_bad_road" = true)
    (k3 : PySem.W.keepIn K (.ref f3) = true)
    (a4 : PySem.W.nsIn K mainGlobals "wrong_roads" = some (some (.ref f4)))
    (l4 : K.lookup f4 = some ⟨oc4, od4, .func (PySem.W.fnOf "wrong_roads" "wrong_roads" (defArgs s_wrong_roads) (defBody s_wrong_roads) (defScope s_wrong_roads) .none kV4 dc4 pm4 an4 cd4 ct4), sl4⟩)
    (c4 : PySem.W.codeIn K cd4 "wrong_roads" = true)
    (k4 : PySem.W.keepIn K (.ref f4) = true)
    (a5 : PySem.W.nsIn K mainGlobals "wrong_wishes" = some (some (.ref f5)))
    (l5 : K.lookup f5 = some ⟨oc5, od5, .func (PySem.W.fnOf "wrong_wishes" "wrong_wishes" (defArgs s_wrong_wishes) (defBody s_wrong_wishes) (defScope s_wrong_wishes) .none kV5 dc5 pm5 an5 cd5 ct5), sl5⟩)
    (c5 : PySem.W.codeIn K cd5 "wrong_wishes" = true)
    (k5 : PySem.W.keepIn K (.ref f5) = true)
    (a6 : PySem.W.nsIn K mainGlobals "made_map" = some (some (.ref f6)))
    (l6 : K.lookup f6 = some ⟨oc6, od6, .func (PySem.W.fnOf "made_map" "made_map" (defArgs s_made_map) (defBody s_made_map) (defScope s_made_map) .none kV6 dc6 pm6 an6 cd6 ct6), sl6⟩)
    (c6 : PySem.W.codeIn K cd6 "made_map" = true)
    (k6 : PySem.W.keepIn K (.ref f6) = true)
    (a7 : PySem.W.nsIn K mainGlobals "is_place" = some (some (.ref f7)))
    (l7 : K.lookup f7 = some ⟨oc7, od7, .func (PySem.W.fnOf "is_place" "is_place" (defArgs s_is_place) (defBody s_is_place) (defScope s_is_place) .none kV7 dc7 pm7 an7 cd7 ct7), sl7⟩)
    (c7 : PySem.W.codeIn K cd7 "is_place" = true)
    (k7 : PySem.W.keepIn K (.ref f7) = true)
    (a8 : PySem.W.nsIn K mainGlobals "check_place" = some (some (.ref f8)))
    (l8 : K.lookup f8 = some ⟨oc8, od8, .func (PySem.W.fnOf "check_place" "check_place" (defArgs s_check_place) (defBody s_check_place) (defScope s_check_place) .none kV8 dc8 pm8 an8 cd8 ct8), sl8⟩)
    (c8 : PySem.W.codeIn K cd8 "check_place" = true)
    (k8 : PySem.W.keepIn K (.ref f8) = true)
    (a9 : PySem.W.nsIn K mainGlobals "roads_from" = some (some (.ref f9)))
    (l9 : K.lookup f9 = some ⟨oc9, od9, .func (PySem.W.fnOf "roads_from" "roads_from" (defArgs s_roads_from) (defBody s_roads_from) (defScope s_roads_from) .none kV9 dc9 pm9 an9 cd9 ct9), sl9⟩)
    (c9 : PySem.W.codeIn K cd9 "roads_from" = true)
    (k9 : PySem.W.keepIn K (.ref f9) = true)
    (a10 : PySem.W.nsIn K mainGlobals "met_by" = some (some (.ref f10)))
    (l10 : K.lookup f10 = some ⟨oc10, od10, .func (PySem.W.fnOf "met_by" "met_by" (defArgs s_met_by) (defBody s_met_by) (defScope s_met_by) .none kV10 dc10 pm10 an10 cd10 ct10), sl10⟩)
    (c10 : PySem.W.codeIn K cd10 "met_by" = true)
    (k10 : PySem.W.keepIn K (.ref f10) = true)
    (a11 : PySem.W.nsIn K mainGlobals "met" = some (some (.ref f11)))
    (l11 : K.lookup f11 = some ⟨oc11, od11, .func (PySem.W.fnOf "met" "met" (defArgs s_met) (defBody s_met) (defScope s_met) .none kV11 dc11 pm11 an11 cd11 ct11), sl11⟩)
    (c11 : PySem.W.codeIn K cd11 "met" = true)
    (k11 : PySem.W.keepIn K (.ref f11) = true)
    (a12 : PySem.W.nsIn K mainGlobals "turned_roads" = some (some (.ref f12)))
    (l12 : K.lookup f12 = some ⟨oc12, od12, .func (PySem.W.fnOf "turned_roads" "turned_roads" (defArgs s_turned_roads) (defBody s_turned_roads) (defScope s_turned_roads) .none kV12 dc12 pm12 an12 cd12 ct12), sl12⟩)
    (c12 : PySem.W.codeIn K cd12 "turned_roads" = true)
    (k12 : PySem.W.keepIn K (.ref f12) = true)
    (a13 : PySem.W.nsIn K mainGlobals "piece_from" = some (some (.ref f13)))
    (l13 : K.lookup f13 = some ⟨oc13, od13, .func (PySem.W.fnOf "piece_from" "piece_from" (defArgs s_piece_from) (defBody s_piece_from) (defScope s_piece_from) .none kV13 dc13 pm13 an13 cd13 ct13), sl13⟩)
    (c13 : PySem.W.codeIn K cd13 "piece_from" = true)
    (k13 : PySem.W.keepIn K (.ref f13) = true)
    (a14 : PySem.W.nsIn K mainGlobals "tables" = some (some (.ref f14)))
    (l14 : K.lookup f14 = some ⟨oc14, od14, .func (PySem.W.fnOf "tables" "tables" (defArgs s_tables) (defBody s_tables) (defScope s_tables) .none kV14 dc14 pm14 an14 cd14 ct14), sl14⟩)
    (c14 : PySem.W.codeIn K cd14 "tables" = true)
    (k14 : PySem.W.keepIn K (.ref f14) = true)
    (a15 : PySem.W.nsIn K mainGlobals "piece" = some (some (.ref f15)))
    (l15 : K.lookup f15 = some ⟨oc15, od15, .func (PySem.W.fnOf "piece" "piece" (defArgs s_piece) (defBody s_piece) (defScope s_piece) .none kV15 dc15 pm15 an15 cd15 ct15), sl15⟩)
    (c15 : PySem.W.codeIn K cd15 "piece" = true)
    (k15 : PySem.W.keepIn K (.ref f15) = true)
    (a16 : PySem.W.nsIn K mainGlobals "pieces" = some (some (.ref f16)))
    (l16 : K.lookup f16 = some ⟨oc16, od16, .func (PySem.W.fnOf "pieces" "pieces" (defArgs s_pieces) (defBody s_pieces) (defScope s_pieces) .none kV16 dc16 pm16 an16 cd16 ct16), sl16⟩)
    (c16 : PySem.W.codeIn K cd16 "pieces" = true)
    (k16 : PySem.W.keepIn K (.ref f16) = true)
    (a17 : PySem.W.nsIn K mainGlobals "_law_pool" = some (some (.ref f17)))
    (l17 : K.lookup f17 = some ⟨oc17, od17, .func (PySem.W.fnOf "_law_pool" "_law_pool" (defArgs s__law_pool) (defBody s__law_pool) (defScope s__law_pool) .none kV17 dc17 pm17 an17 cd17 ct17), sl17⟩)
    (c17 : PySem.W.codeIn K cd17 "_law_pool" = true)
    (k17 : PySem.W.keepIn K (.ref f17) = true)
    (a18 : PySem.W.nsIn K mainGlobals "_law_draw" = some (some (.ref f18)))
    (l18 : K.lookup f18 = some ⟨oc18, od18, .func (PySem.W.fnOf "_law_draw" "_law_draw" (defArgs s__law_draw) (defBody s__law_draw) (defScope s__law_draw) .none kV18 dc18 pm18 an18 cd18 ct18), sl18⟩)
    (c18 : PySem.W.codeIn K cd18 "_law_draw" = true)
    (k18 : PySem.W.keepIn K (.ref f18) = true)
    (a19 : PySem.W.nsIn K mainGlobals "_law_pick" = some (some (.ref f19)))
    (l19 : K.lookup f19 = some ⟨oc19, od19, .func (PySem.W.fnOf "_law_pick" "_law_pick" (defArgs s__law_pick) (defBody s__law_pick) (defScope s__law_pick) .none kV19 dc19 pm19 an19 cd19 ct19), sl19⟩)
    (c19 : PySem.W.codeIn K cd19 "_law_pick" = true)
    (k19 : PySem.W.keepIn K (.ref f19) = true)
    (a20 : PySem.W.nsIn K mainGlobals "_law_turned" = some (some (.ref f20)))
    (l20 : K.lookup f20 = some ⟨oc20, od20, .func (PySem.W.fnOf "_law_turned" "_law_turned" (defArgs s__law_turned) (defBody s__law_turned) (defScope s__law_turned) .none kV20 dc20 pm20 an20 cd20 ct20), sl20⟩)
    (c20 : PySem.W.codeIn K cd20 "_law_turned" = true)
    (k20 : PySem.W.keepIn K (.ref f20) = true)
    (a21 : PySem.W.nsIn K mainGlobals "_law_map_named" = some (some (.ref f21)))
    (l21 : K.lookup f21 = some ⟨oc21, od21, .func (PySem.W.fnOf "_law_map_named" "_law_map_named" (defArgs s__law_map_named) (defBody s__law_map_named) (defScope s__law_map_named) .none kV21 dc21 pm21 an21 cd21 ct21), sl21⟩)
    (c21 : PySem.W.codeIn K cd21 "_law_map_named" = true)
    (k21 : PySem.W.keepIn K (.ref f21) = true)
    (a22 : PySem.W.nsIn K mainGlobals "_law_map_some_wished" = some (some (.ref f22)))
    (l22 : K.lookup f22 = some ⟨oc22, od22, .func (PySem.W.fnOf "_law_map_some_wished" "_law_map_some_wished" (defArgs s__law_map_some_wished) (defBody s__law_map_some_wished) (defScope s__law_map_some_wished) .none kV22 dc22 pm22 an22 cd22 ct22), sl22⟩)
    (c22 : PySem.W.codeIn K cd22 "_law_map_some_wished" = true)
    (k22 : PySem.W.keepIn K (.ref f22) = true)
    (a23 : PySem.W.nsIn K mainGlobals "_law_map_drawn" = some (some (.ref f23)))
    (l23 : K.lookup f23 = some ⟨oc23, od23, .func (PySem.W.fnOf "_law_map_drawn" "_law_map_drawn" (defArgs s__law_map_drawn) (defBody s__law_map_drawn) (defScope s__law_map_drawn) .none kV23 dc23 pm23 an23 cd23 ct23), sl23⟩)
    (c23 : PySem.W.codeIn K cd23 "_law_map_drawn" = true)
    (k23 : PySem.W.keepIn K (.ref f23) = true)
    (a24 : PySem.W.nsIn K mainGlobals "_law_map_planted" = some (some (.ref f24)))
    (l24 : K.lookup f24 = some ⟨oc24, od24, .func (PySem.W.fnOf "_law_map_planted" "_law_map_planted" (defArgs s__law_map_planted) (defBody s__law_map_planted) (defScope s__law_map_planted) .none kV24 dc24 pm24 an24 cd24 ct24), sl24⟩)
    (c24 : PySem.W.codeIn K cd24 "_law_map_planted" = true)
    (k24 : PySem.W.keepIn K (.ref f24) = true)
    (a25 : PySem.W.nsIn K mainGlobals "_law_map_met" = some (some (.ref f25)))
    (l25 : K.lookup f25 = some ⟨oc25, od25, .func (PySem.W.fnOf "_law_map_met" "_law_map_met" (defArgs s__law_map_met) (defBody s__law_map_met) (defScope s__law_map_met) .none kV25 dc25 pm25 an25 cd25 ct25), sl25⟩)
    (c25 : PySem.W.codeIn K cd25 "_law_map_met" = true)
    (k25 : PySem.W.keepIn K (.ref f25) = true)
    (a26 : PySem.W.nsIn K mainGlobals "_law_map_table" = some (some (.ref f26)))
    (l26 : K.lookup f26 = some ⟨oc26, od26, .func (PySem.W.fnOf "_law_map_table" "_law_map_table" (defArgs s__law_map_table) (defBody s__law_map_table) (defScope s__law_map_table) .none kV26 dc26 pm26 an26 cd26 ct26), sl26⟩)
    (c26 : PySem.W.codeIn K cd26 "_law_map_table" = true)
    (k26 : PySem.W.keepIn K (.ref f26) = true)
    (a27 : PySem.W.nsIn K mainGlobals "_law_map_piece" = some (some (.ref f27)))
    (l27 : K.lookup f27 = some ⟨oc27, od27, .func (PySem.W.fnOf "_law_map_piece" "_law_map_piece" (defArgs s__law_map_piece) (defBody s__law_map_piece) (defScope s__law_map_piece) .none kV27 dc27 pm27 an27 cd27 ct27), sl27⟩)
    (c27 : PySem.W.codeIn K cd27 "_law_map_piece" = true)
    (k27 : PySem.W.keepIn K (.ref f27) = true)
    (a28 : PySem.W.nsIn K mainGlobals "_law_map_pieces" = some (some (.ref f28)))
    (l28 : K.lookup f28 = some ⟨oc28, od28, .func (PySem.W.fnOf "_law_map_pieces" "_law_map_pieces" (defArgs s__law_map_pieces) (defBody s__law_map_pieces) (defScope s__law_map_pieces) .none kV28 dc28 pm28 an28 cd28 ct28), sl28⟩)
    (c28 : PySem.W.codeIn K cd28 "_law_map_pieces" = true)
    (k28 : PySem.W.keepIn K (.ref f28) = true)
    (a29 : PySem.W.nsIn K mainGlobals "_law_parted" = some (some (.ref f29)))
    (l29 : K.lookup f29 = some ⟨oc29, od29, .func (PySem.W.fnOf "_law_parted" "_law_parted" (defArgs s__law_parted) (defBody s__law_parted) (defScope s__law_parted) .none kV29 dc29 pm29 an29 cd29 ct29), sl29⟩)
    (c29 : PySem.W.codeIn K cd29 "_law_parted" = true)
    (k29 : PySem.W.keepIn K (.ref f29) = true)
    (a30 : PySem.W.nsIn K mainGlobals "law" = some (some (.ref f30)))
    (l30 : K.lookup f30 = some ⟨oc30, od30, .func (PySem.W.fnOf "law" "law" (defArgs s_law) (defBody s_law) (defScope s_law) .none kV30 dc30 pm30 an30 cd30 ct30), sl30⟩)
    (c30 : PySem.W.codeIn K cd30 "law" = true)
    (k30 : PySem.W.keepIn K (.ref f30) = true)
    (z_int : PySem.W.nsIn K mainGlobals "int" = some none)
    (z_isinstance : PySem.W.nsIn K mainGlobals "isinstance" = some none)
    (z_bool : PySem.W.nsIn K mainGlobals "bool" = some none)
    (z_tuple : PySem.W.nsIn K mainGlobals "tuple" = some none)
    (z_len : PySem.W.nsIn K mainGlobals "len" = some none)
    (z_range : PySem.W.nsIn K mainGlobals "range" = some none)
    (z_list : PySem.W.nsIn K mainGlobals "list" = some none)
    (z_set : PySem.W.nsIn K mainGlobals "set" = some none)
    (z_sorted : PySem.W.nsIn K mainGlobals "sorted" = some none)
    (z_min : PySem.W.nsIn K mainGlobals "min" = some none)
    (z_max : PySem.W.nsIn K mainGlobals "max" = some none)
    (z_repr : PySem.W.nsIn K mainGlobals "repr" = some none)
    (q_MOST_PLACES : PySem.W.nsIn K mainGlobals "MOST_PLACES" = some (some (.int 60 tk_MOST_PLACES)))
    (q_MOST_ROADS : PySem.W.nsIn K mainGlobals "MOST_ROADS" = some (some (.int 240 tk_MOST_ROADS))) :
    ∃ fd : FuncData, (∀ (s : Shared) (v : Value), BindsTo s fd ⟨[v], []⟩ [("script", v)]) ∧ ∀ base : Heap, K.In base → base.Ns mainGlobals mg → FnG l.prog w K mg base CX0 8 fa fd ["script"] (spM l.prog w K m_law) := by
  have e := hfa.symm.trans (PySem.W.mg_of X G a30)
  cases e
  obtain ⟨T, hT⟩ : ∃ T : Tops K mg, T.d_law.1 = (fa, PySem.W.fnOf "law" "law" (defArgs s_law) (defBody s_law) (defScope s_law) .none kV30 dc30 pm30 an30 cd30 ct30) := ⟨
    { d_is_whole := ⟨(_, _), PySem.W.mg_of X G a0, fun_mk (st := s_is_whole) l0 c0 k0, (fun_mk (st := s_is_whole) l0 c0 k0).binds (ps := ["thing", "low", "high"]) fun _ _ _ _ _ _ us hl => match us, hl with | [_, _, _], _ => rfl⟩,
      d_is_road := ⟨(_, _), PySem.W.mg_of X G a1, fun_mk (st := s_is_road) l1 c1 k1, (fun_mk (st := s_is_road) l1 c1 k1).binds (ps := ["thing", "places"]) fun _ _ _ _ _ _ us hl => match us, hl with | [_, _], _ => rfl⟩,
      d_first_bad_place := ⟨(_, _), PySem.W.mg_of X G a2, fun_mk (st := s_first_bad_place) l2 c2 k2, (fun_mk (st := s_first_bad_place) l2 c2 k2).binds (ps := ["things", "places"]) fun _ _ _ _ _ _ us hl => match us, hl with | [_, _], _ => rfl⟩,
      d_first_bad_road := ⟨(_, _), PySem.W.mg_of X G a3, fun_mk (st := s_first_bad_road) l3 c3 k3, (fun_mk (st := s_first_bad_road) l3 c3 k3).binds (ps := ["things", "places"]) fun _ _ _ _ _ _ us hl => match us, hl with | [_, _], _ => rfl⟩,
      d_wrong_roads := ⟨(_, _), PySem.W.mg_of X G a4, fun_mk (st := s_wrong_roads) l4 c4 k4, (fun_mk (st := s_wrong_roads) l4 c4 k4).binds (ps := ["thing"]) fun _ _ _ _ _ _ us hl => match us, hl with | [_], _ => rfl⟩,
      d_wrong_wishes := ⟨(_, _), PySem.W.mg_of X G a5, fun_mk (st := s_wrong_wishes) l5 c5 k5, (fun_mk (st := s_wrong_wishes) l5 c5 k5).binds (ps := ["thing"]) fun _ _ _ _ _ _ us hl => match us, hl with | [_], _ => rfl⟩,
      d_made_map := ⟨(_, _), PySem.W.mg_of X G a6, fun_mk (st := s_made_map) l6 c6 k6, (fun_mk (st := s_made_map) l6 c6 k6).binds (ps := ["thing"]) fun _ _ _ _ _ _ us hl => match us, hl with | [_], _ => rfl⟩,
      d_is_place := ⟨(_, _), PySem.W.mg_of X G a7, fun_mk (st := s_is_place) l7 c7 k7, (fun_mk (st := s_is_place) l7 c7 k7).binds (ps := ["chart", "thing"]) fun _ _ _ _ _ _ us hl => match us, hl with | [_, _], _ => rfl⟩,
      d_check_place := ⟨(_, _), PySem.W.mg_of X G a8, fun_mk (st := s_check_place) l8 c8 k8, (fun_mk (st := s_check_place) l8 c8 k8).binds (ps := ["chart", "a"]) fun _ _ _ _ _ _ us hl => match us, hl with | [_, _], _ => rfl⟩,
      d_roads_from := ⟨(_, _), PySem.W.mg_of X G a9, fun_mk (st := s_roads_from) l9 c9 k9, (fun_mk (st := s_roads_from) l9 c9 k9).binds (ps := ["chart"]) fun _ _ _ _ _ _ us hl => match us, hl with | [_], _ => rfl⟩,
      d_met_by := ⟨(_, _), PySem.W.mg_of X G a10, fun_mk (st := s_met_by) l10 c10 k10, (fun_mk (st := s_met_by) l10 c10 k10).binds (ps := ["leads", "wished", "a"]) fun _ _ _ _ _ _ us hl => match us, hl with | [_, _, _], _ => rfl⟩,
      d_met := ⟨(_, _), PySem.W.mg_of X G a11, fun_mk (st := s_met) l11 c11 k11, (fun_mk (st := s_met) l11 c11 k11).binds (ps := ["chart", "a"]) fun _ _ _ _ _ _ us hl => match us, hl with | [_, _], _ => rfl⟩,
      d_turned_roads := ⟨(_, _), PySem.W.mg_of X G a12, fun_mk (st := s_turned_roads) l12 c12 k12, (fun_mk (st := s_turned_roads) l12 c12 k12).binds (ps := ["chart"]) fun _ _ _ _ _ _ us hl => match us, hl with | [_], _ => rfl⟩,
      d_piece_from := ⟨(_, _), PySem.W.mg_of X G a13, fun_mk (st := s_piece_from) l13 c13 k13, (fun_mk (st := s_piece_from) l13 c13 k13).binds (ps := ["chart", "a"]) fun _ _ _ _ _ _ us hl => match us, hl with | [_, _], _ => rfl⟩,
      d_tables := ⟨(_, _), PySem.W.mg_of X G a14, fun_mk (st := s_tables) l14 c14 k14, (fun_mk (st := s_tables) l14 c14 k14).binds (ps := ["chart"]) fun _ _ _ _ _ _ us hl => match us, hl with | [_], _ => rfl⟩,
      d_piece := ⟨(_, _), PySem.W.mg_of X G a15, fun_mk (st := s_piece) l15 c15 k15, (fun_mk (st := s_piece) l15 c15 k15).binds (ps := ["chart", "a"]) fun _ _ _ _ _ _ us hl => match us, hl with | [_, _], _ => rfl⟩,
      d_pieces := ⟨(_, _), PySem.W.mg_of X G a16, fun_mk (st := s_pieces) l16 c16 k16, (fun_mk (st := s_pieces) l16 c16 k16).binds (ps := ["chart"]) fun _ _ _ _ _ _ us hl => match us, hl with | [_], _ => rfl⟩,
      d__law_pool := ⟨(_, _), PySem.W.mg_of X G a17, fun_mk (st := s__law_pool) l17 c17 k17, (fun_mk (st := s__law_pool) l17 c17 k17).binds (ps := ["script"]) fun _ _ _ _ _ _ us hl => match us, hl with | [_], _ => rfl⟩,
      d__law_draw := ⟨(_, _), PySem.W.mg_of X G a18, fun_mk (st := s__law_draw) l18 c18 k18, (fun_mk (st := s__law_draw) l18 c18 k18).binds (ps := ["pool", "many"]) fun _ _ _ _ _ _ us hl => match us, hl with | [_, _], _ => rfl⟩,
      d__law_pick := ⟨(_, _), PySem.W.mg_of X G a19, fun_mk (st := s__law_pick) l19 c19 k19, (fun_mk (st := s__law_pick) l19 c19 k19).binds (ps := ["pool", "things"]) fun _ _ _ _ _ _ us hl => match us, hl with | [_, _], _ => rfl⟩,
      d__law_turned := ⟨(_, _), PySem.W.mg_of X G a20, fun_mk (st := s__law_turned) l20 c20 k20, (fun_mk (st := s__law_turned) l20 c20 k20).binds (ps := ["pool", "many"]) fun _ _ _ _ _ _ us hl => match us, hl with | [_, _], _ => rfl⟩,
      d__law_map_named := ⟨(_, _), PySem.W.mg_of X G a21, fun_mk (st := s__law_map_named) l21 c21 k21, (fun_mk (st := s__law_map_named) l21 c21 k21).binds (ps := ["pool", "places", "roads", "wished"]) fun _ _ _ _ _ _ us hl => match us, hl with | [_, _, _, _], _ => rfl⟩,
      d__law_map_some_wished := ⟨(_, _), PySem.W.mg_of X G a22, fun_mk (st := s__law_map_some_wished) l22 c22 k22, (fun_mk (st := s__law_map_some_wished) l22 c22 k22).binds (ps := ["pool", "places", "roads"]) fun _ _ _ _ _ _ us hl => match us, hl with | [_, _, _], _ => rfl⟩,
      d__law_map_drawn := ⟨(_, _), PySem.W.mg_of X G a23, fun_mk (st := s__law_map_drawn) l23 c23 k23, (fun_mk (st := s__law_map_drawn) l23 c23 k23).binds (ps := ["pool", "most"]) fun _ _ _ _ _ _ us hl => match us, hl with | [_, _], _ => rfl⟩,
      d__law_map_planted := ⟨(_, _), PySem.W.mg_of X G a24, fun_mk (st := s__law_map_planted) l24 c24 k24, (fun_mk (st := s__law_map_planted) l24 c24 k24).binds (ps := ["pool", "ring", "ways", "behind"]) fun _ _ _ _ _ _ us hl => match us, hl with | [_, _, _, _], _ => rfl⟩,
      d__law_map_met := ⟨(_, _), PySem.W.mg_of X G a25, fun_mk (st := s__law_map_met) l25 c25 k25, (fun_mk (st := s__law_map_met) l25 c25 k25).binds (ps := ["chart", "a"]) fun _ _ _ _ _ _ us hl => match us, hl with | [_, _], _ => rfl⟩,
      d__law_map_table := ⟨(_, _), PySem.W.mg_of X G a26, fun_mk (st := s__law_map_table) l26 c26 k26, (fun_mk (st := s__law_map_table) l26 c26 k26).binds (ps := ["chart"]) fun _ _ _ _ _ _ us hl => match us, hl with | [_], _ => rfl⟩,
      d__law_map_piece := ⟨(_, _), PySem.W.mg_of X G a27, fun_mk (st := s__law_map_piece) l27 c27 k27, (fun_mk (st := s__law_map_piece) l27 c27 k27).binds (ps := ["chart", "table", "a"]) fun _ _ _ _ _ _ us hl => match us, hl with | [_, _, _], _ => rfl⟩,
      d__law_map_pieces := ⟨(_, _), PySem.W.mg_of X G a28, fun_mk (st := s__law_map_pieces) l28 c28 k28, (fun_mk (st := s__law_map_pieces) l28 c28 k28).binds (ps := ["chart", "table"]) fun _ _ _ _ _ _ us hl => match us, hl with | [_, _], _ => rfl⟩,
      d__law_parted := ⟨(_, _), PySem.W.mg_of X G a29, fun_mk (st := s__law_parted) l29 c29 k29, (fun_mk (st := s__law_parted) l29 c29 k29).binds (ps := ["pool", "chart"]) fun _ _ _ _ _ _ us hl => match us, hl with | [_, _], _ => rfl⟩,
      d_law := ⟨(_, _), PySem.W.mg_of X G a30, fun_mk (st := s_law) l30 c30 k30, (fun_mk (st := s_law) l30 c30 k30).binds (ps := ["script"]) fun _ _ _ _ _ _ us hl => match us, hl with | [_], _ => rfl⟩,
      n_int := PySem.W.mg_none_of X G z_int,
      n_isinstance := PySem.W.mg_none_of X G z_isinstance,
      n_bool := PySem.W.mg_none_of X G z_bool,
      n_tuple := PySem.W.mg_none_of X G z_tuple,
      n_len := PySem.W.mg_none_of X G z_len,
      n_range := PySem.W.mg_none_of X G z_range,
      n_list := PySem.W.mg_none_of X G z_list,
      n_set := PySem.W.mg_none_of X G z_set,
      n_sorted := PySem.W.mg_none_of X G z_sorted,
      n_min := PySem.W.mg_none_of X G z_min,
      n_max := PySem.W.mg_none_of X G z_max,
      n_repr := PySem.W.mg_none_of X G z_repr,
      c_MOST_PLACES := ⟨_, PySem.W.mg_of X G q_MOST_PLACES⟩,
      c_MOST_ROADS := ⟨_, PySem.W.mg_of X G q_MOST_ROADS⟩ }, rfl⟩
  refine ⟨PySem.W.fnOf "law" "law" (defArgs s_law) (defBody s_law) (defScope s_law) .none kV30 dc30 pm30 an30 cd30 ct30, fun s v => .of_eq rfl, fun base _ _ => ?_⟩
  have z := ok_law (P := l.prog) (w := w) (base := base) T
  rw [hT] at z
  exact z
end Rf
/-! SpA: what a mirror does, said by what holds behind it. -/
namespace Sp
open PySem Mi

def W {α : Type} (r : Res α) (Q : α → Sto → Prop) : Prop := match r with
  | .ok a s => Q a s
  | _ => False
def X (r : Fl) (N : En → Sto → Prop) (K : Fl → Prop) : Prop := match r with
  | .nx e s => N e s
  | r => K r
def Wf (r : Fl) (N : En → Sto → Prop) : Prop := match r with
  | .nx e s => N e s
  | _ => False
/-- the ends of a def -/
def KR (Q : AV → Sto → Prop) : Fl → Prop := fun r => match r with
  | .ret v s => Q v s
  | _ => False
def TK (J N : En → Sto → Prop) (K : Fl → Prop) : Fl → Prop := fun r => match r with
  | .cnt e s => J e s
  | .brk e s => N e s
  | r => K r
def onB (x : AV) (f : Bool → Prop) : Prop := match x with
  | .bl b => f b
  | _ => False
@[simp] theorem onB_bl (b : Bool) (f : Bool → Prop) : onB (.bl b) f = f b := (rfl)
section
variable {α β : Type} {Q : AV → Sto → Prop} {N : En → Sto → Prop} {K : Fl → Prop} {en : En} {s : Sto}
@[simp] theorem KR_ret (v : AV) (s : Sto) : KR Q (.ret v s) = Q v s := (rfl)
@[simp] theorem KR_bad : KR Q .bad = False := (rfl)
@[simp] theorem KR_err (C : Nat) (w : AV) (e : En) (s : Sto) : KR Q (.err C w e s) = False := (rfl)
@[simp] theorem KR_brk (e : En) (s : Sto) : KR Q (.brk e s) = False := (rfl)
@[simp] theorem KR_cnt (e : En) (s : Sto) : KR Q (.cnt e s) = False := (rfl)
variable {J : En → Sto → Prop}
@[simp] theorem TK_ret (v : AV) (s : Sto) : TK J N K (.ret v s) = K (.ret v s) := (rfl)
@[simp] theorem TK_bad : TK J N K .bad = K .bad := (rfl)
@[simp] theorem TK_err (C : Nat) (w : AV) (e : En) (s : Sto) : TK J N K (.err C w e s) = K (.err C w e s) := (rfl)
@[simp] theorem TK_brk (e : En) (s : Sto) : TK J N K (.brk e s) = N e s := (rfl)
@[simp] theorem TK_cnt (e : En) (s : Sto) : TK J N K (.cnt e s) = J e s := (rfl)
@[simp] theorem W_ok {P : α → Sto → Prop} (a : α) (s : Sto) : W (.ok a s) P = P a s := (rfl)
@[simp] theorem W_bad {P : α → Sto → Prop} : W (.bad : Res α) P = False := (rfl)
@[simp] theorem W_bind {P : β → Sto → Prop} (r : Res α) (f : α → Sto → Res β) : W (r.bind f) P = W r fun a s => W (f a s) P := by cases r <;> rfl
@[simp] theorem W_ne {P : α → Sto → Prop} (r : Res α) : W r.ne P = W r P := by cases r <;> rfl
@[simp] theorem W_ite {P : α → Sto → Prop} (c : Prop) [Decidable c] (a b : Res α) : W (if c then a else b) P = if c then W a P else W b P := by split <;> rfl
theorem W_mono {P P' : α → Sto → Prop} {r : Res α} (h : W r P) (k : ∀ a s, P a s → P' a s) : W r P' := by
  cases r with
  | ok a s => exact k a s h
  | err => exact h
  | bad => exact h
theorem W_ex {P : α → Sto → Prop} {r : Res α} (h : W r P) : ∃ a s, r = .ok a s ∧ P a s := by
  cases r with
  | ok a s => exact ⟨a, s, rfl, h⟩
  | err => exact h.elim
  | bad => exact h.elim
theorem X_mono {N N' : En → Sto → Prop} {K K' : Fl → Prop} {r : Fl} (h : X r N K) (k : ∀ e s, N e s → N' e s) (k' : ∀ r, K r → K' r) : X r N' K' := by
  cases r with
  | nx e s => exact k e s h
  | _ => exact k' _ h
@[simp] theorem X_nx (e : En) (s : Sto) : X (.nx e s) N K = N e s := (rfl)
@[simp] theorem X_ret (v : AV) (s : Sto) : X (.ret v s) N K = K (.ret v s) := (rfl)
@[simp] theorem X_brk (e : En) (s : Sto) : X (.brk e s) N K = K (.brk e s) := (rfl)
@[simp] theorem X_cnt (e : En) (s : Sto) : X (.cnt e s) N K = K (.cnt e s) := (rfl)
@[simp] theorem X_bad : X .bad N K = K .bad := (rfl)
@[simp] theorem X_ite (c : Prop) [Decidable c] (a b : Fl) : X (if c then a else b) N K = if c then X a N K else X b N K := by split <;> rfl
@[simp] theorem Wf_nx (e : En) (s : Sto) : Wf (.nx e s) N = N e s := (rfl)
@[simp] theorem Wf_bad : Wf .bad N = False := (rfl)
@[simp] theorem Wf_ite (c : Prop) [Decidable c] (a b : Fl) : Wf (if c then a else b) N = if c then Wf a N else Wf b N := by split <;> rfl
@[simp] theorem Wf_next (r : Fl) (f : En → Sto → Fl) : Wf (r.next f) N = Wf r fun e s => Wf (f e s) N := by cases r <;> rfl
theorem Wf_fl (r : Res AV) (f : AV → Sto → Fl) : Wf (Res.fl r en f) N = W r fun v s => Wf (f v s) N := by cases r <;> rfl
@[simp] theorem x_seq (a b : MS) : X (S.seq a b en s) N K = X (a en s) (fun e s => X (b e s) N K) K := by
  unfold S.seq; cases a en s <;> rfl
@[simp] theorem x_skip : X (S.skip en s) N K = N en s := (rfl)
theorem x_asg {g : MG} {e : ME} (h : W (e en s) fun v s => Wf (g v en s) N) : X (S.asg g e en s) N K := by
  unfold S.asg; revert h; cases e en s with
  | ok v s => intro h; change Wf (g v en s) N at h; change X (S.gx (g v en s)) N K; revert h; cases g v en s <;> first | exact fun h => h | exact fun h => h.elim
  | _ => exact fun h => h.elim
theorem x_expr {e : ME} (h : W (e en s) fun v s => N en s) : X (S.expr e en s) N K := by
  unfold S.expr; revert h; cases e en s <;> first | exact fun h => h | exact fun h => h.elim
theorem x_ret {e : ME} (h : W (e en s) fun v s => K (.ret v s)) : X (S.ret e en s) N K := by
  unfold S.ret; revert h; cases e en s <;> first | exact fun h => h | exact fun h => h.elim
theorem x_ife {t : MT} {a b : MS} (h : W (t en s) fun x s => if x = true then X (a en s) N K else X (b en s) N K) : X (S.ife t a b en s) N K := by
  unfold S.ife; revert h; cases t en s with
  | ok v s => intro h; change X (if v = true then a en s else b en s) N K; cases v <;> exact h
  | _ => exact fun h => h.elim
@[simp] theorem x_brk : X (S.brk en s) N K = K (.brk en s) := (rfl)
@[simp] theorem x_cnt : X (S.cnt en s) N K = K (.cnt en s) := (rfl)
theorem x_turn {r : Fl} {go : En → Sto → Fl} {J : En → Sto → Prop} (h : X r J (TK J N K)) (k : ∀ e s, J e s → X (go e s) N K) : X (S.turn r go) N K := by
  cases r with
  | nx e s => exact k e s h
  | cnt e s => exact k e s h
  | brk e s => exact h
  | _ => exact h
/-! expressions -/
theorem w_var {v : AV} (i : Nat) (h : en[i]? = some (some v)) (k : Q v s) : W (E.var i en s) Q := by
  unfold E.var; rw [h]; exact k
@[simp] theorem w_var0 (v : AV) (e : En) : W (E.var 0 (some v :: e) s) Q = Q v s := (rfl)
@[simp] theorem w_varS (i : Nat) (o : Option AV) (e : En) : W (E.var (i + 1) (o :: e) s) Q = W (E.var i e s) Q := (rfl)
@[simp] theorem w_c (v : AV) : W (E.c v en s) Q = Q v s := (rfl)
@[simp] theorem w_un (f : AV → Sto → Res AV) (a : ME) : W (E.un f a en s) Q = W (a en s) fun x s => W (f x s) Q := by unfold E.un; rw [W_bind]
@[simp] theorem w_op (f : O2) (a b : ME) : W (E.op f a b en s) Q = W (a en s) fun x s => W (b en s) fun y s => W (f x y s) Q := by unfold E.op; simp only [W_bind]
@[simp] theorem w_nil {P : List AV → Sto → Prop} : W (E.nil en s) P = P [] s := (rfl)
@[simp] theorem w_cons {P : List AV → Sto → Prop} (a : ME) (r : MA) : W (E.cons a r en s) P = W (a en s) fun x s => W (r en s) fun xs s => P (x :: xs) s := by unfold E.cons; simp only [W_bind, W_ok]
@[simp] theorem w_tup (a : MA) : W (E.tup a en s) Q = W (a en s) fun xs s => if xs.length ≤ lineZ then Q (.tup xs) s else False := by unfold E.tup; simp only [W_bind, W_ite, W_ok, W_bad]
@[simp] theorem w_lst (a : MA) : W (E.lst a en s) Q = W (a en s) fun xs s => if xs.length ≤ lineZ then Q (.ref s.length) (s ++ [.lst xs]) else False := by unfold E.lst newLst; simp only [W_bind, W_ite, W_ok, W_bad]
@[simp] theorem w_call (f : MF) (a : MA) : W (E.call f a en s) Q = W (a en s) fun xs s => W (f xs s) Q := by unfold E.call; simp only [W_bind]
@[simp] theorem w_calln (f : MF) (a : MA) : W (E.calln f a en s) Q = W (a en s) fun xs s => W (f xs s) Q := by unfold E.calln; simp only [W_bind, W_ne]
@[simp] theorem w_lmeth (f : AV → MF) (o : ME) (a : MA) : W (E.lmeth f o a en s) Q = W (o en s) fun x s => if isLst s x = true then W (a en s) fun xs s => W (f x xs s) Q else False := by unfold E.lmeth; simp only [W_bind, W_ite, W_bad]
@[simp] theorem w_and (a b : ME) : W (E.and a b en s) Q = W (a en s) fun x s => onB x fun c => if c = true then W (b en s) Q else Q (.bl false) s := by
  unfold E.and; rw [W_bind]; congr; funext x s; cases x with
  | bl c => cases c <;> rfl
  | _ => rfl
@[simp] theorem w_or (a b : ME) : W (E.or a b en s) Q = W (a en s) fun x s => onB x fun c => if c = true then Q (.bl true) s else W (b en s) Q := by
  unfold E.or; rw [W_bind]; congr; funext x s; cases x with
  | bl c => cases c <;> rfl
  | _ => rfl
@[simp] theorem w_not (a : ME) : W (E.not a en s) Q = W (a en s) fun x s => onB x fun c => Q (.bl (!c)) s := by
  unfold E.not; rw [W_bind]; congr; funext x s; cases x <;> rfl
@[simp] theorem w_iteE (t : MT) (a b : ME) : W (E.ite t a b en s) Q = W (t en s) fun x s => if x = true then W (a en s) Q else W (b en s) Q := by
  unfold E.ite; simp only [W_bind, W_ite]
@[simp] theorem w_chain (f g : O2) (a b c : ME) : W (E.chain f g a b c en s) Q = W (a en s) fun x s => W (b en s) fun y s => W (f x y s) fun z s => onB z fun d => if d = true then W (c en s) fun w s => W (g y w s) Q else Q (.bl false) s := by
  unfold E.chain; simp only [W_bind]; congr; funext x s; congr; funext y s; congr; funext z s; cases z with
  | bl d => cases d with
    | false => rfl
    | true => change W (Res.bind _ _) Q = _; rw [W_bind]; rfl
  | _ => rfl
variable {P : Bool → Sto → Prop}
@[simp] theorem t_val (a : ME) : W (T.val a en s) P = W (a en s) fun x s => onB x fun c => P c s := by
  unfold T.val; rw [W_bind]; congr; funext x s; cases x <;> rfl
@[simp] theorem t_tru (a : ME) : W (T.tru a en s) P = W (a en s) fun x s => W (truth x s) P := by unfold T.tru; rw [W_bind]
@[simp] theorem t_and (a b : MT) : W (T.and a b en s) P = W (a en s) fun x s => if x = true then W (b en s) P else P false s := by
  unfold T.and; simp only [W_bind, W_ite, W_ok]
@[simp] theorem t_or (a b : MT) : W (T.or a b en s) P = W (a en s) fun x s => if x = true then P true s else W (b en s) P := by
  unfold T.or; simp only [W_bind, W_ite, W_ok]
@[simp] theorem t_not (a : MT) : W (T.not a en s) P = W (a en s) fun x s => P (!x) s := by
  unfold T.not; simp only [W_bind, W_ok]
@[simp] theorem t_yes : W (T.yes en s) P = P true s := (rfl)
@[simp] theorem truth_bl (b : Bool) : W (truth (.bl b) s) P = P b s := (rfl)
/-! targets -/
@[simp] theorem g_name (i : Nat) (v : AV) : Wf (G.name i v en s) N = N (en.set i (some v)) s := (rfl)
@[simp] theorem g_unp (gs : List MG) (xs : List AV) : Wf (G.unp gs (.tup xs) en s) N = if xs.length = gs.length then Wf (G.all gs xs en s) N else False := by
  unfold G.unp; simp only [Wf_ite, Wf_bad]
theorem g_unpL (gs : List MG) (l : Nat) (xs : List AV) (h : seqAt s l = some xs) : Wf (G.unp gs (.ref l) en s) N = if xs.length = gs.length then Wf (G.all gs xs en s) N else False := by
  unfold G.unp; simp only [h, Wf_ite, Wf_bad]
@[simp] theorem g_all0 : Wf (G.all [] [] en s) N = N en s := (rfl)
@[simp] theorem g_allS (g : MG) (gs : List MG) (v : AV) (vs : List AV) : Wf (G.all (g :: gs) (v :: vs) en s) N = Wf (g v en s) fun e s => Wf (G.all gs vs e s) N := by
  change Wf (Fl.next _ _) N = _; rw [Wf_next]
@[simp] theorem g_sub (o i : ME) (v : AV) : Wf (G.sub o i v en s) N = W (o en s) fun x s => W (i en s) fun y s => Wf (G.setIx x y v en s) N := by
  unfold G.sub; rw [Wf_fl]; congr; funext x s; rw [Wf_fl]
/-! walked things -/
variable {PI : It → Sto → Prop}
theorem i_seq_tup {a : ME} (h : W (a en s) fun x s => match x with
  | .tup xs => PI (.fix xs) s
  | .ref l => ∃ xs, seqAt s l = some xs ∧ PI (.lst l) s
  | _ => False) : W (I.seq a en s) PI := by
  unfold I.seq
  revert h
  cases a en s with
  | ok v s =>
    cases v with
    | tup xs => exact fun h => h
    | ref l => rintro ⟨xs, h, k⟩; simp only [h]; exact k
    | _ => exact fun h => h.elim
  | _ => exact fun h => h.elim
/-! a def -/
theorem d_runn {np n : Nat} {b : MS} {vs : List AV} (hl : vs.length = np) (h : X (b (vs.map some ++ List.replicate (n - vs.length) none) s) (fun _ s => Q .non s) (KR Q)) : W (runDefn np n b vs s) Q := by
  unfold runDefn
  rw [if_neg (by rw [hl]; exact fun h => h rfl)]
  revert h
  generalize b (vs.map some ++ List.replicate (n - vs.length) none) s = r
  cases r <;> first | exact fun h => h | exact fun h => h.elim
/-! loops -/
theorem forT_w {body : AV → MS} {N : En → Sto → Prop} {K : Fl → Prop} (I : Nat → En → Sto → Prop) : ∀ (xs : List AV) (k0 : Nat) (en : En) (s : Sto), I k0 en s →
    (∀ k x en s, xs[k]? = some x → I (k0 + k) en s → X (body x en s) (I (k0 + k + 1)) (TK (I (k0 + k + 1)) N K)) → (∀ en s, I (k0 + xs.length) en s → N en s) → X (S.forT body xs en s) N K
  | [], k0, en, s, h0, _, fin => fin en s h0
  | x :: xs, k0, en, s, h0, st, fin => x_turn (st 0 x en s rfl h0) fun e s h => forT_w I xs (k0 + 1) e s h (fun k y e s hy hi => by
      have := st (k + 1) y e s hy (by rw [show k0 + (k + 1) = k0 + 1 + k by omega]; exact hi)
      rw [show k0 + (k + 1) + 1 = k0 + 1 + k + 1 by omega] at this; exact this) (fun e s h => fin e s (by rw [List.length_cons, show k0 + (xs.length + 1) = k0 + 1 + xs.length by omega]; exact h))
theorem forL_w {body : AV → MS} {N : En → Sto → Prop} {K : Fl → Prop} (I : Nat → En → Sto → Prop) (xs : List AV) (l : Nat) (hseq : ∀ k en s, k ≤ xs.length → I k en s → seqAt s l = some xs)
    (st : ∀ k x en s, xs[k]? = some x → I k en s → X (body x en s) (I (k + 1)) (TK (I (k + 1)) N K)) (fin : ∀ en s, I xs.length en s → N en s) : ∀ (d k f : Nat) (en : En) (s : Sto), k + d = xs.length → d < f → I k en s → X (S.forL body l f k en s) N K
  | 0, k, 0, _, _, _, hf, _ => absurd hf (Nat.lt_irrefl _)
  | 0, k, f + 1, en, s, hk, _, h => by
    unfold S.forL; simp only [hseq k en s (by omega) h]
    rw [List.getElem?_eq_none (by omega)]
    have : k = xs.length := by omega
    subst this
    exact fin en s h
  | d + 1, k, 0, _, _, _, hf, _ => absurd hf (Nat.not_lt_zero _)
  | d + 1, k, f + 1, en, s, hk, hf, h => by
    unfold S.forL; simp only [hseq k en s (by omega) h]
    have hlt : k < xs.length := by omega
    rw [List.getElem?_eq_getElem hlt]
    exact x_turn (st k _ en s (List.getElem?_eq_getElem hlt) h) fun e s h => forL_w I xs l hseq st fin d (k + 1) f e s (by omega) (by omega) h
theorem loop_w {t : MT} {b : MS} {N : En → Sto → Prop} {K : Fl → Prop} (I : Nat → En → Sto → Prop)
    (st : ∀ m en s, I m en s → W (t en s) fun x s => if x = true then X (b en s) (fun e s => ∃ m', m' < m ∧ I m' e s) (TK (fun e s => ∃ m', m' < m ∧ I m' e s) N K) else N en s) : ∀ (f m : Nat) (en : En) (s : Sto), m < f → I m en s → X (S.loop t b f en s) N K
  | 0, _, _, _, h, _ => absurd h (Nat.not_lt_zero _)
  | f + 1, m, en, s, h, hi => by
    have h0 := st m en s hi
    unfold S.loop
    revert h0
    cases t en s with
    | ok x s =>
      intro h0
      change X (if x = true then _ else _) N K
      cases x with
      | true =>
        rw [if_pos rfl]
        exact x_turn h0 fun e s ⟨m', hm, hi'⟩ => loop_w I st f m' e s (by omega) hi'
      | false => exact h0
    | _ => exact fun h => h.elim
theorem while_w {t : MT} {b : MS} {N : En → Sto → Prop} {K : Fl → Prop} (I : Nat → En → Sto → Prop) (m : Nat) (hm : m < 1000000000) (h0 : I m en s)
    (st : ∀ m en s, I m en s → W (t en s) fun x s => if x = true then X (b en s) (fun e s => ∃ m', m' < m ∧ I m' e s) (TK (fun e s => ∃ m', m' < m ∧ I m' e s) N K) else N en s) : X (S.while_ t b en s) N K :=
  loop_w I st S.fuel m en s (by unfold S.fuel; omega) h0
/-- a for over fixed items -/
theorem for_fix {src : MI} {g : MG} {b : MS} {N : En → Sto → Prop} {K : Fl → Prop} (h : W (src en s) fun j s => ∃ (xs : List AV) (I : Nat → En → Sto → Prop), j = .fix xs ∧ I 0 en s ∧
    (∀ k x en s, xs[k]? = some x → I k en s → Wf (g x en s) fun en s => X (b en s) (I (k + 1)) (TK (I (k + 1)) N K)) ∧ (∀ en s, I xs.length en s → N en s)) : X (S.for_ src g b en s) N K := by
  unfold S.for_
  revert h
  cases src en s with
  | ok j s =>
    rintro ⟨xs, I, rfl, h0, st, fin⟩
    refine forT_w I xs 0 en s h0 (fun k x en s hx hi => ?_) (fun en s h => fin en s (by rw [Nat.zero_add] at h; exact h))
    have := st k x en s hx (by rw [Nat.zero_add] at hi; exact hi)
    rw [Nat.zero_add]
    revert this
    cases g x en s with
    | nx e s => exact fun h => h
    | _ => exact fun h => h.elim
  | _ => exact fun h => h.elim
/-- a for over a list -/
theorem for_lst {src : MI} {g : MG} {b : MS} {N : En → Sto → Prop} {K : Fl → Prop} (h : W (src en s) fun j s => ∃ (l : Nat) (xs : List AV) (I : Nat → En → Sto → Prop), j = .lst l ∧ xs.length < 1000000000 ∧ I 0 en s ∧
    (∀ k en s, k ≤ xs.length → I k en s → seqAt s l = some xs) ∧
    (∀ k x en s, xs[k]? = some x → I k en s → Wf (g x en s) fun en s => X (b en s) (I (k + 1)) (TK (I (k + 1)) N K)) ∧ (∀ en s, I xs.length en s → N en s)) : X (S.for_ src g b en s) N K := by
  unfold S.for_
  revert h
  cases src en s with
  | ok j s =>
    rintro ⟨l, xs, I, rfl, hl, h0, hq, st, fin⟩
    change X (S.forI (fun v en s => (S.gx (g v en s)).next fun en s => b en s) (It.lst l) en s) N K
    unfold S.forI
    simp only
    refine forL_w I xs l hq (fun k x en s hx hi => ?_) fin xs.length 0 S.fuel en s (by omega) (by unfold S.fuel; omega) h0
    have := st k x en s hx hi
    revert this
    cases g x en s with
    | nx e s => exact fun h => h
    | _ => exact fun h => h.elim
  | _ => exact fun h => h.elim
/-! comprehensions -/
theorem lcT_w {g : MG} {t : MT} {e : ME} {own : List Nat} {D : Nat} {x : AV} {P : Unit → Sto → Prop} (h : Wf (g x (wipe en own) s) fun en' s' => W (t en' s') fun b s' => if b = true then W (e en' s') fun y s' => ∃ acc, s'[D]? = some (.lst acc) ∧ acc.length < lineZ ∧ P () (s'.set D (.lst (acc ++ [y]))) else P () s') : W (E.lcT g t e own en D x s) P := by
  unfold E.lcT
  revert h
  cases g x (wipe en own) s with
  | nx en' s' =>
    intro h
    change W (t en' s') _ at h
    change W ((t en' s').ne.bind _) P
    rw [W_bind, W_ne]
    refine W_mono h fun b s' h => ?_
    cases b with
    | false => exact h
    | true =>
      rw [if_pos rfl, W_bind, W_ne]
      refine W_mono h fun y s' ⟨acc, h1, h2, h3⟩ => ?_
      unfold E.grow; rw [h1]; simp only; rw [if_pos h2]; exact h3
  | _ => exact fun h => h.elim
theorem lcFix_w {turn : AV → Sto → Res Unit} {P : Unit → Sto → Prop} (I : Nat → Sto → Prop) : ∀ (xs : List AV) (k0 : Nat) (s : Sto), I k0 s → (∀ k x s, xs[k]? = some x → I (k0 + k) s → W (turn x s) fun _ s => I (k0 + k + 1) s) → (∀ s, I (k0 + xs.length) s → P () s) → W (E.lcFix turn xs s) P
  | [], k0, s, h0, _, fin => fin s h0
  | x :: xs, k0, s, h0, st, fin => by
    unfold E.lcFix; rw [W_bind]
    refine W_mono (st 0 x s rfl h0) fun _ s h => lcFix_w I xs (k0 + 1) s h (fun k y s hy hi => ?_) (fun s h => fin s (by rw [List.length_cons, show k0 + (xs.length + 1) = k0 + 1 + xs.length by omega]; exact h))
    have := st (k + 1) y s hy (by rw [show k0 + (k + 1) = k0 + 1 + k by omega]; exact hi)
    rw [show k0 + (k + 1) + 1 = k0 + 1 + k + 1 by omega] at this; exact this
theorem lcLst_w {turn : AV → Sto → Res Unit} {P : Unit → Sto → Prop} (I : Nat → Sto → Prop) (xs : List AV) (l : Nat) (hseq : ∀ k s, k ≤ xs.length → I k s → seqAt s l = some xs)
    (st : ∀ k x s, xs[k]? = some x → I k s → W (turn x s) fun _ s => I (k + 1) s) (fin : ∀ s, I xs.length s → P () s) : ∀ (d k f : Nat) (s : Sto), k + d = xs.length → d < f → I k s → W (E.lcLst turn l f k s) P
  | 0, k, 0, _, _, hf, _ => absurd hf (Nat.lt_irrefl _)
  | 0, k, f + 1, s, hk, _, h => by
    unfold E.lcLst; simp only [hseq k s (by omega) h]
    rw [List.getElem?_eq_none (by omega)]
    have : k = xs.length := by omega
    subst this
    exact fin s h
  | d + 1, k, 0, _, _, hf, _ => absurd hf (Nat.not_lt_zero _)
  | d + 1, k, f + 1, s, hk, hf, h => by
    unfold E.lcLst; simp only [hseq k s (by omega) h]
    have hlt : k < xs.length := by omega
    rw [List.getElem?_eq_getElem hlt]
    change W (Res.bind _ _) P
    rw [W_bind]
    exact W_mono (st k _ s (List.getElem?_eq_getElem hlt) h) fun _ s h => lcLst_w I xs l hseq st fin d (k + 1) f s (by omega) (by omega) h
/-- a comprehension by an invariant over what was taken; D is the list -/
inductive LcW (g : MG) (t : MT) (e : ME) (own : List Nat) (en : En) (Q : AV → Sto → Prop) (j : It) (s : Sto) : Prop
  | mk (xs : List AV) (I : Nat → List AV → Sto → Prop) (hl : xs.length < lineZ) (hj : j = .fix xs ∨ ∃ l, j = .lst l ∧ ∀ k acc s, I k acc s → seqAt s l = some xs) (h0 : I 0 [] (s ++ [.lst []]))
    (st : ∀ k x acc s', xs[k]? = some x → acc.length ≤ k → I k acc s' → s'[s.length]? = some (.lst acc) → Wf (g x (wipe en own) s') fun en' s1 => W (t en' s1) fun b s1 => if b = true then W (e en' s1) fun y s1 => s1[s.length]? = some (.lst acc) ∧ I (k + 1) (acc ++ [y]) (s1.set s.length (.lst (acc ++ [y]))) else s1[s.length]? = some (.lst acc) ∧ I (k + 1) acc s1)
    (fin : ∀ acc s', I xs.length acc s' → s'[s.length]? = some (.lst acc) → Q (.ref s.length) s')
theorem lc_w {src : MI} {g : MG} {t : MT} {e : ME} {own : List Nat} (h : W (src en s) (LcW g t e own en Q)) : W (E.lc src g t e own en s) Q := by
  unfold E.lc
  rw [W_bind]
  refine W_mono h ?_
  rintro j s ⟨xs, I, hxs, hj, h0, st, fin⟩
  have key : ∀ k x s', xs[k]? = some x → (∃ acc, acc.length ≤ k ∧ s'[s.length]? = some (.lst acc) ∧ I k acc s') → W (E.lcT g t e own en s.length x s') fun _ s' => ∃ acc, acc.length ≤ k + 1 ∧ s'[s.length]? = some (.lst acc) ∧ I (k + 1) acc s' := by
    rintro k x s' hx ⟨acc, hl, ha, hi⟩
    have hk : k < xs.length := by
      rcases Nat.lt_or_ge k xs.length with h | h
      · exact h
      · rw [List.getElem?_eq_none h] at hx; exact nomatch hx
    refine lcT_w ?_
    have h1 := st k x acc s' hx hl hi ha
    revert h1
    cases g x (wipe en own) s' with
    | nx en' s1 =>
      intro h1
      refine W_mono (r := t en' s1) h1 fun b s1 h1 => ?_
      cases b with
      | false => exact ⟨acc, by omega, h1.1, h1.2⟩
      | true =>
        refine W_mono (r := e en' s1) h1 fun y s1 h1 => ⟨acc, h1.1, by omega, acc ++ [y], by simp; omega, ?_, h1.2⟩
        have hlt : s.length < s1.length := by
          rcases Nat.lt_or_ge s.length s1.length with h | h
          · exact h
          · have h2 := h1.1; rw [List.getElem?_eq_none h] at h2; exact nomatch h2
        simp [hlt]
    | _ => exact fun h => h.elim
  have h00 : ∃ acc : List AV, acc.length ≤ 0 ∧ (s ++ [MO.lst []])[s.length]? = some (.lst acc) ∧ I 0 acc (s ++ [MO.lst []]) := ⟨[], Nat.le_refl _, by simp, h0⟩
  have hfin : ∀ s', (∃ acc, acc.length ≤ xs.length ∧ s'[s.length]? = some (.lst acc) ∧ I xs.length acc s') → Q (.ref s.length) s' := fun s' ⟨acc, _, ha, hi⟩ => fin acc s' hi ha
  change W (Res.bind _ _) Q
  rw [W_bind]
  rcases hj with rfl | ⟨l, rfl, hseq⟩
  · refine lcFix_w (fun k s' => ∃ acc, acc.length ≤ k ∧ s'[s.length]? = some (.lst acc) ∧ I k acc s') xs 0 _ h00 (fun k x s' hx hi => ?_) (fun s' h => ?_)
    · have := key k x s' hx (by rw [Nat.zero_add] at hi; exact hi)
      rw [Nat.zero_add]; exact this
    · rw [Nat.zero_add] at h; exact hfin s' h
  · exact lcLst_w (fun k s' => ∃ acc, acc.length ≤ k ∧ s'[s.length]? = some (.lst acc) ∧ I k acc s') xs l (fun k s' _ ⟨acc, _, _, hi⟩ => hseq k acc s' hi) key (fun s' h => hfin s' h) xs.length 0 S.fuel _ (by omega) (by unfold S.fuel; unfold lineZ at hxs; omega) h00
end
/-! the store keeps -/
def Kp (L : List Nat) (s s' : Sto) : Prop := s.length ≤ s'.length ∧ ∀ l o, l ∉ L → s[l]? = some o → s'[l]? = some o
theorem lt_of_get {s : Sto} {l : Nat} {o : MO} (h : s[l]? = some o) : l < s.length := by
  rcases Nat.lt_or_ge l s.length with k | k
  · exact k
  · rw [List.getElem?_eq_none k] at h; exact nomatch h
theorem Kp.refl {L : List Nat} (s : Sto) : Kp L s s := ⟨Nat.le_refl _, fun _ _ _ h => h⟩
theorem Kp.trans {L : List Nat} {a b c : Sto} (h : Kp L a b) (k : Kp L b c) : Kp L a c := ⟨Nat.le_trans h.1 k.1, fun l o hl ho => k.2 l o hl (h.2 l o hl ho)⟩
theorem Kp.mono {L L' : List Nat} {a b : Sto} (h : Kp L a b) (k : ∀ l ∈ L, l ∈ L') : Kp L' a b := ⟨h.1, fun l o hl ho => h.2 l o (fun hh => hl (k l hh)) ho⟩
theorem Kp.nil {L : List Nat} {a b : Sto} (h : Kp [] a b) : Kp L a b := h.mono fun _ h => nomatch h
theorem Kp.app {L : List Nat} {a b : Sto} (t : Sto) (h : Kp L a b) : Kp L a (b ++ t) := ⟨by rw [List.length_append]; have := h.1; omega, fun l o hl ho => by
  have h1 := h.2 l o hl ho
  rw [List.getElem?_append_left (lt_of_get h1)]; exact h1⟩
theorem Kp.setN {L : List Nat} {a b : Sto} (l : Nat) (o : MO) (h : Kp L a b) (hl : a.length ≤ l) : Kp L a (b.set l o) := ⟨by rw [List.length_set]; exact h.1, fun m o' hm ho => by
  rw [List.getElem?_set_ne (by have := lt_of_get ho; omega)]; exact h.2 m o' hm ho⟩
theorem Kp.setM {L : List Nat} {a b : Sto} (l : Nat) (o : MO) (h : Kp L a b) (hl : l ∈ L) : Kp L a (b.set l o) := ⟨by rw [List.length_set]; exact h.1, fun m o' hm ho => by
  rw [List.getElem?_set_ne (fun e => hm (by rw [← e]; exact hl))]; exact h.2 m o' hm ho⟩
/-- keeping, where what was cut off is new -/
theorem Kp.weak {L L' : List Nat} {a b c : Sto} (h : Kp L' a b) (k : Kp L b c) (hn : ∀ l ∈ L, l ∈ L' ∨ a.length ≤ l) : Kp L' a c := ⟨Nat.le_trans h.1 k.1, fun l o hl ho => k.2 l o (fun hh => (hn l hh).elim hl (fun e => by have := lt_of_get ho; omega)) (h.2 l o hl ho)⟩
theorem seqAt_lst {s : Sto} {l : Nat} {xs : List AV} (h : s[l]? = some (.lst xs)) : seqAt s l = some xs := by unfold seqAt; rw [h]
theorem seqAt_rol {s : Sto} {l : Nat} {xs : List AV} (h : s[l]? = some (.rol xs)) : seqAt s l = some xs := by unfold seqAt; rw [h]
end Sp
/-! SpB: operations at plain values. -/
namespace Sp
open PySem Mi

abbrev nv (k : Nat) : AV := .int (k : Int)
/-- a tuple of numbers -/
def tn (xs : List Nat) : AV := .tup (xs.map nv)
def pr (x : Nat × Nat) : AV := .tup [nv x.1, nv x.2]
/-- a map -/
def CH (n : Nat) (rs : List (Nat × Nat)) (ws : List Nat) : AV := .tup [nv n, .tup (rs.map pr), .tup (ws.map nv)]
section
variable {Q : AV → Sto → Prop} {N : En → Sto → Prop} {s : Sto}
theorem lz0 : (0 ≤ lineZ) ↔ True := by simp [lineZ]
theorem lz1 : (1 ≤ lineZ) ↔ True := by simp [lineZ]
theorem lz2 : (2 ≤ lineZ) ↔ True := by simp [lineZ]
theorem lz3 : (3 ≤ lineZ) ↔ True := by simp [lineZ]
theorem lz4 : (4 ≤ lineZ) ↔ True := by simp [lineZ]
theorem lz5 : (5 ≤ lineZ) ↔ True := by simp [lineZ]
theorem lz6 : (6 ≤ lineZ) ↔ True := by simp [lineZ]
theorem lz7 : (7 ≤ lineZ) ↔ True := by simp [lineZ]
theorem lz8 : (8 ≤ lineZ) ↔ True := by simp [lineZ]
theorem lz9 : (9 ≤ lineZ) ↔ True := by simp [lineZ]
@[simp] theorem w_add (i j : Int) : W (addAV (.int i) (.int j) s) Q = Q (.int (i + j)) s := (rfl)
@[simp] theorem w_sub (i j : Int) : W (subAV (.int i) (.int j) s) Q = Q (.int (i - j)) s := (rfl)
@[simp] theorem w_lt (i j : Int) : W (ltAV (.int i) (.int j) s) Q = Q (.bl (decide (i < j))) s := (rfl)
@[simp] theorem w_le (i j : Int) : W (leAV (.int i) (.int j) s) Q = Q (.bl (decide (i ≤ j))) s := (rfl)
@[simp] theorem w_gt (i j : Int) : W (gtAV (.int i) (.int j) s) Q = Q (.bl (decide (j < i))) s := (rfl)
@[simp] theorem w_ge (i j : Int) : W (geAV (.int i) (.int j) s) Q = Q (.bl (decide (j ≤ i))) s := (rfl)
@[simp] theorem w_neg (i : Int) : W (negAV (.int i) s) Q = Q (.int (-i)) s := (rfl)
@[simp] theorem w_mod (i j : Int) : W (modAV (.int i) (.int j) s) Q = if 0 < j then Q (.int (i % j)) s else False := by
  change W (if _ then _ else _) Q = _; rw [W_ite]; rfl
@[simp] theorem w_div (i j : Int) : W (divAV (.int i) (.int j) s) Q = if 0 < j ∧ j < 1073741824 then Q (.int (i / j)) s else False := by
  change W (if _ then _ else _) Q = _; rw [W_ite]; rfl
@[simp] theorem w_mul (i j : Int) : W (mulAV (.int i) (.int j) s) Q = if (small i || small j) = true then Q (.int (i * j)) s else False := by
  change W (if _ then _ else _) Q = _; rw [W_ite]; rfl
@[simp] theorem w_pow18 : W (powAV (.int 10) (.int 18) s) Q = Q (.int 1000000000000000000) s := (rfl)
@[simp] theorem w_isNon (neg : Bool) (x : AV) : W (isAV neg x .non s) Q = Q (.bl (neg != decide (x = .non))) s := (rfl)
@[simp] theorem w_lenT (xs : List AV) : W (B.len [.tup xs] s) Q = Q (.int xs.length) s := (rfl)
theorem w_lenL {l : Nat} {xs : List AV} (h : s[l]? = some (.lst xs)) : W (B.len [.ref l] s) Q = Q (.int xs.length) s := by
  unfold B.len; simp only [h]; rfl
theorem w_lenR {l : Nat} {xs : List AV} (h : s[l]? = some (.rol xs)) : W (B.len [.ref l] s) Q = Q (.int xs.length) s := by
  unfold B.len; simp only [h]; rfl
@[simp] theorem w_int (i : Int) : W (B.int_ [.int i] s) Q = Q (.int i) s := (rfl)
@[simp] theorem w_min (i j : Int) : W (B.min2 [.int i, .int j] s) Q = Q (.int (if j < i then j else i)) s := (rfl)
@[simp] theorem w_max (i j : Int) : W (B.max2 [.int i, .int j] s) Q = Q (.int (if j > i then j else i)) s := (rfl)
@[simp] theorem w_tupT (xs : List AV) : W (B.tuple_ [.tup xs] s) Q = Q (.tup xs) s := (rfl)
theorem w_tupL {l : Nat} {xs : List AV} (h : seqAt s l = some xs) : W (B.tuple_ [.ref l] s) Q = Q (.tup xs) s := by
  unfold B.tuple_ items?; simp only [h]; rfl
@[simp] theorem w_lstT (xs : List AV) : W (B.list_ [.tup xs] s) Q = Q (.ref s.length) (s ++ [.lst xs]) := (rfl)
theorem w_lstL {l : Nat} {xs : List AV} (h : seqAt s l = some xs) : W (B.list_ [.ref l] s) Q = Q (.ref s.length) (s ++ [.lst xs]) := by
  unfold B.list_ items?; simp only [h]; rfl
@[simp] theorem w_isa_int (i : Int) : W (B.isa [.int i, .ty "int"] s) Q = Q (.bl true) s := (rfl)
@[simp] theorem w_isa_intb (i : Int) : W (B.isa [.int i, .ty "bool"] s) Q = Q (.bl false) s := (rfl)
@[simp] theorem w_isa_tup (xs : List AV) : W (B.isa [.tup xs, .ty "tuple"] s) Q = Q (.bl true) s := (rfl)
/-! index -/
theorem ixN_nat {n k : Nat} (h : k < n) : ixN n (k : Int) = some k := by
  unfold ixN; rw [if_pos (by omega), if_pos (by omega)]; simp
theorem w_ixT {xs : List AV} {k : Nat} {v : AV} (h : xs[k]? = some v) : W (ixAV (.tup xs) (nv k) s) Q = Q v s := by
  have hk : k < xs.length := by
    rcases Nat.lt_or_ge k xs.length with g | g
    · exact g
    · rw [List.getElem?_eq_none g] at h; exact nomatch h
  unfold ixAV items?; simp only [nv, ixN_nat hk, Option.bind_some, h]; rfl
theorem w_ixL {xs : List AV} {l k : Nat} {v : AV} (hl : seqAt s l = some xs) (h : xs[k]? = some v) : W (ixAV (.ref l) (nv k) s) Q = Q v s := by
  have hk : k < xs.length := by
    rcases Nat.lt_or_ge k xs.length with g | g
    · exact g
    · rw [List.getElem?_eq_none g] at h; exact nomatch h
  unfold ixAV items?; simp only [nv, hl, ixN_nat hk, Option.bind_some, h]; rfl
@[simp] theorem w_ix20 (a b : AV) : W (ixAV (.tup [a, b]) (.int 0) s) Q = Q a s := (rfl)
@[simp] theorem w_ix21 (a b : AV) : W (ixAV (.tup [a, b]) (.int 1) s) Q = Q b s := (rfl)
@[simp] theorem w_ix30 (a b c : AV) : W (ixAV (.tup [a, b, c]) (.int 0) s) Q = Q a s := (rfl)
@[simp] theorem w_ix31 (a b c : AV) : W (ixAV (.tup [a, b, c]) (.int 1) s) Q = Q b s := (rfl)
@[simp] theorem w_ix32 (a b c : AV) : W (ixAV (.tup [a, b, c]) (.int 2) s) Q = Q c s := (rfl)
@[simp] theorem w_pr0 (x : Nat × Nat) : W (ixAV (pr x) (.int 0) s) Q = Q (nv x.1) s := (rfl)
@[simp] theorem w_pr1 (x : Nat × Nat) : W (ixAV (pr x) (.int 1) s) Q = Q (nv x.2) s := (rfl)
@[simp] theorem w_ch0 (n : Nat) (rs : List (Nat × Nat)) (ws : List Nat) : W (ixAV (CH n rs ws) (.int 0) s) Q = Q (nv n) s := (rfl)
@[simp] theorem w_ch1 (n : Nat) (rs : List (Nat × Nat)) (ws : List Nat) : W (ixAV (CH n rs ws) (.int 1) s) Q = Q (.tup (rs.map pr)) s := (rfl)
@[simp] theorem w_ch2 (n : Nat) (rs : List (Nat × Nat)) (ws : List Nat) : W (ixAV (CH n rs ws) (.int 2) s) Q = Q (.tup (ws.map nv)) s := (rfl)
/-! in -/
theorem any_nv (k : Nat) : ∀ ws : List Nat, ((ws.map nv).any fun y => eqF y (nv k)) = decide (k ∈ ws)
  | [] => rfl
  | w :: ws => by
    rw [List.map_cons, List.any_cons, any_nv k ws]
    have : eqF (nv w) (nv k) = decide (k = w) := by
      change ((w : Int) == (k : Int)) = _
      by_cases h : k = w
      · subst h; simp
      · rw [decide_eq_false h]; exact beq_eq_false_iff_ne.mpr fun e => h (by omega)
    rw [this]; by_cases h : k = w <;> simp [h]
theorem all_flat (ws : List Nat) : (ws.map nv).all flat = true := by simp [nv, flat]
@[simp] theorem w_inT (neg : Bool) (k : Nat) (ws : List Nat) : W (inAV neg (nv k) (.tup (ws.map nv)) s) Q = Q (.bl (neg != decide (k ∈ ws))) s := by
  unfold inAV items?; simp only [all_flat, flat, any_nv]; rfl
theorem w_inL (neg : Bool) (k l : Nat) (ws : List Nat) (h : seqAt s l = some (ws.map nv)) : W (inAV neg (nv k) (.ref l) s) Q = Q (.bl (neg != decide (k ∈ ws))) s := by
  unfold inAV items?; simp only [h, all_flat, flat, any_nv]; rfl
/-! plain data -/
def dat : Nat → AV → PyData
  | _, .int i => .int i
  | n + 1, .tup xs => .tuple (xs.map (dat n))
  | _, _ => .none
def pln : Nat → AV → Bool
  | _, .int i => true
  | n + 1, .tup xs => xs.all (pln n)
  | _, _ => false
theorem mapM_all {α β : Type} {f : α → Option β} {g : α → β} : ∀ xs : List α, (∀ x ∈ xs, f x = some (g x)) → xs.mapM f = some (xs.map g)
  | [], _ => rfl
  | x :: xs, h => by
    rw [List.mapM_cons, h x (List.mem_cons_self ..), mapM_all xs fun y hy => h y (List.mem_cons_of_mem _ hy)]; rfl
theorem pd_dat (s : Sto) : ∀ (n m : Nat) (x : AV), pln n x = true → n ≤ m → pd s m x = some (dat n x)
  | n, m, .int i, _, _ => by cases n <;> cases m <;> rfl
  | n + 1, m + 1, .tup xs, h, hm => by
    have h' : ∀ x ∈ xs, pln n x = true := List.all_eq_true.mp h
    change (xs.mapM (pd s m)).map PyData.tuple = _
    rw [mapM_all xs fun x hx => pd_dat s n m x (h' x hx) (by omega)]; rfl
  | n + 1, 0, .tup xs, _, hm => absurd hm (by omega)
  | 0, _, .tup _, h, _ => nomatch h
  | 0, _, .non, h, _ => nomatch h
  | 0, _, .bl _, h, _ => nomatch h
  | 0, _, .str _, h, _ => nomatch h
  | 0, _, .ref _, h, _ => nomatch h
  | 0, _, .adr _, h, _ => nomatch h
  | 0, _, .ty _, h, _ => nomatch h
  | _ + 1, _, .non, h, _ => nomatch h
  | _ + 1, _, .bl _, h, _ => nomatch h
  | _ + 1, _, .str _, h, _ => nomatch h
  | _ + 1, _, .ref _, h, _ => nomatch h
  | _ + 1, _, .adr _, h, _ => nomatch h
  | _ + 1, _, .ty _, h, _ => nomatch h
theorem canAll {α : Type} {f : α → PyData} : ∀ xs : List α, (∀ x ∈ xs, (f x).canLay0 = true) → PyData.canLayAll0 (xs.map f) = true
  | [], _ => rfl
  | x :: xs, h => by
    rw [List.map_cons, PyData.canLayAll0, h x (List.mem_cons_self ..), canAll xs fun y hy => h y (List.mem_cons_of_mem _ hy)]; rfl
theorem depAll {α : Type} {f : α → PyData} {n : Nat} : ∀ xs : List α, (∀ x ∈ xs, (f x).depth ≤ n) → PyData.depthAll (xs.map f) ≤ n
  | [], _ => Nat.zero_le _
  | x :: xs, h => by
    rw [List.map_cons, PyData.depthAll]
    exact Nat.max_le.mpr ⟨h x (List.mem_cons_self ..), depAll xs fun y hy => h y (List.mem_cons_of_mem _ hy)⟩
theorem dat_lay : ∀ (n : Nat) (x : AV), pln n x = true → (dat n x).canLay0 = true ∧ (dat n x).depth ≤ n
  | n, .int i, _ => by cases n <;> exact ⟨rfl, Nat.zero_le _⟩
  | n + 1, .tup xs, h => by
    have h' : ∀ x ∈ xs, pln n x = true := List.all_eq_true.mp h
    refine ⟨?_, ?_⟩
    · change PyData.canLayAll0 (xs.map (dat n)) = true
      exact canAll xs fun x hx => (dat_lay n x (h' x hx)).1
    · change PyData.depthAll (xs.map (dat n)) + 1 ≤ n + 1
      exact Nat.succ_le_succ (depAll xs fun x hx => (dat_lay n x (h' x hx)).2)
  | 0, .tup _, h => nomatch h
  | 0, .non, h => nomatch h
  | 0, .bl _, h => nomatch h
  | 0, .str _, h => nomatch h
  | 0, .ref _, h => nomatch h
  | 0, .adr _, h => nomatch h
  | 0, .ty _, h => nomatch h
  | _ + 1, .non, h => nomatch h
  | _ + 1, .bl _, h => nomatch h
  | _ + 1, .str _, h => nomatch h
  | _ + 1, .ref _, h => nomatch h
  | _ + 1, .adr _, h => nomatch h
  | _ + 1, .ty _, h => nomatch h
theorem shaped_dat {n : Nat} {x : AV} (h : pln n x = true) (hn : n ≤ 60) : SeqAt.shaped (dat n x) = true := by
  have := dat_lay n x h
  unfold SeqAt.shaped; rw [this.1, decide_eq_true (by omega)]; rfl
theorem shaped_list {n : Nat} {xs : List AV} (h : xs.all (pln n) = true) (hn : n ≤ 60) : SeqAt.shaped (.list (xs.map (dat n))) = true := by
  have h' : ∀ x ∈ xs, pln n x = true := List.all_eq_true.mp h
  have c : (PyData.list (xs.map (dat n))).canLay0 = true := by
    change PyData.canLayAll0 (xs.map (dat n)) = true; exact canAll xs fun x hx => (dat_lay n x (h' x hx)).1
  have d : (PyData.list (xs.map (dat n))).depth ≤ 61 := by
    change PyData.depthAll (xs.map (dat n)) + 1 ≤ 61; exact Nat.le_trans (Nat.succ_le_succ (depAll xs fun x hx => (dat_lay n x (h' x hx)).2)) (by omega)
  unfold SeqAt.shaped; rw [c, decide_eq_true (by omega)]; rfl
@[simp] theorem w_eqI (neg : Bool) (i j : Int) : W (eqAV neg (.int i) (.int j) s) Q = Q (.bl (neg != decide (i = j))) s := by
  have : W (eqAV neg (.int i) (.int j) s) Q = Q (.bl (neg != (i == j))) s := rfl
  rw [this]; congr
/-- a tuple against the empty one -/
theorem w_eqT0 (neg : Bool) (xs : List Nat) : W (eqAV neg (.tup (xs.map nv)) (.tup []) s) Q = Q (.bl (neg != xs.isEmpty)) s := by
  have h1 : pln 1 (.tup (xs.map nv)) = true := by simp [pln, nv]
  have h2 : pln 1 (.tup []) = true := rfl
  unfold eqAV
  rw [pd_dat s 1 deepN _ h1 (by decide), pd_dat s 1 deepN _ h2 (by decide)]
  simp only [shaped_dat h1 (by decide), shaped_dat h2 (by decide)]
  cases xs <;> rfl
/-- a list against an empty list -/
theorem w_eqL0 (neg : Bool) (l m n : Nat) (hn : n ≤ 58) (xs : List AV) (h : xs.all (pln n) = true) (hl : seqAt s l = some xs) (hm : seqAt s m = some []) : W (eqAV neg (.ref l) (.ref m) s) Q = Q (.bl (neg != xs.isEmpty)) s := by
  have h' : ∀ x ∈ xs, pln n x = true := List.all_eq_true.mp h
  have e1 : pd s deepN (.ref l) = some (.list (xs.map (dat n))) := by
    change (match seqAt s l with | some xs => (xs.mapM (pd s 59)).map PyData.list | none => none) = _
    rw [hl]; change (xs.mapM (pd s 59)).map PyData.list = _
    rw [mapM_all xs fun x hx => pd_dat s n 59 x (h' x hx) (by omega)]; rfl
  have e2 : pd s deepN (.ref m) = some (.list []) := by
    change (match seqAt s m with | some xs => (xs.mapM (pd s 59)).map PyData.list | none => none) = _
    rw [hm]; rfl
  unfold eqAV
  rw [e1, e2]
  simp only [shaped_list h (by omega)]
  have e3 : SeqAt.shaped (.list []) = true := by decide
  rw [e3]
  cases xs <;> rfl
/-! texts -/
def plz : Nat → AV → Bool
  | _, .int i => decide (i.natAbs < 10 ^ 19)
  | n + 1, .tup xs => decide (xs.length ≤ 64) && xs.all (plz n)
  | _, _ => false
def lenz : Nat → Nat
  | 0 => 20
  | n + 1 => 64 * (lenz n + 2) + 20
theorem pln_of : ∀ (n : Nat) (x : AV), plz n x = true → pln n x = true
  | n, .int i, _ => by cases n <;> rfl
  | n + 1, .tup xs, h => by
    have h2 := (Bool.and_eq_true_iff.mp h).2
    exact List.all_eq_true.mpr fun x hx => pln_of n x (List.all_eq_true.mp h2 x hx)
  | 0, .tup _, h => nomatch h
  | 0, .non, h => nomatch h
  | 0, .bl _, h => nomatch h
  | 0, .str _, h => nomatch h
  | 0, .ref _, h => nomatch h
  | 0, .adr _, h => nomatch h
  | 0, .ty _, h => nomatch h
  | _ + 1, .non, h => nomatch h
  | _ + 1, .bl _, h => nomatch h
  | _ + 1, .str _, h => nomatch h
  | _ + 1, .ref _, h => nomatch h
  | _ + 1, .adr _, h => nomatch h
  | _ + 1, .ty _, h => nomatch h
theorem showAll {α : Type} {f : α → PyData} : ∀ xs : List α, (∀ x ∈ xs, (f x).showable = true) → PyData.showableAll (xs.map f) = true
  | [], _ => rfl
  | x :: xs, h => by
    rw [List.map_cons, PyData.showableAll, h x (List.mem_cons_self ..), showAll xs fun y hy => h y (List.mem_cons_of_mem _ hy)]; rfl
theorem piled_le {α : Type} {f : α → PyData} {n : Nat} : ∀ xs : List α, (∀ x ∈ xs, (f x).shown.length ≤ n) → piled (PyData.shownAll (xs.map f)) ≤ xs.length * (n + 2)
  | [], _ => Nat.zero_le _
  | x :: xs, h => by
    rw [List.map_cons, PyData.shownAll, piled_cons, List.length_cons, Nat.succ_mul]
    have := h x (List.mem_cons_self ..)
    have := piled_le xs fun y hy => h y (List.mem_cons_of_mem _ hy)
    omega
theorem tupleText_le (ts : List Str) : (tupleText ts).length ≤ piled ts + 3 := by
  unfold tupleText
  rw [strLen_append, strLen_append]
  have e1 : ((("(" : String) : Str)).length = 1 := rfl
  have e3 : (((if ts.length == 1 then ",)" else ")" : String) : Str)).length ≤ 2 := by split <;> decide
  rw [e1]
  cases ts with
  | nil => have : (Str.join ", " ([] : List Str)).length = 0 := rfl
           omega
  | cons t ts => have := join_length_add (t :: ts) (by simp); omega
theorem lenz_ge : ∀ n : Nat, 20 ≤ lenz n
  | 0 => Nat.le_refl _
  | n + 1 => by unfold lenz; omega
theorem dat_shown : ∀ (n : Nat) (x : AV), plz n x = true → (dat n x).showable = true ∧ (dat n x).shown.length ≤ lenz n
  | n, .int i, h => by
    have h' : i.natAbs < 10 ^ 19 := by cases n <;> exact of_decide_eq_true h
    have e : dat n (.int i) = .int i := by cases n <;> rfl
    rw [e]
    refine ⟨?_, ?_⟩
    · change decide (i.natAbs.log2 < 1920) = true
      refine decide_eq_true ?_
      rcases Nat.eq_zero_or_pos i.natAbs with h0 | h0
      · rw [h0]; decide
      · have h64 : i.natAbs.log2 < 64 := (Nat.log2_lt (by omega)).mpr (Nat.lt_trans h' (by decide))
        omega
    · change (Str.ofString (toString i)).length ≤ _
      rw [ofString_length]
      have := int_text_length_le10 (k := 19) (by decide) h'
      exact Nat.le_trans this (lenz_ge n)
  | n + 1, .tup xs, h => by
    have h1 : xs.length ≤ 64 := of_decide_eq_true (Bool.and_eq_true_iff.mp h).1
    have h' : ∀ x ∈ xs, plz n x = true := List.all_eq_true.mp (Bool.and_eq_true_iff.mp h).2
    refine ⟨?_, ?_⟩
    · change PyData.showableAll (xs.map (dat n)) = true
      exact showAll xs fun x hx => (dat_shown n x (h' x hx)).1
    · change (tupleText (PyData.shownAll (xs.map (dat n)))).length ≤ _
      have a := tupleText_le (PyData.shownAll (xs.map (dat n)))
      have b := piled_le (f := dat n) (n := lenz n) xs fun x hx => (dat_shown n x (h' x hx)).2
      have c : xs.length * (lenz n + 2) ≤ 64 * (lenz n + 2) := Nat.mul_le_mul_right _ h1
      unfold lenz; omega
  | 0, .tup _, h => nomatch h
  | 0, .non, h => nomatch h
  | 0, .bl _, h => nomatch h
  | 0, .str _, h => nomatch h
  | 0, .ref _, h => nomatch h
  | 0, .adr _, h => nomatch h
  | 0, .ty _, h => nomatch h
  | _ + 1, .non, h => nomatch h
  | _ + 1, .bl _, h => nomatch h
  | _ + 1, .str _, h => nomatch h
  | _ + 1, .ref _, h => nomatch h
  | _ + 1, .adr _, h => nomatch h
  | _ + 1, .ty _, h => nomatch h
/-- the text of a tuple of tuples, to depth three -/
theorem w_repr (xs : List AV) (h : plz 3 (.tup xs) = true) : W (B.repr_ [.tup xs] s) Q = Q (.str (dat 3 (.tup xs)).shown) s := by
  unfold B.repr_
  have a := dat_shown 3 _ h
  have b : lenz 3 ≤ lineZ := by decide
  simp only [pd_dat s 3 deepN _ (pln_of 3 _ h) (by decide), a.1, decide_eq_true (Nat.le_trans a.2 b)]
  rfl
/-! signs -/
theorem strOk_app {a b : Str} (ha : PyData.strOk a = true) (hb : PyData.strOk b = true) : PyData.strOk (a ++ b) = true := by
  have e : (a ++ b).cps = a.cps ++ b.cps := rfl
  unfold PyData.strOk at *
  rw [e, Array.all_append, ha, hb]; rfl
theorem strOk_of (x : String) : PyData.strOk (Str.ofString x) = true := by
  unfold PyData.strOk
  rw [Str.ofString_eq_toList]
  simp only [List.all_toArray, List.all_map, List.all_eq_true]
  intro c _
  have := c.valid
  refine decide_eq_true ?_
  change c.val.toNat < 1114112
  rcases this with h | h
  · have : c.val.toNat < 55296 := h
    omega
  · exact h.2
theorem strOk_join {sep : Str} (hs : PyData.strOk sep = true) : ∀ ts : List Str, (∀ t ∈ ts, PyData.strOk t = true) → PyData.strOk (Str.join sep ts) = true
  | [], _ => by unfold Str.join PyData.strOk Str.empty; simp
  | [t], h => h t (List.mem_cons_self ..)
  | t :: u :: r, h => strOk_app (strOk_app (h t (List.mem_cons_self ..)) hs) (strOk_join hs (u :: r) fun x hx => h x (List.mem_cons_of_mem _ hx))
theorem okAll {α : Type} {f : α → PyData} : ∀ xs : List α, (∀ x ∈ xs, PyData.strOk (f x).shown = true) → ∀ t ∈ PyData.shownAll (xs.map f), PyData.strOk t = true
  | [], _, t, ht => nomatch ht
  | x :: xs, h, t, ht => by
    rw [List.map_cons, PyData.shownAll] at ht
    rcases List.mem_cons.mp ht with rfl | h'
    · exact h x (List.mem_cons_self ..)
    · exact okAll xs (fun y hy => h y (List.mem_cons_of_mem _ hy)) t h'
theorem dat_ok : ∀ (n : Nat) (x : AV), pln n x = true → PyData.strOk (dat n x).shown = true
  | n, .int i, h => by
    have e : dat n (.int i) = .int i := by cases n <;> rfl
    rw [e]; exact strOk_of _
  | n + 1, .tup xs, h => by
    have h' : ∀ x ∈ xs, pln n x = true := List.all_eq_true.mp h
    change PyData.strOk (tupleText (PyData.shownAll (xs.map (dat n)))) = true
    unfold tupleText
    exact strOk_app (strOk_app (strOk_of _) (strOk_join (strOk_of _) _ (okAll xs fun x hx => dat_ok n x (h' x hx)))) (strOk_of _)
  | 0, .tup _, h => nomatch h
  | 0, .non, h => nomatch h
  | 0, .bl _, h => nomatch h
  | 0, .str _, h => nomatch h
  | 0, .ref _, h => nomatch h
  | 0, .adr _, h => nomatch h
  | 0, .ty _, h => nomatch h
  | _ + 1, .non, h => nomatch h
  | _ + 1, .bl _, h => nomatch h
  | _ + 1, .str _, h => nomatch h
  | _ + 1, .ref _, h => nomatch h
  | _ + 1, .adr _, h => nomatch h
  | _ + 1, .ty _, h => nomatch h
/-- texts are alike, if what is told is -/
theorem w_eqS (neg : Bool) (x : Str) (hx : PyData.strOk x = true) : W (eqAV neg (.str x) (.str x) s) Q = Q (.bl (neg != true)) s := by
  have e : pd s deepN (.str x) = some (.str x) := rfl
  unfold eqAV
  have c : SeqAt.shaped (.str x) = true := by
    unfold SeqAt.shaped; rw [PyData.canLay0, hx]; rfl
  simp only [e, c]
  have : PyData.eqv (.str x) (.str x) = true := by simp [PyData.eqv]
  rw [this]; rfl
end
end Sp
/-! SpC: loops over things, sorts, walks. -/
namespace Sp
open PySem Mi
/-- what stands in a list or tuple -/
def Lk (s : Sto) (v : AV) (xs : List AV) : Prop := v = .tup xs ∨ ∃ l, v = .ref l ∧ seqAt s l = some xs
theorem Lk.tup (s : Sto) (xs : List AV) : Lk s (.tup xs) xs := Or.inl rfl
theorem Lk.lst {s : Sto} {l : Nat} {xs : List AV} (h : s[l]? = some (.lst xs)) : Lk s (.ref l) xs := Or.inr ⟨l, rfl, seqAt_lst h⟩
theorem seqAt_keep {L : List Nat} {s s' : Sto} {l : Nat} {xs : List AV} (h : seqAt s l = some xs) (hl : l ∉ L) (k : Kp L s s') : seqAt s' l = some xs := by
  unfold seqAt at *
  revert h
  cases e : s[l]? with
  | none => exact fun h => nomatch h
  | some o => rw [k.2 l o hl e]; exact fun h => h
theorem Lk.keep {s s' : Sto} {v : AV} {xs : List AV} (h : Lk s v xs) (k : Kp [] s s') : Lk s' v xs := by
  rcases h with h | ⟨l, h, e⟩
  · exact Or.inl h
  · exact Or.inr ⟨l, h, seqAt_keep e (by simp) k⟩
theorem ints0 (n : Nat) : I.iot 0 n = (List.range n).map nv := by
  unfold I.iot
  refine List.map_congr_left fun k _ => ?_
  change AV.int (0 + (k : Int)) = AV.int (k : Int)
  rw [Int.zero_add]
theorem getR {n k : Nat} {x : AV} (h : ((List.range n).map nv)[k]? = some x) : k < n ∧ x = nv k := by
  rw [List.getElem?_map] at h
  rcases Nat.lt_or_ge k n with g | g
  · rw [List.getElem?_range g] at h; exact ⟨g, (Option.some.inj h).symm⟩
  · rw [List.getElem?_eq_none (by simpa using g)] at h; exact nomatch h
section
variable {Q : AV → Sto → Prop} {N : En → Sto → Prop} {K : Fl → Prop} {en : En} {s : Sto}
inductive ISq (PI : It → Sto → Prop) (v : AV) (s : Sto) : Prop
  | mk (xs : List AV) (hv : Lk s v xs) (h1 : v = .tup xs → PI (.fix xs) s) (h2 : ∀ l, v = .ref l → seqAt s l = some xs → PI (.lst l) s)
theorem i_seq {a : ME} {PI : It → Sto → Prop} (h : W (a en s) (ISq PI)) : W (I.seq a en s) PI := by
  refine i_seq_tup (W_mono h ?_)
  rintro v s ⟨xs, hv, h1, h2⟩
  rcases hv with rfl | ⟨l, rfl, e⟩
  · exact h1 rfl
  · exact ⟨xs, e, h2 l rfl e⟩
inductive IRg (PI : It → Sto → Prop) (xs : List AV) (s : Sto) : Prop
  | mk (n : Nat) (e : xs = [nv n]) (hn : n < 1000000000) (h : PI (.fix ((List.range n).map nv)) s)
theorem i_range {a : MA} {PI : It → Sto → Prop} (h : W (a en s) (IRg PI)) : W (I.range1 a en s) PI := by
  unfold I.range1
  rw [W_bind]
  refine W_mono h ?_
  intro xs s hh
  obtain ⟨n, e, hn, h⟩ := hh
  rw [e]; clear e
  have : I.inR (n : Int) = true := by
    unfold I.inR
    have h1 : -(2 ^ 62 : Int) ≤ (n : Int) ∧ (n : Int) < 2 ^ 62 := by
      have : (2 ^ 62 : Int) = 4611686018427387904 := by decide
      omega
    exact decide_eq_true h1
  simp only [nv, this, Int.toNat_natCast, if_true]
  rw [ints0]; exact h
/-- a for over a list or a tuple -/
inductive ForW (g : MG) (b : MS) (N : En → Sto → Prop) (K : Fl → Prop) (en : En) (v : AV) (s : Sto) : Prop
  | mk (xs : List AV) (I : Nat → En → Sto → Prop) (hv : Lk s v xs) (hl : xs.length < 1000000000) (h0 : I 0 en s) (hk : ∀ k en s', I k en s' → Lk s' v xs)
    (st : ∀ k x en s, xs[k]? = some x → I k en s → Wf (g x en s) fun en s => X (b en s) (I (k + 1)) (TK (I (k + 1)) N K)) (fin : ∀ en s, I xs.length en s → N en s)
theorem for_w {a : ME} {g : MG} {b : MS} (h : W (a en s) (ForW g b N K en)) : X (S.for_ (I.seq a) g b en s) N K := by
  have key : W (I.seq a en s) fun j s => ∃ (xs : List AV) (I : Nat → En → Sto → Prop), xs.length < 1000000000 ∧ I 0 en s ∧ (j = .fix xs ∨ ∃ l, j = .lst l ∧ ∀ k en s, I k en s → seqAt s l = some xs) ∧
      (∀ k x en s, xs[k]? = some x → I k en s → Wf (g x en s) fun en s => X (b en s) (I (k + 1)) (TK (I (k + 1)) N K)) ∧ (∀ en s, I xs.length en s → N en s) := by
    refine i_seq (W_mono h ?_)
    rintro v s ⟨xs, I, hv, hl, h0, hk, st, fin⟩
    refine ⟨xs, hv, fun _ => ⟨xs, I, hl, h0, Or.inl rfl, st, fin⟩, fun l e _ => ⟨xs, I, hl, h0, Or.inr ⟨l, rfl, fun k en s hi => ?_⟩, st, fin⟩⟩
    rcases hk k en s hi with h | ⟨m, h, e'⟩
    · subst e; exact nomatch h
    · subst e; cases h; exact e'
  clear h
  unfold S.for_
  revert key
  cases I.seq a en s with
  | ok j s =>
    rintro ⟨xs, I, hl, h0, hj, st, fin⟩
    have st' : ∀ k x en s, xs[k]? = some x → I k en s → X ((fun v en s => (S.gx (g v en s)).next fun en s => b en s) x en s) (I (k + 1)) (TK (I (k + 1)) N K) := by
      intro k x en s hx hi
      have := st k x en s hx hi
      revert this
      change Wf (g x en s) _ → X ((S.gx (g x en s)).next _) _ _
      cases g x en s with
      | nx e s => exact fun h => h
      | _ => exact fun h => h.elim
    rcases hj with rfl | ⟨l, rfl, hq⟩
    · refine forT_w I xs 0 en s h0 (fun k x en s hx hi => ?_) (fun en s h => fin en s (by rw [Nat.zero_add] at h; exact h))
      rw [Nat.zero_add] at hi ⊢
      exact st' k x en s hx hi
    · change X (S.forI (fun v en s => (S.gx (g v en s)).next fun en s => b en s) (It.lst l) en s) N K
      unfold S.forI
      simp only
      exact forL_w I xs l (fun k en s _ hi => hq k en s hi) st' fin xs.length 0 S.fuel en s (by omega) (by unfold S.fuel; omega) h0
  | _ => exact fun h => h.elim
/-- a for over a range -/
inductive ForR (g : MG) (b : MS) (N : En → Sto → Prop) (K : Fl → Prop) (en : En) (xs : List AV) (s : Sto) : Prop
  | mk (n : Nat) (I : Nat → En → Sto → Prop) (e : xs = [nv n]) (hn : n < 1000000000) (h0 : I 0 en s)
    (st : ∀ k en s, k < n → I k en s → Wf (g (nv k) en s) fun en s => X (b en s) (I (k + 1)) (TK (I (k + 1)) N K)) (fin : ∀ en s, I n en s → N en s)
theorem for_r {a : MA} {g : MG} {b : MS} (h : W (a en s) (ForR g b N K en)) : X (S.for_ (I.range1 a) g b en s) N K := by
  refine for_fix (i_range (W_mono h ?_))
  rintro xs s ⟨n, I, rfl, hn, h0, st, fin⟩
  refine ⟨n, rfl, hn, _, I, rfl, h0, fun k x en s hx hi => ?_, fun en s h => fin en s (by simpa using h)⟩
  obtain ⟨hk, rfl⟩ := getR hx
  exact st k en s hk hi
/-- a comprehension that changes nothing but its own list -/
inductive LcP (g : MG) (t : MT) (e : ME) (own : List Nat) (en : En) (Q : AV → Sto → Prop) {α : Type} (zs : List α) (emb : α → AV) (P : α → Bool) (F : α → AV) (j : It) (s0 : Sto) : Prop
  | mk (hz : zs.length < lineZ) (hj : j = .fix (zs.map emb) ∨ ∃ l, j = .lst l ∧ seqAt s0 l = some (zs.map emb))
      (st : ∀ z ∈ zs, ∀ s', Kp [] s0 s' → Wf (g (emb z) (wipe en own) s') fun en' s1 => W (t en' s1) fun b s2 => b = P z ∧ Kp [] s' s2 ∧ (P z = true → W (e en' s2) fun y s3 => y = F z ∧ Kp [] s' s3))
      (fin : ∀ s', Kp [] s0 s' → s'[s0.length]? = some (.lst ((zs.filter P).map F)) → Q (.ref s0.length) s')
theorem lc_pure {α : Type} {src : MI} {g : MG} {t : MT} {e : ME} {own : List Nat} (zs : List α) (emb : α → AV) (P : α → Bool) (F : α → AV)
    (h : W (src en s) (LcP g t e own en Q zs emb P F)) : W (E.lc src g t e own en s) Q := by
  refine lc_w (W_mono h ?_)
  rintro j s0 ⟨hz, hj, st, fin⟩
  refine ⟨zs.map emb, fun k acc s' => Kp [] s0 s' ∧ acc = (((zs.take k).filter P).map F), by simpa using hz, ?_, ⟨Kp.app _ (Kp.refl _), by simp⟩, ?_, ?_⟩
  · rcases hj with rfl | ⟨l, rfl, e⟩
    · exact Or.inl rfl
    · exact Or.inr ⟨l, rfl, fun k acc s' hi => seqAt_keep e (by simp) hi.1⟩
  · rintro k x acc s' hx hl ⟨hk, rfl⟩ hD
    rw [List.getElem?_map] at hx
    cases hz' : zs[k]? with
    | none => rw [hz'] at hx; exact nomatch hx
    | some z =>
      rw [hz'] at hx
      cases hx
      have hm : z ∈ zs := List.mem_of_getElem? hz'
      have ht : zs.take (k + 1) = zs.take k ++ [z] := by rw [List.take_add_one, hz']; rfl
      have := st z hm s' hk
      revert this
      cases g (emb z) (wipe en own) s' with
      | nx en' s1 =>
        intro h1
        refine W_mono (r := t en' s1) h1 ?_
        rintro b s2 ⟨rfl, k2, h2⟩
        by_cases hp : P z = true
        · rw [if_pos hp]
          refine W_mono (h2 hp) ?_
          rintro y s3 ⟨rfl, k3⟩
          refine ⟨k3.2 _ _ (by simp) hD, (hk.trans k3).setN _ _ (Nat.le_refl _), ?_⟩
          rw [ht, List.filter_append, List.map_append]; simp [hp]
        · rw [if_neg hp]
          refine ⟨k2.2 _ _ (by simp) hD, hk.trans k2, ?_⟩
          rw [ht, List.filter_append, List.map_append]; simp [hp]
      | _ => exact fun h => h.elim
  · rintro acc s' ⟨hk, rfl⟩ hD
    refine fin s' hk ?_
    rw [hD]; simp
/-- .. that keeps to J -/
inductive LcS (g : MG) (t : MT) (e : ME) (own : List Nat) (en : En) (Q : AV → Sto → Prop) {α : Type} (zs : List α) (emb : α → AV) (F : α → AV) (J : Sto → Prop) (j : It) (s0 : Sto) : Prop
  | mk (hz : zs.length < lineZ) (hj : j = .fix (zs.map emb)) (hJ : J (s0 ++ [.lst []])) (hset : ∀ s' o, J s' → J (s'.set s0.length o))
      (st : ∀ z ∈ zs, ∀ s' acc, J s' → s'[s0.length]? = some (.lst acc) → Wf (g (emb z) (wipe en own) s') fun en' s1 => W (t en' s1) fun b s2 => J s2 ∧ s2[s0.length]? = some (.lst acc) ∧ (b = true → W (e en' s2) fun y s3 => y = F z ∧ J s3 ∧ s3[s0.length]? = some (.lst acc)))
      (fin : ∀ s' (ys : List α), J s' → ys.Sublist zs → s'[s0.length]? = some (.lst (ys.map F)) → Q (.ref s0.length) s')
theorem lc_sub {α : Type} {src : MI} {g : MG} {t : MT} {e : ME} {own : List Nat} (zs : List α) (emb : α → AV) (F : α → AV) (J : Sto → Prop)
    (h : W (src en s) (LcS g t e own en Q zs emb F J)) : W (E.lc src g t e own en s) Q := by
  refine lc_w (W_mono h ?_)
  rintro j s0 ⟨hz, hj, hJ, hset, st, fin⟩
  subst hj
  refine ⟨zs.map emb, fun k acc s' => J s' ∧ ∃ ys : List α, ys.Sublist (zs.take k) ∧ acc = ys.map F, by simpa using hz, Or.inl rfl, ⟨hJ, [], by simp, rfl⟩, ?_, ?_⟩
  · rintro k x acc s' hx hl ⟨hk, ys, hys, rfl⟩ hD
    rw [List.getElem?_map] at hx
    cases hz' : zs[k]? with
    | none => rw [hz'] at hx; exact nomatch hx
    | some z =>
      rw [hz'] at hx
      cases hx
      have hm : z ∈ zs := List.mem_of_getElem? hz'
      have ht : zs.take (k + 1) = zs.take k ++ [z] := by rw [List.take_add_one, hz']; rfl
      have := st z hm s' _ hk hD
      revert this
      cases g (emb z) (wipe en own) s' with
      | nx en' s1 =>
        intro h1
        refine W_mono (r := t en' s1) h1 ?_
        rintro b s2 ⟨j2, d2, h2⟩
        cases b with
        | true =>
          rw [if_pos rfl]
          refine W_mono (h2 rfl) ?_
          rintro y s3 ⟨rfl, j3, d3⟩
          refine ⟨d3, hset _ _ j3, ys ++ [z], ?_, by simp⟩
          rw [ht]; exact hys.append (List.Sublist.refl _)
        | false =>
          rw [if_neg (by simp)]
          refine ⟨d2, j2, ys, ?_, rfl⟩
          rw [ht]; exact hys.trans (List.sublist_append_left _ _)
      | _ => exact fun h => h.elim
  · rintro acc s' ⟨hk, ys, hys, rfl⟩ hD
    exact fin s' ys hk (by simpa using hys) hD
end
/-! ### sorts -/
section
variable {α : Type} [DecidableEq α]
def dd (acc xs : List α) : List α := xs.foldl (fun acc x => if x ∈ acc then acc else acc ++ [x]) acc
theorem dd_mem : ∀ (xs acc : List α) (x : α), x ∈ dd acc xs ↔ x ∈ acc ∨ x ∈ xs
  | [], acc, x => by simp [dd]
  | y :: xs, acc, x => by
    change x ∈ dd (if y ∈ acc then acc else acc ++ [y]) xs ↔ _
    rw [dd_mem xs]
    by_cases h : y ∈ acc
    · rw [if_pos h, List.mem_cons]
      constructor
      · exact fun g => g.elim Or.inl fun h => Or.inr (Or.inr h)
      · exact fun g => g.elim Or.inl fun g => g.elim (fun e => Or.inl (e ▸ h)) Or.inr
    · rw [if_neg h, List.mem_append, List.mem_singleton, List.mem_cons]
      constructor
      · exact fun g => g.elim (fun g => g.elim Or.inl fun h => Or.inr (Or.inl h)) fun h => Or.inr (Or.inr h)
      · exact fun g => g.elim (fun h => Or.inl (Or.inl h)) fun g => g.elim (fun h => Or.inl (Or.inr h)) Or.inr
theorem dd_nodup : ∀ (xs acc : List α), acc.Nodup → (dd acc xs).Nodup
  | [], acc, h => h
  | y :: xs, acc, h => by
    change (dd (if y ∈ acc then acc else acc ++ [y]) xs).Nodup
    by_cases hy : y ∈ acc
    · rw [if_pos hy]; exact dd_nodup xs acc h
    · rw [if_neg hy]; refine dd_nodup xs _ ?_
      rw [List.nodup_append]
      refine ⟨h, by simp, fun a ha b hb => ?_⟩
      rw [List.mem_singleton.mp hb]; rintro rfl; exact hy ha
theorem dd_len : ∀ (xs acc : List α), (dd acc xs).length ≤ acc.length + xs.length
  | [], acc => by simp [dd]
  | y :: xs, acc => by
    change (dd (if y ∈ acc then acc else acc ++ [y]) xs).length ≤ _
    have := dd_len xs (if y ∈ acc then acc else acc ++ [y])
    by_cases hy : y ∈ acc
    · rw [if_pos hy] at this ⊢; simp; omega
    · rw [if_neg hy] at this ⊢; simp at this ⊢; omega
theorem dedup_emb {emb : α → AV} (inj : ∀ a b, emb a = emb b → a = b) : ∀ (xs acc : List α), (xs.map emb).foldl (fun acc x => if x ∈ acc then acc else acc ++ [x]) (acc.map emb) = (dd acc xs).map emb
  | [], acc => rfl
  | y :: xs, acc => by
    rw [List.map_cons, List.foldl_cons]
    have e : (emb y ∈ acc.map emb) ↔ y ∈ acc := by
      constructor
      · intro h; obtain ⟨z, hz, e⟩ := List.mem_map.mp h; rw [← inj _ _ e]; exact hz
      · exact fun h => List.mem_map_of_mem h
    change _ = (dd (if y ∈ acc then acc else acc ++ [y]) xs).map emb
    by_cases h : y ∈ acc
    · rw [if_pos h, if_pos (e.mpr h)]; exact dedup_emb inj xs acc
    · rw [if_neg h, if_neg (fun h' => h (e.mp h'))]
      have := dedup_emb inj xs (acc ++ [y])
      rw [List.map_append] at this
      exact this
/-- an order -/
structure Ord (le : α → α → Bool) : Prop where
  tr : ∀ a b c, le a b = true → le b c = true → le a c = true
  tot : ∀ a b, (le a b || le b a) = true
  anti : ∀ a b, le a b = true → le b a = true → a = b
/-- strictly ascending -/
def Asc (le : α → α → Bool) (xs : List α) : Prop := xs.Pairwise fun a b => le a b = true ∧ a ≠ b
theorem Asc.nodup {le : α → α → Bool} {xs : List α} (h : Asc le xs) : xs.Nodup := List.Pairwise.imp (fun h => h.2) h
theorem Asc.ext {le : α → α → Bool} (O : Ord le) {xs ys : List α} (h : Asc le xs) (k : Asc le ys) (e : ∀ x, x ∈ xs ↔ x ∈ ys) : xs = ys :=
  List.Perm.eq_of_pairwise (le := fun a b => le a b = true) (fun a b _ _ h1 h2 => O.anti a b h1 h2) (List.Pairwise.imp (fun h => h.1) h) (List.Pairwise.imp (fun h => h.1) k) ((List.perm_ext_iff_of_nodup h.nodup k.nodup).mpr e)
theorem sort_asc {le : α → α → Bool} (O : Ord le) {xs : List α} (h : xs.Nodup) : Asc le (xs.mergeSort le) := by
  have a := List.pairwise_mergeSort O.tr O.tot xs
  have b : (xs.mergeSort le).Nodup := (List.mergeSort_perm xs le).nodup_iff.mpr h
  exact a.imp₂ (fun _ _ h1 h2 => ⟨h1, h2⟩) b
theorem sorted_emb {le : α → α → Bool} {emb : α → AV} (hs : ∀ a b, le a b = B.sLe (emb a) (emb b)) (xs : List α) : (xs.map emb).mergeSort B.sLe = (xs.mergeSort le).map emb :=
  (List.map_mergeSort fun a _ b _ => hs a b).symm
theorem set_sorted {le : α → α → Bool} (O : Ord le) {emb : α → AV} (inj : ∀ a b, emb a = emb b → a = b) (hs : ∀ a b, le a b = B.sLe (emb a) (emb b)) (xs : List α) :
    ∃ ys : List α, (B.dedup (xs.map emb)).mergeSort B.sLe = ys.map emb ∧ Asc le ys ∧ (∀ x, x ∈ ys ↔ x ∈ xs) ∧ ys.length ≤ xs.length := by
  refine ⟨(dd [] xs).mergeSort le, ?_, sort_asc O (dd_nodup xs [] (by simp)), fun x => ?_, ?_⟩
  · have : B.dedup (xs.map emb) = (dd [] xs).map emb := dedup_emb inj xs []
    rw [this, sorted_emb hs]
  · rw [List.mem_mergeSort, dd_mem]; simp
  · rw [List.length_mergeSort]; have := dd_len xs []; simpa using this
end
/-! the three orders -/
def nle (a b : Nat) : Bool := decide (a ≤ b)
theorem nleO : Ord nle := ⟨fun a b c h k => by unfold nle at *; simp at *; omega, fun a b => by unfold nle; simp; omega, fun a b h k => by unfold nle at *; simp at *; omega⟩
theorem nle_s (a b : Nat) : nle a b = B.sLe (nv a) (nv b) := by
  unfold nle B.sLe; simp
theorem nv_inj (a b : Nat) (h : nv a = nv b) : a = b := by injection h with h; omega
def lle : List Nat → List Nat → Bool
  | [], _ => true
  | _ :: _, [] => false
  | x :: xs, y :: ys => if x = y then lle xs ys else decide (x ≤ y)
theorem lle_tr : ∀ a b c, lle a b = true → lle b c = true → lle a c = true
  | [], _, _, _, _ => by unfold lle; rfl
  | _ :: _, [], _, h, _ => nomatch h
  | _ :: _, _ :: _, [], _, h => nomatch h
  | x :: xs, y :: ys, z :: zs, h, k => by
    unfold lle at *
    by_cases e : x = y
    · subst e
      rw [if_pos rfl] at h
      by_cases e : x = z
      · rw [if_pos e] at k ⊢; exact lle_tr xs ys zs h k
      · rw [if_neg e] at k ⊢; exact k
    · rw [if_neg e] at h
      have h := of_decide_eq_true h
      by_cases e2 : y = z
      · subst e2; rw [if_neg e]; exact decide_eq_true h
      · rw [if_neg e2] at k
        have k := of_decide_eq_true k
        rw [if_neg (by omega)]; exact decide_eq_true (by omega)
theorem lle_tot : ∀ a b, (lle a b || lle b a) = true
  | [], _ => by unfold lle; simp
  | _ :: _, [] => by simp [lle]
  | x :: xs, y :: ys => by
    unfold lle
    by_cases e : x = y
    · subst e; rw [if_pos rfl, if_pos rfl]; exact lle_tot xs ys
    · rw [if_neg e, if_neg (fun h => e h.symm)]; simp; omega
theorem lle_anti : ∀ a b, lle a b = true → lle b a = true → a = b
  | [], [], _, _ => rfl
  | [], _ :: _, _, h => nomatch h
  | _ :: _, [], h, _ => nomatch h
  | x :: xs, y :: ys, h, k => by
    unfold lle at *
    by_cases e : x = y
    · subst e; rw [if_pos rfl] at h k; rw [lle_anti xs ys h k]
    · rw [if_neg e] at h; rw [if_neg (fun h => e h.symm)] at k
      have h := of_decide_eq_true h
      have k := of_decide_eq_true k
      exact absurd (by omega) e
theorem lleO : Ord lle := ⟨lle_tr, lle_tot, lle_anti⟩
theorem ints_nv : ∀ xs : List Nat, ints? (xs.map nv) = some (xs.map fun (k : Nat) => (k : Int))
  | [] => rfl
  | x :: xs => by rw [List.map_cons, ints?, ints_nv xs]; rfl
theorem lexLe_nat : ∀ a b : List Nat, lexLe (a.map fun (k : Nat) => (k : Int)) (b.map fun (k : Nat) => (k : Int)) = lle a b
  | [], [] => rfl
  | [], _ :: _ => rfl
  | _ :: _, [] => rfl
  | x :: xs, y :: ys => by
    rw [List.map_cons, List.map_cons, lexLe, lle]
    by_cases e : x = y
    · subst e; rw [if_pos rfl, if_pos rfl]; exact lexLe_nat xs ys
    · rw [if_neg e, if_neg (by omega)]; simp
theorem lle_s (a b : List Nat) : lle a b = B.sLe (tn a) (tn b) := by
  unfold tn B.sLe; simp only [ints_nv, lexLe_nat]
theorem map_nv_inj : ∀ (a b : List Nat), a.map nv = b.map nv → a = b
  | [], [], _ => rfl
  | [], _ :: _, h => nomatch h
  | _ :: _, [], h => nomatch h
  | x :: xs, y :: ys, h => by
    rw [List.map_cons, List.map_cons] at h
    injection h with h1 h2
    rw [nv_inj _ _ h1, map_nv_inj xs ys h2]
theorem tn_inj (a b : List Nat) (h : tn a = tn b) : a = b := by
  injection h with h; exact map_nv_inj a b h
def ple (a b : Nat × Nat) : Bool := lle [a.1, a.2] [b.1, b.2]
theorem pr_tn (a : Nat × Nat) : pr a = tn [a.1, a.2] := rfl
theorem ple_s (a b : Nat × Nat) : ple a b = B.sLe (pr a) (pr b) := by rw [pr_tn, pr_tn, ← lle_s]; rfl
theorem pr_inj (a b : Nat × Nat) (h : pr a = pr b) : a = b := by
  rw [pr_tn, pr_tn] at h
  have := tn_inj _ _ h
  injection this with h1 h2
  injection h2 with h2 _
  exact Prod.ext h1 h2
theorem pleO : Ord ple := ⟨fun a b c => lle_tr _ _ _, fun a b => lle_tot _ _, fun a b h k => pr_inj a b (by rw [pr_tn, pr_tn, lle_anti _ _ h k])⟩
theorem asc_range (n : Nat) : Asc nle (List.range n) := by
  refine List.Pairwise.imp ?_ (List.pairwise_lt_range (n := n))
  intro a b h; exact ⟨decide_eq_true (by omega), by omega⟩
theorem Asc.filter {α : Type} [DecidableEq α] {le : α → α → Bool} {xs : List α} (p : α → Bool) (h : Asc le xs) : Asc le (xs.filter p) := List.Pairwise.filter p h
/-! ### walks -/
/-- walks of one road or more, whose inner places are unwished -/
inductive Met (rs : List (Nat × Nat)) (ws : List Nat) (a : Nat) : Nat → Prop
  | one {b : Nat} : (a, b) ∈ rs → Met rs ws a b
  | more {c b : Nat} : Met rs ws a c → c ∉ ws → (c, b) ∈ rs → Met rs ws a b
variable {rs : List (Nat × Nat)} {ws : List Nat}
theorem Met.tr {a b c : Nat} (h : Met rs ws a b) (hb : b ∉ ws) (k : Met rs ws b c) : Met rs ws a c := by
  induction k with
  | one e => exact .more h hb e
  | more _ hc e ih => exact .more ih hc e
theorem Met.head {a b c : Nat} (h : (a, b) ∈ rs) (hb : b ∉ ws) (k : Met rs ws b c) : Met rs ws a c := Met.tr (.one h) hb k
def rev (rs : List (Nat × Nat)) : List (Nat × Nat) := rs.map fun r => (r.2, r.1)
theorem mem_rev {a b : Nat} : (a, b) ∈ rev rs ↔ (b, a) ∈ rs := by
  unfold rev
  constructor
  · intro h; obtain ⟨⟨x, y⟩, h2, e⟩ := List.mem_map.mp h; cases e; exact h2
  · intro h; exact List.mem_map.mpr ⟨(b, a), h, rfl⟩
theorem Met.flip {a b : Nat} (h : Met (rev rs) ws a b) : Met rs ws b a := by
  induction h with
  | one e => exact .one (mem_rev.mp e)
  | more _ hc e ih => exact Met.head (mem_rev.mp e) hc ih
theorem met_rev {a b : Nat} : Met (rev rs) ws a b ↔ Met rs ws b a := by
  refine ⟨Met.flip, fun h => ?_⟩
  refine Met.flip (rs := rev rs) ?_
  have : rev (rev rs) = rs := by unfold rev; rw [List.map_map]; simp [Function.comp_def]
  rw [this]; exact h
theorem Met.into {a b : Nat} (h : Met rs ws a b) : ∃ c, (c, b) ∈ rs := by cases h <;> exact ⟨_, by assumption⟩
end Sp
namespace Sp
open PySem Mi Mr
theorem eq_of_W {α : Type} {r : Res α} {a : α} {s : Sto} (h : W r fun v s' => v = a ∧ s' = s) : r = .ok a s := by
  obtain ⟨v, s', e, rfl, rfl⟩ := W_ex h; exact e
theorem W_of_eq {α : Type} {r : Res α} {a : α} {s : Sto} (h : r = .ok a s) {Q : α → Sto → Prop} : W r Q = Q a s := by rw [h, W_ok]
section
variable {Q : AV → Sto → Prop} {s : Sto}
theorem whole_e (k : Nat) (hi : Int) : m_is_whole [nv k, .int 0, .int hi] s = .ok (.bl (decide ((k : Int) ≤ hi))) s := by
  have hk : (0 : Int) ≤ (k : Int) := by omega
  unfold m_is_whole b_is_whole
  refine eq_of_W ?_; refine d_runn (by rfl) (x_ret ?_)
  simp [hk]
@[simp] theorem whole_w (k : Nat) (hi : Int) : W (m_is_whole [nv k, .int 0, .int hi] s) Q = Q (.bl (decide ((k : Int) ≤ hi))) s := W_of_eq (whole_e k hi)
theorem road_e (r : Nat × Nat) (n : Nat) (h1 : r.1 < n) (h2 : r.2 < n) : m_is_road [pr r, nv n] s = .ok (.bl true) s := by
  unfold m_is_road b_is_road
  refine eq_of_W ?_; refine d_runn (by rfl) ?_
  rw [x_seq]
  refine x_ife ?_
  have a1 : (r.1 : Int) ≤ (n : Int) - 1 := by omega
  have a2 : (r.2 : Int) ≤ (n : Int) - 1 := by omega
  simp [pr]
  refine x_ret ?_
  simp [a1, a2]
theorem getM {α : Type} {f : α → AV} {xs : List α} {k : Nat} (h : k < xs.length) : (xs.map f)[k]? = some (f xs[k]) := by
  rw [List.getElem?_map, List.getElem?_eq_getElem h]; rfl
theorem fbp {n : Nat} {ws : List Nat} (h1 : ∀ w ∈ ws, w < n) (h2 : Asc nle ws) (hl : ws.length < 1000000000) : m_first_bad_place [.tup (ws.map nv), nv n] s = .ok .non s := by
  unfold m_first_bad_place b_first_bad_place
  refine eq_of_W ?_; refine d_runn (by rfl) ?_
  rw [x_seq]
  refine for_r ?_
  simp
  refine .mk ws.length (fun k en s' => s' = s ∧ ∃ o, en = [some (.tup (ws.map nv)), some (nv n), o]) rfl hl ⟨rfl, _, rfl⟩ ?_ ?_
  · rintro k en s' hk ⟨rfl, o, rfl⟩
    simp
    refine x_ife ?_
    have a1 : (ws[k] : Int) ≤ (n : Int) - 1 := by have := h1 _ (List.getElem_mem hk); omega
    simp [w_ixT (getM (f := nv) hk), a1]
    cases k with
    | zero => simp
    | succ k =>
      simp
      have e1 : ((k : Int) + 1) - 1 = ((k : Nat) : Int) := by omega
      have hk' : k < ws.length := by omega
      have a3 := List.pairwise_iff_getElem.mp h2 k (k + 1) hk' hk (by omega)
      have a4 : ¬ ((ws[k + 1] : Int) ≤ (ws[k] : Int)) := by have := of_decide_eq_true a3.1; have := a3.2; omega
      rw [show (AV.int (k : Int)) = nv k from rfl, w_ixT (getM (f := nv) hk')]
      simp [a4]
  · rintro en s' ⟨rfl, o, rfl⟩
    refine x_ret ?_
    simp
theorem le_pr (a b : Nat × Nat) : W (leAV (pr a) (pr b) s) Q = Q (.bl (ple a b)) s := by
  have h1 : ints? [nv a.1, nv a.2] = some [(a.1 : Int), (a.2 : Int)] := rfl
  have h2 : ints? [nv b.1, nv b.2] = some [(b.1 : Int), (b.2 : Int)] := rfl
  have h3 : lexLe [(a.1 : Int), (a.2 : Int)] [(b.1 : Int), (b.2 : Int)] = ple a b := lexLe_nat [a.1, a.2] [b.1, b.2]
  unfold leAV cmpAV pr
  simp only [h1, h2, h3, W_ok]
theorem fbr {n : Nat} {rs : List (Nat × Nat)} (h1 : ∀ r ∈ rs, r.1 < n ∧ r.2 < n) (h2 : Asc ple rs) (hl : rs.length < 1000000000) : m_first_bad_road [.tup (rs.map pr), nv n] s = .ok .non s := by
  unfold m_first_bad_road b_first_bad_road
  refine eq_of_W ?_; refine d_runn (by rfl) ?_
  rw [x_seq]
  refine for_r ?_
  simp
  refine .mk rs.length (fun k en s' => s' = s ∧ ∃ o, en = [some (.tup (rs.map pr)), some (nv n), o]) rfl hl ⟨rfl, _, rfl⟩ ?_ ?_
  · rintro k en s' hk ⟨rfl, o, rfl⟩
    simp
    refine x_ife ?_
    have a1 := h1 _ (List.getElem_mem hk)
    simp [w_ixT (getM (f := pr) hk), W_of_eq (road_e (s := s') _ n a1.1 a1.2)]
    cases k with
    | zero => simp
    | succ k =>
      simp
      have e1 : ((k : Int) + 1) - 1 = ((k : Nat) : Int) := by omega
      have hk' : k < rs.length := by omega
      have a3 := List.pairwise_iff_getElem.mp h2 k (k + 1) hk' hk (by omega)
      have a4 : ple rs[k + 1] rs[k] = false := by
        cases h : ple rs[k + 1] rs[k] with
        | false => rfl
        | true => exact absurd (pleO.anti _ _ a3.1 h) a3.2
      rw [show (AV.int (k : Int)) = nv k from rfl, w_ixT (getM (f := pr) hk'), le_pr]
      simp [a4]
  · rintro en s' ⟨rfl, o, rfl⟩
    refine x_ret ?_
    simp
/-- right maps -/
structure VM (n : Nat) (rs : List (Nat × Nat)) (ws : List Nat) : Prop where
  hn : n ≤ 60
  hr : rs.length ≤ 240
  inr : ∀ r ∈ rs, r.1 < n ∧ r.2 < n
  ar : Asc ple rs
  inw : ∀ w ∈ ws, w < n
  aw : Asc nle ws
variable {n : Nat} {rs : List (Nat × Nat)} {ws : List Nat}
theorem asc_len (V : VM n rs ws) : ws.length ≤ 60 := by
  have := V.aw.nodup.length_le_of_subset (l₂ := List.range n) fun w hw => List.mem_range.mpr (V.inw w hw)
  rw [List.length_range] at this
  have := V.hn; omega
theorem made_e (V : VM n rs ws) : m_made_map [CH n rs ws] s = .ok (CH n rs ws) s := by
  have hn := V.hn
  have hr := V.hr
  have hw := asc_len V
  have w1 : m_wrong_roads [CH n rs ws] s = .ok .non s := by
    unfold m_wrong_roads b_wrong_roads
    refine eq_of_W ?_; refine d_runn (by rfl) ?_
    rw [x_seq]
    refine x_ife ?_
    simp [CH]
    refine x_ife ?_
    simp
    rw [if_pos (by omega)]
    refine x_ife ?_
    simp
    rw [if_neg (by omega)]
    refine x_ret ?_
    simp [W_of_eq (fbr (s := s) V.inr V.ar (by omega))]
  have w2 : m_wrong_wishes [CH n rs ws] s = .ok .non s := by
    unfold m_wrong_wishes b_wrong_wishes
    refine eq_of_W ?_; refine d_runn (by rfl) ?_
    rw [x_seq]
    refine x_ife ?_
    simp [CH]
    refine x_ret ?_
    simp [W_of_eq (fbp (s := s) V.inw V.aw (by omega))]
  unfold m_made_map b_made_map
  refine eq_of_W ?_; refine d_runn (by rfl) ?_
  rw [x_seq]
  refine x_asg ?_
  simp [W_of_eq w1]
  refine x_ife ?_
  simp
  refine x_asg ?_
  simp [W_of_eq w2]
  refine x_ife ?_
  simp
  refine x_ret ?_
  simp
theorem check_e {a : Nat} (h : a < n) : m_check_place [CH n rs ws, nv a] s = .ok .non s := by
  have w1 : m_is_place [CH n rs ws, nv a] s = .ok (.bl true) s := by
    unfold m_is_place b_is_place
    refine eq_of_W ?_; refine d_runn (by rfl) (x_ret ?_)
    simp [CH]
    omega
  unfold m_check_place b_check_place
  refine eq_of_W ?_; refine d_runn (by rfl) ?_
  refine x_ife ?_
  simp [W_of_eq w1]
end
end Sp
namespace Sp
open PySem Mi Mr
section
variable {Q : AV → Sto → Prop} {s : Sto}
theorem isLst_of {l : Nat} {xs : List AV} (h : s[l]? = some (.lst xs)) : isLst s (.ref l) = true := by unfold isLst; simp only [h]
theorem w_append {l : Nat} {xs : List AV} {y : AV} (h : s[l]? = some (.lst xs)) (hl : xs.length < lineZ) : W (B.append (.ref l) [y] s) Q = Q .non (s.set l (.lst (xs ++ [y]))) := by
  unfold B.append; simp only [h, hl, if_true, W_ok]
theorem w_pop {l : Nat} {ys : List AV} {y : AV} (h : s[l]? = some (.lst (ys ++ [y]))) : W (B.pop (.ref l) [] s) Q = Q y (s.set l (.lst ys)) := by
  unfold B.pop; simp only [h]; simp
theorem w_popI {l k : Nat} {xs : List AV} {y : AV} (h : s[l]? = some (.lst xs)) (hy : xs[k]? = some y) (hk : k < 1000000000) : W (B.pop (.ref l) [nv k] s) Q = Q y (s.set l (.lst (xs.eraseIdx k))) := by
  have hlt : k < xs.length := by
    rcases Nat.lt_or_ge k xs.length with g | g
    · exact g
    · rw [List.getElem?_eq_none g] at hy; exact nomatch hy
  have hc : decide (-(2 ^ 63 : Int) ≤ (k : Int) ∧ (k : Int) < 2 ^ 63) = true := by
    have : (2 ^ 63 : Int) = 9223372036854775808 := by decide
    exact decide_eq_true (by omega)
  unfold B.pop; simp only [h, hc, ixN_nat hlt, hy, if_true, W_ok]
theorem w_setIx {N : En → Sto → Prop} {en : En} {l k : Nat} {xs : List AV} {v : AV} (h : s[l]? = some (.lst xs)) (hk : k < xs.length) : Wf (G.setIx (.ref l) (nv k) v en s) N = N en (s.set l (.lst (xs.set k v))) := by
  unfold G.setIx; simp only [nv, h, ixN_nat hk, Wf_nx]
theorem flat_rep {α : Type} (x : α) : ∀ k : Nat, (List.replicate k [x]).flatten = List.replicate k x
  | 0 => rfl
  | k + 1 => by rw [List.replicate_succ, List.flatten_cons, flat_rep x k]; rfl
theorem w_rep {l k : Nat} {x : AV} (h : s[l]? = some (.lst [x])) (hk : k ≤ 1000000) : W (mulAV (.ref l) (nv k) s) Q = Q (.ref s.length) (s ++ [.lst (List.replicate k x)]) := by
  have hc : decide (-(2 ^ 63 : Int) ≤ (k : Int) ∧ (k : Int) < 2 ^ 63) = true := by
    have : (2 ^ 63 : Int) = 9223372036854775808 := by decide
    exact decide_eq_true (by omega)
  have h2 : decide ([x].length * (k : Int).toNat ≤ lineZ) = true := decide_eq_true (by unfold lineZ; simp; omega)
  have h3 : repL [x] (k : Int).toNat = List.replicate k x := by
    unfold repL; rw [Int.toNat_natCast]
    exact flat_rep x k
  have h4 : (List.replicate k x).length ≤ lineZ := by unfold lineZ; simp; omega
  have h5 : mulAV (.ref l) (nv k) s = newLst (List.replicate k x) s := by
    unfold mulAV; simp only [nv, h, hc, h2, h3, Bool.and_self, if_true]
  rw [h5]; unfold newLst; rw [if_pos h4, W_ok]
theorem nodup_inj {ls : List Nat} (h : ls.Nodup) {i j : Nat} (hi : i < ls.length) (hj : j < ls.length) (e : ls[i] = ls[j]) : i = j := by
  have hp := List.pairwise_iff_getElem.mp h
  rcases Nat.lt_trichotomy i j with g | g | g
  · exact absurd e (hp i j hi hj g)
  · exact g
  · exact absurd e.symm (hp j i hj hi g)
/-- where roads lead, row by row -/
def Rows (s : Sto) (l n : Nat) (rs : List (Nat × Nat)) : Prop := ∃ ls : List Nat, ls.length = n ∧ s[l]? = some (.lst (ls.map .ref)) ∧
  ∀ k, k < n → ∃ (q : Nat) (R : List Nat), ls[k]? = some q ∧ s[q]? = some (.lst (R.map nv)) ∧ (∀ y, y ∈ R ↔ (k, y) ∈ rs) ∧ R.length ≤ rs.length
theorem Rows.keep {s s' : Sto} {l n : Nat} {rs : List (Nat × Nat)} (h : Rows s l n rs) (k : Kp [] s s') : Rows s' l n rs := by
  obtain ⟨ls, h1, h2, h3⟩ := h
  refine ⟨ls, h1, k.2 _ _ (by simp) h2, fun i hi => ?_⟩
  obtain ⟨q, R, a, b, c, d⟩ := h3 i hi
  exact ⟨q, R, a, k.2 _ _ (by simp) b, c, d⟩
variable {n : Nat} {rs : List (Nat × Nat)} {ws : List Nat}
theorem roads_from_w {R w : AV} (hR : Lk s R (rs.map pr)) (hin : ∀ r ∈ rs, r.1 < n ∧ r.2 < n) (hn : n ≤ 60) (hl : rs.length ≤ 240)
    (k : ∀ l s', Kp [] s s' → s.length ≤ l → Rows s' l n rs → Q (.ref l) s') : W (m_roads_from [.tup [nv n, R, w]] s) Q := by
  unfold m_roads_from b_roads_from
  refine d_runn (by rfl) ?_
  rw [x_seq]
  refine x_asg (lc_w (i_range ?_))
  simp
  refine .mk n rfl (by omega) ?_
  refine .mk ((List.range n).map nv) (hl := by simp; unfold lineZ; omega) (I := fun j acc s' => Kp [] s s' ∧ ∃ ls : List Nat, acc = ls.map .ref ∧ ls.length = j ∧ ls.Nodup ∧ ∀ q ∈ ls, s.length < q ∧ s'[q]? = some (.lst [])) (hj := Or.inl rfl) (h0 := ⟨Kp.app _ (Kp.refl _), [], by simp⟩) (st := ?_) (fin := ?_)
  · rintro j x acc s' hx _ ⟨hk, ls, rfl, hj, hnd, hq⟩ hD
    obtain ⟨hjn, rfl⟩ := getR hx
    simp [lineZ]
    have hDl := lt_of_get hD
    refine ⟨by rw [List.getElem?_append_left hDl]; exact hD, (Kp.app _ hk).setN _ _ (Nat.le_refl _), ls ++ [s'.length], by simp, by simp [hj], ?_, ?_⟩
    · rw [List.nodup_append]
      refine ⟨hnd, by simp, fun a ha b hb => ?_⟩
      rw [List.mem_singleton.mp hb]
      have := lt_of_get (hq a ha).2
      omega
    · intro q hqm
      rcases List.mem_append.mp hqm with h | h
      · have := hq q h
        refine ⟨this.1, ?_⟩
        rw [List.getElem?_set_ne (by omega), List.getElem?_append_left (lt_of_get this.2)]; exact this.2
      · rw [List.mem_singleton.mp h]
        refine ⟨hDl, ?_⟩
        rw [List.getElem?_set_ne (by omega)]; simp
  · rintro acc s1 ⟨hk, ls, rfl, hj, hnd, hq⟩ hD
    have hj : ls.length = n := by simpa using hj
    refine for_w ?_
    simp
    refine .mk (rs.map pr) (fun j en s' => Kp [] s s' ∧ (∃ o2 o3, en = [some (.tup [nv n, R, w]), some (.ref s.length), o2, o3]) ∧ s'[s.length]? = some (.lst (ls.map .ref)) ∧
      ∀ i, i < n → ∃ (q : Nat) (T : List Nat), ls[i]? = some q ∧ s'[q]? = some (.lst (T.map nv)) ∧ (∀ y, y ∈ T ↔ (i, y) ∈ rs.take j) ∧ T.length ≤ j) (hR.keep hk) (by simp; omega) ⟨hk, ⟨_, _, rfl⟩, hD, ?_⟩ (fun _ _ _ hi => hR.keep hi.1) ?_ ?_
    · intro i hi
      have hi' : i < ls.length := by omega
      exact ⟨ls[i], [], List.getElem?_eq_getElem hi', (hq _ (List.getElem_mem hi')).2, by simp, by simp⟩
    · rintro j x en s' hx ⟨hk', ⟨o2, o3, rfl⟩, hD', hrow⟩
      rw [List.getElem?_map] at hx
      cases hr : rs[j]? with
      | none => rw [hr] at hx; exact nomatch hx
      | some r =>
        rw [hr] at hx
        cases hx
        have hrm := hin r (List.mem_of_getElem? hr)
        have hjl : j < rs.length := by
          rcases Nat.lt_or_ge j rs.length with g | g
          · exact g
          · rw [List.getElem?_eq_none g] at hr; exact nomatch hr
        have ht : rs.take (j + 1) = rs.take j ++ [r] := by rw [List.take_add_one, hr]; rfl
        obtain ⟨q, T, a1, a2, a3, a4⟩ := hrow r.1 hrm.1
        have hqm : q ∈ ls := List.mem_of_getElem? a1
        simp [pr]
        refine x_expr ?_
        simp
        rw [w_ixL (xs := ls.map .ref) (v := .ref q) (seqAt_lst hD') (by rw [List.getElem?_map, a1]; rfl)]
        refine ⟨isLst_of a2, ?_⟩
        rw [w_append a2 (by simp; unfold lineZ; omega)]
        refine ⟨hk'.setN _ _ (by have := (hq q hqm).1; omega), ?_, ?_⟩
        · rw [List.getElem?_set_ne (by have := (hq q hqm).1; omega)]; exact hD'
        · intro i hi
          obtain ⟨q', T', b1, b2, b3, b4⟩ := hrow i hi
          by_cases e : i = r.1
          · subst e
            rw [a1] at b1; cases b1
            refine ⟨q, a1, T ++ [r.2], ?_, ?_, ?_⟩
            · rw [List.getElem?_set_self (lt_of_get a2)]; simp
            · intro y
              rw [List.mem_append, List.mem_singleton, ht, List.mem_append, List.mem_singleton, a3]
              constructor
              · exact fun h => h.elim Or.inl fun h => Or.inr (by rw [h])
              · exact fun h => h.elim Or.inl fun h => Or.inr (by have := congrArg Prod.snd h; exact this)
            · simp; omega
          · have hne : q ≠ q' := by
              rintro rfl
              have h1 : i < ls.length := by omega
              have h2 : r.1 < ls.length := by omega
              have c1 : ls[i] = q := by rw [List.getElem?_eq_getElem h1] at b1; exact Option.some.inj b1
              have c2 : ls[r.1] = q := by rw [List.getElem?_eq_getElem h2] at a1; exact Option.some.inj a1
              exact e (nodup_inj hnd h1 h2 (c1.trans c2.symm))
            refine ⟨q', b1, T', ?_, ?_, by omega⟩
            · rw [List.getElem?_set_ne hne]; exact b2
            · intro y
              rw [ht, List.mem_append, List.mem_singleton, b3]
              constructor
              · exact Or.inl
              · exact fun h => h.elim id fun h => absurd (congrArg Prod.fst h) e
    · rintro en s' ⟨hk', ⟨o2, o3, rfl⟩, hD', hrow⟩
      refine x_ret ?_
      simp
      refine k _ _ hk' (Nat.le_refl _) ⟨ls, hj, hD', fun i hi => ?_⟩
      obtain ⟨q, T, a1, a2, a3, a4⟩ := hrow i hi
      exact ⟨q, T, a1, a2, by simpa using a3, by simpa using a4⟩
end
end Sp
namespace Sp
open PySem Mi Mr
section
variable {n : Nat} {rs : List (Nat × Nat)} {ws : List Nat}
/-- how many are not found -/
def cnt (n : Nat) (F : Nat → Bool) : Nat := ((List.range n).filter fun b => !F b).length
def upd (F : Nat → Bool) (t : Nat) : Nat → Bool := fun b => if b = t then true else F b
theorem upd_self (F : Nat → Bool) (t : Nat) : upd F t t = true := by unfold upd; simp
theorem upd_mono {F : Nat → Bool} {b : Nat} (t : Nat) (h : F b = true) : upd F t b = true := by unfold upd; split <;> first | rfl | exact h
theorem upd_of {F : Nat → Bool} {t b : Nat} (h : upd F t b = true) : b = t ∨ F b = true := by
  unfold upd at h; split at h
  · exact Or.inl (by assumption)
  · exact Or.inr h
theorem cnt_upd {F : Nat → Bool} {t : Nat} (ht : t < n) (hF : F t = false) : cnt n (upd F t) + 1 ≤ cnt n F := by
  have a : ((List.range n).filter fun b => !upd F t b).Nodup := List.Pairwise.filter _ List.nodup_range
  have b : (t :: (List.range n).filter fun b => !upd F t b).Nodup := by
    refine List.nodup_cons.mpr ⟨fun h => ?_, a⟩
    have := (List.mem_filter.mp h).2
    rw [upd_self] at this; exact nomatch this
  have := b.length_le_of_subset (l₂ := (List.range n).filter fun b => !F b) (by
    intro x hx
    rcases List.mem_cons.mp hx with rfl | h
    · exact List.mem_filter.mpr ⟨List.mem_range.mpr ht, by rw [hF]; rfl⟩
    · have h' := List.mem_filter.mp h
      refine List.mem_filter.mpr ⟨h'.1, ?_⟩
      cases e : F x with
      | false => rfl
      | true => have h2 := h'.2; simp only [upd_mono t e] at h2; exact nomatch h2)
  exact this
theorem cnt_le (F : Nat → Bool) : cnt n F ≤ n := by
  have := List.length_filter_le (fun b => !F b) (List.range n)
  rw [List.length_range] at this; exact this
/-- the list of what is found -/
def fl (n : Nat) (F : Nat → Bool) : List AV := (List.range n).map fun b => .bl (F b)
theorem fl_len (F : Nat → Bool) : (fl n F).length = n := by unfold fl; simp
theorem fl_get (F : Nat → Bool) {b : Nat} (h : b < n) : (fl n F)[b]? = some (.bl (F b)) := by
  unfold fl; rw [List.getElem?_map, List.getElem?_range h]; rfl
theorem fl_set (F : Nat → Bool) {t : Nat} (h : t < n) : (fl n F).set t (.bl true) = fl n (upd F t) := by
  refine List.ext_getElem? fun i => ?_
  rw [List.getElem?_set]
  by_cases hi : i < n
  · rw [fl_get (upd F t) hi]
    by_cases e : t = i
    · subst e; rw [if_pos rfl, fl_len, if_pos h, upd_self]
    · rw [if_neg e, fl_get _ hi]; unfold upd; rw [if_neg (fun g => e g.symm)]
  · rw [if_neg (by omega)]
    rw [List.getElem?_eq_none (by rw [fl_len]; omega), List.getElem?_eq_none (by rw [fl_len]; omega)]
theorem fl_rep : List.replicate n (AV.bl false) = fl n fun _ => false := by
  unfold fl
  refine List.ext_getElem? fun i => ?_
  by_cases hi : i < n
  · rw [List.getElem?_replicate, if_pos hi, List.getElem?_map, List.getElem?_range hi]; rfl
  · rw [List.getElem?_eq_none (by simp; omega), List.getElem?_eq_none (by simp; omega)]
/-- what a search holds -/
structure MI1 (n : Nat) (rs : List (Nat × Nat)) (ws : List Nat) (a : Nat) (H : Nat → Prop) (F : Nat → Bool) (L : List Nat) : Prop where
  met : ∀ b, b < n → F b = true → Met rs ws a b
  left : ∀ x ∈ L, x < n ∧ (x = a ∨ (F x = true ∧ x ∉ ws))
  done : ∀ x, x < n → ¬ H x → (x = a ∨ (F x = true ∧ x ∉ ws)) → x ∈ L ∨ ∀ c, (x, c) ∈ rs → F c = true
def MJ (s : Sto) (n : Nat) (rs : List (Nat × Nat)) (ws : List Nat) (a l : Nat) (wv : AV) (m : Nat) (en : En) (s' : Sto) : Prop := ∃ (o5 o6 : Option AV) (F : Nat → Bool) (L : List Nat),
  en = [some (.ref l), some wv, some (nv a), some (.ref (s.length + 1)), some (.ref (s.length + 2)), o5, o6] ∧ Kp [] s s' ∧ s'[s.length + 1]? = some (.lst (fl n F)) ∧ s'[s.length + 2]? = some (.lst (L.map nv)) ∧
  MI1 n rs ws a (fun _ => False) F L ∧ (cnt n F + L.length ≤ m ∧ m ≤ 1000)
def MJ2 (s : Sto) (n : Nat) (rs : List (Nat × Nat)) (ws : List Nat) (a l : Nat) (wv : AV) (m here : Nat) (R : List Nat) (j : Nat) (en : En) (s' : Sto) : Prop := ∃ (o6 : Option AV) (F : Nat → Bool) (L : List Nat),
  en = [some (.ref l), some wv, some (nv a), some (.ref (s.length + 1)), some (.ref (s.length + 2)), some (nv here), o6] ∧ Kp [] s s' ∧ s'[s.length + 1]? = some (.lst (fl n F)) ∧ s'[s.length + 2]? = some (.lst (L.map nv)) ∧
  MI1 n rs ws a (fun x => x = here) F L ∧ (cnt n F + L.length + 1 ≤ m ∧ m ≤ 1000) ∧ (∀ c ∈ R.take j, F c = true)
theorem met_by_w {Q : AV → Sto → Prop} {s : Sto} {l a : Nat} (hR : Rows s l n rs) (hin : ∀ r ∈ rs, r.1 < n ∧ r.2 < n) (hn : n ≤ 60) (hl : rs.length ≤ 240) (ha : a < n)
    (k : ∀ f s' F, Kp [] s s' → s.length ≤ f → s'[f]? = some (.lst (fl n F)) → (∀ b, b < n → (F b = true ↔ Met rs ws a b)) → Q (.ref f) s') : W (m_met_by [.ref l, .tup (ws.map nv), nv a] s) Q := by
  unfold m_met_by b_met_by
  refine d_runn (by rfl) ?_
  obtain ⟨ls, hls, hl0, hrow⟩ := id hR
  have e1 : (s ++ [MO.lst [AV.bl false]])[l]? = some (.lst (ls.map .ref)) := (Kp.app _ (Kp.refl (L := []) s)).2 _ _ (by simp) hl0
  rw [x_seq]
  refine x_asg ?_
  simp
  refine ⟨by decide, ?_⟩
  rw [w_lenL e1]
  have e2 : ((ls.map AV.ref).length : Int) = ((n : Nat) : Int) := by simp [hls]
  rw [e2, w_rep (x := .bl false) (by simp) (by omega)]
  refine x_asg ?_
  simp
  refine ⟨by decide, ?_⟩
  rw [fl_rep]
  refine while_w (MJ s n rs ws a l (.tup (ws.map nv))) (n + 1) (by omega) ?_ ?_
  · refine ⟨none, none, fun _ => false, [a], rfl, Kp.app _ (Kp.refl _), by simp, by simp, ⟨fun b _ h => (nomatch h), ?_, ?_⟩, ?_⟩
    · intro x hx; rw [List.mem_singleton.mp hx]; exact ⟨ha, Or.inl rfl⟩
    · rintro x _ _ (rfl | ⟨h, _⟩)
      · exact Or.inl (by simp)
      · exact nomatch h
    · have := cnt_le (n := n) fun _ => false
      simp; omega
  · rintro m en s' ⟨o5, o6, F, L, rfl, hk, hf, hg, hI, hm⟩
    rw [t_tru]
    simp only [w_varS, w_var0]
    have ht : W (truth (.ref (s.length + 2)) s') fun x s'' => x = !L.isEmpty ∧ s'' = s' := by
      unfold truth; simp only [seqAt_lst hg, W_ok]; simp
    refine W_mono ht ?_
    rintro x s'' ⟨rfl, rfl⟩
    rcases List.eq_nil_or_concat L with hL | ⟨L', here, hL⟩
    · subst hL
      rw [if_neg (by simp)]
      refine x_ret ?_
      simp only [w_varS, w_var0, KR_ret]
      refine k _ _ F hk (by omega) hf fun b hb => ⟨hI.met b hb, fun hM => ?_⟩
      have cl : ∀ x, x < n → (x = a ∨ (F x = true ∧ x ∉ ws)) → ∀ c, (x, c) ∈ rs → F c = true := fun x hx hh => (hI.done x hx (fun h => h) hh).resolve_left (by simp)
      induction hM with
      | one e => exact cl a ha (Or.inl rfl) _ e
      | more hM hc e ih =>
        have hcn := (hin _ e).1
        exact cl _ hcn (Or.inr ⟨ih hcn, hc⟩) _ e
    · rw [List.concat_eq_append] at hL
      subst hL
      rw [if_pos (by simp), x_seq]
      refine x_asg ?_
      simp only [w_lmeth, w_varS, w_var0, w_nil]
      rw [if_pos (isLst_of hg), w_pop (ys := L'.map nv) (y := nv here) (by rw [hg]; simp), g_name]
      have hh := hI.left here (by simp)
      obtain ⟨q, R, a1, a2, a3, a4⟩ := hrow here hh.1
      have hlt1 : s.length + 2 < s''.length := lt_of_get hg
      refine for_w ?_
      simp only [w_op, w_varS, w_var0, List.set]
      have hk2 : Kp [] s (s''.set (s.length + 2) (.lst (L'.map nv))) := hk.setN _ _ (by omega)
      rw [w_ixL (seqAt_lst (hk2.2 _ _ (by simp) hl0)) (v := .ref q) (by rw [List.getElem?_map, a1]; rfl)]
      have hm' : cnt n F + L'.length + 1 ≤ m ∧ m ≤ 1000 := by simp at hm; omega
      have metH : here = a ∨ (Met rs ws a here ∧ here ∉ ws) := hh.2.imp id fun h => ⟨hI.met _ hh.1 h.1, h.2⟩
      have metS : ∀ c, (here, c) ∈ rs → Met rs ws a c := fun c hc => by
        rcases metH with rfl | ⟨h, h'⟩
        · exact .one hc
        · exact .more h h' hc
      refine .mk (R.map nv) (MJ2 s n rs ws a l (.tup (ws.map nv)) m here R) (Lk.lst (hk2.2 _ _ (by simp) a2)) (by simp; omega) ?_ ?_ ?_ ?_
      · refine ⟨o6, F, L', rfl, hk2, ?_, ?_, ⟨hI.met, fun x hx => hI.left x (List.mem_append_left _ hx), fun x hx hne hh' => ?_⟩, hm', by simp⟩
        · rw [List.getElem?_set_ne (by omega)]; exact hf
        · rw [List.getElem?_set_self (by omega)]
        · rcases hI.done x hx (fun h => h) hh' with h | h
          · rcases List.mem_append.mp h with h | h
            · exact Or.inl h
            · exact absurd (List.mem_singleton.mp h) hne
          · exact Or.inr h
      · rintro j en s1 ⟨_, _, _, _, hk3, _⟩
        exact Lk.lst (hk3.2 _ _ (by simp) a2)
      · rintro j x en s1 hx ⟨o6, F, L, rfl, hk3, hf, hg, hI, hm, hd⟩
        rw [List.getElem?_map] at hx
        cases hr : R[j]? with
        | none => rw [hr] at hx; exact nomatch hx
        | some t =>
          rw [hr] at hx
          cases hx
          have htr : (here, t) ∈ rs := (a3 t).mp (List.mem_of_getElem? hr)
          have htn : t < n := (hin _ htr).2
          have htk : R.take (j + 1) = R.take j ++ [t] := by rw [List.take_add_one, hr]; rfl
          have hlf := lt_of_get hf
          have hlg := lt_of_get hg
          simp only [g_name, List.set]
          refine x_ife ?_
          simp only [t_not, t_tru, w_op, w_varS, w_var0]
          rw [w_ixL (seqAt_lst hf) (fl_get F htn), truth_bl]
          cases hF : F t with
          | true =>
            rw [if_neg (by simp), x_skip]
            refine ⟨_, F, L, rfl, hk3, hf, hg, hI, hm, fun c hc => ?_⟩
            rw [htk] at hc
            rcases List.mem_append.mp hc with h | h
            · exact hd c h
            · rw [List.mem_singleton.mp h]; exact hF
          | false =>
            rw [if_pos (by simp), x_seq]
            refine x_asg ?_
            simp only [w_c, g_sub, w_varS, w_var0]
            rw [w_setIx hf (by rw [fl_len]; exact htn), fl_set F htn]
            refine x_ife ?_
            simp only [t_val, w_op, w_varS, w_var0, w_inT, onB_bl]
            have hc1 := cnt_upd htn hF
            have hd' : ∀ c ∈ R.take (j + 1), upd F t c = true := fun c hc => by
              rw [htk] at hc
              rcases List.mem_append.mp hc with h | h
              · exact upd_mono t (hd c h)
              · rw [List.mem_singleton.mp h]; exact upd_self F t
            have met' : ∀ b, b < n → upd F t b = true → Met rs ws a b := fun b hb h => by
              rcases upd_of h with rfl | h
              · exact metS _ htr
              · exact hI.met b hb h
            by_cases hw : t ∈ ws
            · rw [if_neg (by simp [hw]), x_skip]
              refine ⟨_, upd F t, L, rfl, hk3.setN _ _ (by omega), ?_, ?_, ⟨met', fun x hx => ?_, fun x hx hne hh' => ?_⟩, by omega, hd'⟩
              · rw [List.getElem?_set_self hlf]
              · rw [List.getElem?_set_ne (by omega)]; exact hg
              · have := hI.left x hx
                exact ⟨this.1, this.2.imp id fun h => ⟨upd_mono t h.1, h.2⟩⟩
              · refine (hI.done x hx hne (hh'.imp id fun h => ⟨?_, h.2⟩)).imp id fun h c hc => upd_mono t (h c hc)
                rcases upd_of h.1 with rfl | h'
                · exact absurd hw h.2
                · exact h'
            · rw [if_pos (by simp [hw])]
              refine x_expr ?_
              simp only [w_lmeth, w_varS, w_var0, w_cons, w_nil]
              have hg' : (s1.set (s.length + 1) (.lst (fl n (upd F t))))[s.length + 2]? = some (.lst (L.map nv)) := by rw [List.getElem?_set_ne (by omega)]; exact hg
              rw [if_pos (isLst_of hg'), w_append hg' (by have := cnt_le (n := n) F; simp; unfold lineZ; omega)]
              refine ⟨_, upd F t, L ++ [t], rfl, (hk3.setN _ _ (by omega)).setN _ _ (by omega), ?_, ?_, ⟨met', fun x hx => ?_, fun x hx hne hh' => ?_⟩, by simp; omega, hd'⟩
              · rw [List.getElem?_set_ne (by omega), List.getElem?_set_self hlf]
              · rw [List.getElem?_set_self (by rw [List.length_set]; exact hlg)]; simp
              · rcases List.mem_append.mp hx with h | h
                · have := hI.left x h
                  exact ⟨this.1, this.2.imp id fun h => ⟨upd_mono t h.1, h.2⟩⟩
                · rw [List.mem_singleton.mp h]; exact ⟨htn, Or.inr ⟨upd_self F t, hw⟩⟩
              · by_cases e : x = t
                · exact Or.inl (by rw [e]; simp)
                · refine (hI.done x hx hne (hh'.imp id fun h => ⟨?_, h.2⟩)).imp (List.mem_append_left _) fun h c hc => upd_mono t (h c hc)
                  exact (upd_of h.1).resolve_left e
      · rintro en s1 ⟨o6, F, L, rfl, hk3, hf, hg, hI, hm, hd⟩
        refine ⟨m - 1, by omega, _, _, F, L, rfl, hk3, hf, hg, ⟨hI.met, hI.left, fun x hx _ hh' => ?_⟩, by omega⟩
        by_cases e : x = here
        · subst e
          exact Or.inr fun c hc => hd c (by rw [List.take_of_length_le (by simp)]; exact (a3 c).mpr hc)
        · exact hI.done x hx e hh'
end
end Sp
namespace Sp
open PySem Mi Mr
section
variable {n : Nat} {rs : List (Nat × Nat)} {ws : List Nat}
/-- walks, told as a truth value -/
noncomputable def mB (rs : List (Nat × Nat)) (ws : List Nat) (a b : Nat) : Bool := @decide (Met rs ws a b) (Classical.propDecidable _)
theorem mB_iff {a b : Nat} : mB rs ws a b = true ↔ Met rs ws a b := by unfold mB; exact @decide_eq_true_iff _ (Classical.propDecidable _)
theorem mB_of {a b : Nat} {x : Bool} (h : x = true ↔ Met rs ws a b) : x = mB rs ws a b := by
  rw [Bool.eq_iff_iff]; exact h.trans mB_iff.symm
noncomputable def PC (n : Nat) (rs : List (Nat × Nat)) (ws : List Nat) (a : Nat) : List Nat :=
  if a ∈ ws then [a] else (List.range n).filter fun b => decide (b = a) || (mB rs ws a b && (mB rs ws b a && !decide (b ∈ ws)))
noncomputable def CM (n : Nat) (rs : List (Nat × Nat)) (ws : List Nat) (a : Nat) : List Nat := (List.range n).filter fun b => !decide (b ∈ ws) && mB rs ws a b
noncomputable def EN (rs : List (Nat × Nat)) (ws : List Nat) (a : Nat) : List Nat := ws.filter fun b => mB rs ws a b
theorem mem_PC {a b : Nat} (h : a ∉ ws) : b ∈ PC n rs ws a ↔ b < n ∧ (b = a ∨ (Met rs ws a b ∧ Met rs ws b a ∧ b ∉ ws)) := by
  unfold PC; rw [if_neg h, List.mem_filter, List.mem_range]; simp [mB_iff]
theorem self_PC {a : Nat} (h : a < n) : a ∈ PC n rs ws a := by
  by_cases hw : a ∈ ws
  · unfold PC; rw [if_pos hw]; simp
  · exact (mem_PC hw).mpr ⟨h, Or.inl rfl⟩
theorem lt_PC {a b : Nat} (ha : a < n) (h : b ∈ PC n rs ws a) : b < n := by
  by_cases hw : a ∈ ws
  · unfold PC at h; rw [if_pos hw, List.mem_singleton] at h; omega
  · exact ((mem_PC hw).mp h).1
/-- places of one piece -/
theorem same_PC {a b : Nat} (ha : a < n) (h : b ∈ PC n rs ws a) : PC n rs ws b = PC n rs ws a ∧ CM n rs ws b = CM n rs ws a ∧ EN rs ws b = EN rs ws a := by
  by_cases hw : a ∈ ws
  · unfold PC at h; rw [if_pos hw, List.mem_singleton] at h; subst h; exact ⟨rfl, rfl, rfl⟩
  · rcases ((mem_PC hw).mp h).2 with rfl | ⟨h1, h2, h3⟩
    · exact ⟨rfl, rfl, rfl⟩
    · have fw : ∀ c, mB rs ws b c = mB rs ws a c := fun c => mB_of (mB_iff.trans ⟨fun k => h1.tr h3 k, fun k => h2.tr hw k⟩)
      have bw : ∀ c, mB rs ws c b = mB rs ws c a := fun c => mB_of (mB_iff.trans ⟨fun k => k.tr h3 h2, fun k => k.tr hw h1⟩)
      refine ⟨?_, ?_, ?_⟩
      · unfold PC; rw [if_neg hw, if_neg h3]
        refine List.filter_congr fun c _ => ?_
        rw [fw, bw]
        by_cases e : c = b
        · subst e
          have e1 : mB rs ws a c = true := mB_iff.mpr h1
          have e2 : mB rs ws c a = true := mB_iff.mpr h2
          simp [e1, e2, h3]
        · by_cases e' : c = a
          · subst e'
            have e1 : mB rs ws c c = true := mB_iff.mpr (h1.tr h3 h2)
            simp [e1, hw]
          · simp [e, e']
      · unfold CM; exact List.filter_congr fun c _ => by rw [fw]
      · unfold EN; exact List.filter_congr fun c _ => by rw [fw]
variable {Q : AV → Sto → Prop} {s : Sto}
theorem rev_in (h : ∀ r ∈ rs, r.1 < n ∧ r.2 < n) : ∀ r ∈ rev rs, r.1 < n ∧ r.2 < n := by
  intro r hr
  have := h (r.2, r.1) (mem_rev.mp (show (r.1, r.2) ∈ rev rs from hr))
  exact ⟨this.2, this.1⟩
theorem fl_mB {F : Nat → Bool} {a : Nat} (h : ∀ b, b < n → (F b = true ↔ Met rs ws a b)) : fl n F = fl n (mB rs ws a) := by
  unfold fl
  refine List.map_congr_left fun b hb => ?_
  rw [mB_of (h b (List.mem_range.mp hb))]
theorem met_w {a : Nat} (V : VM n rs ws) (ha : a < n) (k : ∀ f s', Kp [] s s' → s.length ≤ f → s'[f]? = some (.lst (fl n (mB rs ws a))) → Q (.ref f) s') : W (m_met [CH n rs ws, nv a] s) Q := by
  unfold m_met b_met
  refine d_runn (by rfl) (x_ret ?_)
  simp only [w_calln, w_cons, w_nil, List.map_cons, List.map_nil, List.cons_append, w_var0, w_varS, w_op, w_c, w_ch2, KR_ret]
  refine roads_from_w (R := .tup (rs.map pr)) (Lk.tup _ _) V.inr V.hn V.hr fun l s1 k1 _ hR => ?_
  refine met_by_w hR V.inr V.hn V.hr ha fun f s2 F k2 hf hF hM => ?_
  exact k f s2 (k1.trans k2) (Nat.le_trans k1.1 hf) (by rw [hF, fl_mB hM])
theorem turned_w (V : VM n rs ws) (k : ∀ l s', Kp [] s s' → s.length ≤ l → Rows s' l n (rev rs) → Q (.ref l) s') : W (m_turned_roads [CH n rs ws] s) Q := by
  unfold m_turned_roads b_turned_roads
  refine d_runn (by rfl) (x_ret ?_)
  simp only [w_calln, w_cons, w_nil, w_tup, List.map_cons, List.map_nil, List.cons_append, w_var0, w_varS, w_op, w_c, w_ch0, w_ch2, KR_ret]
  refine lc_pure rs pr (fun _ => true) (fun r => pr (r.2, r.1)) (i_seq ?_)
  simp only [w_op, w_var0, w_c, w_ch1]
  refine .mk _ (Lk.tup _ _) (fun _ => .mk (by have := V.hr; unfold lineZ; omega) (Or.inl rfl) ?_ ?_) (fun l e => nomatch e)
  · intro r hr s1 hk
    unfold pr
    simp [lineZ, wipe, Kp.refl]
  · intro s1 hk hD
    rw [if_pos (by unfold lineZ; simp)]
    have e : ((rs.filter fun _ => true).map fun r => pr (r.2, r.1)) = (rev rs).map pr := by
      unfold rev; rw [List.filter_eq_self.mpr (fun _ _ => rfl), List.map_map]; rfl
    rw [e] at hD
    refine roads_from_w (R := .ref s.length) (rs := rev rs) (Lk.lst hD) (rev_in V.inr) V.hn (by unfold rev; simp; exact V.hr) fun l s2 k2 hl hR => ?_
    exact k l s2 (hk.trans k2) (Nat.le_trans hk.1 hl) hR
end
end Sp
namespace Sp
open PySem Mi Mr
section
variable {n : Nat} {rs : List (Nat × Nat)} {ws : List Nat} {Q : AV → Sto → Prop} {s : Sto}
theorem map_nv_tn (xs : List Nat) : AV.tup (xs.map nv) = tn xs := rfl
theorem ix_fl {F : Nat → Bool} {f b : Nat} (h : s[f]? = some (.lst (fl n F))) (hb : b < n) : W (ixAV (.ref f) (nv b) s) Q = Q (.bl (F b)) s := w_ixL (seqAt_lst h) (fl_get F hb)
theorem piece_from_w {a : Nat} (V : VM n rs ws) (ha : a < n) (k : ∀ s', Kp [] s s' → Q (tn (PC n rs ws a)) s') : W (m_piece_from [CH n rs ws, nv a] s) Q := by
  unfold m_piece_from b_piece_from
  refine d_runn (by rfl) ?_
  simp only [w_calln, w_call, w_cons, w_nil, w_tup, w_lst, w_op, w_un, w_c, w_var0, w_varS, w_and, w_or, w_not, w_iteE, w_lmeth, t_val, t_tru, t_and, t_or, t_not, t_yes, w_ch0, w_ch1, w_ch2, w_pr0, w_pr1, w_ix20, w_ix21, w_ix30, w_ix31, w_ix32, w_inT, w_eqI, w_add, w_sub, w_lt, w_le, w_gt, w_ge, w_neg, w_lenT, w_int, w_min, w_max, w_tupT, onB_bl, truth_bl, x_seq, x_skip, KR_ret, TK_ret, TK_brk, TK_cnt, g_name, g_unp, g_allS, g_all0, g_sub, lz0, lz1, lz2, lz3, lz4, lz5, lz6, lz7, lz8, List.set, wipe, List.map_cons, List.map_nil, List.cons_append, List.nil_append, List.length_cons, List.length_nil, Nat.reduceAdd, Nat.reduceSub, List.replicate_succ, List.replicate_zero, eq_self, Bool.false_eq_true, if_true, if_false]
  refine x_ife ?_
  simp only [w_calln, w_call, w_cons, w_nil, w_tup, w_lst, w_op, w_un, w_c, w_var0, w_varS, w_and, w_or, w_not, w_iteE, w_lmeth, t_val, t_tru, t_and, t_or, t_not, t_yes, w_ch0, w_ch1, w_ch2, w_pr0, w_pr1, w_ix20, w_ix21, w_ix30, w_ix31, w_ix32, w_inT, w_eqI, w_add, w_sub, w_lt, w_le, w_gt, w_ge, w_neg, w_lenT, w_int, w_min, w_max, w_tupT, onB_bl, truth_bl, x_seq, x_skip, KR_ret, TK_ret, TK_brk, TK_cnt, g_name, g_unp, g_allS, g_all0, g_sub, lz0, lz1, lz2, lz3, lz4, lz5, lz6, lz7, lz8, List.set, wipe, List.map_cons, List.map_nil, List.cons_append, List.nil_append, List.length_cons, List.length_nil, Nat.reduceAdd, Nat.reduceSub, List.replicate_succ, List.replicate_zero, eq_self, Bool.false_eq_true, if_true, if_false]
  by_cases hw : a ∈ ws
  · rw [if_pos (by simp [hw])]
    refine x_ret ?_
    simp only [w_calln, w_call, w_cons, w_nil, w_tup, w_lst, w_op, w_un, w_c, w_var0, w_varS, w_and, w_or, w_not, w_iteE, w_lmeth, t_val, t_tru, t_and, t_or, t_not, t_yes, w_ch0, w_ch1, w_ch2, w_pr0, w_pr1, w_ix20, w_ix21, w_ix30, w_ix31, w_ix32, w_inT, w_eqI, w_add, w_sub, w_lt, w_le, w_gt, w_ge, w_neg, w_lenT, w_int, w_min, w_max, w_tupT, onB_bl, truth_bl, x_seq, x_skip, KR_ret, TK_ret, TK_brk, TK_cnt, g_name, g_unp, g_allS, g_all0, g_sub, lz0, lz1, lz2, lz3, lz4, lz5, lz6, lz7, lz8, List.set, wipe, List.map_cons, List.map_nil, List.cons_append, List.nil_append, List.length_cons, List.length_nil, Nat.reduceAdd, Nat.reduceSub, List.replicate_succ, List.replicate_zero, eq_self, Bool.false_eq_true, if_true, if_false]
    have := k s (Kp.refl _)
    unfold PC at this; rw [if_pos hw] at this
    exact this
  · rw [if_neg (by simp [hw])]
    refine x_asg ?_
    simp only [w_calln, w_call, w_cons, w_nil, w_tup, w_lst, w_op, w_un, w_c, w_var0, w_varS, w_and, w_or, w_not, w_iteE, w_lmeth, t_val, t_tru, t_and, t_or, t_not, t_yes, w_ch0, w_ch1, w_ch2, w_pr0, w_pr1, w_ix20, w_ix21, w_ix30, w_ix31, w_ix32, w_inT, w_eqI, w_add, w_sub, w_lt, w_le, w_gt, w_ge, w_neg, w_lenT, w_int, w_min, w_max, w_tupT, onB_bl, truth_bl, x_seq, x_skip, KR_ret, TK_ret, TK_brk, TK_cnt, g_name, g_unp, g_allS, g_all0, g_sub, lz0, lz1, lz2, lz3, lz4, lz5, lz6, lz7, lz8, List.set, wipe, List.map_cons, List.map_nil, List.cons_append, List.nil_append, List.length_cons, List.length_nil, Nat.reduceAdd, Nat.reduceSub, List.replicate_succ, List.replicate_zero, eq_self, Bool.false_eq_true, if_true, if_false]
    refine met_w V ha fun f s1 k1 hf h1 => ?_
    refine turned_w V fun l s2 k2 hl hR => ?_
    refine met_by_w hR (rev_in V.inr) V.hn (by unfold rev; simp; exact V.hr) ha fun g s3 F k3 hg h3 hF => ?_
    have h3 : s3[g]? = some (.lst (fl n (mB (rev rs) ws a))) := by rw [h3, fl_mB hF]
    have h1 : s3[f]? = some (.lst (fl n (mB rs ws a))) := k3.2 _ _ (by simp) (k2.2 _ _ (by simp) h1)
    refine x_ret ?_
    simp only [w_calln, w_call, w_cons, w_nil, w_tup, w_lst, w_op, w_un, w_c, w_var0, w_varS, w_and, w_or, w_not, w_iteE, w_lmeth, t_val, t_tru, t_and, t_or, t_not, t_yes, w_ch0, w_ch1, w_ch2, w_pr0, w_pr1, w_ix20, w_ix21, w_ix30, w_ix31, w_ix32, w_inT, w_eqI, w_add, w_sub, w_lt, w_le, w_gt, w_ge, w_neg, w_lenT, w_int, w_min, w_max, w_tupT, onB_bl, truth_bl, x_seq, x_skip, KR_ret, TK_ret, TK_brk, TK_cnt, g_name, g_unp, g_allS, g_all0, g_sub, lz0, lz1, lz2, lz3, lz4, lz5, lz6, lz7, lz8, List.set, wipe, List.map_cons, List.map_nil, List.cons_append, List.nil_append, List.length_cons, List.length_nil, Nat.reduceAdd, Nat.reduceSub, List.replicate_succ, List.replicate_zero, eq_self, Bool.false_eq_true, if_true, if_false]
    refine lc_pure (List.range n) nv (fun b => decide (b = a) || (mB rs ws a b && (mB rs ws b a && !decide (b ∈ ws)))) nv (i_range ?_)
    simp only [w_calln, w_call, w_cons, w_nil, w_tup, w_lst, w_op, w_un, w_c, w_var0, w_varS, w_and, w_or, w_not, w_iteE, w_lmeth, t_val, t_tru, t_and, t_or, t_not, t_yes, w_ch0, w_ch1, w_ch2, w_pr0, w_pr1, w_ix20, w_ix21, w_ix30, w_ix31, w_ix32, w_inT, w_eqI, w_add, w_sub, w_lt, w_le, w_gt, w_ge, w_neg, w_lenT, w_int, w_min, w_max, w_tupT, onB_bl, truth_bl, x_seq, x_skip, KR_ret, TK_ret, TK_brk, TK_cnt, g_name, g_unp, g_allS, g_all0, g_sub, lz0, lz1, lz2, lz3, lz4, lz5, lz6, lz7, lz8, List.set, wipe, List.map_cons, List.map_nil, List.cons_append, List.nil_append, List.length_cons, List.length_nil, Nat.reduceAdd, Nat.reduceSub, List.replicate_succ, List.replicate_zero, eq_self, Bool.false_eq_true, if_true, if_false]
    refine .mk n rfl (by have := V.hn; omega) ?_
    refine .mk (by have := V.hn; unfold lineZ; simp; omega) (Or.inl rfl) ?_ ?_
    · intro b hb s' hk
      have hb := List.mem_range.mp hb
      simp only [w_calln, w_call, w_cons, w_nil, w_tup, w_lst, w_op, w_un, w_c, w_var0, w_varS, w_and, w_or, w_not, w_iteE, w_lmeth, t_val, t_tru, t_and, t_or, t_not, t_yes, w_ch0, w_ch1, w_ch2, w_pr0, w_pr1, w_ix20, w_ix21, w_ix30, w_ix31, w_ix32, w_inT, w_eqI, w_add, w_sub, w_lt, w_le, w_gt, w_ge, w_neg, w_lenT, w_int, w_min, w_max, w_tupT, onB_bl, truth_bl, x_seq, x_skip, KR_ret, TK_ret, TK_brk, TK_cnt, g_name, g_unp, g_allS, g_all0, g_sub, lz0, lz1, lz2, lz3, lz4, lz5, lz6, lz7, lz8, List.set, wipe, List.map_cons, List.map_nil, List.cons_append, List.nil_append, List.length_cons, List.length_nil, Nat.reduceAdd, Nat.reduceSub, List.replicate_succ, List.replicate_zero, eq_self, Bool.false_eq_true, if_true, if_false]
      have hr : mB (rev rs) ws a b = mB rs ws b a := mB_of (mB_iff.trans met_rev)
      rw [ix_fl (hk.2 _ _ (by simp) h1) hb, truth_bl, ix_fl (hk.2 _ _ (by simp) h3) hb, truth_bl, hr]
      by_cases e : b = a
      · subst e; simp [Kp.refl]
      · have e' : ¬ ((b : Int) = (a : Int)) := by omega
        cases mB rs ws a b <;> cases mB rs ws b a <;> simp [e, e', Kp.refl]
    · intro s' hk hD
      rw [w_tupL (seqAt_lst hD)]
      have := k s' (((k1.trans k2).trans k3).trans hk)
      unfold PC at this; rw [if_neg hw] at this
      exact this
/-- tables of tuples of places -/
def tb (n : Nat) (f : Nat → List Nat) : List AV := (List.range n).map fun b => tn (f b)
theorem tb_len (f : Nat → List Nat) : (tb n f).length = n := by unfold tb; simp
theorem tb_get (f : Nat → List Nat) {b : Nat} (h : b < n) : (tb n f)[b]? = some (tn (f b)) := by
  unfold tb; rw [List.getElem?_map, List.getElem?_range h]; rfl
theorem tb_congr {f g : Nat → List Nat} (h : ∀ b, b < n → f b = g b) : tb n f = tb n g := by
  unfold tb; exact List.map_congr_left fun b hb => by rw [h b (List.mem_range.mp hb)]
theorem tb_set (f : Nat → List Nat) (xs : List Nat) {t : Nat} (h : t < n) : (tb n f).set t (tn xs) = tb n fun b => if b = t then xs else f b := by
  refine List.ext_getElem? fun i => ?_
  rw [List.getElem?_set]
  by_cases hi : i < n
  · rw [tb_get (fun b => if b = t then xs else f b) hi]
    by_cases e : t = i
    · subst e; rw [if_pos rfl, tb_len, if_pos h, if_pos rfl]
    · rw [if_neg e, tb_get _ hi, if_neg (fun g => e g.symm)]
  · rw [if_neg (by omega)]
    rw [List.getElem?_eq_none (by rw [tb_len]; omega), List.getElem?_eq_none (by rw [tb_len]; omega)]
theorem tb_rep : List.replicate n (AV.tup []) = tb n fun _ => [] := by
  refine List.ext_getElem? fun i => ?_
  by_cases hi : i < n
  · rw [List.getElem?_replicate, if_pos hi, tb_get _ hi]; rfl
  · rw [List.getElem?_eq_none (by simp; omega), List.getElem?_eq_none (by rw [tb_len]; omega)]
def G2 (G : Nat → Bool) (f : Nat → List Nat) (b : Nat) : List Nat := if G b = true then f b else []
/-- the state of tables -/
structure TS (n : Nat) (rs : List (Nat × Nat)) (ws : List Nat) (s s' : Sto) (f1 f2 f3 : Nat) (G : Nat → Bool) : Prop where
  kp : Kp [] s s'
  g1 : s.length ≤ f1
  g2 : s.length ≤ f2
  g3 : s.length ≤ f3
  n12 : f1 ≠ f2
  n13 : f1 ≠ f3
  n23 : f2 ≠ f3
  h1 : s'[f1]? = some (.lst (tb n (G2 G (CM n rs ws))))
  h2 : s'[f2]? = some (.lst (tb n (G2 G (EN rs ws))))
  h3 : s'[f3]? = some (.lst (tb n (G2 G (PC n rs ws))))
theorem TS.keep {s s' s'' : Sto} {f1 f2 f3 : Nat} {G : Nat → Bool} (T : TS n rs ws s s' f1 f2 f3 G) (k : Kp [] s' s'') : TS n rs ws s s'' f1 f2 f3 G :=
  ⟨T.kp.trans k, T.g1, T.g2, T.g3, T.n12, T.n13, T.n23, k.2 _ _ (by simp) T.h1, k.2 _ _ (by simp) T.h2, k.2 _ _ (by simp) T.h3⟩
theorem TS.set {s s' : Sto} {f1 f2 f3 : Nat} {G : Nat → Bool} (T : TS n rs ws s s' f1 f2 f3 G) {b : Nat} (hb : b < n) :
    TS n rs ws s (((s'.set f1 (.lst ((tb n (G2 G (CM n rs ws))).set b (tn (CM n rs ws b))))).set f2 (.lst ((tb n (G2 G (EN rs ws))).set b (tn (EN rs ws b))))).set f3 (.lst ((tb n (G2 G (PC n rs ws))).set b (tn (PC n rs ws b))))) f1 f2 f3 (upd G b) := by
  have l1 := lt_of_get T.h1
  have l2 := lt_of_get T.h2
  have l3 := lt_of_get T.h3
  have e : ∀ f : Nat → List Nat, (tb n (G2 G f)).set b (tn (f b)) = tb n (G2 (upd G b) f) := fun f => by
    rw [tb_set _ _ hb]
    refine tb_congr fun c _ => ?_
    unfold G2 upd
    by_cases e : c = b
    · subst e; simp
    · simp [e]
  rw [e, e, e]
  exact ⟨((T.kp.setN _ _ T.g1).setN _ _ T.g2).setN _ _ T.g3, T.g1, T.g2, T.g3, T.n12, T.n13, T.n23,
    by rw [List.getElem?_set_ne (fun h => T.n13 h.symm), List.getElem?_set_ne (fun h => T.n12 h.symm), List.getElem?_set_self l1],
    by rw [List.getElem?_set_ne (fun h => T.n23 h.symm), List.getElem?_set_self (by rw [List.length_set]; exact l2)],
    by rw [List.getElem?_set_self (by rw [List.length_set, List.length_set]; exact l3)]⟩
end
end Sp
namespace Sp
open PySem Mi Mr
section
variable {n : Nat} {rs : List (Nat × Nat)} {ws : List Nat} {Q : AV → Sto → Prop} {s : Sto}
theorem ix_tb {f : Nat → List Nat} {l b : Nat} (h : s[l]? = some (.lst (tb n f))) (hb : b < n) : W (ixAV (.ref l) (nv b) s) Q = Q (tn (f b)) s := w_ixL (seqAt_lst h) (tb_get f hb)
theorem set_tb {N : En → Sto → Prop} {en : En} {f : Nat → List Nat} {l b : Nat} {v : AV} (h : s[l]? = some (.lst (tb n f))) (hb : b < n) : Wf (G.setIx (.ref l) (nv b) v en s) N = N en (s.set l (.lst ((tb n f).set b v))) := w_setIx h (by rw [tb_len]; exact hb)
/-- what stands in the names of tables -/
def TE (n : Nat) (rs : List (Nat × Nat)) (ws : List Nat) (l1 l2 l3 f1 f2 f3 : Nat) (r : En) : En :=
  some (CH n rs ws) :: some (nv n) :: some (.tup (rs.map pr)) :: some (.tup (ws.map nv)) :: some (.ref l1) :: some (.ref l2) :: some (.ref l3) :: some (.ref f1) :: some (.ref f2) :: some (.ref f3) :: r
theorem tables_w (V : VM n rs ws) (k : ∀ f1 f2 f3 s', TS n rs ws s s' f1 f2 f3 (fun b => decide (b < n)) → Q (.tup [.ref f1, .ref f2, .ref f3]) s') : W (m_tables [CH n rs ws] s) Q := by
  have hn := V.hn
  unfold m_tables b_tables
  refine d_runn (by rfl) ?_
  simp only [w_calln, w_call, w_cons, w_nil, w_tup, w_lst, w_op, w_un, w_c, w_var0, w_varS, w_and, w_or, w_not, w_iteE, w_lmeth, t_val, t_tru, t_and, t_or, t_not, t_yes, w_ch0, w_ch1, w_ch2, w_pr0, w_pr1, w_ix20, w_ix21, w_ix30, w_ix31, w_ix32, w_inT, w_eqI, w_add, w_sub, w_lt, w_le, w_gt, w_ge, w_neg, w_lenT, w_int, w_min, w_max, w_tupT, onB_bl, truth_bl, x_seq, x_skip, KR_ret, TK_ret, TK_brk, TK_cnt, g_name, g_unp, g_allS, g_all0, g_sub, lz0, lz1, lz2, lz3, lz4, lz5, lz6, lz7, lz8, List.set, wipe, List.map_cons, List.map_nil, List.cons_append, List.nil_append, List.length_cons, List.length_nil, Nat.reduceAdd, Nat.reduceSub, List.replicate_succ, List.replicate_zero, eq_self, Bool.false_eq_true, if_true, if_false]
  refine x_asg ?_
  simp only [w_var0]
  unfold CH
  simp only [w_calln, w_call, w_cons, w_nil, w_tup, w_lst, w_op, w_un, w_c, w_var0, w_varS, w_and, w_or, w_not, w_iteE, w_lmeth, t_val, t_tru, t_and, t_or, t_not, t_yes, w_ch0, w_ch1, w_ch2, w_pr0, w_pr1, w_ix20, w_ix21, w_ix30, w_ix31, w_ix32, w_inT, w_eqI, w_add, w_sub, w_lt, w_le, w_gt, w_ge, w_neg, w_lenT, w_int, w_min, w_max, w_tupT, onB_bl, truth_bl, x_seq, x_skip, KR_ret, TK_ret, TK_brk, TK_cnt, g_name, g_unp, g_allS, g_all0, g_sub, lz0, lz1, lz2, lz3, lz4, lz5, lz6, lz7, lz8, List.set, wipe, List.map_cons, List.map_nil, List.cons_append, List.nil_append, List.length_cons, List.length_nil, Nat.reduceAdd, Nat.reduceSub, List.replicate_succ, List.replicate_zero, eq_self, Bool.false_eq_true, if_true, if_false]
  refine x_asg ?_
  simp only [w_calln, w_call, w_cons, w_nil, w_tup, w_lst, w_op, w_un, w_c, w_var0, w_varS, w_and, w_or, w_not, w_iteE, w_lmeth, t_val, t_tru, t_and, t_or, t_not, t_yes, w_ch0, w_ch1, w_ch2, w_pr0, w_pr1, w_ix20, w_ix21, w_ix30, w_ix31, w_ix32, w_inT, w_eqI, w_add, w_sub, w_lt, w_le, w_gt, w_ge, w_neg, w_lenT, w_int, w_min, w_max, w_tupT, onB_bl, truth_bl, x_seq, x_skip, KR_ret, TK_ret, TK_brk, TK_cnt, g_name, g_unp, g_allS, g_all0, g_sub, lz0, lz1, lz2, lz3, lz4, lz5, lz6, lz7, lz8, List.set, wipe, List.map_cons, List.map_nil, List.cons_append, List.nil_append, List.length_cons, List.length_nil, Nat.reduceAdd, Nat.reduceSub, List.replicate_succ, List.replicate_zero, eq_self, Bool.false_eq_true, if_true, if_false]
  refine roads_from_w (R := .tup (rs.map pr)) (Lk.tup _ _) V.inr V.hn V.hr fun l1 s1 k1 hl1 R1 => ?_
  refine turned_w V fun l2 s2 k2 hl2 R2 => ?_
  refine x_asg ?_
  refine lc_pure (List.range n) nv (fun b => !decide (b ∈ ws)) nv (i_range ?_)
  simp only [w_calln, w_call, w_cons, w_nil, w_tup, w_lst, w_op, w_un, w_c, w_var0, w_varS, w_and, w_or, w_not, w_iteE, w_lmeth, t_val, t_tru, t_and, t_or, t_not, t_yes, w_ch0, w_ch1, w_ch2, w_pr0, w_pr1, w_ix20, w_ix21, w_ix30, w_ix31, w_ix32, w_inT, w_eqI, w_add, w_sub, w_lt, w_le, w_gt, w_ge, w_neg, w_lenT, w_int, w_min, w_max, w_tupT, onB_bl, truth_bl, x_seq, x_skip, KR_ret, TK_ret, TK_brk, TK_cnt, g_name, g_unp, g_allS, g_all0, g_sub, lz0, lz1, lz2, lz3, lz4, lz5, lz6, lz7, lz8, List.set, wipe, List.map_cons, List.map_nil, List.cons_append, List.nil_append, List.length_cons, List.length_nil, Nat.reduceAdd, Nat.reduceSub, List.replicate_succ, List.replicate_zero, eq_self, Bool.false_eq_true, if_true, if_false]
  refine .mk n rfl (by omega) ?_
  refine .mk (by unfold lineZ; simp; omega) (Or.inl rfl) ?_ ?_
  · intro b hb s' hk
    simp only [w_calln, w_call, w_cons, w_nil, w_tup, w_lst, w_op, w_un, w_c, w_var0, w_varS, w_and, w_or, w_not, w_iteE, w_lmeth, t_val, t_tru, t_and, t_or, t_not, t_yes, w_ch0, w_ch1, w_ch2, w_pr0, w_pr1, w_ix20, w_ix21, w_ix30, w_ix31, w_ix32, w_inT, w_eqI, w_add, w_sub, w_lt, w_le, w_gt, w_ge, w_neg, w_lenT, w_int, w_min, w_max, w_tupT, onB_bl, truth_bl, x_seq, x_skip, KR_ret, TK_ret, TK_brk, TK_cnt, g_name, g_unp, g_allS, g_all0, g_sub, lz0, lz1, lz2, lz3, lz4, lz5, lz6, lz7, lz8, List.set, wipe, List.map_cons, List.map_nil, List.cons_append, List.nil_append, List.length_cons, List.length_nil, Nat.reduceAdd, Nat.reduceSub, List.replicate_succ, List.replicate_zero, eq_self, Bool.false_eq_true, if_true, if_false]
    simp [hk, Kp.refl]
  intro s3 k3 h3
  refine x_asg ?_
  simp only [w_calln, w_call, w_cons, w_nil, w_tup, w_lst, w_op, w_un, w_c, w_var0, w_varS, w_and, w_or, w_not, w_iteE, w_lmeth, t_val, t_tru, t_and, t_or, t_not, t_yes, w_ch0, w_ch1, w_ch2, w_pr0, w_pr1, w_ix20, w_ix21, w_ix30, w_ix31, w_ix32, w_inT, w_eqI, w_add, w_sub, w_lt, w_le, w_gt, w_ge, w_neg, w_lenT, w_int, w_min, w_max, w_tupT, onB_bl, truth_bl, x_seq, x_skip, KR_ret, TK_ret, TK_brk, TK_cnt, g_name, g_unp, g_allS, g_all0, g_sub, lz0, lz1, lz2, lz3, lz4, lz5, lz6, lz7, lz8, List.set, wipe, List.map_cons, List.map_nil, List.cons_append, List.nil_append, List.length_cons, List.length_nil, Nat.reduceAdd, Nat.reduceSub, List.replicate_succ, List.replicate_zero, eq_self, Bool.false_eq_true, if_true, if_false]
  rw [w_rep (x := .tup []) (by simp) (by omega), w_rep (x := .tup []) (by simp) (by omega), w_rep (x := .tup []) (by simp) (by omega), tb_rep]
  generalize hs4 : (s3 ++ [MO.lst [AV.tup []]] ++ [MO.lst (tb n fun _ => [])] ++ [MO.lst [AV.tup []]] ++ [MO.lst (tb n fun _ => [])] ++ [MO.lst [AV.tup []]] ++ [MO.lst (tb n fun _ => [])]) = s4
  have R1 : Rows s3 l1 n rs := (R1.keep k2).keep k3
  have R2 : Rows s3 l2 n (rev rs) := R2.keep k3
  have k03 : Kp [] s s3 := (k1.trans k2).trans k3
  have T0 : TS n rs ws s s4 (s3.length + 1) (s3.length + 3) (s3.length + 5) fun _ => false := by
    have e : (G2 fun _ => false) = fun (_ : Nat → List Nat) (_ : Nat) => [] := by funext f b; rfl
    subst hs4
    have := k03.1
    refine ⟨by simpa using Kp.app _ k03, by omega, by omega, by omega, by omega, by omega, by omega, ?_, ?_, ?_⟩ <;> rw [e] <;> simp
  have kp4 : Kp [] s3 s4 := by subst hs4; simpa using Kp.app _ (Kp.refl s3)
  have e1 : List.length (s3 ++ [MO.lst [AV.tup []]]) = s3.length + 1 := by simp
  have e2 : List.length (s3 ++ [MO.lst [AV.tup []]] ++ [MO.lst (tb n fun _ => [])] ++ [MO.lst [AV.tup []]]) = s3.length + 3 := by simp
  have e3 : List.length (s3 ++ [MO.lst [AV.tup []]] ++ [MO.lst (tb n fun _ => [])] ++ [MO.lst [AV.tup []]] ++ [MO.lst (tb n fun _ => [])] ++ [MO.lst [AV.tup []]]) = s3.length + 5 := by simp
  rw [e1, e2, e3]
  clear hs4 e1 e2 e3
  refine for_r ?_
  simp only [w_calln, w_call, w_cons, w_nil, w_tup, w_lst, w_op, w_un, w_c, w_var0, w_varS, w_and, w_or, w_not, w_iteE, w_lmeth, t_val, t_tru, t_and, t_or, t_not, t_yes, w_ch0, w_ch1, w_ch2, w_pr0, w_pr1, w_ix20, w_ix21, w_ix30, w_ix31, w_ix32, w_inT, w_eqI, w_add, w_sub, w_lt, w_le, w_gt, w_ge, w_neg, w_lenT, w_int, w_min, w_max, w_tupT, onB_bl, truth_bl, x_seq, x_skip, KR_ret, TK_ret, TK_brk, TK_cnt, g_name, g_unp, g_allS, g_all0, g_sub, lz0, lz1, lz2, lz3, lz4, lz5, lz6, lz7, lz8, List.set, wipe, List.map_cons, List.map_nil, List.cons_append, List.nil_append, List.length_cons, List.length_nil, Nat.reduceAdd, Nat.reduceSub, List.replicate_succ, List.replicate_zero, eq_self, Bool.false_eq_true, if_true, if_false]
  refine .mk n (fun a en s' => Kp [] s3 s' ∧ (∃ o0 o1 o2 o3 o4 o5 o6 : Option AV, en = TE n rs ws l1 l2 s2.length (s3.length + 1) (s3.length + 3) (s3.length + 5) [o0, o1, o2, o3, o4, o5, o6]) ∧ ∃ Dn : Nat → Bool, TS n rs ws s s' (s3.length + 1) (s3.length + 3) (s3.length + 5) Dn ∧ ∀ b, b < a → Dn b = true) rfl (by omega) ⟨kp4, ⟨_, _, _, _, _, _, _, rfl⟩, _, T0, fun b h => absurd h (Nat.not_lt_zero b)⟩ ?_ ?_
  · rintro a en s5 ha ⟨k5, ⟨o0, o1, o2, o3, o4, o5, o6, rfl⟩, Dn, U, hG⟩
    unfold TE
    simp only [w_calln, w_call, w_cons, w_nil, w_tup, w_lst, w_op, w_un, w_c, w_var0, w_varS, w_and, w_or, w_not, w_iteE, w_lmeth, t_val, t_tru, t_and, t_or, t_not, t_yes, w_ch0, w_ch1, w_ch2, w_pr0, w_pr1, w_ix20, w_ix21, w_ix30, w_ix31, w_ix32, w_inT, w_eqI, w_add, w_sub, w_lt, w_le, w_gt, w_ge, w_neg, w_lenT, w_int, w_min, w_max, w_tupT, onB_bl, truth_bl, x_seq, x_skip, KR_ret, TK_ret, TK_brk, TK_cnt, g_name, g_unp, g_allS, g_all0, g_sub, lz0, lz1, lz2, lz3, lz4, lz5, lz6, lz7, lz8, List.set, wipe, List.map_cons, List.map_nil, List.cons_append, List.nil_append, List.length_cons, List.length_nil, Nat.reduceAdd, Nat.reduceSub, List.replicate_succ, List.replicate_zero, eq_self, Bool.false_eq_true, if_true, if_false]
    refine x_ife ?_
    simp only [w_calln, w_call, w_cons, w_nil, w_tup, w_lst, w_op, w_un, w_c, w_var0, w_varS, w_and, w_or, w_not, w_iteE, w_lmeth, t_val, t_tru, t_and, t_or, t_not, t_yes, w_ch0, w_ch1, w_ch2, w_pr0, w_pr1, w_ix20, w_ix21, w_ix30, w_ix31, w_ix32, w_inT, w_eqI, w_add, w_sub, w_lt, w_le, w_gt, w_ge, w_neg, w_lenT, w_int, w_min, w_max, w_tupT, onB_bl, truth_bl, x_seq, x_skip, KR_ret, TK_ret, TK_brk, TK_cnt, g_name, g_unp, g_allS, g_all0, g_sub, lz0, lz1, lz2, lz3, lz4, lz5, lz6, lz7, lz8, List.set, wipe, List.map_cons, List.map_nil, List.cons_append, List.nil_append, List.length_cons, List.length_nil, Nat.reduceAdd, Nat.reduceSub, List.replicate_succ, List.replicate_zero, eq_self, Bool.false_eq_true, if_true, if_false]
    rw [ix_tb U.h3 ha]
    unfold tn
    rw [w_eqT0, onB_bl]
    by_cases hGa : Dn a = true
    · have hne : (G2 Dn (PC n rs ws) a).isEmpty = false := by
        unfold G2; rw [if_pos hGa]
        cases e : PC n rs ws a with
        | nil => have := self_PC (rs := rs) (ws := ws) ha; rw [e] at this; exact nomatch this
        | cons _ _ => rfl
      rw [hne, if_neg (by decide)]
      refine ⟨k5, ⟨_, _, _, _, _, _, _, rfl⟩, Dn, U, fun b hb => ?_⟩
      rcases Nat.lt_or_ge b a with h | h
      · exact hG b h
      · rw [show b = a by omega]; exact hGa
    · have he : (G2 Dn (PC n rs ws) a).isEmpty = true := by unfold G2; rw [if_neg hGa]; rfl
      rw [he, if_pos (by decide)]
      refine x_asg ?_
      simp only [w_calln, w_call, w_cons, w_nil, w_tup, w_lst, w_op, w_un, w_c, w_var0, w_varS, w_and, w_or, w_not, w_iteE, w_lmeth, t_val, t_tru, t_and, t_or, t_not, t_yes, w_ch0, w_ch1, w_ch2, w_pr0, w_pr1, w_ix20, w_ix21, w_ix30, w_ix31, w_ix32, w_inT, w_eqI, w_add, w_sub, w_lt, w_le, w_gt, w_ge, w_neg, w_lenT, w_int, w_min, w_max, w_tupT, onB_bl, truth_bl, x_seq, x_skip, KR_ret, TK_ret, TK_brk, TK_cnt, g_name, g_unp, g_allS, g_all0, g_sub, lz0, lz1, lz2, lz3, lz4, lz5, lz6, lz7, lz8, List.set, wipe, List.map_cons, List.map_nil, List.cons_append, List.nil_append, List.length_cons, List.length_nil, Nat.reduceAdd, Nat.reduceSub, List.replicate_succ, List.replicate_zero, eq_self, Bool.false_eq_true, if_true, if_false]
      refine met_by_w (R1.keep k5) V.inr V.hn V.hr ha fun f s6 F k6 hf h6 hF => ?_
      rw [fl_mB hF] at h6
      have rest : ∀ (K : Fl → Prop) (o : Option AV) (s7 : Sto), Kp [] s6 s7 → X (S.seq (S.asg (G.unp [G.name 14, G.name 15]) (E.tup (E.cons (E.call B.tuple_ (E.cons (E.lc (I.seq (E.var 6)) (G.name 16) (T.tru (E.op ixAV (E.var 11) (E.var 16))) (E.var 16) [16]) (E.nil))) (E.cons (E.call B.tuple_ (E.cons (E.lc (I.seq (E.var 3)) (G.name 16) (T.tru (E.op ixAV (E.var 11) (E.var 16))) (E.var 16) [16]) (E.nil))) (E.nil))))) (S.for_ (I.seq (E.var 12)) (G.name 16) (S.asg (G.unp [G.sub (E.var 7) (E.var 16), G.sub (E.var 8) (E.var 16), G.sub (E.var 9) (E.var 16)]) (E.tup (E.cons (E.var 14) (E.cons (E.var 15) (E.cons (E.var 12) (E.nil))))))) (TE n rs ws l1 l2 s2.length (s3.length + 1) (s3.length + 3) (s3.length + 5) [some (nv a), some (.ref f), some (tn (PC n rs ws a)), o, o4, o5, o6]) s7)
          (fun en s' => Kp [] s3 s' ∧ (∃ o0 o1 o2 o3 o4 o5 o6 : Option AV, en = TE n rs ws l1 l2 s2.length (s3.length + 1) (s3.length + 3) (s3.length + 5) [o0, o1, o2, o3, o4, o5, o6]) ∧ ∃ Dn : Nat → Bool, TS n rs ws s s' (s3.length + 1) (s3.length + 3) (s3.length + 5) Dn ∧ ∀ b, b < a + 1 → Dn b = true) K := by
        intro K o s7 k7
        unfold TE
        simp only [w_calln, w_call, w_cons, w_nil, w_tup, w_lst, w_op, w_un, w_c, w_var0, w_varS, w_and, w_or, w_not, w_iteE, w_lmeth, t_val, t_tru, t_and, t_or, t_not, t_yes, w_ch0, w_ch1, w_ch2, w_pr0, w_pr1, w_ix20, w_ix21, w_ix30, w_ix31, w_ix32, w_inT, w_eqI, w_add, w_sub, w_lt, w_le, w_gt, w_ge, w_neg, w_lenT, w_int, w_min, w_max, w_tupT, onB_bl, truth_bl, x_seq, x_skip, KR_ret, TK_ret, TK_brk, TK_cnt, g_name, g_unp, g_allS, g_all0, g_sub, lz0, lz1, lz2, lz3, lz4, lz5, lz6, lz7, lz8, List.set, wipe, List.map_cons, List.map_nil, List.cons_append, List.nil_append, List.length_cons, List.length_nil, Nat.reduceAdd, Nat.reduceSub, List.replicate_succ, List.replicate_zero, eq_self, Bool.false_eq_true, if_true, if_false]
        refine x_asg ?_
        simp only [w_calln, w_call, w_cons, w_nil, w_tup, w_lst, w_op, w_un, w_c, w_var0, w_varS, w_and, w_or, w_not, w_iteE, w_lmeth, t_val, t_tru, t_and, t_or, t_not, t_yes, w_ch0, w_ch1, w_ch2, w_pr0, w_pr1, w_ix20, w_ix21, w_ix30, w_ix31, w_ix32, w_inT, w_eqI, w_add, w_sub, w_lt, w_le, w_gt, w_ge, w_neg, w_lenT, w_int, w_min, w_max, w_tupT, onB_bl, truth_bl, x_seq, x_skip, KR_ret, TK_ret, TK_brk, TK_cnt, g_name, g_unp, g_allS, g_all0, g_sub, lz0, lz1, lz2, lz3, lz4, lz5, lz6, lz7, lz8, List.set, wipe, List.map_cons, List.map_nil, List.cons_append, List.nil_append, List.length_cons, List.length_nil, Nat.reduceAdd, Nat.reduceSub, List.replicate_succ, List.replicate_zero, eq_self, Bool.false_eq_true, if_true, if_false]
        refine lc_pure ((List.range n).filter fun b => !decide (b ∈ ws)) nv (mB rs ws a) nv (i_seq ?_)
        simp only [w_calln, w_call, w_cons, w_nil, w_tup, w_lst, w_op, w_un, w_c, w_var0, w_varS, w_and, w_or, w_not, w_iteE, w_lmeth, t_val, t_tru, t_and, t_or, t_not, t_yes, w_ch0, w_ch1, w_ch2, w_pr0, w_pr1, w_ix20, w_ix21, w_ix30, w_ix31, w_ix32, w_inT, w_eqI, w_add, w_sub, w_lt, w_le, w_gt, w_ge, w_neg, w_lenT, w_int, w_min, w_max, w_tupT, onB_bl, truth_bl, x_seq, x_skip, KR_ret, TK_ret, TK_brk, TK_cnt, g_name, g_unp, g_allS, g_all0, g_sub, lz0, lz1, lz2, lz3, lz4, lz5, lz6, lz7, lz8, List.set, wipe, List.map_cons, List.map_nil, List.cons_append, List.nil_append, List.length_cons, List.length_nil, Nat.reduceAdd, Nat.reduceSub, List.replicate_succ, List.replicate_zero, eq_self, Bool.false_eq_true, if_true, if_false]
        have k57 : Kp [] s5 s7 := k6.trans k7
        have h3' : seqAt s7 s2.length = some (((List.range n).filter fun b => !decide (b ∈ ws)).map nv) := seqAt_lst ((k5.trans k57).2 _ _ (by simp) h3)
        refine .mk _ (Or.inr ⟨_, rfl, h3'⟩) (fun e => nomatch e) (fun l e _ => ?_)
        cases e
        refine .mk (by have := List.length_filter_le (fun b => !decide (b ∈ ws)) (List.range n); rw [List.length_range] at this; unfold lineZ; omega) (Or.inr ⟨_, rfl, h3'⟩) ?_ ?_
        · intro b hb s' hk
          have hb := List.mem_range.mp (List.mem_filter.mp hb).1
          simp only [w_calln, w_call, w_cons, w_nil, w_tup, w_lst, w_op, w_un, w_c, w_var0, w_varS, w_and, w_or, w_not, w_iteE, w_lmeth, t_val, t_tru, t_and, t_or, t_not, t_yes, w_ch0, w_ch1, w_ch2, w_pr0, w_pr1, w_ix20, w_ix21, w_ix30, w_ix31, w_ix32, w_inT, w_eqI, w_add, w_sub, w_lt, w_le, w_gt, w_ge, w_neg, w_lenT, w_int, w_min, w_max, w_tupT, onB_bl, truth_bl, x_seq, x_skip, KR_ret, TK_ret, TK_brk, TK_cnt, g_name, g_unp, g_allS, g_all0, g_sub, lz0, lz1, lz2, lz3, lz4, lz5, lz6, lz7, lz8, List.set, wipe, List.map_cons, List.map_nil, List.cons_append, List.nil_append, List.length_cons, List.length_nil, Nat.reduceAdd, Nat.reduceSub, List.replicate_succ, List.replicate_zero, eq_self, Bool.false_eq_true, if_true, if_false]
          rw [ix_fl ((k7.trans hk).2 _ _ (by simp) h6) hb, truth_bl]
          simp [Kp.refl]
        intro s8 k8 h8
        rw [w_tupL (seqAt_lst h8)]
        refine lc_pure ws nv (mB rs ws a) nv (i_seq ?_)
        simp only [w_calln, w_call, w_cons, w_nil, w_tup, w_lst, w_op, w_un, w_c, w_var0, w_varS, w_and, w_or, w_not, w_iteE, w_lmeth, t_val, t_tru, t_and, t_or, t_not, t_yes, w_ch0, w_ch1, w_ch2, w_pr0, w_pr1, w_ix20, w_ix21, w_ix30, w_ix31, w_ix32, w_inT, w_eqI, w_add, w_sub, w_lt, w_le, w_gt, w_ge, w_neg, w_lenT, w_int, w_min, w_max, w_tupT, onB_bl, truth_bl, x_seq, x_skip, KR_ret, TK_ret, TK_brk, TK_cnt, g_name, g_unp, g_allS, g_all0, g_sub, lz0, lz1, lz2, lz3, lz4, lz5, lz6, lz7, lz8, List.set, wipe, List.map_cons, List.map_nil, List.cons_append, List.nil_append, List.length_cons, List.length_nil, Nat.reduceAdd, Nat.reduceSub, List.replicate_succ, List.replicate_zero, eq_self, Bool.false_eq_true, if_true, if_false]
        refine .mk _ (Lk.tup _ _) (fun _ => ?_) (fun l e => nomatch e)
        refine .mk (by have := asc_len V; unfold lineZ; omega) (Or.inl rfl) ?_ ?_
        · intro b hb s' hk
          have hb := V.inw b hb
          simp only [w_calln, w_call, w_cons, w_nil, w_tup, w_lst, w_op, w_un, w_c, w_var0, w_varS, w_and, w_or, w_not, w_iteE, w_lmeth, t_val, t_tru, t_and, t_or, t_not, t_yes, w_ch0, w_ch1, w_ch2, w_pr0, w_pr1, w_ix20, w_ix21, w_ix30, w_ix31, w_ix32, w_inT, w_eqI, w_add, w_sub, w_lt, w_le, w_gt, w_ge, w_neg, w_lenT, w_int, w_min, w_max, w_tupT, onB_bl, truth_bl, x_seq, x_skip, KR_ret, TK_ret, TK_brk, TK_cnt, g_name, g_unp, g_allS, g_all0, g_sub, lz0, lz1, lz2, lz3, lz4, lz5, lz6, lz7, lz8, List.set, wipe, List.map_cons, List.map_nil, List.cons_append, List.nil_append, List.length_cons, List.length_nil, Nat.reduceAdd, Nat.reduceSub, List.replicate_succ, List.replicate_zero, eq_self, Bool.false_eq_true, if_true, if_false]
          rw [ix_fl (((k7.trans k8).trans hk).2 _ _ (by simp) h6) hb, truth_bl]
          simp [Kp.refl]
        intro s9 k9 h9
        rw [w_tupL (seqAt_lst h9)]
        have c1 : AV.tup ((((List.range n).filter fun b => !decide (b ∈ ws)).filter (mB rs ws a)).map nv) = tn (CM n rs ws a) := by
          unfold CM tn; rw [List.filter_filter]
          congr 2
          exact List.filter_congr fun b _ => Bool.and_comm _ _
        have c2 : AV.tup ((ws.filter (mB rs ws a)).map nv) = tn (EN rs ws a) := rfl
        rw [c1, c2]
        have k59 : Kp [] s5 s9 := (k57.trans k8).trans k9
        refine for_w ?_
        simp only [w_calln, w_call, w_cons, w_nil, w_tup, w_lst, w_op, w_un, w_c, w_var0, w_varS, w_and, w_or, w_not, w_iteE, w_lmeth, t_val, t_tru, t_and, t_or, t_not, t_yes, w_ch0, w_ch1, w_ch2, w_pr0, w_pr1, w_ix20, w_ix21, w_ix30, w_ix31, w_ix32, w_inT, w_eqI, w_add, w_sub, w_lt, w_le, w_gt, w_ge, w_neg, w_lenT, w_int, w_min, w_max, w_tupT, onB_bl, truth_bl, x_seq, x_skip, KR_ret, TK_ret, TK_brk, TK_cnt, g_name, g_unp, g_allS, g_all0, g_sub, lz0, lz1, lz2, lz3, lz4, lz5, lz6, lz7, lz8, List.set, wipe, List.map_cons, List.map_nil, List.cons_append, List.nil_append, List.length_cons, List.length_nil, Nat.reduceAdd, Nat.reduceSub, List.replicate_succ, List.replicate_zero, eq_self, Bool.false_eq_true, if_true, if_false]
        refine .mk ((PC n rs ws a).map nv) (fun j en s' => Kp [] s3 s' ∧ (∃ o6 : Option AV, en = TE n rs ws l1 l2 s2.length (s3.length + 1) (s3.length + 3) (s3.length + 5) [some (nv a), some (.ref f), some (tn (PC n rs ws a)), o, some (tn (CM n rs ws a)), some (tn (EN rs ws a)), o6]) ∧ ∃ Dn' : Nat → Bool, TS n rs ws s s' (s3.length + 1) (s3.length + 3) (s3.length + 5) Dn' ∧ (∀ b, Dn b = true → Dn' b = true) ∧ ∀ b ∈ (PC n rs ws a).take j, Dn' b = true) (Lk.tup _ _) ?_ ⟨k5.trans k59, ⟨_, rfl⟩, Dn, U.keep k59, fun _ h => h, by simp⟩ (fun _ _ _ _ => Lk.tup _ _) ?_ ?_
        · have : (PC n rs ws a).length ≤ n + 1 := by
            unfold PC; split
            · simp
            · have := List.length_filter_le (fun b => decide (b = a) || (mB rs ws a b && (mB rs ws b a && !decide (b ∈ ws)))) (List.range n)
              rw [List.length_range] at this; omega
          simp; omega
        · rintro j x en s' hx ⟨k', ⟨o6, rfl⟩, Dn', U', hG', hj⟩
          rw [List.getElem?_map] at hx
          cases hr : (PC n rs ws a)[j]? with
          | none => rw [hr] at hx; exact nomatch hx
          | some t =>
            rw [hr] at hx
            cases hx
            have htm : t ∈ PC n rs ws a := List.mem_of_getElem? hr
            have htn := lt_PC ha htm
            have hsame := same_PC ha htm
            have htk : (PC n rs ws a).take (j + 1) = (PC n rs ws a).take j ++ [t] := by rw [List.take_add_one, hr]; rfl
            unfold TE
            simp only [w_calln, w_call, w_cons, w_nil, w_tup, w_lst, w_op, w_un, w_c, w_var0, w_varS, w_and, w_or, w_not, w_iteE, w_lmeth, t_val, t_tru, t_and, t_or, t_not, t_yes, w_ch0, w_ch1, w_ch2, w_pr0, w_pr1, w_ix20, w_ix21, w_ix30, w_ix31, w_ix32, w_inT, w_eqI, w_add, w_sub, w_lt, w_le, w_gt, w_ge, w_neg, w_lenT, w_int, w_min, w_max, w_tupT, onB_bl, truth_bl, x_seq, x_skip, KR_ret, TK_ret, TK_brk, TK_cnt, g_name, g_unp, g_allS, g_all0, g_sub, lz0, lz1, lz2, lz3, lz4, lz5, lz6, lz7, lz8, List.set, wipe, List.map_cons, List.map_nil, List.cons_append, List.nil_append, List.length_cons, List.length_nil, Nat.reduceAdd, Nat.reduceSub, List.replicate_succ, List.replicate_zero, eq_self, Bool.false_eq_true, if_true, if_false]
            refine x_asg ?_
            simp only [w_calln, w_call, w_cons, w_nil, w_tup, w_lst, w_op, w_un, w_c, w_var0, w_varS, w_and, w_or, w_not, w_iteE, w_lmeth, t_val, t_tru, t_and, t_or, t_not, t_yes, w_ch0, w_ch1, w_ch2, w_pr0, w_pr1, w_ix20, w_ix21, w_ix30, w_ix31, w_ix32, w_inT, w_eqI, w_add, w_sub, w_lt, w_le, w_gt, w_ge, w_neg, w_lenT, w_int, w_min, w_max, w_tupT, onB_bl, truth_bl, x_seq, x_skip, KR_ret, TK_ret, TK_brk, TK_cnt, g_name, g_unp, g_allS, g_all0, g_sub, lz0, lz1, lz2, lz3, lz4, lz5, lz6, lz7, lz8, List.set, wipe, List.map_cons, List.map_nil, List.cons_append, List.nil_append, List.length_cons, List.length_nil, Nat.reduceAdd, Nat.reduceSub, List.replicate_succ, List.replicate_zero, eq_self, Bool.false_eq_true, if_true, if_false]
            rw [set_tb U'.h1 htn]
            simp only [w_calln, w_call, w_cons, w_nil, w_tup, w_lst, w_op, w_un, w_c, w_var0, w_varS, w_and, w_or, w_not, w_iteE, w_lmeth, t_val, t_tru, t_and, t_or, t_not, t_yes, w_ch0, w_ch1, w_ch2, w_pr0, w_pr1, w_ix20, w_ix21, w_ix30, w_ix31, w_ix32, w_inT, w_eqI, w_add, w_sub, w_lt, w_le, w_gt, w_ge, w_neg, w_lenT, w_int, w_min, w_max, w_tupT, onB_bl, truth_bl, x_seq, x_skip, KR_ret, TK_ret, TK_brk, TK_cnt, g_name, g_unp, g_allS, g_all0, g_sub, lz0, lz1, lz2, lz3, lz4, lz5, lz6, lz7, lz8, List.set, wipe, List.map_cons, List.map_nil, List.cons_append, List.nil_append, List.length_cons, List.length_nil, Nat.reduceAdd, Nat.reduceSub, List.replicate_succ, List.replicate_zero, eq_self, Bool.false_eq_true, if_true, if_false]
            rw [set_tb (by rw [List.getElem?_set_ne U'.n12]; exact U'.h2) htn]
            simp only [w_calln, w_call, w_cons, w_nil, w_tup, w_lst, w_op, w_un, w_c, w_var0, w_varS, w_and, w_or, w_not, w_iteE, w_lmeth, t_val, t_tru, t_and, t_or, t_not, t_yes, w_ch0, w_ch1, w_ch2, w_pr0, w_pr1, w_ix20, w_ix21, w_ix30, w_ix31, w_ix32, w_inT, w_eqI, w_add, w_sub, w_lt, w_le, w_gt, w_ge, w_neg, w_lenT, w_int, w_min, w_max, w_tupT, onB_bl, truth_bl, x_seq, x_skip, KR_ret, TK_ret, TK_brk, TK_cnt, g_name, g_unp, g_allS, g_all0, g_sub, lz0, lz1, lz2, lz3, lz4, lz5, lz6, lz7, lz8, List.set, wipe, List.map_cons, List.map_nil, List.cons_append, List.nil_append, List.length_cons, List.length_nil, Nat.reduceAdd, Nat.reduceSub, List.replicate_succ, List.replicate_zero, eq_self, Bool.false_eq_true, if_true, if_false]
            rw [set_tb (by rw [List.getElem?_set_ne U'.n23, List.getElem?_set_ne U'.n13]; exact U'.h3) htn]
            rw [← hsame.1, ← hsame.2.1, ← hsame.2.2]
            refine ⟨((k'.setN _ _ (by omega)).setN _ _ (by omega)).setN _ _ (by omega), ⟨some (nv t), ?_⟩, upd Dn' t, U'.set htn, fun b h => upd_mono t (hG' b h), fun b hb => ?_⟩
            · rfl
            · rw [hsame.1, htk] at hb
              rcases List.mem_append.mp hb with h | h
              · exact upd_mono t (hj b h)
              · rw [List.mem_singleton.mp h]; exact upd_self _ _
        · rintro en s' ⟨k', ⟨o6, rfl⟩, Dn', U', hG', hj⟩
          refine ⟨k', ⟨_, _, _, _, _, _, _, rfl⟩, Dn', U', fun b hb => ?_⟩
          rcases Nat.lt_or_ge b a with h | h
          · exact hG' b (hG b h)
          · rw [show b = a by omega]
            exact hj a (by rw [List.take_of_length_le (by simp)]; exact self_PC ha)
      refine x_ife ?_
      simp only [w_calln, w_call, w_cons, w_nil, w_tup, w_lst, w_op, w_un, w_c, w_var0, w_varS, w_and, w_or, w_not, w_iteE, w_lmeth, t_val, t_tru, t_and, t_or, t_not, t_yes, w_ch0, w_ch1, w_ch2, w_pr0, w_pr1, w_ix20, w_ix21, w_ix30, w_ix31, w_ix32, w_inT, w_eqI, w_add, w_sub, w_lt, w_le, w_gt, w_ge, w_neg, w_lenT, w_int, w_min, w_max, w_tupT, onB_bl, truth_bl, x_seq, x_skip, KR_ret, TK_ret, TK_brk, TK_cnt, g_name, g_unp, g_allS, g_all0, g_sub, lz0, lz1, lz2, lz3, lz4, lz5, lz6, lz7, lz8, List.set, wipe, List.map_cons, List.map_nil, List.cons_append, List.nil_append, List.length_cons, List.length_nil, Nat.reduceAdd, Nat.reduceSub, List.replicate_succ, List.replicate_zero, eq_self, Bool.false_eq_true, if_true, if_false]
      by_cases hw : a ∈ ws
      · rw [if_neg (by simp [hw])]
        have e : AV.tup [nv a] = tn (PC n rs ws a) := by unfold PC; rw [if_pos hw]; rfl
        rw [e]
        have r := fun K => rest K o3 s6 (Kp.refl _)
        simp only [x_seq] at r
        exact r _
      · rw [if_pos (by simp [hw])]
        refine x_asg ?_
        simp only [w_calln, w_call, w_cons, w_nil, w_tup, w_lst, w_op, w_un, w_c, w_var0, w_varS, w_and, w_or, w_not, w_iteE, w_lmeth, t_val, t_tru, t_and, t_or, t_not, t_yes, w_ch0, w_ch1, w_ch2, w_pr0, w_pr1, w_ix20, w_ix21, w_ix30, w_ix31, w_ix32, w_inT, w_eqI, w_add, w_sub, w_lt, w_le, w_gt, w_ge, w_neg, w_lenT, w_int, w_min, w_max, w_tupT, onB_bl, truth_bl, x_seq, x_skip, KR_ret, TK_ret, TK_brk, TK_cnt, g_name, g_unp, g_allS, g_all0, g_sub, lz0, lz1, lz2, lz3, lz4, lz5, lz6, lz7, lz8, List.set, wipe, List.map_cons, List.map_nil, List.cons_append, List.nil_append, List.length_cons, List.length_nil, Nat.reduceAdd, Nat.reduceSub, List.replicate_succ, List.replicate_zero, eq_self, Bool.false_eq_true, if_true, if_false]
        refine met_by_w (R2.keep (k5.trans k6)) (rev_in V.inr) hn (by unfold rev; simp; exact V.hr) ha fun g s7 F' k7 hg h7 hF' => ?_
        rw [fl_mB hF'] at h7
        refine x_asg ?_
        simp only [w_calln, w_call, w_cons, w_nil, w_tup, w_lst, w_op, w_un, w_c, w_var0, w_varS, w_and, w_or, w_not, w_iteE, w_lmeth, t_val, t_tru, t_and, t_or, t_not, t_yes, w_ch0, w_ch1, w_ch2, w_pr0, w_pr1, w_ix20, w_ix21, w_ix30, w_ix31, w_ix32, w_inT, w_eqI, w_add, w_sub, w_lt, w_le, w_gt, w_ge, w_neg, w_lenT, w_int, w_min, w_max, w_tupT, onB_bl, truth_bl, x_seq, x_skip, KR_ret, TK_ret, TK_brk, TK_cnt, g_name, g_unp, g_allS, g_all0, g_sub, lz0, lz1, lz2, lz3, lz4, lz5, lz6, lz7, lz8, List.set, wipe, List.map_cons, List.map_nil, List.cons_append, List.nil_append, List.length_cons, List.length_nil, Nat.reduceAdd, Nat.reduceSub, List.replicate_succ, List.replicate_zero, eq_self, Bool.false_eq_true, if_true, if_false]
        have h3' : seqAt s7 s2.length = some (((List.range n).filter fun b => !decide (b ∈ ws)).map nv) := seqAt_lst (((k5.trans k6).trans k7).2 _ _ (by simp) h3)
        refine lc_pure ((List.range n).filter fun b => !decide (b ∈ ws)) nv (fun b => decide (b = a) || (mB rs ws a b && mB rs ws b a)) nv (i_seq ?_)
        simp only [w_calln, w_call, w_cons, w_nil, w_tup, w_lst, w_op, w_un, w_c, w_var0, w_varS, w_and, w_or, w_not, w_iteE, w_lmeth, t_val, t_tru, t_and, t_or, t_not, t_yes, w_ch0, w_ch1, w_ch2, w_pr0, w_pr1, w_ix20, w_ix21, w_ix30, w_ix31, w_ix32, w_inT, w_eqI, w_add, w_sub, w_lt, w_le, w_gt, w_ge, w_neg, w_lenT, w_int, w_min, w_max, w_tupT, onB_bl, truth_bl, x_seq, x_skip, KR_ret, TK_ret, TK_brk, TK_cnt, g_name, g_unp, g_allS, g_all0, g_sub, lz0, lz1, lz2, lz3, lz4, lz5, lz6, lz7, lz8, List.set, wipe, List.map_cons, List.map_nil, List.cons_append, List.nil_append, List.length_cons, List.length_nil, Nat.reduceAdd, Nat.reduceSub, List.replicate_succ, List.replicate_zero, eq_self, Bool.false_eq_true, if_true, if_false]
        refine .mk _ (Or.inr ⟨_, rfl, h3'⟩) (fun e => nomatch e) (fun l e _ => ?_)
        cases e
        refine .mk (by have := List.length_filter_le (fun b => !decide (b ∈ ws)) (List.range n); rw [List.length_range] at this; unfold lineZ; omega) (Or.inr ⟨_, rfl, h3'⟩) ?_ ?_
        · intro b hb s' hk
          have hb := List.mem_range.mp (List.mem_filter.mp hb).1
          simp only [w_calln, w_call, w_cons, w_nil, w_tup, w_lst, w_op, w_un, w_c, w_var0, w_varS, w_and, w_or, w_not, w_iteE, w_lmeth, t_val, t_tru, t_and, t_or, t_not, t_yes, w_ch0, w_ch1, w_ch2, w_pr0, w_pr1, w_ix20, w_ix21, w_ix30, w_ix31, w_ix32, w_inT, w_eqI, w_add, w_sub, w_lt, w_le, w_gt, w_ge, w_neg, w_lenT, w_int, w_min, w_max, w_tupT, onB_bl, truth_bl, x_seq, x_skip, KR_ret, TK_ret, TK_brk, TK_cnt, g_name, g_unp, g_allS, g_all0, g_sub, lz0, lz1, lz2, lz3, lz4, lz5, lz6, lz7, lz8, List.set, wipe, List.map_cons, List.map_nil, List.cons_append, List.nil_append, List.length_cons, List.length_nil, Nat.reduceAdd, Nat.reduceSub, List.replicate_succ, List.replicate_zero, eq_self, Bool.false_eq_true, if_true, if_false]
          have hr : mB (rev rs) ws a b = mB rs ws b a := mB_of (mB_iff.trans met_rev)
          rw [ix_fl ((k7.trans hk).2 _ _ (by simp) h6) hb, truth_bl, ix_fl (hk.2 _ _ (by simp) h7) hb, truth_bl, hr]
          by_cases e : b = a
          · subst e; simp [Kp.refl]
          · have e' : ¬ ((b : Int) = (a : Int)) := by omega
            cases mB rs ws a b <;> cases mB rs ws b a <;> simp [e, e', Kp.refl]
        intro s8 k8 h8
        rw [w_tupL (seqAt_lst h8)]
        have c : AV.tup ((((List.range n).filter fun b => !decide (b ∈ ws)).filter fun b => decide (b = a) || (mB rs ws a b && mB rs ws b a)).map nv) = tn (PC n rs ws a) := by
          unfold PC tn; rw [if_neg hw, List.filter_filter]
          congr 2
          refine List.filter_congr fun b _ => ?_
          by_cases e : b = a
          · subst e; simp [hw]
          · simp [e, Bool.and_assoc]
        rw [c]
        have r := fun K => rest K (some (.ref g)) s8 (k7.trans k8)
        simp only [x_seq] at r
        exact r _
  · rintro en s5 ⟨k5, ⟨o0, o1, o2, o3, o4, o5, o6, rfl⟩, Dn, U, hG⟩
    refine x_ret ?_
    unfold TE
    simp only [w_calln, w_call, w_cons, w_nil, w_tup, w_lst, w_op, w_un, w_c, w_var0, w_varS, w_and, w_or, w_not, w_iteE, w_lmeth, t_val, t_tru, t_and, t_or, t_not, t_yes, w_ch0, w_ch1, w_ch2, w_pr0, w_pr1, w_ix20, w_ix21, w_ix30, w_ix31, w_ix32, w_inT, w_eqI, w_add, w_sub, w_lt, w_le, w_gt, w_ge, w_neg, w_lenT, w_int, w_min, w_max, w_tupT, onB_bl, truth_bl, x_seq, x_skip, KR_ret, TK_ret, TK_brk, TK_cnt, g_name, g_unp, g_allS, g_all0, g_sub, lz0, lz1, lz2, lz3, lz4, lz5, lz6, lz7, lz8, List.set, wipe, List.map_cons, List.map_nil, List.cons_append, List.nil_append, List.length_cons, List.length_nil, Nat.reduceAdd, Nat.reduceSub, List.replicate_succ, List.replicate_zero, eq_self, Bool.false_eq_true, if_true, if_false]
    refine k _ _ _ _ ⟨U.kp, U.g1, U.g2, U.g3, U.n12, U.n13, U.n23, ?_, ?_, ?_⟩
    · rw [U.h1, tb_congr fun b hb => ?_]; unfold G2; simp only [hG b hb, decide_eq_true hb]
    · rw [U.h2, tb_congr fun b hb => ?_]; unfold G2; simp only [hG b hb, decide_eq_true hb]
    · rw [U.h3, tb_congr fun b hb => ?_]; unfold G2; simp only [hG b hb, decide_eq_true hb]
end
end Sp
namespace Sp
open PySem Mi Mr
section
variable {n : Nat} {rs : List (Nat × Nat)} {ws : List Nat} {Q : AV → Sto → Prop} {s : Sto}
noncomputable def isHd (n : Nat) (rs : List (Nat × Nat)) (ws : List Nat) (a : Nat) : Bool := !decide (a ∈ ws) && decide ((PC n rs ws a).head? = some a)
noncomputable def PCS (n : Nat) (rs : List (Nat × Nat)) (ws : List Nat) : List (List Nat) := ((List.range n).filter (isHd n rs ws)).map (PC n rs ws)
theorem ix_tn0 {xs : List Nat} {x : Nat} (h : xs.head? = some x) : W (ixAV (tn xs) (.int 0) s) Q = Q (nv x) s := by
  cases xs with
  | nil => exact nomatch h
  | cons y r => cases h; exact w_ixT (k := 0) (xs := (x :: r).map nv) rfl
theorem hd_PC {a : Nat} (h : a < n) : ∃ x, (PC n rs ws a).head? = some x := by
  cases e : PC n rs ws a with
  | nil => have := self_PC (rs := rs) (ws := ws) h; rw [e] at this; exact nomatch this
  | cons x r => exact ⟨x, rfl⟩
theorem pieces_w (V : VM n rs ws) (k : ∀ s', Kp [] s s' → Q (.tup ((PCS n rs ws).map tn)) s') : W (m_pieces [CH n rs ws] s) Q := by
  have hn := V.hn
  unfold m_pieces b_pieces
  refine d_runn (by rfl) ?_
  simp only [w_calln, w_call, w_cons, w_nil, w_tup, w_lst, w_op, w_un, w_c, w_var0, w_varS, w_and, w_or, w_not, w_iteE, w_lmeth, t_val, t_tru, t_and, t_or, t_not, t_yes, w_ch0, w_ch1, w_ch2, w_pr0, w_pr1, w_ix20, w_ix21, w_ix30, w_ix31, w_ix32, w_inT, w_eqI, w_add, w_sub, w_lt, w_le, w_gt, w_ge, w_neg, w_lenT, w_int, w_min, w_max, w_tupT, onB_bl, truth_bl, x_seq, x_skip, KR_ret, TK_ret, TK_brk, TK_cnt, g_name, g_unp, g_allS, g_all0, g_sub, lz0, lz1, lz2, lz3, lz4, lz5, lz6, lz7, lz8, List.set, wipe, List.map_cons, List.map_nil, List.cons_append, List.nil_append, List.length_cons, List.length_nil, Nat.reduceAdd, Nat.reduceSub, List.replicate_succ, List.replicate_zero, eq_self, Bool.false_eq_true, if_true, if_false]
  refine x_expr ?_
  simp only [w_calln, w_call, w_cons, w_nil, w_tup, w_lst, w_op, w_un, w_c, w_var0, w_varS, w_and, w_or, w_not, w_iteE, w_lmeth, t_val, t_tru, t_and, t_or, t_not, t_yes, w_ch0, w_ch1, w_ch2, w_pr0, w_pr1, w_ix20, w_ix21, w_ix30, w_ix31, w_ix32, w_inT, w_eqI, w_add, w_sub, w_lt, w_le, w_gt, w_ge, w_neg, w_lenT, w_int, w_min, w_max, w_tupT, onB_bl, truth_bl, x_seq, x_skip, KR_ret, TK_ret, TK_brk, TK_cnt, g_name, g_unp, g_allS, g_all0, g_sub, lz0, lz1, lz2, lz3, lz4, lz5, lz6, lz7, lz8, List.set, wipe, List.map_cons, List.map_nil, List.cons_append, List.nil_append, List.length_cons, List.length_nil, Nat.reduceAdd, Nat.reduceSub, List.replicate_succ, List.replicate_zero, eq_self, Bool.false_eq_true, if_true, if_false]
  rw [W_of_eq (made_e V)]
  refine x_asg ?_
  simp only [w_calln, w_call, w_cons, w_nil, w_tup, w_lst, w_op, w_un, w_c, w_var0, w_varS, w_and, w_or, w_not, w_iteE, w_lmeth, t_val, t_tru, t_and, t_or, t_not, t_yes, w_ch0, w_ch1, w_ch2, w_pr0, w_pr1, w_ix20, w_ix21, w_ix30, w_ix31, w_ix32, w_inT, w_eqI, w_add, w_sub, w_lt, w_le, w_gt, w_ge, w_neg, w_lenT, w_int, w_min, w_max, w_tupT, onB_bl, truth_bl, x_seq, x_skip, KR_ret, TK_ret, TK_brk, TK_cnt, g_name, g_unp, g_allS, g_all0, g_sub, lz0, lz1, lz2, lz3, lz4, lz5, lz6, lz7, lz8, List.set, wipe, List.map_cons, List.map_nil, List.cons_append, List.nil_append, List.length_cons, List.length_nil, Nat.reduceAdd, Nat.reduceSub, List.replicate_succ, List.replicate_zero, eq_self, Bool.false_eq_true, if_true, if_false]
  refine tables_w V fun f1 f2 f3 s1 U => ?_
  simp only [w_calln, w_call, w_cons, w_nil, w_tup, w_lst, w_op, w_un, w_c, w_var0, w_varS, w_and, w_or, w_not, w_iteE, w_lmeth, t_val, t_tru, t_and, t_or, t_not, t_yes, w_ch0, w_ch1, w_ch2, w_pr0, w_pr1, w_ix20, w_ix21, w_ix30, w_ix31, w_ix32, w_inT, w_eqI, w_add, w_sub, w_lt, w_le, w_gt, w_ge, w_neg, w_lenT, w_int, w_min, w_max, w_tupT, onB_bl, truth_bl, x_seq, x_skip, KR_ret, TK_ret, TK_brk, TK_cnt, g_name, g_unp, g_allS, g_all0, g_sub, lz0, lz1, lz2, lz3, lz4, lz5, lz6, lz7, lz8, List.set, wipe, List.map_cons, List.map_nil, List.cons_append, List.nil_append, List.length_cons, List.length_nil, Nat.reduceAdd, Nat.reduceSub, List.replicate_succ, List.replicate_zero, eq_self, Bool.false_eq_true, if_true, if_false]
  refine x_ret ?_
  simp only [w_calln, w_call, w_cons, w_nil, w_tup, w_lst, w_op, w_un, w_c, w_var0, w_varS, w_and, w_or, w_not, w_iteE, w_lmeth, t_val, t_tru, t_and, t_or, t_not, t_yes, w_ch0, w_ch1, w_ch2, w_pr0, w_pr1, w_ix20, w_ix21, w_ix30, w_ix31, w_ix32, w_inT, w_eqI, w_add, w_sub, w_lt, w_le, w_gt, w_ge, w_neg, w_lenT, w_int, w_min, w_max, w_tupT, onB_bl, truth_bl, x_seq, x_skip, KR_ret, TK_ret, TK_brk, TK_cnt, g_name, g_unp, g_allS, g_all0, g_sub, lz0, lz1, lz2, lz3, lz4, lz5, lz6, lz7, lz8, List.set, wipe, List.map_cons, List.map_nil, List.cons_append, List.nil_append, List.length_cons, List.length_nil, Nat.reduceAdd, Nat.reduceSub, List.replicate_succ, List.replicate_zero, eq_self, Bool.false_eq_true, if_true, if_false]
  refine lc_pure (List.range n) nv (isHd n rs ws) (fun a => tn (PC n rs ws a)) (i_range ?_)
  simp only [w_calln, w_call, w_cons, w_nil, w_tup, w_lst, w_op, w_un, w_c, w_var0, w_varS, w_and, w_or, w_not, w_iteE, w_lmeth, t_val, t_tru, t_and, t_or, t_not, t_yes, w_ch0, w_ch1, w_ch2, w_pr0, w_pr1, w_ix20, w_ix21, w_ix30, w_ix31, w_ix32, w_inT, w_eqI, w_add, w_sub, w_lt, w_le, w_gt, w_ge, w_neg, w_lenT, w_int, w_min, w_max, w_tupT, onB_bl, truth_bl, x_seq, x_skip, KR_ret, TK_ret, TK_brk, TK_cnt, g_name, g_unp, g_allS, g_all0, g_sub, lz0, lz1, lz2, lz3, lz4, lz5, lz6, lz7, lz8, List.set, wipe, List.map_cons, List.map_nil, List.cons_append, List.nil_append, List.length_cons, List.length_nil, Nat.reduceAdd, Nat.reduceSub, List.replicate_succ, List.replicate_zero, eq_self, Bool.false_eq_true, if_true, if_false]
  refine .mk n rfl (by omega) ?_
  refine .mk (by unfold lineZ; simp; omega) (Or.inl rfl) ?_ ?_
  · intro b hb s' hk
    have hb := List.mem_range.mp hb
    simp only [w_calln, w_call, w_cons, w_nil, w_tup, w_lst, w_op, w_un, w_c, w_var0, w_varS, w_and, w_or, w_not, w_iteE, w_lmeth, t_val, t_tru, t_and, t_or, t_not, t_yes, w_ch0, w_ch1, w_ch2, w_pr0, w_pr1, w_ix20, w_ix21, w_ix30, w_ix31, w_ix32, w_inT, w_eqI, w_add, w_sub, w_lt, w_le, w_gt, w_ge, w_neg, w_lenT, w_int, w_min, w_max, w_tupT, onB_bl, truth_bl, x_seq, x_skip, KR_ret, TK_ret, TK_brk, TK_cnt, g_name, g_unp, g_allS, g_all0, g_sub, lz0, lz1, lz2, lz3, lz4, lz5, lz6, lz7, lz8, List.set, wipe, List.map_cons, List.map_nil, List.cons_append, List.nil_append, List.length_cons, List.length_nil, Nat.reduceAdd, Nat.reduceSub, List.replicate_succ, List.replicate_zero, eq_self, Bool.false_eq_true, if_true, if_false]
    obtain ⟨x, hx⟩ := hd_PC (rs := rs) (ws := ws) hb
    have e : G2 (fun b => decide (b < n)) (PC n rs ws) b = PC n rs ws b := by unfold G2; simp [hb]
    rw [ix_tb (hk.2 _ _ (by simp) U.h3) hb, e, ix_tn0 hx]
    simp only [w_calln, w_call, w_cons, w_nil, w_tup, w_lst, w_op, w_un, w_c, w_var0, w_varS, w_and, w_or, w_not, w_iteE, w_lmeth, t_val, t_tru, t_and, t_or, t_not, t_yes, w_ch0, w_ch1, w_ch2, w_pr0, w_pr1, w_ix20, w_ix21, w_ix30, w_ix31, w_ix32, w_inT, w_eqI, w_add, w_sub, w_lt, w_le, w_gt, w_ge, w_neg, w_lenT, w_int, w_min, w_max, w_tupT, onB_bl, truth_bl, x_seq, x_skip, KR_ret, TK_ret, TK_brk, TK_cnt, g_name, g_unp, g_allS, g_all0, g_sub, lz0, lz1, lz2, lz3, lz4, lz5, lz6, lz7, lz8, List.set, wipe, List.map_cons, List.map_nil, List.cons_append, List.nil_append, List.length_cons, List.length_nil, Nat.reduceAdd, Nat.reduceSub, List.replicate_succ, List.replicate_zero, eq_self, Bool.false_eq_true, if_true, if_false]
    unfold isHd
    by_cases hw : b ∈ ws
    · simp [hw, Kp.refl]
    · by_cases hxb : x = b
      · subst hxb; simp [hw, hx, Kp.refl]
        rw [ix_tb (hk.2 _ _ (by simp) U.h3) hb, e]; exact ⟨rfl, Kp.refl _⟩
      · have : ¬ ((x : Int) = (b : Int)) := by omega
        simp [hw, hx, this, hxb, Kp.refl]
  · intro s' hk hD
    rw [w_tupL (seqAt_lst hD)]
    have := k s' (U.kp.trans hk)
    unfold PCS at this; rw [List.map_map] at this
    exact this
theorem piece_w {a : Nat} (V : VM n rs ws) (ha : a < n) (k : ∀ s', Kp [] s s' → Q (tn (PC n rs ws a)) s') : W (m_piece [CH n rs ws, nv a] s) Q := by
  unfold m_piece b_piece
  refine d_runn (by rfl) ?_
  simp only [w_calln, w_call, w_cons, w_nil, w_tup, w_lst, w_op, w_un, w_c, w_var0, w_varS, w_and, w_or, w_not, w_iteE, w_lmeth, t_val, t_tru, t_and, t_or, t_not, t_yes, w_ch0, w_ch1, w_ch2, w_pr0, w_pr1, w_ix20, w_ix21, w_ix30, w_ix31, w_ix32, w_inT, w_eqI, w_add, w_sub, w_lt, w_le, w_gt, w_ge, w_neg, w_lenT, w_int, w_min, w_max, w_tupT, onB_bl, truth_bl, x_seq, x_skip, KR_ret, TK_ret, TK_brk, TK_cnt, g_name, g_unp, g_allS, g_all0, g_sub, lz0, lz1, lz2, lz3, lz4, lz5, lz6, lz7, lz8, List.set, wipe, List.map_cons, List.map_nil, List.cons_append, List.nil_append, List.length_cons, List.length_nil, Nat.reduceAdd, Nat.reduceSub, List.replicate_succ, List.replicate_zero, eq_self, Bool.false_eq_true, if_true, if_false]
  refine x_expr ?_
  simp only [w_calln, w_call, w_cons, w_nil, w_tup, w_lst, w_op, w_un, w_c, w_var0, w_varS, w_and, w_or, w_not, w_iteE, w_lmeth, t_val, t_tru, t_and, t_or, t_not, t_yes, w_ch0, w_ch1, w_ch2, w_pr0, w_pr1, w_ix20, w_ix21, w_ix30, w_ix31, w_ix32, w_inT, w_eqI, w_add, w_sub, w_lt, w_le, w_gt, w_ge, w_neg, w_lenT, w_int, w_min, w_max, w_tupT, onB_bl, truth_bl, x_seq, x_skip, KR_ret, TK_ret, TK_brk, TK_cnt, g_name, g_unp, g_allS, g_all0, g_sub, lz0, lz1, lz2, lz3, lz4, lz5, lz6, lz7, lz8, List.set, wipe, List.map_cons, List.map_nil, List.cons_append, List.nil_append, List.length_cons, List.length_nil, Nat.reduceAdd, Nat.reduceSub, List.replicate_succ, List.replicate_zero, eq_self, Bool.false_eq_true, if_true, if_false]
  rw [W_of_eq (made_e V), W_of_eq (check_e ha)]
  refine x_ret ?_
  simp only [w_calln, w_call, w_cons, w_nil, w_tup, w_lst, w_op, w_un, w_c, w_var0, w_varS, w_and, w_or, w_not, w_iteE, w_lmeth, t_val, t_tru, t_and, t_or, t_not, t_yes, w_ch0, w_ch1, w_ch2, w_pr0, w_pr1, w_ix20, w_ix21, w_ix30, w_ix31, w_ix32, w_inT, w_eqI, w_add, w_sub, w_lt, w_le, w_gt, w_ge, w_neg, w_lenT, w_int, w_min, w_max, w_tupT, onB_bl, truth_bl, x_seq, x_skip, KR_ret, TK_ret, TK_brk, TK_cnt, g_name, g_unp, g_allS, g_all0, g_sub, lz0, lz1, lz2, lz3, lz4, lz5, lz6, lz7, lz8, List.set, wipe, List.map_cons, List.map_nil, List.cons_append, List.nil_append, List.length_cons, List.length_nil, Nat.reduceAdd, Nat.reduceSub, List.replicate_succ, List.replicate_zero, eq_self, Bool.false_eq_true, if_true, if_false]
  exact piece_from_w V ha k
end
end Sp
namespace Sp
open PySem Mi Mr
section
variable {Q : AV → Sto → Prop} {s : Sto}
/-- the pool of draws -/
def PoolA (s : Sto) (p q : Nat) (ga gb : Int) (ys : List Int) : Prop := p ≠ q ∧ s[p]? = some (.lst [.int ga, .int gb, .ref q]) ∧ s[q]? = some (.lst (ys.map AV.int)) ∧ 0 ≤ ga ∧ 0 ≤ gb ∧ gb < 4294967296
def Pool (s : Sto) (p q : Nat) : Prop := ∃ (ga gb : Int) (ys : List Int), PoolA s p q ga gb ys
theorem Pool.keep {s s' : Sto} {p q : Nat} (h : Pool s p q) (k : Kp [] s s') : Pool s' p q := by
  obtain ⟨ga, gb, ys, a, b, c, d⟩ := h
  exact ⟨ga, gb, ys, a, k.2 _ _ (by simp) b, k.2 _ _ (by simp) c, d⟩
theorem Pool.lt {s : Sto} {p q : Nat} (h : Pool s p q) : p < s.length ∧ q < s.length := by
  obtain ⟨ga, gb, ys, a, b, c, d⟩ := h
  exact ⟨lt_of_get b, lt_of_get c⟩
theorem Pool.setN {s : Sto} {p q l : Nat} {o : MO} (h : Pool s p q) (hp : l ≠ p) (hq : l ≠ q) : Pool (s.set l o) p q := by
  obtain ⟨ga, gb, ys, a, b, c, d⟩ := h
  exact ⟨ga, gb, ys, a, by rw [List.getElem?_set_ne hp]; exact b, by rw [List.getElem?_set_ne hq]; exact c, d⟩
theorem w_pop0 {l : Nat} {xs : List AV} {y : AV} (h : s[l]? = some (.lst xs)) (hy : xs[0]? = some y) : W (Mi.B.pop (.ref l) [.int 0] s) Q = Q y (s.set l (.lst (xs.eraseIdx 0))) := w_popI (k := 0) h hy (by omega)
theorem small48 : small 48271 = true := by decide
theorem small69 : small 69621 = true := by decide
theorem small2 : small 2 = true := by decide
theorem ix_r {l : Nat} {a b c : AV} (h : s[l]? = some (.lst [a, b, c])) : W (ixAV (.ref l) (.int 0) s) Q = Q a s ∧ W (ixAV (.ref l) (.int 1) s) Q = Q b s ∧ W (ixAV (.ref l) (.int 2) s) Q = Q c s :=
  ⟨w_ixL (k := 0) (seqAt_lst h) rfl, w_ixL (k := 1) (seqAt_lst h) rfl, w_ixL (k := 2) (seqAt_lst h) rfl⟩
theorem set_r {N : En → Sto → Prop} {en : En} {l : Nat} {a b c v : AV} (h : s[l]? = some (.lst [a, b, c])) :
    Wf (G.setIx (.ref l) (.int 0) v en s) N = N en (s.set l (.lst [v, b, c])) ∧ Wf (G.setIx (.ref l) (.int 1) v en s) N = N en (s.set l (.lst [a, v, c])) :=
  ⟨w_setIx (k := 0) h (by simp), w_setIx (k := 1) h (by simp)⟩
theorem pln_ints (ys : List Int) : (ys.map AV.int).all (pln 0) = true := by simp [pln]
theorem nv_toNat {z : Int} (h : 0 ≤ z) : nv z.toNat = AV.int z := by unfold nv; rw [Int.toNat_of_nonneg h]
theorem draw_w {p q : Nat} {m : Int} (P : Pool s p q) (h0 : 0 < m) (h1 : m < 1073741824)
    (k : ∀ (r : Nat) s', (r : Int) < m → Pool s' p q → Kp [p, q] s s' → Q (nv r) s') : W (m__law_draw [.ref p, .int m] s) Q := by
  obtain ⟨ga, gb, ys, PA⟩ := P
  unfold m__law_draw b__law_draw
  refine d_runn (by rfl) ?_
  simp only [w_calln, w_call, w_cons, w_nil, w_tup, w_lst, w_op, w_un, w_c, w_var0, w_varS, w_and, w_or, w_not, w_iteE, w_lmeth, t_val, t_tru, t_and, t_or, t_not, t_yes, w_ch0, w_ch1, w_ch2, w_pr0, w_pr1, w_ix20, w_ix21, w_ix30, w_ix31, w_ix32, w_inT, w_eqI, w_add, w_sub, w_lt, w_le, w_gt, w_ge, w_neg, w_lenT, w_int, w_min, w_max, w_tupT, onB_bl, truth_bl, x_seq, x_skip, KR_ret, TK_ret, TK_brk, TK_cnt, g_name, g_unp, g_allS, g_all0, g_sub, lz0, lz1, lz2, lz3, lz4, lz5, lz6, lz7, lz8, List.set, wipe, List.map_cons, List.map_nil, List.cons_append, List.nil_append, List.length_cons, List.length_nil, Nat.reduceAdd, Nat.reduceSub, List.replicate_succ, List.replicate_zero, eq_self, Bool.false_eq_true, if_true, if_false]
  refine X_mono (N := fun en s1 => ∃ (o2 o3 : Option AV) (ga gb : Int) (ys : List Int), en = [some (.ref p), some (.int m), o2, o3, none] ∧ PoolA s1 p q ga gb ys ∧ Kp [p, q] s s1) (K := fun _ => False) ?_ ?_ (fun _ h => h.elim)
  · obtain ⟨hpq, hp, hq, hA, hB, hB2⟩ := PA
    have lp := lt_of_get hp
    have lq := lt_of_get hq
    refine x_ife ?_
    simp only [w_calln, w_call, w_cons, w_nil, w_tup, w_lst, w_op, w_un, w_c, w_var0, w_varS, w_and, w_or, w_not, w_iteE, w_lmeth, t_val, t_tru, t_and, t_or, t_not, t_yes, w_ch0, w_ch1, w_ch2, w_pr0, w_pr1, w_ix20, w_ix21, w_ix30, w_ix31, w_ix32, w_inT, w_eqI, w_add, w_sub, w_lt, w_le, w_gt, w_ge, w_neg, w_lenT, w_int, w_min, w_max, w_tupT, onB_bl, truth_bl, x_seq, x_skip, KR_ret, TK_ret, TK_brk, TK_cnt, g_name, g_unp, g_allS, g_all0, g_sub, lz0, lz1, lz2, lz3, lz4, lz5, lz6, lz7, lz8, List.set, wipe, List.map_cons, List.map_nil, List.cons_append, List.nil_append, List.length_cons, List.length_nil, Nat.reduceAdd, Nat.reduceSub, List.replicate_succ, List.replicate_zero, eq_self, Bool.false_eq_true, if_true, if_false, (ix_r hp).1]
    by_cases hA0 : ga = 0
    · rw [if_pos (by simp [hA0]), (ix_r hp).2.2]
      have hq' : (s ++ [MO.lst []])[q]? = some (.lst (ys.map AV.int)) := (Kp.app _ (Kp.refl (L := []) s)).2 _ _ (by simp) hq
      have hp' : (s ++ [MO.lst []])[p]? = some (.lst [.int ga, .int gb, .ref q]) := (Kp.app _ (Kp.refl (L := []) s)).2 _ _ (by simp) hp
      rw [w_eqL0 true q s.length 0 (by omega) (ys.map AV.int) (pln_ints ys) (seqAt_lst hq') (seqAt_lst (by simp)), onB_bl]
      have kp1 : Kp [p, q] s (s ++ [MO.lst []]) := Kp.app _ (Kp.refl _)
      cases ys with
      | nil =>
        rw [if_neg (by simp)]
        exact ⟨_, _, ga, gb, [], rfl, ⟨hpq, hp', hq', hA, hB, hB2⟩, kp1⟩
      | cons y ys =>
        rw [if_pos (by simp)]
        refine x_asg ?_
        simp only [w_calln, w_call, w_cons, w_nil, w_tup, w_lst, w_op, w_un, w_c, w_var0, w_varS, w_and, w_or, w_not, w_iteE, w_lmeth, t_val, t_tru, t_and, t_or, t_not, t_yes, w_ch0, w_ch1, w_ch2, w_pr0, w_pr1, w_ix20, w_ix21, w_ix30, w_ix31, w_ix32, w_inT, w_eqI, w_add, w_sub, w_lt, w_le, w_gt, w_ge, w_neg, w_lenT, w_int, w_min, w_max, w_tupT, onB_bl, truth_bl, x_seq, x_skip, KR_ret, TK_ret, TK_brk, TK_cnt, g_name, g_unp, g_allS, g_all0, g_sub, lz0, lz1, lz2, lz3, lz4, lz5, lz6, lz7, lz8, List.set, wipe, List.map_cons, List.map_nil, List.cons_append, List.nil_append, List.length_cons, List.length_nil, Nat.reduceAdd, Nat.reduceSub, List.replicate_succ, List.replicate_zero, eq_self, Bool.false_eq_true, if_true, if_false, (ix_r hp').2.2]
        rw [if_pos (isLst_of hq'), w_pop0 (y := .int y) hq' rfl]
        have lq' := lt_of_get hq'
        have e0 : ((y :: ys).map AV.int).eraseIdx 0 = ys.map AV.int := rfl
        rw [e0]
        generalize hs2 : (s ++ [MO.lst []]).set q (.lst (ys.map AV.int)) = s2
        have hq2 : s2[q]? = some (.lst (ys.map AV.int)) := by subst hs2; rw [List.getElem?_set_self lq']
        have hp2 : s2[p]? = some (.lst [.int ga, .int gb, .ref q]) := by subst hs2; rw [List.getElem?_set_ne (fun e => hpq e.symm)]; exact hp'
        have kp2 : Kp [p, q] s s2 := by subst hs2; exact kp1.setM _ _ (by simp)
        clear hs2
        simp only [w_calln, w_call, w_cons, w_nil, w_tup, w_lst, w_op, w_un, w_c, w_var0, w_varS, w_and, w_or, w_not, w_iteE, w_lmeth, t_val, t_tru, t_and, t_or, t_not, t_yes, w_ch0, w_ch1, w_ch2, w_pr0, w_pr1, w_ix20, w_ix21, w_ix30, w_ix31, w_ix32, w_inT, w_eqI, w_add, w_sub, w_lt, w_le, w_gt, w_ge, w_neg, w_lenT, w_int, w_min, w_max, w_tupT, onB_bl, truth_bl, x_seq, x_skip, KR_ret, TK_ret, TK_brk, TK_cnt, g_name, g_unp, g_allS, g_all0, g_sub, lz0, lz1, lz2, lz3, lz4, lz5, lz6, lz7, lz8, List.set, wipe, List.map_cons, List.map_nil, List.cons_append, List.nil_append, List.length_cons, List.length_nil, Nat.reduceAdd, Nat.reduceSub, List.replicate_succ, List.replicate_zero, eq_self, Bool.false_eq_true, if_true, if_false]
        -- the size that goes in
        have size : ∃ z : Int, 0 ≤ z ∧ ∀ (Q : AV → Sto → Prop), Q (.int z) s2 → W (E.ite (T.val (E.op geAV (E.var 2) (E.c (.int 0)))) (E.op mulAV (E.c (.int 2)) (E.var 2)) (E.op subAV (E.un negAV (E.c (.int 1))) (E.op mulAV (E.c (.int 2)) (E.var 2))) [some (.ref p), some (.int m), some (.int y), none, none] s2) Q := by
          by_cases hy : 0 ≤ y
          · refine ⟨2 * y, by omega, fun Q h => ?_⟩
            simp only [w_calln, w_call, w_cons, w_nil, w_tup, w_lst, w_op, w_un, w_c, w_var0, w_varS, w_and, w_or, w_not, w_iteE, w_lmeth, t_val, t_tru, t_and, t_or, t_not, t_yes, w_ch0, w_ch1, w_ch2, w_pr0, w_pr1, w_ix20, w_ix21, w_ix30, w_ix31, w_ix32, w_inT, w_eqI, w_add, w_sub, w_lt, w_le, w_gt, w_ge, w_neg, w_lenT, w_int, w_min, w_max, w_tupT, onB_bl, truth_bl, x_seq, x_skip, KR_ret, TK_ret, TK_brk, TK_cnt, g_name, g_unp, g_allS, g_all0, g_sub, lz0, lz1, lz2, lz3, lz4, lz5, lz6, lz7, lz8, List.set, wipe, List.map_cons, List.map_nil, List.cons_append, List.nil_append, List.length_cons, List.length_nil, Nat.reduceAdd, Nat.reduceSub, List.replicate_succ, List.replicate_zero, eq_self, Bool.false_eq_true, if_true, if_false, w_mul, small2, Bool.true_or, decide_eq_true hy]
            exact h
          · refine ⟨-1 - 2 * y, by omega, fun Q h => ?_⟩
            simp only [w_calln, w_call, w_cons, w_nil, w_tup, w_lst, w_op, w_un, w_c, w_var0, w_varS, w_and, w_or, w_not, w_iteE, w_lmeth, t_val, t_tru, t_and, t_or, t_not, t_yes, w_ch0, w_ch1, w_ch2, w_pr0, w_pr1, w_ix20, w_ix21, w_ix30, w_ix31, w_ix32, w_inT, w_eqI, w_add, w_sub, w_lt, w_le, w_gt, w_ge, w_neg, w_lenT, w_int, w_min, w_max, w_tupT, onB_bl, truth_bl, x_seq, x_skip, KR_ret, TK_ret, TK_brk, TK_cnt, g_name, g_unp, g_allS, g_all0, g_sub, lz0, lz1, lz2, lz3, lz4, lz5, lz6, lz7, lz8, List.set, wipe, List.map_cons, List.map_nil, List.cons_append, List.nil_append, List.length_cons, List.length_nil, Nat.reduceAdd, Nat.reduceSub, List.replicate_succ, List.replicate_zero, eq_self, Bool.false_eq_true, if_true, if_false, w_mul, small2, Bool.true_or, decide_eq_false hy]
            exact h
        obtain ⟨z, hz, size⟩ := size
        refine x_asg (size _ ?_)
        simp only [w_calln, w_call, w_cons, w_nil, w_tup, w_lst, w_op, w_un, w_c, w_var0, w_varS, w_and, w_or, w_not, w_iteE, w_lmeth, t_val, t_tru, t_and, t_or, t_not, t_yes, w_ch0, w_ch1, w_ch2, w_pr0, w_pr1, w_ix20, w_ix21, w_ix30, w_ix31, w_ix32, w_inT, w_eqI, w_add, w_sub, w_lt, w_le, w_gt, w_ge, w_neg, w_lenT, w_int, w_min, w_max, w_tupT, onB_bl, truth_bl, x_seq, x_skip, KR_ret, TK_ret, TK_brk, TK_cnt, g_name, g_unp, g_allS, g_all0, g_sub, lz0, lz1, lz2, lz3, lz4, lz5, lz6, lz7, lz8, List.set, wipe, List.map_cons, List.map_nil, List.cons_append, List.nil_append, List.length_cons, List.length_nil, Nat.reduceAdd, Nat.reduceSub, List.replicate_succ, List.replicate_zero, eq_self, Bool.false_eq_true, if_true, if_false]
        refine x_asg ?_
        simp only [w_calln, w_call, w_cons, w_nil, w_tup, w_lst, w_op, w_un, w_c, w_var0, w_varS, w_and, w_or, w_not, w_iteE, w_lmeth, t_val, t_tru, t_and, t_or, t_not, t_yes, w_ch0, w_ch1, w_ch2, w_pr0, w_pr1, w_ix20, w_ix21, w_ix30, w_ix31, w_ix32, w_inT, w_eqI, w_add, w_sub, w_lt, w_le, w_gt, w_ge, w_neg, w_lenT, w_int, w_min, w_max, w_tupT, onB_bl, truth_bl, x_seq, x_skip, KR_ret, TK_ret, TK_brk, TK_cnt, g_name, g_unp, g_allS, g_all0, g_sub, lz0, lz1, lz2, lz3, lz4, lz5, lz6, lz7, lz8, List.set, wipe, List.map_cons, List.map_nil, List.cons_append, List.nil_append, List.length_cons, List.length_nil, Nat.reduceAdd, Nat.reduceSub, List.replicate_succ, List.replicate_zero, eq_self, Bool.false_eq_true, if_true, if_false, w_pow18]
        have fin : ∀ ga' : Int, 0 ≤ ga' → X (S.asg (G.sub (E.var 0) (E.c (.int 1))) (E.op addAV (E.op modAV (E.call Mi.B.int_ (E.cons (E.op addAV (E.op ixAV (E.var 0) (E.c (.int 1))) (E.op mulAV (E.var 3) (E.c (.int 69621)))) (E.nil))) (E.c (.int 2147483629))) (E.c (.int 3))) [some (.ref p), some (.int m), some (.int y), some (.int z), none] (s2.set p (.lst [.int ga', .int gb, .ref q])))
            (fun en s1 => ∃ (o2 o3 : Option AV) (ga gb : Int) (ys : List Int), en = [some (.ref p), some (.int m), o2, o3, none] ∧ PoolA s1 p q ga gb ys ∧ Kp [p, q] s s1) (fun _ => False) := by
          intro ga' hga
          have lp2 := lt_of_get hp2
          have hp3 : (s2.set p (.lst [.int ga', .int gb, .ref q]))[p]? = some (.lst [.int ga', .int gb, .ref q]) := by rw [List.getElem?_set_self lp2]
          refine x_asg ?_
          simp only [w_calln, w_call, w_cons, w_nil, w_tup, w_lst, w_op, w_un, w_c, w_var0, w_varS, w_and, w_or, w_not, w_iteE, w_lmeth, t_val, t_tru, t_and, t_or, t_not, t_yes, w_ch0, w_ch1, w_ch2, w_pr0, w_pr1, w_ix20, w_ix21, w_ix30, w_ix31, w_ix32, w_inT, w_eqI, w_add, w_sub, w_lt, w_le, w_gt, w_ge, w_neg, w_lenT, w_int, w_min, w_max, w_tupT, onB_bl, truth_bl, x_seq, x_skip, KR_ret, TK_ret, TK_brk, TK_cnt, g_name, g_unp, g_allS, g_all0, g_sub, lz0, lz1, lz2, lz3, lz4, lz5, lz6, lz7, lz8, List.set, wipe, List.map_cons, List.map_nil, List.cons_append, List.nil_append, List.length_cons, List.length_nil, Nat.reduceAdd, Nat.reduceSub, List.replicate_succ, List.replicate_zero, eq_self, Bool.false_eq_true, if_true, if_false, (ix_r hp3).2.1, w_mul, small69, Bool.or_true, w_mod]
          rw [if_pos (by omega), (set_r hp3).2]
          have b0 : 0 ≤ (gb + z * 69621) % 2147483629 := Int.emod_nonneg _ (by omega)
          have b1 : (gb + z * 69621) % 2147483629 < 2147483629 := Int.emod_lt_of_pos _ (by omega)
          refine ⟨_, _, ga', (gb + z * 69621) % 2147483629 + 3, ys, rfl, ⟨hpq, ?_, ?_, hga, by omega, by omega⟩, (kp2.setM _ _ (by simp)).setM _ _ (by simp)⟩
          · rw [List.getElem?_set_self (by rw [List.length_set]; exact lp2)]
          · rw [List.getElem?_set_ne hpq, List.getElem?_set_ne hpq]; exact hq2
        by_cases hz18 : (1000000000000000000 : Int) ≤ z
        · rw [if_pos (by simp [hz18]), (set_r hp2).1]
          exact fin z hz
        · rw [if_neg (by simp [hz18]), (set_r hp2).1]
          exact fin 0 (by omega)
    · rw [if_neg (by simp [hA0])]
      exact ⟨_, _, ga, gb, ys, rfl, ⟨hpq, hp, hq, hA, hB, hB2⟩, Kp.refl _⟩
  · clear PA
    rintro en s1 ⟨o2, o3, ga, gb, ys, rfl, ⟨hpq, hp, hq, hA, hB, hB2⟩, hk⟩
    have lp := lt_of_get hp
    refine x_ife ?_
    simp only [w_calln, w_call, w_cons, w_nil, w_tup, w_lst, w_op, w_un, w_c, w_var0, w_varS, w_and, w_or, w_not, w_iteE, w_lmeth, t_val, t_tru, t_and, t_or, t_not, t_yes, w_ch0, w_ch1, w_ch2, w_pr0, w_pr1, w_ix20, w_ix21, w_ix30, w_ix31, w_ix32, w_inT, w_eqI, w_add, w_sub, w_lt, w_le, w_gt, w_ge, w_neg, w_lenT, w_int, w_min, w_max, w_tupT, onB_bl, truth_bl, x_seq, x_skip, KR_ret, TK_ret, TK_brk, TK_cnt, g_name, g_unp, g_allS, g_all0, g_sub, lz0, lz1, lz2, lz3, lz4, lz5, lz6, lz7, lz8, List.set, wipe, List.map_cons, List.map_nil, List.cons_append, List.nil_append, List.length_cons, List.length_nil, Nat.reduceAdd, Nat.reduceSub, List.replicate_succ, List.replicate_zero, eq_self, Bool.false_eq_true, if_true, if_false, (ix_r hp).1]
    by_cases hA0 : 0 < ga
    · rw [if_pos (by simp [hA0])]
      refine x_asg ?_
      simp only [w_calln, w_call, w_cons, w_nil, w_tup, w_lst, w_op, w_un, w_c, w_var0, w_varS, w_and, w_or, w_not, w_iteE, w_lmeth, t_val, t_tru, t_and, t_or, t_not, t_yes, w_ch0, w_ch1, w_ch2, w_pr0, w_pr1, w_ix20, w_ix21, w_ix30, w_ix31, w_ix32, w_inT, w_eqI, w_add, w_sub, w_lt, w_le, w_gt, w_ge, w_neg, w_lenT, w_int, w_min, w_max, w_tupT, onB_bl, truth_bl, x_seq, x_skip, KR_ret, TK_ret, TK_brk, TK_cnt, g_name, g_unp, g_allS, g_all0, g_sub, lz0, lz1, lz2, lz3, lz4, lz5, lz6, lz7, lz8, List.set, wipe, List.map_cons, List.map_nil, List.cons_append, List.nil_append, List.length_cons, List.length_nil, Nat.reduceAdd, Nat.reduceSub, List.replicate_succ, List.replicate_zero, eq_self, Bool.false_eq_true, if_true, if_false, (ix_r hp).1, w_mod, if_pos h0]
      refine x_asg ?_
      simp only [w_calln, w_call, w_cons, w_nil, w_tup, w_lst, w_op, w_un, w_c, w_var0, w_varS, w_and, w_or, w_not, w_iteE, w_lmeth, t_val, t_tru, t_and, t_or, t_not, t_yes, w_ch0, w_ch1, w_ch2, w_pr0, w_pr1, w_ix20, w_ix21, w_ix30, w_ix31, w_ix32, w_inT, w_eqI, w_add, w_sub, w_lt, w_le, w_gt, w_ge, w_neg, w_lenT, w_int, w_min, w_max, w_tupT, onB_bl, truth_bl, x_seq, x_skip, KR_ret, TK_ret, TK_brk, TK_cnt, g_name, g_unp, g_allS, g_all0, g_sub, lz0, lz1, lz2, lz3, lz4, lz5, lz6, lz7, lz8, List.set, wipe, List.map_cons, List.map_nil, List.cons_append, List.nil_append, List.length_cons, List.length_nil, Nat.reduceAdd, Nat.reduceSub, List.replicate_succ, List.replicate_zero, eq_self, Bool.false_eq_true, if_true, if_false, (ix_r hp).1, w_div, if_pos (And.intro h0 h1), (set_r hp).1]
      refine x_ret ?_
      simp only [w_calln, w_call, w_cons, w_nil, w_tup, w_lst, w_op, w_un, w_c, w_var0, w_varS, w_and, w_or, w_not, w_iteE, w_lmeth, t_val, t_tru, t_and, t_or, t_not, t_yes, w_ch0, w_ch1, w_ch2, w_pr0, w_pr1, w_ix20, w_ix21, w_ix30, w_ix31, w_ix32, w_inT, w_eqI, w_add, w_sub, w_lt, w_le, w_gt, w_ge, w_neg, w_lenT, w_int, w_min, w_max, w_tupT, onB_bl, truth_bl, x_seq, x_skip, KR_ret, TK_ret, TK_brk, TK_cnt, g_name, g_unp, g_allS, g_all0, g_sub, lz0, lz1, lz2, lz3, lz4, lz5, lz6, lz7, lz8, List.set, wipe, List.map_cons, List.map_nil, List.cons_append, List.nil_append, List.length_cons, List.length_nil, Nat.reduceAdd, Nat.reduceSub, List.replicate_succ, List.replicate_zero, eq_self, Bool.false_eq_true, if_true, if_false]
      have r0 : 0 ≤ ga % m := Int.emod_nonneg _ (by omega)
      have r1 : ga % m < m := Int.emod_lt_of_pos _ h0
      have := k (ga % m).toNat (s1.set p (.lst [.int (ga / m), .int gb, .ref q])) (by omega) ⟨ga / m, gb, ys, hpq, by rw [List.getElem?_set_self lp], by rw [List.getElem?_set_ne hpq]; exact hq, Int.ediv_nonneg hA (by omega), hB, hB2⟩ (hk.setM _ _ (by simp))
      rw [nv_toNat r0] at this
      exact this
    · rw [if_neg (by simp [hA0])]
      refine x_asg ?_
      simp only [w_calln, w_call, w_cons, w_nil, w_tup, w_lst, w_op, w_un, w_c, w_var0, w_varS, w_and, w_or, w_not, w_iteE, w_lmeth, t_val, t_tru, t_and, t_or, t_not, t_yes, w_ch0, w_ch1, w_ch2, w_pr0, w_pr1, w_ix20, w_ix21, w_ix30, w_ix31, w_ix32, w_inT, w_eqI, w_add, w_sub, w_lt, w_le, w_gt, w_ge, w_neg, w_lenT, w_int, w_min, w_max, w_tupT, onB_bl, truth_bl, x_seq, x_skip, KR_ret, TK_ret, TK_brk, TK_cnt, g_name, g_unp, g_allS, g_all0, g_sub, lz0, lz1, lz2, lz3, lz4, lz5, lz6, lz7, lz8, List.set, wipe, List.map_cons, List.map_nil, List.cons_append, List.nil_append, List.length_cons, List.length_nil, Nat.reduceAdd, Nat.reduceSub, List.replicate_succ, List.replicate_zero, eq_self, Bool.false_eq_true, if_true, if_false, (ix_r hp).2.1, w_mul, small48, Bool.or_true, w_mod]
      rw [if_pos (by omega), (set_r hp).2]
      refine x_ret ?_
      have b0 : 0 ≤ (gb * 48271 + 11) % 2147483647 := Int.emod_nonneg _ (by omega)
      have b1 : (gb * 48271 + 11) % 2147483647 < 2147483647 := Int.emod_lt_of_pos _ (by omega)
      generalize (gb * 48271 + 11) % 2147483647 = gc at b0 b1
      have hp1 : (s1.set p (.lst [.int ga, .int gc, .ref q]))[p]? = some (.lst [.int ga, .int gc, .ref q]) := by rw [List.getElem?_set_self lp]
      have sm : small gc = true := by
        unfold small
        have e : (2 ^ 64 : Int) = 18446744073709551616 := by decide
        have h2 : -(2 ^ 64 : Int) < gc ∧ gc < 2 ^ 64 := by omega
        exact decide_eq_true h2
      simp only [w_calln, w_call, w_cons, w_nil, w_tup, w_lst, w_op, w_un, w_c, w_var0, w_varS, w_and, w_or, w_not, w_iteE, w_lmeth, t_val, t_tru, t_and, t_or, t_not, t_yes, w_ch0, w_ch1, w_ch2, w_pr0, w_pr1, w_ix20, w_ix21, w_ix30, w_ix31, w_ix32, w_inT, w_eqI, w_add, w_sub, w_lt, w_le, w_gt, w_ge, w_neg, w_lenT, w_int, w_min, w_max, w_tupT, onB_bl, truth_bl, x_seq, x_skip, KR_ret, TK_ret, TK_brk, TK_cnt, g_name, g_unp, g_allS, g_all0, g_sub, lz0, lz1, lz2, lz3, lz4, lz5, lz6, lz7, lz8, List.set, wipe, List.map_cons, List.map_nil, List.cons_append, List.nil_append, List.length_cons, List.length_nil, Nat.reduceAdd, Nat.reduceSub, List.replicate_succ, List.replicate_zero, eq_self, Bool.false_eq_true, if_true, if_false, (ix_r hp1).2.1, w_mul, sm, Bool.or_true, w_mod, w_div]
      rw [if_pos (by omega), if_pos (by omega), if_pos h0]
      generalize gc * gc % 2147483629 / 32 = gz
      have r0 : 0 ≤ gz % m := Int.emod_nonneg _ (by omega)
      have r1 : gz % m < m := Int.emod_lt_of_pos _ h0
      have := k (gz % m).toNat (s1.set p (.lst [.int ga, .int gc, .ref q])) (by omega) ⟨ga, gc, ys, hpq, hp1, by rw [List.getElem?_set_ne hpq]; exact hq, hA, b0, by omega⟩ (hk.setM _ _ (by simp))
      rw [nv_toNat r0] at this
      exact this
end
end Sp
namespace Sp
open PySem Mi Mr
section
variable {Q : AV → Sto → Prop} {s : Sto}
theorem w_slice1 {en : En} {a lo : ME} (h : W (a en s) fun x s => W (lo en s) fun y s => ∃ i, y = .int i ∧ W (sliceAV x (some i) none s) Q) : W (E.slice a (some lo) none en s) Q := by
  unfold E.slice
  rw [W_bind]
  refine W_mono h fun x s h => ?_
  simp only
  unfold E.part
  rw [W_bind]
  refine W_mono h ?_
  rintro y s ⟨i, rfl, h⟩
  exact h
theorem pool_w {ns : List Int} (h0 : s[0]? = some (.rol (ns.map AV.int))) (k : ∀ p q s', Pool s' p q → Kp [] s s' → s.length ≤ p → s.length ≤ q → Q (.ref p) s') : W (m__law_pool [.ref 0] s) Q := by
  unfold m__law_pool b__law_pool
  refine d_runn (by rfl) ?_
  simp only [w_calln, w_call, w_cons, w_nil, w_tup, w_lst, w_op, w_un, w_c, w_var0, w_varS, w_and, w_or, w_not, w_iteE, w_lmeth, t_val, t_tru, t_and, t_or, t_not, t_yes, w_ch0, w_ch1, w_ch2, w_pr0, w_pr1, w_ix20, w_ix21, w_ix30, w_ix31, w_ix32, w_inT, w_eqI, w_add, w_sub, w_lt, w_le, w_gt, w_ge, w_neg, w_lenT, w_int, w_min, w_max, w_tupT, onB_bl, truth_bl, x_seq, x_skip, KR_ret, TK_ret, TK_brk, TK_cnt, g_name, g_unp, g_allS, g_all0, g_sub, lz0, lz1, lz2, lz3, lz4, lz5, lz6, lz7, lz8, List.set, wipe, List.map_cons, List.map_nil, List.cons_append, List.nil_append, List.length_cons, List.length_nil, Nat.reduceAdd, Nat.reduceSub, List.replicate_succ, List.replicate_zero, eq_self, Bool.false_eq_true, if_true, if_false]
  have first : ∃ z : Int, ∀ (Q : AV → Sto → Prop), Q (.int z) s → W (E.ite (T.val (E.op (gtAV) (E.call B.len (E.cons (E.var 0) (E.nil))) (E.c (.int 0)))) (E.call B.int_ (E.cons (E.op ixAV (E.var 0) (E.c (.int 0))) (E.nil))) (E.c (.int 0)) [some (.ref 0), none, none] s) Q := by
    cases ns with
    | nil =>
      refine ⟨0, fun Q h => ?_⟩
      simp only [w_calln, w_call, w_cons, w_nil, w_tup, w_lst, w_op, w_un, w_c, w_var0, w_varS, w_and, w_or, w_not, w_iteE, w_lmeth, t_val, t_tru, t_and, t_or, t_not, t_yes, w_ch0, w_ch1, w_ch2, w_pr0, w_pr1, w_ix20, w_ix21, w_ix30, w_ix31, w_ix32, w_inT, w_eqI, w_add, w_sub, w_lt, w_le, w_gt, w_ge, w_neg, w_lenT, w_int, w_min, w_max, w_tupT, onB_bl, truth_bl, x_seq, x_skip, KR_ret, TK_ret, TK_brk, TK_cnt, g_name, g_unp, g_allS, g_all0, g_sub, lz0, lz1, lz2, lz3, lz4, lz5, lz6, lz7, lz8, List.set, wipe, List.map_cons, List.map_nil, List.cons_append, List.nil_append, List.length_cons, List.length_nil, Nat.reduceAdd, Nat.reduceSub, List.replicate_succ, List.replicate_zero, eq_self, Bool.false_eq_true, if_true, if_false, w_lenR h0]
      rw [if_neg (by simp)]; exact h
    | cons z r =>
      refine ⟨z, fun Q h => ?_⟩
      simp only [w_calln, w_call, w_cons, w_nil, w_tup, w_lst, w_op, w_un, w_c, w_var0, w_varS, w_and, w_or, w_not, w_iteE, w_lmeth, t_val, t_tru, t_and, t_or, t_not, t_yes, w_ch0, w_ch1, w_ch2, w_pr0, w_pr1, w_ix20, w_ix21, w_ix30, w_ix31, w_ix32, w_inT, w_eqI, w_add, w_sub, w_lt, w_le, w_gt, w_ge, w_neg, w_lenT, w_int, w_min, w_max, w_tupT, onB_bl, truth_bl, x_seq, x_skip, KR_ret, TK_ret, TK_brk, TK_cnt, g_name, g_unp, g_allS, g_all0, g_sub, lz0, lz1, lz2, lz3, lz4, lz5, lz6, lz7, lz8, List.set, wipe, List.map_cons, List.map_nil, List.cons_append, List.nil_append, List.length_cons, List.length_nil, Nat.reduceAdd, Nat.reduceSub, List.replicate_succ, List.replicate_zero, eq_self, Bool.false_eq_true, if_true, if_false, w_lenR h0]
      rw [if_pos (by simp), show AV.int 0 = nv 0 from rfl, w_ixL (k := 0) (v := .int z) (seqAt_rol h0) rfl, w_int]
      exact h
  obtain ⟨z, first⟩ := first
  refine x_asg (first _ ?_)
  simp only [w_calln, w_call, w_cons, w_nil, w_tup, w_lst, w_op, w_un, w_c, w_var0, w_varS, w_and, w_or, w_not, w_iteE, w_lmeth, t_val, t_tru, t_and, t_or, t_not, t_yes, w_ch0, w_ch1, w_ch2, w_pr0, w_pr1, w_ix20, w_ix21, w_ix30, w_ix31, w_ix32, w_inT, w_eqI, w_add, w_sub, w_lt, w_le, w_gt, w_ge, w_neg, w_lenT, w_int, w_min, w_max, w_tupT, onB_bl, truth_bl, x_seq, x_skip, KR_ret, TK_ret, TK_brk, TK_cnt, g_name, g_unp, g_allS, g_all0, g_sub, lz0, lz1, lz2, lz3, lz4, lz5, lz6, lz7, lz8, List.set, wipe, List.map_cons, List.map_nil, List.cons_append, List.nil_append, List.length_cons, List.length_nil, Nat.reduceAdd, Nat.reduceSub, List.replicate_succ, List.replicate_zero, eq_self, Bool.false_eq_true, if_true, if_false]
  have size : ∃ y : Int, 0 ≤ y ∧ ∀ (Q : AV → Sto → Prop), Q (.int y) s → W (E.ite (T.val (E.op (geAV) (E.var 1) (E.c (.int 0)))) (E.op mulAV (E.c (.int 2)) (E.var 1)) (E.op subAV (E.un negAV (E.c (.int 1))) (E.op mulAV (E.c (.int 2)) (E.var 1))) [some (.ref 0), some (.int z), none] s) Q := by
    by_cases hy : 0 ≤ z
    · refine ⟨2 * z, by omega, fun Q h => ?_⟩
      simp only [w_calln, w_call, w_cons, w_nil, w_tup, w_lst, w_op, w_un, w_c, w_var0, w_varS, w_and, w_or, w_not, w_iteE, w_lmeth, t_val, t_tru, t_and, t_or, t_not, t_yes, w_ch0, w_ch1, w_ch2, w_pr0, w_pr1, w_ix20, w_ix21, w_ix30, w_ix31, w_ix32, w_inT, w_eqI, w_add, w_sub, w_lt, w_le, w_gt, w_ge, w_neg, w_lenT, w_int, w_min, w_max, w_tupT, onB_bl, truth_bl, x_seq, x_skip, KR_ret, TK_ret, TK_brk, TK_cnt, g_name, g_unp, g_allS, g_all0, g_sub, lz0, lz1, lz2, lz3, lz4, lz5, lz6, lz7, lz8, List.set, wipe, List.map_cons, List.map_nil, List.cons_append, List.nil_append, List.length_cons, List.length_nil, Nat.reduceAdd, Nat.reduceSub, List.replicate_succ, List.replicate_zero, eq_self, Bool.false_eq_true, if_true, if_false, w_mul, small2, Bool.true_or, decide_eq_true hy]
      exact h
    · refine ⟨-1 - 2 * z, by omega, fun Q h => ?_⟩
      simp only [w_calln, w_call, w_cons, w_nil, w_tup, w_lst, w_op, w_un, w_c, w_var0, w_varS, w_and, w_or, w_not, w_iteE, w_lmeth, t_val, t_tru, t_and, t_or, t_not, t_yes, w_ch0, w_ch1, w_ch2, w_pr0, w_pr1, w_ix20, w_ix21, w_ix30, w_ix31, w_ix32, w_inT, w_eqI, w_add, w_sub, w_lt, w_le, w_gt, w_ge, w_neg, w_lenT, w_int, w_min, w_max, w_tupT, onB_bl, truth_bl, x_seq, x_skip, KR_ret, TK_ret, TK_brk, TK_cnt, g_name, g_unp, g_allS, g_all0, g_sub, lz0, lz1, lz2, lz3, lz4, lz5, lz6, lz7, lz8, List.set, wipe, List.map_cons, List.map_nil, List.cons_append, List.nil_append, List.length_cons, List.length_nil, Nat.reduceAdd, Nat.reduceSub, List.replicate_succ, List.replicate_zero, eq_self, Bool.false_eq_true, if_true, if_false, w_mul, small2, Bool.true_or, decide_eq_false hy]
      exact h
  obtain ⟨y, hy, size⟩ := size
  refine x_asg (size _ ?_)
  simp only [w_calln, w_call, w_cons, w_nil, w_tup, w_lst, w_op, w_un, w_c, w_var0, w_varS, w_and, w_or, w_not, w_iteE, w_lmeth, t_val, t_tru, t_and, t_or, t_not, t_yes, w_ch0, w_ch1, w_ch2, w_pr0, w_pr1, w_ix20, w_ix21, w_ix30, w_ix31, w_ix32, w_inT, w_eqI, w_add, w_sub, w_lt, w_le, w_gt, w_ge, w_neg, w_lenT, w_int, w_min, w_max, w_tupT, onB_bl, truth_bl, x_seq, x_skip, KR_ret, TK_ret, TK_brk, TK_cnt, g_name, g_unp, g_allS, g_all0, g_sub, lz0, lz1, lz2, lz3, lz4, lz5, lz6, lz7, lz8, List.set, wipe, List.map_cons, List.map_nil, List.cons_append, List.nil_append, List.length_cons, List.length_nil, Nat.reduceAdd, Nat.reduceSub, List.replicate_succ, List.replicate_zero, eq_self, Bool.false_eq_true, if_true, if_false]
  refine x_ret ?_
  simp only [w_calln, w_call, w_cons, w_nil, w_tup, w_lst, w_op, w_un, w_c, w_var0, w_varS, w_and, w_or, w_not, w_iteE, w_lmeth, t_val, t_tru, t_and, t_or, t_not, t_yes, w_ch0, w_ch1, w_ch2, w_pr0, w_pr1, w_ix20, w_ix21, w_ix30, w_ix31, w_ix32, w_inT, w_eqI, w_add, w_sub, w_lt, w_le, w_gt, w_ge, w_neg, w_lenT, w_int, w_min, w_max, w_tupT, onB_bl, truth_bl, x_seq, x_skip, KR_ret, TK_ret, TK_brk, TK_cnt, g_name, g_unp, g_allS, g_all0, g_sub, lz0, lz1, lz2, lz3, lz4, lz5, lz6, lz7, lz8, List.set, wipe, List.map_cons, List.map_nil, List.cons_append, List.nil_append, List.length_cons, List.length_nil, Nat.reduceAdd, Nat.reduceSub, List.replicate_succ, List.replicate_zero, eq_self, Bool.false_eq_true, if_true, if_false, w_pow18, w_mul, small48, Bool.or_true, w_mod]
  have fin : ∀ ga : Int, 0 ≤ ga → W (E.slice (E.var 0) (some (E.c (AV.int 1))) none [some (.ref 0), some (.int z), some (.int y)] s) (fun x s => W (Mi.B.list_ [x] s) fun x s => Q (.ref s.length) (s ++ [.lst [.int ga, .int ((y * 48271 + 1009) % 2147483629 + 3), x]])) := by
    intro ga hga
    refine w_slice1 ?_
    simp only [w_calln, w_call, w_cons, w_nil, w_tup, w_lst, w_op, w_un, w_c, w_var0, w_varS, w_and, w_or, w_not, w_iteE, w_lmeth, t_val, t_tru, t_and, t_or, t_not, t_yes, w_ch0, w_ch1, w_ch2, w_pr0, w_pr1, w_ix20, w_ix21, w_ix30, w_ix31, w_ix32, w_inT, w_eqI, w_add, w_sub, w_lt, w_le, w_gt, w_ge, w_neg, w_lenT, w_int, w_min, w_max, w_tupT, onB_bl, truth_bl, x_seq, x_skip, KR_ret, TK_ret, TK_brk, TK_cnt, g_name, g_unp, g_allS, g_all0, g_sub, lz0, lz1, lz2, lz3, lz4, lz5, lz6, lz7, lz8, List.set, wipe, List.map_cons, List.map_nil, List.cons_append, List.nil_append, List.length_cons, List.length_nil, Nat.reduceAdd, Nat.reduceSub, List.replicate_succ, List.replicate_zero, eq_self, Bool.false_eq_true, if_true, if_false]
    refine ⟨1, rfl, ?_⟩
    unfold sliceAV
    simp only [seqAt_rol h0, W_ok]
    rw [w_lstL (xs := cut (ns.map AV.int) (some 1) none) (seqAt_lst (by simp))]
    have hc : ∃ ys : List Int, cut (ns.map AV.int) (some 1) none = ys.map AV.int := by
      unfold cut; exact ⟨(ns.drop _).take _, by rw [List.map_take, List.map_drop]⟩
    obtain ⟨ys, hc⟩ := hc
    rw [hc]
    have b0 : 0 ≤ (y * 48271 + 1009) % 2147483629 := Int.emod_nonneg _ (by omega)
    have b1 : (y * 48271 + 1009) % 2147483629 < 2147483629 := Int.emod_lt_of_pos _ (by omega)
    refine k _ (s.length + 1) _ ⟨ga, (y * 48271 + 1009) % 2147483629 + 3, ys, ?_, ?_, ?_, hga, by omega, by omega⟩ ?_ (by simp) (by omega)
    · simp
    · simp
    · simp
    · exact Kp.app _ (Kp.app _ (Kp.app _ (Kp.refl _)))
  by_cases hz18 : (1000000000000000000 : Int) ≤ y
  · rw [if_pos (by simp [hz18]), if_pos (by omega)]
    have := fin y hy
    simpa using this
  · rw [if_neg (by simp [hz18]), if_pos (by omega)]
    have := fin 0 (by omega)
    simpa using this
theorem pick_w {p q l : Nat} {xs : List Nat} (P : Pool s p q) (h : s[l]? = some (.lst (xs.map nv))) (hp : l ≠ p) (hq : l ≠ q) (hx : 0 < xs.length) (hx1 : xs.length < 1000000)
    (k : ∀ x s', x ∈ xs → Pool s' p q → Kp [p, q] s s' → Q (nv x) s') : W (m__law_pick [.ref p, .ref l] s) Q := by
  unfold m__law_pick b__law_pick
  refine d_runn (by rfl) (x_ret ?_)
  simp only [w_calln, w_call, w_cons, w_nil, w_tup, w_lst, w_op, w_un, w_c, w_var0, w_varS, w_and, w_or, w_not, w_iteE, w_lmeth, t_val, t_tru, t_and, t_or, t_not, t_yes, w_ch0, w_ch1, w_ch2, w_pr0, w_pr1, w_ix20, w_ix21, w_ix30, w_ix31, w_ix32, w_inT, w_eqI, w_add, w_sub, w_lt, w_le, w_gt, w_ge, w_neg, w_lenT, w_int, w_min, w_max, w_tupT, onB_bl, truth_bl, x_seq, x_skip, KR_ret, TK_ret, TK_brk, TK_cnt, g_name, g_unp, g_allS, g_all0, g_sub, lz0, lz1, lz2, lz3, lz4, lz5, lz6, lz7, lz8, List.set, wipe, List.map_cons, List.map_nil, List.cons_append, List.nil_append, List.length_cons, List.length_nil, Nat.reduceAdd, Nat.reduceSub, List.replicate_succ, List.replicate_zero, eq_self, Bool.false_eq_true, if_true, if_false, w_lenL h, List.length_map]
  refine draw_w P (by omega) (by omega) fun r s' hr P' k' => ?_
  have hr' : r < xs.length := by omega
  rw [w_ixL (v := nv xs[r]) (seqAt_lst (k'.2 _ _ (by simp [hp, hq]) h)) (getM hr')]
  exact k _ _ (List.getElem_mem hr') P' k'
theorem w_lstR {en : En} {a : ME} {n : Nat} (hn : n ≤ 1000000) (h : W (a en s) fun x s' => x = nv n ∧ Q (.ref s'.length) (s' ++ [.lst ((List.range n).map nv)])) : W (E.lstR a en s) Q := by
  unfold E.lstR
  rw [W_bind]
  refine W_mono h ?_
  rintro x s ⟨rfl, h⟩
  have c : (I.inR (n : Int) && decide ((n : Int).toNat ≤ 16777216)) = true := by
    have : I.inR (n : Int) = true := by
      unfold I.inR
      have h1 : -(2 ^ 62 : Int) ≤ (n : Int) ∧ (n : Int) < 2 ^ 62 := by
        have : (2 ^ 62 : Int) = 4611686018427387904 := by decide
        omega
      exact decide_eq_true h1
    rw [this, Bool.true_and]; exact decide_eq_true (by omega)
  simp only [nv, Int.toNat_natCast] at c ⊢
  rw [if_pos c, W_ok, ints0]; exact h
theorem erase_map {α β : Type} (f : α → β) : ∀ (xs : List α) (r : Nat), (xs.map f).eraseIdx r = (xs.eraseIdx r).map f
  | [], _ => rfl
  | _ :: _, 0 => rfl
  | x :: xs, r + 1 => by
    rw [List.map_cons, List.eraseIdx_cons_succ, List.eraseIdx_cons_succ, List.map_cons, erase_map f xs r]
theorem erase_perm {α : Type} : ∀ (xs : List α) {r : Nat} (h : r < xs.length), ([xs[r]] ++ xs.eraseIdx r).Perm xs
  | [], _, h => absurd h (Nat.not_lt_zero _)
  | x :: xs, 0, _ => List.Perm.refl _
  | x :: xs, r + 1, h => by
    have ih := erase_perm xs (r := r) (by simpa using h)
    rw [List.eraseIdx_cons_succ]
    exact (List.Perm.swap x _ _).trans (List.Perm.cons x ih)
/-- names: all places below n, in some order -/
structure Nm (n : Nat) (nm : List Nat) : Prop where
  len : nm.length = n
  nd : nm.Nodup
  lt : ∀ x ∈ nm, x < n
theorem turned_law_w {p q n : Nat} (P : Pool s p q) (hn : n ≤ 1000) (k : ∀ f s' nm, Nm n nm → Pool s' p q → Kp [p, q] s s' → s.length ≤ f → s'[f]? = some (.lst (nm.map nv)) → Q (.ref f) s') : W (m__law_turned [.ref p, nv n] s) Q := by
  have hpl := P.lt
  unfold m__law_turned b__law_turned
  refine d_runn (by rfl) ?_
  simp only [w_calln, w_call, w_cons, w_nil, w_tup, w_lst, w_op, w_un, w_c, w_var0, w_varS, w_and, w_or, w_not, w_iteE, w_lmeth, t_val, t_tru, t_and, t_or, t_not, t_yes, w_ch0, w_ch1, w_ch2, w_pr0, w_pr1, w_ix20, w_ix21, w_ix30, w_ix31, w_ix32, w_inT, w_eqI, w_add, w_sub, w_lt, w_le, w_gt, w_ge, w_neg, w_lenT, w_int, w_min, w_max, w_tupT, onB_bl, truth_bl, x_seq, x_skip, KR_ret, TK_ret, TK_brk, TK_cnt, g_name, g_unp, g_allS, g_all0, g_sub, lz0, lz1, lz2, lz3, lz4, lz5, lz6, lz7, lz8, List.set, wipe, List.map_cons, List.map_nil, List.cons_append, List.nil_append, List.length_cons, List.length_nil, Nat.reduceAdd, Nat.reduceSub, List.replicate_succ, List.replicate_zero, eq_self, Bool.false_eq_true, if_true, if_false]
  refine x_asg ?_
  simp only [w_calln, w_call, w_cons, w_nil, w_tup, w_lst, w_op, w_un, w_c, w_var0, w_varS, w_and, w_or, w_not, w_iteE, w_lmeth, t_val, t_tru, t_and, t_or, t_not, t_yes, w_ch0, w_ch1, w_ch2, w_pr0, w_pr1, w_ix20, w_ix21, w_ix30, w_ix31, w_ix32, w_inT, w_eqI, w_add, w_sub, w_lt, w_le, w_gt, w_ge, w_neg, w_lenT, w_int, w_min, w_max, w_tupT, onB_bl, truth_bl, x_seq, x_skip, KR_ret, TK_ret, TK_brk, TK_cnt, g_name, g_unp, g_allS, g_all0, g_sub, lz0, lz1, lz2, lz3, lz4, lz5, lz6, lz7, lz8, List.set, wipe, List.map_cons, List.map_nil, List.cons_append, List.nil_append, List.length_cons, List.length_nil, Nat.reduceAdd, Nat.reduceSub, List.replicate_succ, List.replicate_zero, eq_self, Bool.false_eq_true, if_true, if_false]
  refine w_lstR (n := n) (by omega) ?_
  simp only [w_calln, w_call, w_cons, w_nil, w_tup, w_lst, w_op, w_un, w_c, w_var0, w_varS, w_and, w_or, w_not, w_iteE, w_lmeth, t_val, t_tru, t_and, t_or, t_not, t_yes, w_ch0, w_ch1, w_ch2, w_pr0, w_pr1, w_ix20, w_ix21, w_ix30, w_ix31, w_ix32, w_inT, w_eqI, w_add, w_sub, w_lt, w_le, w_gt, w_ge, w_neg, w_lenT, w_int, w_min, w_max, w_tupT, onB_bl, truth_bl, x_seq, x_skip, KR_ret, TK_ret, TK_brk, TK_cnt, g_name, g_unp, g_allS, g_all0, g_sub, lz0, lz1, lz2, lz3, lz4, lz5, lz6, lz7, lz8, List.set, wipe, List.map_cons, List.map_nil, List.cons_append, List.nil_append, List.length_cons, List.length_nil, Nat.reduceAdd, Nat.reduceSub, List.replicate_succ, List.replicate_zero, eq_self, Bool.false_eq_true, if_true, if_false]
  refine ⟨trivial, ?_⟩
  refine for_r ?_
  simp only [w_calln, w_call, w_cons, w_nil, w_tup, w_lst, w_op, w_un, w_c, w_var0, w_varS, w_and, w_or, w_not, w_iteE, w_lmeth, t_val, t_tru, t_and, t_or, t_not, t_yes, w_ch0, w_ch1, w_ch2, w_pr0, w_pr1, w_ix20, w_ix21, w_ix30, w_ix31, w_ix32, w_inT, w_eqI, w_add, w_sub, w_lt, w_le, w_gt, w_ge, w_neg, w_lenT, w_int, w_min, w_max, w_tupT, onB_bl, truth_bl, x_seq, x_skip, KR_ret, TK_ret, TK_brk, TK_cnt, g_name, g_unp, g_allS, g_all0, g_sub, lz0, lz1, lz2, lz3, lz4, lz5, lz6, lz7, lz8, List.set, wipe, List.map_cons, List.map_nil, List.cons_append, List.nil_append, List.length_cons, List.length_nil, Nat.reduceAdd, Nat.reduceSub, List.replicate_succ, List.replicate_zero, eq_self, Bool.false_eq_true, if_true, if_false]
  refine .mk n (fun j en s' => (∃ o4 : Option AV, en = [some (.ref p), some (nv n), some (.ref s.length), some (.ref (s.length + 1)), o4]) ∧ Pool s' p q ∧ Kp [p, q] s s' ∧ ∃ fd L : List Nat, s'[s.length]? = some (.lst (L.map nv)) ∧ s'[s.length + 1]? = some (.lst (fd.map nv)) ∧ fd.length = j ∧ (fd ++ L).Perm (List.range n)) rfl (by omega) ⟨⟨none, by simp⟩, ?_, ?_, [], List.range n, by simp, by simp, rfl, by simp⟩ ?_ ?_
  · exact P.keep (Kp.app _ (Kp.app _ (Kp.refl _)))
  · exact Kp.app _ (Kp.app _ (Kp.refl _))
  · rintro j en s1 hj ⟨⟨o4, rfl⟩, P1, k1, fd, L, hL, hfd, hfl, hperm⟩
    have hll : fd.length + L.length = n := by have := hperm.length_eq; simpa using this
    simp only [w_calln, w_call, w_cons, w_nil, w_tup, w_lst, w_op, w_un, w_c, w_var0, w_varS, w_and, w_or, w_not, w_iteE, w_lmeth, t_val, t_tru, t_and, t_or, t_not, t_yes, w_ch0, w_ch1, w_ch2, w_pr0, w_pr1, w_ix20, w_ix21, w_ix30, w_ix31, w_ix32, w_inT, w_eqI, w_add, w_sub, w_lt, w_le, w_gt, w_ge, w_neg, w_lenT, w_int, w_min, w_max, w_tupT, onB_bl, truth_bl, x_seq, x_skip, KR_ret, TK_ret, TK_brk, TK_cnt, g_name, g_unp, g_allS, g_all0, g_sub, lz0, lz1, lz2, lz3, lz4, lz5, lz6, lz7, lz8, List.set, wipe, List.map_cons, List.map_nil, List.cons_append, List.nil_append, List.length_cons, List.length_nil, Nat.reduceAdd, Nat.reduceSub, List.replicate_succ, List.replicate_zero, eq_self, Bool.false_eq_true, if_true, if_false]
    refine x_expr ?_
    simp only [w_calln, w_call, w_cons, w_nil, w_tup, w_lst, w_op, w_un, w_c, w_var0, w_varS, w_and, w_or, w_not, w_iteE, w_lmeth, t_val, t_tru, t_and, t_or, t_not, t_yes, w_ch0, w_ch1, w_ch2, w_pr0, w_pr1, w_ix20, w_ix21, w_ix30, w_ix31, w_ix32, w_inT, w_eqI, w_add, w_sub, w_lt, w_le, w_gt, w_ge, w_neg, w_lenT, w_int, w_min, w_max, w_tupT, onB_bl, truth_bl, x_seq, x_skip, KR_ret, TK_ret, TK_brk, TK_cnt, g_name, g_unp, g_allS, g_all0, g_sub, lz0, lz1, lz2, lz3, lz4, lz5, lz6, lz7, lz8, List.set, wipe, List.map_cons, List.map_nil, List.cons_append, List.nil_append, List.length_cons, List.length_nil, Nat.reduceAdd, Nat.reduceSub, List.replicate_succ, List.replicate_zero, eq_self, Bool.false_eq_true, if_true, if_false]
    rw [if_pos (isLst_of hfd), if_pos (isLst_of hL), w_lenL hL, List.length_map]
    refine draw_w P1 (by omega) (by omega) fun r s2 hr P2 k2 => ?_
    have hr' : r < L.length := by omega
    have hL2 := k2.2 _ _ (by simp; omega) hL
    have hfd2 := k2.2 _ _ (by simp; omega) hfd
    rw [w_popI (y := nv L[r]) hL2 (getM hr') (by omega)]
    have hfd3 : (s2.set s.length (.lst ((L.map nv).eraseIdx r)))[s.length + 1]? = some (.lst (fd.map nv)) := by rw [List.getElem?_set_ne (by omega)]; exact hfd2
    rw [w_append hfd3 (by simp; unfold lineZ; omega)]
    refine ⟨⟨_, rfl⟩, (P2.setN (by omega) (by omega)).setN (by omega) (by omega), ((k1.trans k2).setN _ _ (by omega)).setN _ _ (by omega), fd ++ [L[r]], L.eraseIdx r, ?_, ?_, by simp; omega, ?_⟩
    · rw [List.getElem?_set_ne (by omega), List.getElem?_set_self (lt_of_get hL2), erase_map]
    · rw [List.getElem?_set_self (by rw [List.length_set]; exact lt_of_get hfd2)]; simp
    · refine List.Perm.trans ?_ hperm
      rw [List.append_assoc]
      exact List.Perm.append_left _ (erase_perm L hr')
  · rintro en s1 ⟨⟨o4, rfl⟩, P1, k1, fd, L, hL, hfd, hfl, hperm⟩
    have hll : fd.length + L.length = n := by have := hperm.length_eq; simpa using this
    have hL0 : L = [] := List.eq_nil_of_length_eq_zero (by omega)
    subst hL0
    rw [List.append_nil] at hperm
    refine x_ret ?_
    simp only [w_calln, w_call, w_cons, w_nil, w_tup, w_lst, w_op, w_un, w_c, w_var0, w_varS, w_and, w_or, w_not, w_iteE, w_lmeth, t_val, t_tru, t_and, t_or, t_not, t_yes, w_ch0, w_ch1, w_ch2, w_pr0, w_pr1, w_ix20, w_ix21, w_ix30, w_ix31, w_ix32, w_inT, w_eqI, w_add, w_sub, w_lt, w_le, w_gt, w_ge, w_neg, w_lenT, w_int, w_min, w_max, w_tupT, onB_bl, truth_bl, x_seq, x_skip, KR_ret, TK_ret, TK_brk, TK_cnt, g_name, g_unp, g_allS, g_all0, g_sub, lz0, lz1, lz2, lz3, lz4, lz5, lz6, lz7, lz8, List.set, wipe, List.map_cons, List.map_nil, List.cons_append, List.nil_append, List.length_cons, List.length_nil, Nat.reduceAdd, Nat.reduceSub, List.replicate_succ, List.replicate_zero, eq_self, Bool.false_eq_true, if_true, if_false]
    refine k _ _ fd ⟨hfl, hperm.nodup_iff.mpr List.nodup_range, fun x hx => List.mem_range.mp (hperm.mem_iff.mp hx)⟩ P1 k1 (by omega) hfd
end
end Sp
namespace Sp
open PySem Mi Mr
section
variable {Q : AV → Sto → Prop} {s : Sto}
theorem srt_nv (xs : List Nat) : Mi.B.sorts (xs.map nv) = true := by
  unfold Mi.B.sorts
  have : (xs.map nv).all Mi.B.isInt = true := by simp [nv, Mi.B.isInt]
  rw [this]; rfl
theorem tupI_tn {x : List Nat} (h : x ≠ []) : Mi.B.isTupI (tn x) = true := by
  unfold tn Mi.B.isTupI
  have : (x.map nv).all Mi.B.isInt = true := by simp [nv, Mi.B.isInt]
  simp only [this, Bool.and_true]
  cases x with
  | nil => exact absurd rfl h
  | cons => rfl
theorem srt_tn (xs : List (List Nat)) (h : ∀ x ∈ xs, x ≠ []) : Mi.B.sorts (xs.map tn) = true := by
  unfold Mi.B.sorts
  have : (xs.map tn).all Mi.B.isTupI = true := by
    rw [List.all_eq_true]
    intro y hy
    obtain ⟨x, hx, rfl⟩ := List.mem_map.mp hy
    exact tupI_tn (h x hx)
  rw [this, Bool.or_true]
theorem srt_pr (xs : List (Nat × Nat)) : Mi.B.sorts (xs.map pr) = true := by
  have e : xs.map pr = (xs.map fun r => [r.1, r.2]).map tn := by rw [List.map_map]; rfl
  rw [e]; exact srt_tn _ fun x hx => by obtain ⟨r, _, rfl⟩ := List.mem_map.mp hx; simp
theorem sorted_w {α : Type} [DecidableEq α] {le : α → α → Bool} {emb : α → AV} (hs : ∀ a b, le a b = Mi.B.sLe (emb a) (emb b)) {l : Nat} {xs : List α} (h : s[l]? = some (.lst (xs.map emb))) (hl : xs.length ≤ 1000000) (hso : Mi.B.sorts (xs.map emb) = true) :
    W (Mi.B.sorted [.ref l] s) Q = Q (.ref s.length) (s ++ [.lst ((xs.mergeSort le).map emb)]) := by
  have e : Mi.B.sorted [.ref l] s = newLst ((xs.mergeSort le).map emb) s := by
    unfold Mi.B.sorted; simp only [h, hso, if_true]; rw [sorted_emb hs]
  rw [e]; unfold newLst
  rw [if_pos (by rw [List.length_map, List.length_mergeSort]; unfold lineZ; omega), W_ok]
theorem sset_w {α : Type} [DecidableEq α] {le : α → α → Bool} (O : Ord le) {emb : α → AV} (inj : ∀ a b, emb a = emb b → a = b) (hs : ∀ a b, le a b = Mi.B.sLe (emb a) (emb b)) {l : Nat} {xs : List α} (h : s[l]? = some (.lst (xs.map emb))) (hl : xs.length < 64)
    (hso : ∀ ys : List α, (∀ y ∈ ys, y ∈ xs) → Mi.B.sorts (ys.map emb) = true) (k : ∀ l' s' (ys : List α), Kp [] s s' → s.length ≤ l' → Asc le ys → (∀ x, x ∈ ys ↔ x ∈ xs) → ys.length ≤ xs.length → s'[l']? = some (.lst (ys.map emb)) → Q (.ref l') s') :
    W (Mi.B.set_ [.ref l] s) (fun v s => W (Mi.B.sorted [v] s) Q) := by
  have e1 : Mi.B.set_ [.ref l] s = .ok (.ref s.length) (s ++ [.set (Mi.B.dedup (xs.map emb))]) := by
    unfold Mi.B.set_; simp only [h, hso xs (fun _ h => h), Bool.true_and]
    rw [if_pos (decide_eq_true (by rw [List.length_map]; exact hl))]
  rw [e1, W_ok]
  obtain ⟨ys, h1, h2, h3, h4⟩ := set_sorted O inj hs xs
  have hd : Mi.B.dedup (xs.map emb) = (dd [] xs).map emb := dedup_emb inj xs []
  have e2 : Mi.B.sorted [.ref s.length] (s ++ [.set (Mi.B.dedup (xs.map emb))]) = newLst (ys.map emb) (s ++ [.set (Mi.B.dedup (xs.map emb))]) := by
    have g : (s ++ [MO.set (Mi.B.dedup (xs.map emb))])[s.length]? = some (.set (Mi.B.dedup (xs.map emb))) := by simp
    have so : Mi.B.sorts (Mi.B.dedup (xs.map emb)) = true := by
      rw [hd]; exact hso _ fun y hy => by have := (dd_mem xs [] y).mp hy; simpa using this
    unfold Mi.B.sorted; simp only [g, so, if_true]; rw [h1]
  rw [e2]; unfold newLst
  rw [if_pos (by rw [List.length_map]; unfold lineZ; omega), W_ok]
  exact k _ _ ys (Kp.app _ (Kp.app _ (Kp.refl _))) (by simp) h2 h3 h4 (by simp)
/-- the name of a place -/
def nmf (nm : List Nat) (a : Nat) : Nat := nm.getD a 0
theorem nmf_get {nm : List Nat} {a : Nat} (h : a < nm.length) : nm[a]? = some (nmf nm a) := by
  unfold nmf; rw [List.getD_eq_getElem?_getD, List.getElem?_eq_getElem h]; rfl
theorem Nm.get {n : Nat} {nm : List Nat} (N : Nm n nm) {a : Nat} (h : a < n) : nm[a]? = some (nmf nm a) := nmf_get (by rw [N.len]; exact h)
theorem Nm.lt' {n : Nat} {nm : List Nat} (N : Nm n nm) {a : Nat} (h : a < n) : nmf nm a < n := N.lt _ (List.mem_of_getElem? (N.get h))
theorem Nm.inj {n : Nat} {nm : List Nat} (N : Nm n nm) {a b : Nat} (ha : a < n) (hb : b < n) (e : nmf nm a = nmf nm b) : a = b := by
  have h1 : a < nm.length := by rw [N.len]; exact ha
  have h2 : b < nm.length := by rw [N.len]; exact hb
  have e1 := N.get ha
  have e2 := N.get hb
  rw [List.getElem?_eq_getElem h1] at e1
  rw [List.getElem?_eq_getElem h2] at e2
  exact nodup_inj N.nd h1 h2 ((Option.some.inj e1).trans (e.trans (Option.some.inj e2).symm))
theorem Nm.surj {n : Nat} {nm : List Nat} (N : Nm n nm) {x : Nat} (h : x < n) : ∃ a, a < n ∧ nmf nm a = x := by
  have hp : nm.Perm (List.range n) := by
    refine (List.perm_ext_iff_of_nodup N.nd List.nodup_range).mpr fun y => ⟨fun hy => List.mem_range.mpr (N.lt y hy), fun hy => ?_⟩
    refine Classical.byContradiction fun hn => ?_
    have : (y :: nm).length ≤ (List.range n).length := (List.nodup_cons.mpr ⟨hn, N.nd⟩).length_le_of_subset (by
      intro z hz
      rcases List.mem_cons.mp hz with rfl | hz
      · exact hy
      · exact List.mem_range.mpr (N.lt z hz))
    rw [List.length_cons, N.len, List.length_range] at this; omega
  have hx : x ∈ nm := hp.mem_iff.mpr (List.mem_range.mpr h)
  obtain ⟨i, hi, e⟩ := List.mem_iff_getElem.mp hx
  have hi' : i < n := by rw [← N.len]; exact hi
  refine ⟨i, hi', ?_⟩
  have := N.get hi'
  rw [List.getElem?_eq_getElem hi] at this
  rw [← e]; exact (Option.some.inj this).symm
theorem map_named_w {p q n lr lw : Nat} {rs0 : List (Nat × Nat)} {ws0 : List Nat} (P : Pool s p q) (hn : n ≤ 60) (hr : s[lr]? = some (.lst (rs0.map pr))) (hrp : lr ≠ p) (hrq : lr ≠ q) (hw : s[lw]? = some (.lst (ws0.map nv))) (hwp : lw ≠ p) (hwq : lw ≠ q)
    (hri : ∀ r ∈ rs0, r.1 < n ∧ r.2 < n) (hwi : ∀ w ∈ ws0, w < n) (hrl : rs0.length < 64) (hwl : ws0.length < 64)
    (k : ∀ l f s' nm rs ws, Nm n nm → VM n rs ws → rs.length < 64 → (∀ x y, (x, y) ∈ rs ↔ ∃ r ∈ rs0, x = nmf nm r.1 ∧ y = nmf nm r.2) → (∀ x, x ∈ ws ↔ ∃ w ∈ ws0, x = nmf nm w) → Pool s' p q → Kp [p, q] s s' → s.length ≤ l → s.length ≤ f → s'[l]? = some (.lst [CH n rs ws, .ref f]) → s'[f]? = some (.lst (nm.map nv)) → Q (.ref l) s') :
    W (m__law_map_named [.ref p, nv n, .ref lr, .ref lw] s) Q := by
  unfold m__law_map_named b__law_map_named
  refine d_runn (by rfl) ?_
  simp only [w_calln, w_call, w_cons, w_nil, w_tup, w_lst, w_op, w_un, w_c, w_var0, w_varS, w_and, w_or, w_not, w_iteE, w_lmeth, t_val, t_tru, t_and, t_or, t_not, t_yes, w_ch0, w_ch1, w_ch2, w_pr0, w_pr1, w_ix20, w_ix21, w_ix30, w_ix31, w_ix32, w_inT, w_eqI, w_add, w_sub, w_lt, w_le, w_gt, w_ge, w_neg, w_lenT, w_int, w_min, w_max, w_tupT, onB_bl, truth_bl, x_seq, x_skip, KR_ret, TK_ret, TK_brk, TK_cnt, g_name, g_unp, g_allS, g_all0, g_sub, lz0, lz1, lz2, lz3, lz4, lz5, lz6, lz7, lz8, List.set, wipe, List.map_cons, List.map_nil, List.cons_append, List.nil_append, List.length_cons, List.length_nil, Nat.reduceAdd, Nat.reduceSub, List.replicate_succ, List.replicate_zero, eq_self, Bool.false_eq_true, if_true, if_false]
  refine x_asg ?_
  simp only [w_calln, w_call, w_cons, w_nil, w_tup, w_lst, w_op, w_un, w_c, w_var0, w_varS, w_and, w_or, w_not, w_iteE, w_lmeth, t_val, t_tru, t_and, t_or, t_not, t_yes, w_ch0, w_ch1, w_ch2, w_pr0, w_pr1, w_ix20, w_ix21, w_ix30, w_ix31, w_ix32, w_inT, w_eqI, w_add, w_sub, w_lt, w_le, w_gt, w_ge, w_neg, w_lenT, w_int, w_min, w_max, w_tupT, onB_bl, truth_bl, x_seq, x_skip, KR_ret, TK_ret, TK_brk, TK_cnt, g_name, g_unp, g_allS, g_all0, g_sub, lz0, lz1, lz2, lz3, lz4, lz5, lz6, lz7, lz8, List.set, wipe, List.map_cons, List.map_nil, List.cons_append, List.nil_append, List.length_cons, List.length_nil, Nat.reduceAdd, Nat.reduceSub, List.replicate_succ, List.replicate_zero, eq_self, Bool.false_eq_true, if_true, if_false]
  refine turned_law_w P (by omega) fun f s1 nm N P1 k1 hf hnm => ?_
  have hr1 := k1.2 _ _ (by simp [hrp, hrq]) hr
  have hw1 := k1.2 _ _ (by simp [hwp, hwq]) hw
  refine x_asg ?_
  simp only [w_calln, w_call, w_cons, w_nil, w_tup, w_lst, w_op, w_un, w_c, w_var0, w_varS, w_and, w_or, w_not, w_iteE, w_lmeth, t_val, t_tru, t_and, t_or, t_not, t_yes, w_ch0, w_ch1, w_ch2, w_pr0, w_pr1, w_ix20, w_ix21, w_ix30, w_ix31, w_ix32, w_inT, w_eqI, w_add, w_sub, w_lt, w_le, w_gt, w_ge, w_neg, w_lenT, w_int, w_min, w_max, w_tupT, onB_bl, truth_bl, x_seq, x_skip, KR_ret, TK_ret, TK_brk, TK_cnt, g_name, g_unp, g_allS, g_all0, g_sub, lz0, lz1, lz2, lz3, lz4, lz5, lz6, lz7, lz8, List.set, wipe, List.map_cons, List.map_nil, List.cons_append, List.nil_append, List.length_cons, List.length_nil, Nat.reduceAdd, Nat.reduceSub, List.replicate_succ, List.replicate_zero, eq_self, Bool.false_eq_true, if_true, if_false]
  refine lc_pure rs0 pr (fun _ => true) (fun r => pr (nmf nm r.1, nmf nm r.2)) (i_seq ?_)
  simp only [w_calln, w_call, w_cons, w_nil, w_tup, w_lst, w_op, w_un, w_c, w_var0, w_varS, w_and, w_or, w_not, w_iteE, w_lmeth, t_val, t_tru, t_and, t_or, t_not, t_yes, w_ch0, w_ch1, w_ch2, w_pr0, w_pr1, w_ix20, w_ix21, w_ix30, w_ix31, w_ix32, w_inT, w_eqI, w_add, w_sub, w_lt, w_le, w_gt, w_ge, w_neg, w_lenT, w_int, w_min, w_max, w_tupT, onB_bl, truth_bl, x_seq, x_skip, KR_ret, TK_ret, TK_brk, TK_cnt, g_name, g_unp, g_allS, g_all0, g_sub, lz0, lz1, lz2, lz3, lz4, lz5, lz6, lz7, lz8, List.set, wipe, List.map_cons, List.map_nil, List.cons_append, List.nil_append, List.length_cons, List.length_nil, Nat.reduceAdd, Nat.reduceSub, List.replicate_succ, List.replicate_zero, eq_self, Bool.false_eq_true, if_true, if_false]
  refine .mk _ (Lk.lst hr1) (fun e => nomatch e) (fun l e he => ?_)
  cases e
  refine .mk (by unfold lineZ; omega) (Or.inr ⟨_, rfl, he⟩) ?_ ?_
  · intro r hrm s' hk
    have hri' := hri r hrm
    have hf' := hk.2 _ _ (by simp) hnm
    unfold pr
    simp only [w_calln, w_call, w_cons, w_nil, w_tup, w_lst, w_op, w_un, w_c, w_var0, w_varS, w_and, w_or, w_not, w_iteE, w_lmeth, t_val, t_tru, t_and, t_or, t_not, t_yes, w_ch0, w_ch1, w_ch2, w_pr0, w_pr1, w_ix20, w_ix21, w_ix30, w_ix31, w_ix32, w_inT, w_eqI, w_add, w_sub, w_lt, w_le, w_gt, w_ge, w_neg, w_lenT, w_int, w_min, w_max, w_tupT, onB_bl, truth_bl, x_seq, x_skip, KR_ret, TK_ret, TK_brk, TK_cnt, g_name, g_unp, g_allS, g_all0, g_sub, lz0, lz1, lz2, lz3, lz4, lz5, lz6, lz7, lz8, List.set, wipe, List.map_cons, List.map_nil, List.cons_append, List.nil_append, List.length_cons, List.length_nil, Nat.reduceAdd, Nat.reduceSub, List.replicate_succ, List.replicate_zero, eq_self, Bool.false_eq_true, if_true, if_false]
    rw [w_ixL (v := nv (nmf nm r.1)) (seqAt_lst hf') (by rw [List.getElem?_map, N.get hri'.1]; rfl), w_ixL (v := nv (nmf nm r.2)) (seqAt_lst hf') (by rw [List.getElem?_map, N.get hri'.2]; rfl)]
    simp [Kp.refl]
  intro s2 k2 h2
  have e2 : ((rs0.filter fun _ => true).map fun r => pr (nmf nm r.1, nmf nm r.2)) = (rs0.map fun r => (nmf nm r.1, nmf nm r.2)).map pr := by
    rw [List.filter_eq_self.mpr (fun _ _ => rfl), List.map_map]; rfl
  rw [e2] at h2
  refine sset_w pleO pr_inj ple_s h2 (by rw [List.length_map]; exact hrl) (fun ys _ => srt_pr ys) fun l3 s3 rs k3 hl3 hasc hmem hlen h3 => ?_
  rw [w_tupL (seqAt_lst h3)]
  refine x_ret ?_
  simp only [w_calln, w_call, w_cons, w_nil, w_tup, w_lst, w_op, w_un, w_c, w_var0, w_varS, w_and, w_or, w_not, w_iteE, w_lmeth, t_val, t_tru, t_and, t_or, t_not, t_yes, w_ch0, w_ch1, w_ch2, w_pr0, w_pr1, w_ix20, w_ix21, w_ix30, w_ix31, w_ix32, w_inT, w_eqI, w_add, w_sub, w_lt, w_le, w_gt, w_ge, w_neg, w_lenT, w_int, w_min, w_max, w_tupT, onB_bl, truth_bl, x_seq, x_skip, KR_ret, TK_ret, TK_brk, TK_cnt, g_name, g_unp, g_allS, g_all0, g_sub, lz0, lz1, lz2, lz3, lz4, lz5, lz6, lz7, lz8, List.set, wipe, List.map_cons, List.map_nil, List.cons_append, List.nil_append, List.length_cons, List.length_nil, Nat.reduceAdd, Nat.reduceSub, List.replicate_succ, List.replicate_zero, eq_self, Bool.false_eq_true, if_true, if_false]
  refine lc_pure ws0 nv (fun _ => true) (fun w => nv (nmf nm w)) (i_seq ?_)
  simp only [w_calln, w_call, w_cons, w_nil, w_tup, w_lst, w_op, w_un, w_c, w_var0, w_varS, w_and, w_or, w_not, w_iteE, w_lmeth, t_val, t_tru, t_and, t_or, t_not, t_yes, w_ch0, w_ch1, w_ch2, w_pr0, w_pr1, w_ix20, w_ix21, w_ix30, w_ix31, w_ix32, w_inT, w_eqI, w_add, w_sub, w_lt, w_le, w_gt, w_ge, w_neg, w_lenT, w_int, w_min, w_max, w_tupT, onB_bl, truth_bl, x_seq, x_skip, KR_ret, TK_ret, TK_brk, TK_cnt, g_name, g_unp, g_allS, g_all0, g_sub, lz0, lz1, lz2, lz3, lz4, lz5, lz6, lz7, lz8, List.set, wipe, List.map_cons, List.map_nil, List.cons_append, List.nil_append, List.length_cons, List.length_nil, Nat.reduceAdd, Nat.reduceSub, List.replicate_succ, List.replicate_zero, eq_self, Bool.false_eq_true, if_true, if_false]
  refine .mk _ (Lk.lst ((k2.trans k3).2 _ _ (by simp) hw1)) (fun e => nomatch e) (fun l e he => ?_)
  cases e
  refine .mk (by unfold lineZ; omega) (Or.inr ⟨_, rfl, he⟩) ?_ ?_
  · intro w hwm s' hk
    have hf' := ((k2.trans k3).trans hk).2 _ _ (by simp) hnm
    simp only [w_calln, w_call, w_cons, w_nil, w_tup, w_lst, w_op, w_un, w_c, w_var0, w_varS, w_and, w_or, w_not, w_iteE, w_lmeth, t_val, t_tru, t_and, t_or, t_not, t_yes, w_ch0, w_ch1, w_ch2, w_pr0, w_pr1, w_ix20, w_ix21, w_ix30, w_ix31, w_ix32, w_inT, w_eqI, w_add, w_sub, w_lt, w_le, w_gt, w_ge, w_neg, w_lenT, w_int, w_min, w_max, w_tupT, onB_bl, truth_bl, x_seq, x_skip, KR_ret, TK_ret, TK_brk, TK_cnt, g_name, g_unp, g_allS, g_all0, g_sub, lz0, lz1, lz2, lz3, lz4, lz5, lz6, lz7, lz8, List.set, wipe, List.map_cons, List.map_nil, List.cons_append, List.nil_append, List.length_cons, List.length_nil, Nat.reduceAdd, Nat.reduceSub, List.replicate_succ, List.replicate_zero, eq_self, Bool.false_eq_true, if_true, if_false]
    rw [w_ixL (v := nv (nmf nm w)) (seqAt_lst hf') (by rw [List.getElem?_map, N.get (hwi w hwm)]; rfl)]
    simp [Kp.refl]
  intro s4 k4 h4
  have e4 : ((ws0.filter fun _ => true).map fun w => nv (nmf nm w)) = (ws0.map (nmf nm)).map nv := by
    rw [List.filter_eq_self.mpr (fun _ _ => rfl), List.map_map]; rfl
  rw [e4] at h4
  refine sset_w nleO nv_inj nle_s h4 (by rw [List.length_map]; exact hwl) (fun ys _ => srt_nv ys) fun l5 s5 ws k5 hl5 hasc5 hmem5 hlen5 h5 => ?_
  rw [w_tupL (seqAt_lst h5)]
  have k15 : Kp [] s1 s5 := ((k2.trans k3).trans k4).trans k5
  have rmem : ∀ x y, (x, y) ∈ rs ↔ ∃ r ∈ rs0, x = nmf nm r.1 ∧ y = nmf nm r.2 := fun x y => by
    rw [hmem, List.mem_map]
    constructor
    · rintro ⟨r, h1, h2⟩; exact ⟨r, h1, (congrArg Prod.fst h2).symm, (congrArg Prod.snd h2).symm⟩
    · rintro ⟨r, h1, rfl, rfl⟩; exact ⟨r, h1, rfl⟩
  have wmem : ∀ x, x ∈ ws ↔ ∃ w ∈ ws0, x = nmf nm w := fun x => by
    rw [hmem5, List.mem_map]
    exact ⟨fun ⟨w, h1, h2⟩ => ⟨w, h1, h2.symm⟩, fun ⟨w, h1, h2⟩ => ⟨w, h1, h2.symm⟩⟩
  refine k _ f _ nm rs ws N ⟨hn, ?_, ?_, hasc, ?_, hasc5⟩ (by rw [List.length_map] at hlen; omega) rmem wmem (P1.keep (Kp.app _ k15)) ((k1.trans k15.nil).app _) ?_ hf ?_ ?_
  · rw [List.length_map] at hlen; omega
  · intro r hr
    obtain ⟨r0, h1, h2, h3⟩ := (rmem r.1 r.2).mp hr
    rw [h2, h3]; exact ⟨N.lt' (hri r0 h1).1, N.lt' (hri r0 h1).2⟩
  · intro w hw
    obtain ⟨w0, h1, h2⟩ := (wmem w).mp hw
    rw [h2]; exact N.lt' (hwi w0 h1)
  · have := k1.1; have := k15.1; omega
  · simp [CH]
  · exact (Kp.app _ k15).2 _ _ (by simp) hnm
end
end Sp
namespace Sp
open PySem Mi Mr
section
variable {Q : AV → Sto → Prop} {s : Sto}
theorem w_addL {a b : Nat} {xs ys : List AV} (ha : s[a]? = some (.lst xs)) (hb : s[b]? = some (.lst ys)) (hl : xs.length + ys.length ≤ 1000000) : W (addAV (.ref a) (.ref b) s) Q = Q (.ref s.length) (s ++ [.lst (xs ++ ys)]) := by
  have e : addAV (.ref a) (.ref b) s = newLst (xs ++ ys) s := by
    unfold addAV; simp only [ha, hb]; rw [if_pos (by unfold lineZ; omega)]
  rw [e]; unfold newLst; rw [if_pos (by rw [List.length_append]; unfold lineZ; omega), W_ok]
theorem pln_prs (rs : List (Nat × Nat)) : (rs.map pr).all (pln 1) = true := by
  rw [List.all_eq_true]
  intro x hx
  obtain ⟨r, _, rfl⟩ := List.mem_map.mp hx
  rfl
theorem sub_le {ys : List Nat} {n : Nat} (h : ys.Sublist (List.range n)) : ys.length ≤ n ∧ ∀ y ∈ ys, y < n := by
  refine ⟨by have := h.length_le; rwa [List.length_range] at this, fun y hy => List.mem_range.mp (h.subset hy)⟩
theorem some_wished_w {p q n lr : Nat} {rs0 : List (Nat × Nat)} (P : Pool s p q) (hn : n ≤ 31) (hr : s[lr]? = some (.lst (rs0.map pr))) (hrp : lr ≠ p) (hrq : lr ≠ q) (hrl : rs0.length < 1000)
    (k : ∀ l s' (ws : List Nat), (∀ w ∈ ws, w < n) → ws.length < 64 → Pool s' p q → Kp [p, q] s s' → s.length ≤ l → s'[l]? = some (.lst (ws.map nv)) → Q (.ref l) s') : W (m__law_map_some_wished [.ref p, nv n, .ref lr] s) Q := by
  have hpl := P.lt
  unfold m__law_map_some_wished b__law_map_some_wished
  refine d_runn (by rfl) ?_
  simp only [w_calln, w_call, w_cons, w_nil, w_tup, w_lst, w_op, w_un, w_c, w_var0, w_varS, w_and, w_or, w_not, w_iteE, w_lmeth, t_val, t_tru, t_and, t_or, t_not, t_yes, w_ch0, w_ch1, w_ch2, w_pr0, w_pr1, w_ix20, w_ix21, w_ix30, w_ix31, w_ix32, w_inT, w_eqI, w_add, w_sub, w_lt, w_le, w_gt, w_ge, w_neg, w_lenT, w_int, w_min, w_max, w_tupT, onB_bl, truth_bl, x_seq, x_skip, KR_ret, TK_ret, TK_brk, TK_cnt, g_name, g_unp, g_allS, g_all0, g_sub, lz0, lz1, lz2, lz3, lz4, lz5, lz6, lz7, lz8, List.set, wipe, List.map_cons, List.map_nil, List.cons_append, List.nil_append, List.length_cons, List.length_nil, Nat.reduceAdd, Nat.reduceSub, List.replicate_succ, List.replicate_zero, eq_self, Bool.false_eq_true, if_true, if_false]
  refine x_asg ?_
  simp only [w_calln, w_call, w_cons, w_nil, w_tup, w_lst, w_op, w_un, w_c, w_var0, w_varS, w_and, w_or, w_not, w_iteE, w_lmeth, t_val, t_tru, t_and, t_or, t_not, t_yes, w_ch0, w_ch1, w_ch2, w_pr0, w_pr1, w_ix20, w_ix21, w_ix30, w_ix31, w_ix32, w_inT, w_eqI, w_add, w_sub, w_lt, w_le, w_gt, w_ge, w_neg, w_lenT, w_int, w_min, w_max, w_tupT, onB_bl, truth_bl, x_seq, x_skip, KR_ret, TK_ret, TK_brk, TK_cnt, g_name, g_unp, g_allS, g_all0, g_sub, lz0, lz1, lz2, lz3, lz4, lz5, lz6, lz7, lz8, List.set, wipe, List.map_cons, List.map_nil, List.cons_append, List.nil_append, List.length_cons, List.length_nil, Nat.reduceAdd, Nat.reduceSub, List.replicate_succ, List.replicate_zero, eq_self, Bool.false_eq_true, if_true, if_false]
  refine draw_w P (by omega) (by omega) fun way s1 hway P1 k1 => ?_
  have hr1 := k1.2 _ _ (by simp [hrp, hrq]) hr
  have hl1 := k1.1
  refine lc_pure (List.range n) nv (fun a => (rs0.filter fun r => decide (r.1 = a)).isEmpty) nv (i_range ?_)
  simp only [w_calln, w_call, w_cons, w_nil, w_tup, w_lst, w_op, w_un, w_c, w_var0, w_varS, w_and, w_or, w_not, w_iteE, w_lmeth, t_val, t_tru, t_and, t_or, t_not, t_yes, w_ch0, w_ch1, w_ch2, w_pr0, w_pr1, w_ix20, w_ix21, w_ix30, w_ix31, w_ix32, w_inT, w_eqI, w_add, w_sub, w_lt, w_le, w_gt, w_ge, w_neg, w_lenT, w_int, w_min, w_max, w_tupT, onB_bl, truth_bl, x_seq, x_skip, KR_ret, TK_ret, TK_brk, TK_cnt, g_name, g_unp, g_allS, g_all0, g_sub, lz0, lz1, lz2, lz3, lz4, lz5, lz6, lz7, lz8, List.set, wipe, List.map_cons, List.map_nil, List.cons_append, List.nil_append, List.length_cons, List.length_nil, Nat.reduceAdd, Nat.reduceSub, List.replicate_succ, List.replicate_zero, eq_self, Bool.false_eq_true, if_true, if_false]
  refine .mk n rfl (by omega) ?_
  refine .mk (by unfold lineZ; simp; omega) (Or.inl rfl) ?_ ?_
  · intro a ha s' hk
    simp only [w_calln, w_call, w_cons, w_nil, w_tup, w_lst, w_op, w_un, w_c, w_var0, w_varS, w_and, w_or, w_not, w_iteE, w_lmeth, t_val, t_tru, t_and, t_or, t_not, t_yes, w_ch0, w_ch1, w_ch2, w_pr0, w_pr1, w_ix20, w_ix21, w_ix30, w_ix31, w_ix32, w_inT, w_eqI, w_add, w_sub, w_lt, w_le, w_gt, w_ge, w_neg, w_lenT, w_int, w_min, w_max, w_tupT, onB_bl, truth_bl, x_seq, x_skip, KR_ret, TK_ret, TK_brk, TK_cnt, g_name, g_unp, g_allS, g_all0, g_sub, lz0, lz1, lz2, lz3, lz4, lz5, lz6, lz7, lz8, List.set, wipe, List.map_cons, List.map_nil, List.cons_append, List.nil_append, List.length_cons, List.length_nil, Nat.reduceAdd, Nat.reduceSub, List.replicate_succ, List.replicate_zero, eq_self, Bool.false_eq_true, if_true, if_false]
    have hr' := hk.2 _ _ (by simp) hr1
    refine lc_pure rs0 pr (fun r => decide (r.1 = a)) pr (i_seq ?_)
    simp only [w_calln, w_call, w_cons, w_nil, w_tup, w_lst, w_op, w_un, w_c, w_var0, w_varS, w_and, w_or, w_not, w_iteE, w_lmeth, t_val, t_tru, t_and, t_or, t_not, t_yes, w_ch0, w_ch1, w_ch2, w_pr0, w_pr1, w_ix20, w_ix21, w_ix30, w_ix31, w_ix32, w_inT, w_eqI, w_add, w_sub, w_lt, w_le, w_gt, w_ge, w_neg, w_lenT, w_int, w_min, w_max, w_tupT, onB_bl, truth_bl, x_seq, x_skip, KR_ret, TK_ret, TK_brk, TK_cnt, g_name, g_unp, g_allS, g_all0, g_sub, lz0, lz1, lz2, lz3, lz4, lz5, lz6, lz7, lz8, List.set, wipe, List.map_cons, List.map_nil, List.cons_append, List.nil_append, List.length_cons, List.length_nil, Nat.reduceAdd, Nat.reduceSub, List.replicate_succ, List.replicate_zero, eq_self, Bool.false_eq_true, if_true, if_false]
    refine .mk _ (Lk.lst hr') (fun e => nomatch e) (fun l e he => ?_)
    cases e
    refine .mk (by unfold lineZ; omega) (Or.inr ⟨_, rfl, he⟩) ?_ ?_
    · intro r hrm s2 hk2
      simp only [w_calln, w_call, w_cons, w_nil, w_tup, w_lst, w_op, w_un, w_c, w_var0, w_varS, w_and, w_or, w_not, w_iteE, w_lmeth, t_val, t_tru, t_and, t_or, t_not, t_yes, w_ch0, w_ch1, w_ch2, w_pr0, w_pr1, w_ix20, w_ix21, w_ix30, w_ix31, w_ix32, w_inT, w_eqI, w_add, w_sub, w_lt, w_le, w_gt, w_ge, w_neg, w_lenT, w_int, w_min, w_max, w_tupT, onB_bl, truth_bl, x_seq, x_skip, KR_ret, TK_ret, TK_brk, TK_cnt, g_name, g_unp, g_allS, g_all0, g_sub, lz0, lz1, lz2, lz3, lz4, lz5, lz6, lz7, lz8, List.set, wipe, List.map_cons, List.map_nil, List.cons_append, List.nil_append, List.length_cons, List.length_nil, Nat.reduceAdd, Nat.reduceSub, List.replicate_succ, List.replicate_zero, eq_self, Bool.false_eq_true, if_true, if_false]
      by_cases e : r.1 = a
      · subst e; simp [Kp.refl]
      · have : ¬ ((r.1 : Int) = (a : Int)) := by omega
        simp [e, this, Kp.refl]
    · intro s2 k2 h2
      rw [w_eqL0 false s'.length s2.length 1 (by omega) ((rs0.filter fun r => decide (r.1 = a)).map pr) (pln_prs _) (seqAt_lst ((Kp.app [MO.lst []] (Kp.refl (L := []) s2)).2 _ _ (by simp) h2)) (seqAt_lst (by simp))]
      simp only [w_calln, w_call, w_cons, w_nil, w_tup, w_lst, w_op, w_un, w_c, w_var0, w_varS, w_and, w_or, w_not, w_iteE, w_lmeth, t_val, t_tru, t_and, t_or, t_not, t_yes, w_ch0, w_ch1, w_ch2, w_pr0, w_pr1, w_ix20, w_ix21, w_ix30, w_ix31, w_ix32, w_inT, w_eqI, w_add, w_sub, w_lt, w_le, w_gt, w_ge, w_neg, w_lenT, w_int, w_min, w_max, w_tupT, onB_bl, truth_bl, x_seq, x_skip, KR_ret, TK_ret, TK_brk, TK_cnt, g_name, g_unp, g_allS, g_all0, g_sub, lz0, lz1, lz2, lz3, lz4, lz5, lz6, lz7, lz8, List.set, wipe, List.map_cons, List.map_nil, List.cons_append, List.nil_append, List.length_cons, List.length_nil, Nat.reduceAdd, Nat.reduceSub, List.replicate_succ, List.replicate_zero, eq_self, Bool.false_eq_true, if_true, if_false]
      have hk3 : Kp [] s' (s2 ++ [MO.lst []]) := Kp.app _ k2
      refine ⟨?_, hk3, fun _ => ⟨trivial, hk3⟩⟩
      cases rs0.filter fun r => decide (r.1 = a) <;> rfl
  intro s2 k2 h2
  generalize hlast : (List.range n).filter (fun a => (rs0.filter fun r => decide (r.1 = a)).isEmpty) = last at h2
  have hls : last.Sublist (List.range n) := by subst hlast; exact List.filter_sublist
  have hl2 := sub_le hls
  have P2 := P1.keep k2
  have k02 : Kp [p, q] s s2 := k1.trans k2.nil
  have n1p : s1.length ≠ p := by omega
  have n1q : s1.length ≠ q := by omega
  refine x_ife ?_
  simp only [w_calln, w_call, w_cons, w_nil, w_tup, w_lst, w_op, w_un, w_c, w_var0, w_varS, w_and, w_or, w_not, w_iteE, w_lmeth, t_val, t_tru, t_and, t_or, t_not, t_yes, w_ch0, w_ch1, w_ch2, w_pr0, w_pr1, w_ix20, w_ix21, w_ix30, w_ix31, w_ix32, w_inT, w_eqI, w_add, w_sub, w_lt, w_le, w_gt, w_ge, w_neg, w_lenT, w_int, w_min, w_max, w_tupT, onB_bl, truth_bl, x_seq, x_skip, KR_ret, TK_ret, TK_brk, TK_cnt, g_name, g_unp, g_allS, g_all0, g_sub, lz0, lz1, lz2, lz3, lz4, lz5, lz6, lz7, lz8, List.set, wipe, List.map_cons, List.map_nil, List.cons_append, List.nil_append, List.length_cons, List.length_nil, Nat.reduceAdd, Nat.reduceSub, List.replicate_succ, List.replicate_zero, eq_self, Bool.false_eq_true, if_true, if_false]
  by_cases h4 : way < 4
  · rw [if_pos (decide_eq_true (by omega))]
    refine x_ret ?_
    simp only [w_calln, w_call, w_cons, w_nil, w_tup, w_lst, w_op, w_un, w_c, w_var0, w_varS, w_and, w_or, w_not, w_iteE, w_lmeth, t_val, t_tru, t_and, t_or, t_not, t_yes, w_ch0, w_ch1, w_ch2, w_pr0, w_pr1, w_ix20, w_ix21, w_ix30, w_ix31, w_ix32, w_inT, w_eqI, w_add, w_sub, w_lt, w_le, w_gt, w_ge, w_neg, w_lenT, w_int, w_min, w_max, w_tupT, onB_bl, truth_bl, x_seq, x_skip, KR_ret, TK_ret, TK_brk, TK_cnt, g_name, g_unp, g_allS, g_all0, g_sub, lz0, lz1, lz2, lz3, lz4, lz5, lz6, lz7, lz8, List.set, wipe, List.map_cons, List.map_nil, List.cons_append, List.nil_append, List.length_cons, List.length_nil, Nat.reduceAdd, Nat.reduceSub, List.replicate_succ, List.replicate_zero, eq_self, Bool.false_eq_true, if_true, if_false]
    refine lc_sub (List.range n) nv nv (fun s' => Pool s' p q ∧ Kp [p, q] s2 s') (i_range ?_)
    simp only [w_calln, w_call, w_cons, w_nil, w_tup, w_lst, w_op, w_un, w_c, w_var0, w_varS, w_and, w_or, w_not, w_iteE, w_lmeth, t_val, t_tru, t_and, t_or, t_not, t_yes, w_ch0, w_ch1, w_ch2, w_pr0, w_pr1, w_ix20, w_ix21, w_ix30, w_ix31, w_ix32, w_inT, w_eqI, w_add, w_sub, w_lt, w_le, w_gt, w_ge, w_neg, w_lenT, w_int, w_min, w_max, w_tupT, onB_bl, truth_bl, x_seq, x_skip, KR_ret, TK_ret, TK_brk, TK_cnt, g_name, g_unp, g_allS, g_all0, g_sub, lz0, lz1, lz2, lz3, lz4, lz5, lz6, lz7, lz8, List.set, wipe, List.map_cons, List.map_nil, List.cons_append, List.nil_append, List.length_cons, List.length_nil, Nat.reduceAdd, Nat.reduceSub, List.replicate_succ, List.replicate_zero, eq_self, Bool.false_eq_true, if_true, if_false]
    refine .mk n rfl (by omega) ?_
    have kl2 := k02.1
    refine .mk (by unfold lineZ; simp; omega) rfl ⟨P2.keep (Kp.app _ (Kp.refl _)), Kp.app _ (Kp.refl _)⟩ (fun s' o h => ⟨h.1.setN (by omega) (by omega), h.2.setN _ _ (Nat.le_refl _)⟩) ?_ ?_
    · rintro a ha s' acc ⟨P', k'⟩ hD
      simp only [w_calln, w_call, w_cons, w_nil, w_tup, w_lst, w_op, w_un, w_c, w_var0, w_varS, w_and, w_or, w_not, w_iteE, w_lmeth, t_val, t_tru, t_and, t_or, t_not, t_yes, w_ch0, w_ch1, w_ch2, w_pr0, w_pr1, w_ix20, w_ix21, w_ix30, w_ix31, w_ix32, w_inT, w_eqI, w_add, w_sub, w_lt, w_le, w_gt, w_ge, w_neg, w_lenT, w_int, w_min, w_max, w_tupT, onB_bl, truth_bl, x_seq, x_skip, KR_ret, TK_ret, TK_brk, TK_cnt, g_name, g_unp, g_allS, g_all0, g_sub, lz0, lz1, lz2, lz3, lz4, lz5, lz6, lz7, lz8, List.set, wipe, List.map_cons, List.map_nil, List.cons_append, List.nil_append, List.length_cons, List.length_nil, Nat.reduceAdd, Nat.reduceSub, List.replicate_succ, List.replicate_zero, eq_self, Bool.false_eq_true, if_true, if_false]
      rw [w_inL true a s1.length last (seqAt_lst (k'.2 _ _ (by simp [n1p, n1q]) h2))]
      simp only [w_calln, w_call, w_cons, w_nil, w_tup, w_lst, w_op, w_un, w_c, w_var0, w_varS, w_and, w_or, w_not, w_iteE, w_lmeth, t_val, t_tru, t_and, t_or, t_not, t_yes, w_ch0, w_ch1, w_ch2, w_pr0, w_pr1, w_ix20, w_ix21, w_ix30, w_ix31, w_ix32, w_inT, w_eqI, w_add, w_sub, w_lt, w_le, w_gt, w_ge, w_neg, w_lenT, w_int, w_min, w_max, w_tupT, onB_bl, truth_bl, x_seq, x_skip, KR_ret, TK_ret, TK_brk, TK_cnt, g_name, g_unp, g_allS, g_all0, g_sub, lz0, lz1, lz2, lz3, lz4, lz5, lz6, lz7, lz8, List.set, wipe, List.map_cons, List.map_nil, List.cons_append, List.nil_append, List.length_cons, List.length_nil, Nat.reduceAdd, Nat.reduceSub, List.replicate_succ, List.replicate_zero, eq_self, Bool.false_eq_true, if_true, if_false]
      split
      · split
        · refine draw_w P' (by omega) (by omega) fun r s3 hr P3 k3 => ?_
          simp only [w_calln, w_call, w_cons, w_nil, w_tup, w_lst, w_op, w_un, w_c, w_var0, w_varS, w_and, w_or, w_not, w_iteE, w_lmeth, t_val, t_tru, t_and, t_or, t_not, t_yes, w_ch0, w_ch1, w_ch2, w_pr0, w_pr1, w_ix20, w_ix21, w_ix30, w_ix31, w_ix32, w_inT, w_eqI, w_add, w_sub, w_lt, w_le, w_gt, w_ge, w_neg, w_lenT, w_int, w_min, w_max, w_tupT, onB_bl, truth_bl, x_seq, x_skip, KR_ret, TK_ret, TK_brk, TK_cnt, g_name, g_unp, g_allS, g_all0, g_sub, lz0, lz1, lz2, lz3, lz4, lz5, lz6, lz7, lz8, List.set, wipe, List.map_cons, List.map_nil, List.cons_append, List.nil_append, List.length_cons, List.length_nil, Nat.reduceAdd, Nat.reduceSub, List.replicate_succ, List.replicate_zero, eq_self, Bool.false_eq_true, if_true, if_false]
          exact ⟨⟨P3, k'.trans k3⟩, k3.2 _ _ (by simp; omega) hD, fun _ => ⟨trivial, ⟨P3, k'.trans k3⟩, k3.2 _ _ (by simp; omega) hD⟩⟩
        · exact ⟨⟨P', k'⟩, hD, fun h => nomatch h⟩
      · exact ⟨⟨P', k'⟩, hD, fun h => nomatch h⟩
    · rintro s' ys ⟨P', k'⟩ hys hD
      have hy := sub_le hys
      rw [w_addL (k'.2 _ _ (by simp [n1p, n1q]) h2) hD (by simp; omega), ← List.map_append]
      refine k _ _ (last ++ ys) (fun w hw => ?_) (by rw [List.length_append]; omega) (P'.keep (Kp.app _ (Kp.refl _))) ((k02.trans k').app _) ?_ (by simp)
      · rcases List.mem_append.mp hw with h | h
        · exact hl2.2 w h
        · exact hy.2 w h
      · have := (k02.trans k').1; exact this
  · rw [if_neg (by simp; omega)]
    refine x_ife ?_
    simp only [w_calln, w_call, w_cons, w_nil, w_tup, w_lst, w_op, w_un, w_c, w_var0, w_varS, w_and, w_or, w_not, w_iteE, w_lmeth, t_val, t_tru, t_and, t_or, t_not, t_yes, w_ch0, w_ch1, w_ch2, w_pr0, w_pr1, w_ix20, w_ix21, w_ix30, w_ix31, w_ix32, w_inT, w_eqI, w_add, w_sub, w_lt, w_le, w_gt, w_ge, w_neg, w_lenT, w_int, w_min, w_max, w_tupT, onB_bl, truth_bl, x_seq, x_skip, KR_ret, TK_ret, TK_brk, TK_cnt, g_name, g_unp, g_allS, g_all0, g_sub, lz0, lz1, lz2, lz3, lz4, lz5, lz6, lz7, lz8, List.set, wipe, List.map_cons, List.map_nil, List.cons_append, List.nil_append, List.length_cons, List.length_nil, Nat.reduceAdd, Nat.reduceSub, List.replicate_succ, List.replicate_zero, eq_self, Bool.false_eq_true, if_true, if_false]
    by_cases h7 : way < 7
    · rw [if_pos (decide_eq_true (by omega))]
      refine x_ret ?_
      refine lc_sub (List.range n) nv nv (fun s' => Pool s' p q ∧ Kp [p, q] s2 s') (i_range ?_)
      simp only [w_calln, w_call, w_cons, w_nil, w_tup, w_lst, w_op, w_un, w_c, w_var0, w_varS, w_and, w_or, w_not, w_iteE, w_lmeth, t_val, t_tru, t_and, t_or, t_not, t_yes, w_ch0, w_ch1, w_ch2, w_pr0, w_pr1, w_ix20, w_ix21, w_ix30, w_ix31, w_ix32, w_inT, w_eqI, w_add, w_sub, w_lt, w_le, w_gt, w_ge, w_neg, w_lenT, w_int, w_min, w_max, w_tupT, onB_bl, truth_bl, x_seq, x_skip, KR_ret, TK_ret, TK_brk, TK_cnt, g_name, g_unp, g_allS, g_all0, g_sub, lz0, lz1, lz2, lz3, lz4, lz5, lz6, lz7, lz8, List.set, wipe, List.map_cons, List.map_nil, List.cons_append, List.nil_append, List.length_cons, List.length_nil, Nat.reduceAdd, Nat.reduceSub, List.replicate_succ, List.replicate_zero, eq_self, Bool.false_eq_true, if_true, if_false]
      refine .mk n rfl (by omega) ?_
      have kl2 := k02.1
      refine .mk (by unfold lineZ; simp; omega) rfl ⟨P2.keep (Kp.app _ (Kp.refl _)), Kp.app _ (Kp.refl _)⟩ (fun s' o h => ⟨h.1.setN (by omega) (by omega), h.2.setN _ _ (Nat.le_refl _)⟩) ?_ ?_
      · rintro a ha s' acc ⟨P', k'⟩ hD
        simp only [w_calln, w_call, w_cons, w_nil, w_tup, w_lst, w_op, w_un, w_c, w_var0, w_varS, w_and, w_or, w_not, w_iteE, w_lmeth, t_val, t_tru, t_and, t_or, t_not, t_yes, w_ch0, w_ch1, w_ch2, w_pr0, w_pr1, w_ix20, w_ix21, w_ix30, w_ix31, w_ix32, w_inT, w_eqI, w_add, w_sub, w_lt, w_le, w_gt, w_ge, w_neg, w_lenT, w_int, w_min, w_max, w_tupT, onB_bl, truth_bl, x_seq, x_skip, KR_ret, TK_ret, TK_brk, TK_cnt, g_name, g_unp, g_allS, g_all0, g_sub, lz0, lz1, lz2, lz3, lz4, lz5, lz6, lz7, lz8, List.set, wipe, List.map_cons, List.map_nil, List.cons_append, List.nil_append, List.length_cons, List.length_nil, Nat.reduceAdd, Nat.reduceSub, List.replicate_succ, List.replicate_zero, eq_self, Bool.false_eq_true, if_true, if_false]
        refine draw_w P' (by omega) (by omega) fun r s3 hr P3 k3 => ?_
        simp only [w_calln, w_call, w_cons, w_nil, w_tup, w_lst, w_op, w_un, w_c, w_var0, w_varS, w_and, w_or, w_not, w_iteE, w_lmeth, t_val, t_tru, t_and, t_or, t_not, t_yes, w_ch0, w_ch1, w_ch2, w_pr0, w_pr1, w_ix20, w_ix21, w_ix30, w_ix31, w_ix32, w_inT, w_eqI, w_add, w_sub, w_lt, w_le, w_gt, w_ge, w_neg, w_lenT, w_int, w_min, w_max, w_tupT, onB_bl, truth_bl, x_seq, x_skip, KR_ret, TK_ret, TK_brk, TK_cnt, g_name, g_unp, g_allS, g_all0, g_sub, lz0, lz1, lz2, lz3, lz4, lz5, lz6, lz7, lz8, List.set, wipe, List.map_cons, List.map_nil, List.cons_append, List.nil_append, List.length_cons, List.length_nil, Nat.reduceAdd, Nat.reduceSub, List.replicate_succ, List.replicate_zero, eq_self, Bool.false_eq_true, if_true, if_false]
        exact ⟨⟨P3, k'.trans k3⟩, k3.2 _ _ (by simp; omega) hD, fun _ => ⟨trivial, ⟨P3, k'.trans k3⟩, k3.2 _ _ (by simp; omega) hD⟩⟩
      · rintro s' ys ⟨P', k'⟩ hys hD
        have hy := sub_le hys
        exact k _ _ ys hy.2 (by omega) P' (k02.trans k') kl2 hD
    · rw [if_neg (by simp; omega)]
      refine x_ret ?_
      simp only [w_calln, w_call, w_cons, w_nil, w_tup, w_lst, w_op, w_un, w_c, w_var0, w_varS, w_and, w_or, w_not, w_iteE, w_lmeth, t_val, t_tru, t_and, t_or, t_not, t_yes, w_ch0, w_ch1, w_ch2, w_pr0, w_pr1, w_ix20, w_ix21, w_ix30, w_ix31, w_ix32, w_inT, w_eqI, w_add, w_sub, w_lt, w_le, w_gt, w_ge, w_neg, w_lenT, w_int, w_min, w_max, w_tupT, onB_bl, truth_bl, x_seq, x_skip, KR_ret, TK_ret, TK_brk, TK_cnt, g_name, g_unp, g_allS, g_all0, g_sub, lz0, lz1, lz2, lz3, lz4, lz5, lz6, lz7, lz8, List.set, wipe, List.map_cons, List.map_nil, List.cons_append, List.nil_append, List.length_cons, List.length_nil, Nat.reduceAdd, Nat.reduceSub, List.replicate_succ, List.replicate_zero, eq_self, Bool.false_eq_true, if_true, if_false]
      refine draw_w P2 (by omega) (by omega) fun r s3 hr P3 k3 => ?_
      simp only [w_calln, w_call, w_cons, w_nil, w_tup, w_lst, w_op, w_un, w_c, w_var0, w_varS, w_and, w_or, w_not, w_iteE, w_lmeth, t_val, t_tru, t_and, t_or, t_not, t_yes, w_ch0, w_ch1, w_ch2, w_pr0, w_pr1, w_ix20, w_ix21, w_ix30, w_ix31, w_ix32, w_inT, w_eqI, w_add, w_sub, w_lt, w_le, w_gt, w_ge, w_neg, w_lenT, w_int, w_min, w_max, w_tupT, onB_bl, truth_bl, x_seq, x_skip, KR_ret, TK_ret, TK_brk, TK_cnt, g_name, g_unp, g_allS, g_all0, g_sub, lz0, lz1, lz2, lz3, lz4, lz5, lz6, lz7, lz8, List.set, wipe, List.map_cons, List.map_nil, List.cons_append, List.nil_append, List.length_cons, List.length_nil, Nat.reduceAdd, Nat.reduceSub, List.replicate_succ, List.replicate_zero, eq_self, Bool.false_eq_true, if_true, if_false]
      have k03 := k02.trans k3
      split
      · exact k _ _ [] (by simp) (by decide) (P3.keep (Kp.app _ (Kp.refl _))) (k03.app _) k03.1 (by simp)
      · refine w_lstR (n := n) (by omega) ?_
        simp only [w_calln, w_call, w_cons, w_nil, w_tup, w_lst, w_op, w_un, w_c, w_var0, w_varS, w_and, w_or, w_not, w_iteE, w_lmeth, t_val, t_tru, t_and, t_or, t_not, t_yes, w_ch0, w_ch1, w_ch2, w_pr0, w_pr1, w_ix20, w_ix21, w_ix30, w_ix31, w_ix32, w_inT, w_eqI, w_add, w_sub, w_lt, w_le, w_gt, w_ge, w_neg, w_lenT, w_int, w_min, w_max, w_tupT, onB_bl, truth_bl, x_seq, x_skip, KR_ret, TK_ret, TK_brk, TK_cnt, g_name, g_unp, g_allS, g_all0, g_sub, lz0, lz1, lz2, lz3, lz4, lz5, lz6, lz7, lz8, List.set, wipe, List.map_cons, List.map_nil, List.cons_append, List.nil_append, List.length_cons, List.length_nil, Nat.reduceAdd, Nat.reduceSub, List.replicate_succ, List.replicate_zero, eq_self, Bool.false_eq_true, if_true, if_false]
        exact ⟨trivial, k _ _ (List.range n) (fun w hw => List.mem_range.mp hw) (by simp; omega) (P3.keep (Kp.app _ (Kp.refl _))) (k03.app _) k03.1 (by simp)⟩
end
end Sp
namespace Sp
open PySem Mi Mr
section
variable {Q : AV → Sto → Prop} {s : Sto}
theorem small_of {i : Int} (h0 : -1000000 < i) (h1 : i < 1000000) : small i = true := by
  unfold small
  have e : (2 ^ 64 : Int) = 18446744073709551616 := by decide
  have h2 : -(2 ^ 64 : Int) < i ∧ i < 2 ^ 64 := by omega
  exact decide_eq_true h2
theorem map_drawn_w {p q most : Nat} (P : Pool s p q) (hm : most ≤ 20) (k : ∀ s' n rs ws, n ≤ most → VM n rs ws → rs.length < 64 → Pool s' p q → Kp [p, q] s s' → Q (CH n rs ws) s') : W (m__law_map_drawn [.ref p, nv most] s) Q := by
  unfold m__law_map_drawn b__law_map_drawn
  refine d_runn (by rfl) ?_
  simp only [w_calln, w_call, w_cons, w_nil, w_tup, w_lst, w_op, w_un, w_c, w_var0, w_varS, w_and, w_or, w_not, w_iteE, w_lmeth, t_val, t_tru, t_and, t_or, t_not, t_yes, w_ch0, w_ch1, w_ch2, w_pr0, w_pr1, w_ix20, w_ix21, w_ix30, w_ix31, w_ix32, w_inT, w_eqI, w_add, w_sub, w_lt, w_le, w_gt, w_ge, w_neg, w_lenT, w_int, w_min, w_max, w_tupT, onB_bl, truth_bl, x_seq, x_skip, KR_ret, TK_ret, TK_brk, TK_cnt, g_name, g_unp, g_allS, g_all0, g_sub, lz0, lz1, lz2, lz3, lz4, lz5, lz6, lz7, lz8, List.set, wipe, List.map_cons, List.map_nil, List.cons_append, List.nil_append, List.length_cons, List.length_nil, Nat.reduceAdd, Nat.reduceSub, List.replicate_succ, List.replicate_zero, eq_self, Bool.false_eq_true, if_true, if_false]
  refine x_asg ?_
  simp only [w_calln, w_call, w_cons, w_nil, w_tup, w_lst, w_op, w_un, w_c, w_var0, w_varS, w_and, w_or, w_not, w_iteE, w_lmeth, t_val, t_tru, t_and, t_or, t_not, t_yes, w_ch0, w_ch1, w_ch2, w_pr0, w_pr1, w_ix20, w_ix21, w_ix30, w_ix31, w_ix32, w_inT, w_eqI, w_add, w_sub, w_lt, w_le, w_gt, w_ge, w_neg, w_lenT, w_int, w_min, w_max, w_tupT, onB_bl, truth_bl, x_seq, x_skip, KR_ret, TK_ret, TK_brk, TK_cnt, g_name, g_unp, g_allS, g_all0, g_sub, lz0, lz1, lz2, lz3, lz4, lz5, lz6, lz7, lz8, List.set, wipe, List.map_cons, List.map_nil, List.cons_append, List.nil_append, List.length_cons, List.length_nil, Nat.reduceAdd, Nat.reduceSub, List.replicate_succ, List.replicate_zero, eq_self, Bool.false_eq_true, if_true, if_false]
  refine draw_w P (by omega) (by omega) fun n s1 hn P1 k1 => ?_
  have hn' : n ≤ most := by omega
  refine x_ife ?_
  simp only [w_calln, w_call, w_cons, w_nil, w_tup, w_lst, w_op, w_un, w_c, w_var0, w_varS, w_and, w_or, w_not, w_iteE, w_lmeth, t_val, t_tru, t_and, t_or, t_not, t_yes, w_ch0, w_ch1, w_ch2, w_pr0, w_pr1, w_ix20, w_ix21, w_ix30, w_ix31, w_ix32, w_inT, w_eqI, w_add, w_sub, w_lt, w_le, w_gt, w_ge, w_neg, w_lenT, w_int, w_min, w_max, w_tupT, onB_bl, truth_bl, x_seq, x_skip, KR_ret, TK_ret, TK_brk, TK_cnt, g_name, g_unp, g_allS, g_all0, g_sub, lz0, lz1, lz2, lz3, lz4, lz5, lz6, lz7, lz8, List.set, wipe, List.map_cons, List.map_nil, List.cons_append, List.nil_append, List.length_cons, List.length_nil, Nat.reduceAdd, Nat.reduceSub, List.replicate_succ, List.replicate_zero, eq_self, Bool.false_eq_true, if_true, if_false]
  by_cases h0 : n = 0
  · subst h0
    rw [if_pos (by simp)]
    refine x_ret ?_
    simp only [w_calln, w_call, w_cons, w_nil, w_tup, w_lst, w_op, w_un, w_c, w_var0, w_varS, w_and, w_or, w_not, w_iteE, w_lmeth, t_val, t_tru, t_and, t_or, t_not, t_yes, w_ch0, w_ch1, w_ch2, w_pr0, w_pr1, w_ix20, w_ix21, w_ix30, w_ix31, w_ix32, w_inT, w_eqI, w_add, w_sub, w_lt, w_le, w_gt, w_ge, w_neg, w_lenT, w_int, w_min, w_max, w_tupT, onB_bl, truth_bl, x_seq, x_skip, KR_ret, TK_ret, TK_brk, TK_cnt, g_name, g_unp, g_allS, g_all0, g_sub, lz0, lz1, lz2, lz3, lz4, lz5, lz6, lz7, lz8, List.set, wipe, List.map_cons, List.map_nil, List.cons_append, List.nil_append, List.length_cons, List.length_nil, Nat.reduceAdd, Nat.reduceSub, List.replicate_succ, List.replicate_zero, eq_self, Bool.false_eq_true, if_true, if_false]
    exact k s1 0 [] [] (by omega) ⟨by omega, by simp, by simp, List.Pairwise.nil, by simp, List.Pairwise.nil⟩ (by decide) P1 k1
  · rw [if_neg (by simp; omega)]
    refine x_asg ?_
    simp only [w_calln, w_call, w_cons, w_nil, w_tup, w_lst, w_op, w_un, w_c, w_var0, w_varS, w_and, w_or, w_not, w_iteE, w_lmeth, t_val, t_tru, t_and, t_or, t_not, t_yes, w_ch0, w_ch1, w_ch2, w_pr0, w_pr1, w_ix20, w_ix21, w_ix30, w_ix31, w_ix32, w_inT, w_eqI, w_add, w_sub, w_lt, w_le, w_gt, w_ge, w_neg, w_lenT, w_int, w_min, w_max, w_tupT, onB_bl, truth_bl, x_seq, x_skip, KR_ret, TK_ret, TK_brk, TK_cnt, g_name, g_unp, g_allS, g_all0, g_sub, lz0, lz1, lz2, lz3, lz4, lz5, lz6, lz7, lz8, List.set, wipe, List.map_cons, List.map_nil, List.cons_append, List.nil_append, List.length_cons, List.length_nil, Nat.reduceAdd, Nat.reduceSub, List.replicate_succ, List.replicate_zero, eq_self, Bool.false_eq_true, if_true, if_false]
    refine draw_w P1 (by omega) (by omega) fun way s2 hway P2 k2 => ?_
    have hpl := P2.lt
    have k02 := k1.trans k2
    refine for_r ?_
    simp only [w_calln, w_call, w_cons, w_nil, w_tup, w_lst, w_op, w_un, w_c, w_var0, w_varS, w_and, w_or, w_not, w_iteE, w_lmeth, t_val, t_tru, t_and, t_or, t_not, t_yes, w_ch0, w_ch1, w_ch2, w_pr0, w_pr1, w_ix20, w_ix21, w_ix30, w_ix31, w_ix32, w_inT, w_eqI, w_add, w_sub, w_lt, w_le, w_gt, w_ge, w_neg, w_lenT, w_int, w_min, w_max, w_tupT, onB_bl, truth_bl, x_seq, x_skip, KR_ret, TK_ret, TK_brk, TK_cnt, g_name, g_unp, g_allS, g_all0, g_sub, lz0, lz1, lz2, lz3, lz4, lz5, lz6, lz7, lz8, List.set, wipe, List.map_cons, List.map_nil, List.cons_append, List.nil_append, List.length_cons, List.length_nil, Nat.reduceAdd, Nat.reduceSub, List.replicate_succ, List.replicate_zero, eq_self, Bool.false_eq_true, if_true, if_false, w_mul, small2, Bool.true_or]
    have P3 : Pool (s2 ++ [MO.lst []]) p q := P2.keep (Kp.app _ (Kp.refl _))
    refine draw_w P3 (by omega) (by omega) fun cnt s3 hcnt P3 k3 => ?_
    have l2 : s2.length + 1 ≤ s3.length := by have := k3.1; simpa using this
    have hr3 : s3[s2.length]? = some (.lst (([] : List (Nat × Nat)).map pr)) := k3.2 _ _ (by simp; omega) (by simp)
    have k03 : Kp [p, q] s s3 := (k02.app _).trans k3
    refine .mk cnt (fun j en s' => (∃ o5 o6 o7 o8 : Option AV, en = [some (.ref p), some (nv most), some (nv n), some (nv way), some (.ref s2.length), o5, o6, o7, o8, none]) ∧ Pool s' p q ∧ Kp [p, q] s s' ∧ ∃ rs : List (Nat × Nat), s'[s2.length]? = some (.lst (rs.map pr)) ∧ rs.length = j ∧ ∀ r ∈ rs, r.1 < n ∧ r.2 < n) rfl (by omega) ⟨⟨_, _, _, _, rfl⟩, P3, k03, [], hr3, rfl, by simp⟩ ?_ ?_
    · rintro j en s4 hj ⟨⟨o5, o6, o7, o8, rfl⟩, P4, k4, rs, hrs, hlen, hin⟩
      simp only [w_calln, w_call, w_cons, w_nil, w_tup, w_lst, w_op, w_un, w_c, w_var0, w_varS, w_and, w_or, w_not, w_iteE, w_lmeth, t_val, t_tru, t_and, t_or, t_not, t_yes, w_ch0, w_ch1, w_ch2, w_pr0, w_pr1, w_ix20, w_ix21, w_ix30, w_ix31, w_ix32, w_inT, w_eqI, w_add, w_sub, w_lt, w_le, w_gt, w_ge, w_neg, w_lenT, w_int, w_min, w_max, w_tupT, onB_bl, truth_bl, x_seq, x_skip, KR_ret, TK_ret, TK_brk, TK_cnt, g_name, g_unp, g_allS, g_all0, g_sub, lz0, lz1, lz2, lz3, lz4, lz5, lz6, lz7, lz8, List.set, wipe, List.map_cons, List.map_nil, List.cons_append, List.nil_append, List.length_cons, List.length_nil, Nat.reduceAdd, Nat.reduceSub, List.replicate_succ, List.replicate_zero, eq_self, Bool.false_eq_true, if_true, if_false]
      refine x_asg ?_
      simp only [w_calln, w_call, w_cons, w_nil, w_tup, w_lst, w_op, w_un, w_c, w_var0, w_varS, w_and, w_or, w_not, w_iteE, w_lmeth, t_val, t_tru, t_and, t_or, t_not, t_yes, w_ch0, w_ch1, w_ch2, w_pr0, w_pr1, w_ix20, w_ix21, w_ix30, w_ix31, w_ix32, w_inT, w_eqI, w_add, w_sub, w_lt, w_le, w_gt, w_ge, w_neg, w_lenT, w_int, w_min, w_max, w_tupT, onB_bl, truth_bl, x_seq, x_skip, KR_ret, TK_ret, TK_brk, TK_cnt, g_name, g_unp, g_allS, g_all0, g_sub, lz0, lz1, lz2, lz3, lz4, lz5, lz6, lz7, lz8, List.set, wipe, List.map_cons, List.map_nil, List.cons_append, List.nil_append, List.length_cons, List.length_nil, Nat.reduceAdd, Nat.reduceSub, List.replicate_succ, List.replicate_zero, eq_self, Bool.false_eq_true, if_true, if_false]
      refine draw_w P4 (by omega) (by omega) fun a s5 ha P5 k5 => ?_
      refine draw_w P5 (by omega) (by omega) fun b s6 hb P6 k6 => ?_
      have ha : a < n := by omega
      have hb : b < n := by omega
      have hrs6 := (k5.trans k6).2 _ _ (by simp; omega) hrs
      refine X_mono (N := fun en s7 => (∃ c : Bool, en = [some (.ref p), some (nv most), some (nv n), some (nv way), some (.ref s2.length), some (nv j), some (nv a), some (nv b), some (.bl c), none]) ∧ Pool s7 p q ∧ Kp [p, q] s6 s7) (K := fun _ => False) ?_ ?_ (fun _ h => h.elim)
      · refine x_asg ?_
        simp only [w_calln, w_call, w_cons, w_nil, w_tup, w_lst, w_op, w_un, w_c, w_var0, w_varS, w_and, w_or, w_not, w_iteE, w_lmeth, t_val, t_tru, t_and, t_or, t_not, t_yes, w_ch0, w_ch1, w_ch2, w_pr0, w_pr1, w_ix20, w_ix21, w_ix30, w_ix31, w_ix32, w_inT, w_eqI, w_add, w_sub, w_lt, w_le, w_gt, w_ge, w_neg, w_lenT, w_int, w_min, w_max, w_tupT, onB_bl, truth_bl, x_seq, x_skip, KR_ret, TK_ret, TK_brk, TK_cnt, g_name, g_unp, g_allS, g_all0, g_sub, lz0, lz1, lz2, lz3, lz4, lz5, lz6, lz7, lz8, List.set, wipe, List.map_cons, List.map_nil, List.cons_append, List.nil_append, List.length_cons, List.length_nil, Nat.reduceAdd, Nat.reduceSub, List.replicate_succ, List.replicate_zero, eq_self, Bool.false_eq_true, if_true, if_false]
        split
        · exact ⟨⟨_, rfl⟩, P6, Kp.refl _⟩
        · split
          · refine draw_w P6 (by omega) (by omega) fun c s7 hc P7 k7 => ?_
            simp only [w_calln, w_call, w_cons, w_nil, w_tup, w_lst, w_op, w_un, w_c, w_var0, w_varS, w_and, w_or, w_not, w_iteE, w_lmeth, t_val, t_tru, t_and, t_or, t_not, t_yes, w_ch0, w_ch1, w_ch2, w_pr0, w_pr1, w_ix20, w_ix21, w_ix30, w_ix31, w_ix32, w_inT, w_eqI, w_add, w_sub, w_lt, w_le, w_gt, w_ge, w_neg, w_lenT, w_int, w_min, w_max, w_tupT, onB_bl, truth_bl, x_seq, x_skip, KR_ret, TK_ret, TK_brk, TK_cnt, g_name, g_unp, g_allS, g_all0, g_sub, lz0, lz1, lz2, lz3, lz4, lz5, lz6, lz7, lz8, List.set, wipe, List.map_cons, List.map_nil, List.cons_append, List.nil_append, List.length_cons, List.length_nil, Nat.reduceAdd, Nat.reduceSub, List.replicate_succ, List.replicate_zero, eq_self, Bool.false_eq_true, if_true, if_false]
            exact ⟨⟨_, rfl⟩, P7, k7⟩
          · exact ⟨⟨_, rfl⟩, P6, Kp.refl _⟩
      · rintro en s7 ⟨⟨c, rfl⟩, P7, k7⟩
        have hrs7 := k7.2 _ _ (by simp; omega) hrs6
        have key : ∃ r : Nat × Nat, (r.1 < n ∧ r.2 < n) ∧ ∀ Q : AV → Sto → Prop, Q (pr r) s7 → W (E.ite (T.tru (E.var 8)) (E.tup (E.cons (E.call Mi.B.min2 (E.cons (E.var 6) (E.cons (E.var 7) (E.nil)))) (E.cons (E.call Mi.B.max2 (E.cons (E.var 6) (E.cons (E.var 7) (E.nil)))) (E.nil)))) (E.tup (E.cons (E.var 6) (E.cons (E.var 7) (E.nil)))) [some (.ref p), some (nv most), some (nv n), some (nv way), some (.ref s2.length), some (nv j), some (nv a), some (nv b), some (.bl c), none] s7) Q := by
          cases c with
          | false =>
            refine ⟨(a, b), ⟨ha, hb⟩, fun Q h => ?_⟩
            simp only [w_calln, w_call, w_cons, w_nil, w_tup, w_lst, w_op, w_un, w_c, w_var0, w_varS, w_and, w_or, w_not, w_iteE, w_lmeth, t_val, t_tru, t_and, t_or, t_not, t_yes, w_ch0, w_ch1, w_ch2, w_pr0, w_pr1, w_ix20, w_ix21, w_ix30, w_ix31, w_ix32, w_inT, w_eqI, w_add, w_sub, w_lt, w_le, w_gt, w_ge, w_neg, w_lenT, w_int, w_min, w_max, w_tupT, onB_bl, truth_bl, x_seq, x_skip, KR_ret, TK_ret, TK_brk, TK_cnt, g_name, g_unp, g_allS, g_all0, g_sub, lz0, lz1, lz2, lz3, lz4, lz5, lz6, lz7, lz8, List.set, wipe, List.map_cons, List.map_nil, List.cons_append, List.nil_append, List.length_cons, List.length_nil, Nat.reduceAdd, Nat.reduceSub, List.replicate_succ, List.replicate_zero, eq_self, Bool.false_eq_true, if_true, if_false]; exact h
          | true =>
            by_cases hab : b < a
            · refine ⟨(b, a), ⟨hb, ha⟩, fun Q h => ?_⟩
              simp only [w_calln, w_call, w_cons, w_nil, w_tup, w_lst, w_op, w_un, w_c, w_var0, w_varS, w_and, w_or, w_not, w_iteE, w_lmeth, t_val, t_tru, t_and, t_or, t_not, t_yes, w_ch0, w_ch1, w_ch2, w_pr0, w_pr1, w_ix20, w_ix21, w_ix30, w_ix31, w_ix32, w_inT, w_eqI, w_add, w_sub, w_lt, w_le, w_gt, w_ge, w_neg, w_lenT, w_int, w_min, w_max, w_tupT, onB_bl, truth_bl, x_seq, x_skip, KR_ret, TK_ret, TK_brk, TK_cnt, g_name, g_unp, g_allS, g_all0, g_sub, lz0, lz1, lz2, lz3, lz4, lz5, lz6, lz7, lz8, List.set, wipe, List.map_cons, List.map_nil, List.cons_append, List.nil_append, List.length_cons, List.length_nil, Nat.reduceAdd, Nat.reduceSub, List.replicate_succ, List.replicate_zero, eq_self, Bool.false_eq_true, if_true, if_false]
              rw [if_pos (by omega), if_neg (by omega)]; exact h
            · refine ⟨(a, b), ⟨ha, hb⟩, fun Q h => ?_⟩
              simp only [w_calln, w_call, w_cons, w_nil, w_tup, w_lst, w_op, w_un, w_c, w_var0, w_varS, w_and, w_or, w_not, w_iteE, w_lmeth, t_val, t_tru, t_and, t_or, t_not, t_yes, w_ch0, w_ch1, w_ch2, w_pr0, w_pr1, w_ix20, w_ix21, w_ix30, w_ix31, w_ix32, w_inT, w_eqI, w_add, w_sub, w_lt, w_le, w_gt, w_ge, w_neg, w_lenT, w_int, w_min, w_max, w_tupT, onB_bl, truth_bl, x_seq, x_skip, KR_ret, TK_ret, TK_brk, TK_cnt, g_name, g_unp, g_allS, g_all0, g_sub, lz0, lz1, lz2, lz3, lz4, lz5, lz6, lz7, lz8, List.set, wipe, List.map_cons, List.map_nil, List.cons_append, List.nil_append, List.length_cons, List.length_nil, Nat.reduceAdd, Nat.reduceSub, List.replicate_succ, List.replicate_zero, eq_self, Bool.false_eq_true, if_true, if_false]
              rw [if_neg (by omega)]
              by_cases hab2 : a < b
              · rw [if_pos (by omega)]; exact h
              · have : a = b := by omega
                subst this
                rw [if_neg (by omega)]; exact h
        obtain ⟨r, hr, key⟩ := key
        refine x_expr ?_
        simp only [w_lmeth, w_varS, w_var0, w_cons, w_nil]
        rw [if_pos (isLst_of hrs7)]
        refine key _ ?_
        rw [w_append hrs7 (by simp; unfold lineZ; omega)]
        refine ⟨⟨_, _, _, _, rfl⟩, P7.setN (by omega) (by omega), ?_, rs ++ [r], ?_, by simp; omega, ?_⟩
        · have : s.length ≤ s2.length := k02.1
          exact (((k4.trans k5).trans k6).trans k7).setN _ _ this
        · rw [List.getElem?_set_self (lt_of_get hrs7)]; simp
        · intro x hx
          rcases List.mem_append.mp hx with h | h
          · exact hin x h
          · rw [List.mem_singleton.mp h]; exact hr
    · rintro en s4 ⟨⟨o5, o6, o7, o8, rfl⟩, P4, k4, rs, hrs, hlen, hin⟩
      refine X_mono (N := fun en s5 => ∃ (o5 o6 o7 o8 o9 : Option AV) (lr : Nat) (rs : List (Nat × Nat)), en = [some (.ref p), some (nv most), some (nv n), some (nv way), some (.ref lr), o5, o6, o7, o8, o9] ∧ Pool s5 p q ∧ Kp [p, q] s s5 ∧ s5[lr]? = some (.lst (rs.map pr)) ∧ lr ≠ p ∧ lr ≠ q ∧ rs.length < 64 ∧ ∀ r ∈ rs, r.1 < n ∧ r.2 < n) (K := fun _ => False) ?_ ?_ (fun _ h => h.elim)
      · refine x_ife ?_
        simp only [w_calln, w_call, w_cons, w_nil, w_tup, w_lst, w_op, w_un, w_c, w_var0, w_varS, w_and, w_or, w_not, w_iteE, w_lmeth, t_val, t_tru, t_and, t_or, t_not, t_yes, w_ch0, w_ch1, w_ch2, w_pr0, w_pr1, w_ix20, w_ix21, w_ix30, w_ix31, w_ix32, w_inT, w_eqI, w_add, w_sub, w_lt, w_le, w_gt, w_ge, w_neg, w_lenT, w_int, w_min, w_max, w_tupT, onB_bl, truth_bl, x_seq, x_skip, KR_ret, TK_ret, TK_brk, TK_cnt, g_name, g_unp, g_allS, g_all0, g_sub, lz0, lz1, lz2, lz3, lz4, lz5, lz6, lz7, lz8, List.set, wipe, List.map_cons, List.map_nil, List.cons_append, List.nil_append, List.length_cons, List.length_nil, Nat.reduceAdd, Nat.reduceSub, List.replicate_succ, List.replicate_zero, eq_self, Bool.false_eq_true, if_true, if_false]
        split
        · refine x_asg ?_
          simp only [w_calln, w_call, w_cons, w_nil, w_tup, w_lst, w_op, w_un, w_c, w_var0, w_varS, w_and, w_or, w_not, w_iteE, w_lmeth, t_val, t_tru, t_and, t_or, t_not, t_yes, w_ch0, w_ch1, w_ch2, w_pr0, w_pr1, w_ix20, w_ix21, w_ix30, w_ix31, w_ix32, w_inT, w_eqI, w_add, w_sub, w_lt, w_le, w_gt, w_ge, w_neg, w_lenT, w_int, w_min, w_max, w_tupT, onB_bl, truth_bl, x_seq, x_skip, KR_ret, TK_ret, TK_brk, TK_cnt, g_name, g_unp, g_allS, g_all0, g_sub, lz0, lz1, lz2, lz3, lz4, lz5, lz6, lz7, lz8, List.set, wipe, List.map_cons, List.map_nil, List.cons_append, List.nil_append, List.length_cons, List.length_nil, Nat.reduceAdd, Nat.reduceSub, List.replicate_succ, List.replicate_zero, eq_self, Bool.false_eq_true, if_true, if_false]
          refine draw_w P4 (by omega) (by omega) fun z s5 hz P5 k5 => ?_
          have hrs5 := k5.2 _ _ (by simp; omega) hrs
          simp only [w_calln, w_call, w_cons, w_nil, w_tup, w_lst, w_op, w_un, w_c, w_var0, w_varS, w_and, w_or, w_not, w_iteE, w_lmeth, t_val, t_tru, t_and, t_or, t_not, t_yes, w_ch0, w_ch1, w_ch2, w_pr0, w_pr1, w_ix20, w_ix21, w_ix30, w_ix31, w_ix32, w_inT, w_eqI, w_add, w_sub, w_lt, w_le, w_gt, w_ge, w_neg, w_lenT, w_int, w_min, w_max, w_tupT, onB_bl, truth_bl, x_seq, x_skip, KR_ret, TK_ret, TK_brk, TK_cnt, g_name, g_unp, g_allS, g_all0, g_sub, lz0, lz1, lz2, lz3, lz4, lz5, lz6, lz7, lz8, List.set, wipe, List.map_cons, List.map_nil, List.cons_append, List.nil_append, List.length_cons, List.length_nil, Nat.reduceAdd, Nat.reduceSub, List.replicate_succ, List.replicate_zero, eq_self, Bool.false_eq_true, if_true, if_false]
          refine x_asg ?_
          simp only [w_calln, w_call, w_cons, w_nil, w_tup, w_lst, w_op, w_un, w_c, w_var0, w_varS, w_and, w_or, w_not, w_iteE, w_lmeth, t_val, t_tru, t_and, t_or, t_not, t_yes, w_ch0, w_ch1, w_ch2, w_pr0, w_pr1, w_ix20, w_ix21, w_ix30, w_ix31, w_ix32, w_inT, w_eqI, w_add, w_sub, w_lt, w_le, w_gt, w_ge, w_neg, w_lenT, w_int, w_min, w_max, w_tupT, onB_bl, truth_bl, x_seq, x_skip, KR_ret, TK_ret, TK_brk, TK_cnt, g_name, g_unp, g_allS, g_all0, g_sub, lz0, lz1, lz2, lz3, lz4, lz5, lz6, lz7, lz8, List.set, wipe, List.map_cons, List.map_nil, List.cons_append, List.nil_append, List.length_cons, List.length_nil, Nat.reduceAdd, Nat.reduceSub, List.replicate_succ, List.replicate_zero, eq_self, Bool.false_eq_true, if_true, if_false]
          refine lc_pure (List.range (n - 1)) nv (fun _ => true) (fun a => pr (a, if (a + 1) % (1 + z) > 0 ∧ a + 1 < n then a + 1 else a / (1 + z) * (1 + z))) (i_range ?_)
          simp only [w_calln, w_call, w_cons, w_nil, w_tup, w_lst, w_op, w_un, w_c, w_var0, w_varS, w_and, w_or, w_not, w_iteE, w_lmeth, t_val, t_tru, t_and, t_or, t_not, t_yes, w_ch0, w_ch1, w_ch2, w_pr0, w_pr1, w_ix20, w_ix21, w_ix30, w_ix31, w_ix32, w_inT, w_eqI, w_add, w_sub, w_lt, w_le, w_gt, w_ge, w_neg, w_lenT, w_int, w_min, w_max, w_tupT, onB_bl, truth_bl, x_seq, x_skip, KR_ret, TK_ret, TK_brk, TK_cnt, g_name, g_unp, g_allS, g_all0, g_sub, lz0, lz1, lz2, lz3, lz4, lz5, lz6, lz7, lz8, List.set, wipe, List.map_cons, List.map_nil, List.cons_append, List.nil_append, List.length_cons, List.length_nil, Nat.reduceAdd, Nat.reduceSub, List.replicate_succ, List.replicate_zero, eq_self, Bool.false_eq_true, if_true, if_false]
          refine .mk (n - 1) (by rw [show ((n : Int) - 1) = ((n - 1 : Nat) : Int) by omega]) (by omega) ?_
          refine .mk (by unfold lineZ; simp; omega) (Or.inl rfl) ?_ ?_
          · intro a ha s' hk
            have ha := List.mem_range.mp ha
            simp only [w_calln, w_call, w_cons, w_nil, w_tup, w_lst, w_op, w_un, w_c, w_var0, w_varS, w_and, w_or, w_not, w_iteE, w_lmeth, t_val, t_tru, t_and, t_or, t_not, t_yes, w_ch0, w_ch1, w_ch2, w_pr0, w_pr1, w_ix20, w_ix21, w_ix30, w_ix31, w_ix32, w_inT, w_eqI, w_add, w_sub, w_lt, w_le, w_gt, w_ge, w_neg, w_lenT, w_int, w_min, w_max, w_tupT, onB_bl, truth_bl, x_seq, x_skip, KR_ret, TK_ret, TK_brk, TK_cnt, g_name, g_unp, g_allS, g_all0, g_sub, lz0, lz1, lz2, lz3, lz4, lz5, lz6, lz7, lz8, List.set, wipe, List.map_cons, List.map_nil, List.cons_append, List.nil_append, List.length_cons, List.length_nil, Nat.reduceAdd, Nat.reduceSub, List.replicate_succ, List.replicate_zero, eq_self, Bool.false_eq_true, if_true, if_false, w_mod, w_mul, w_div]
            have e1 : ((a : Int) + 1) % (1 + (z : Int)) = (((a + 1) % (1 + z) : Nat) : Int) := by
              rw [Int.natCast_emod]; congr 1
            have e2 : (a : Int) / (1 + (z : Int)) * (1 + (z : Int)) = ((a / (1 + z) * (1 + z) : Nat) : Int) := by
              rw [Int.natCast_mul, Int.natCast_ediv]; congr 1
            have sm : (small ((a : Int) / (1 + (z : Int))) || small (1 + (z : Int))) = true := by
              rw [small_of (i := 1 + (z : Int)) (by omega) (by omega), Bool.or_true]
            rw [if_pos (show (0 : Int) < 1 + (z : Int) by omega), if_pos (show (0 : Int) < 1 + (z : Int) ∧ 1 + (z : Int) < 1073741824 by omega), e1, sm, if_pos rfl, e2]
            refine ⟨trivial, Kp.refl _, fun _ => ?_⟩
            unfold pr
            by_cases c1 : (a + 1) % (1 + z) > 0
            · by_cases c2 : a + 1 < n
              · rw [if_pos (decide_eq_true (by omega)), if_pos (decide_eq_true (by omega))]
                rw [if_pos ⟨c1, c2⟩]; exact ⟨rfl, Kp.refl _⟩
              · rw [if_pos (decide_eq_true (by omega)), if_neg (by simp; omega), if_neg (fun h => c2 h.2)]; exact ⟨rfl, Kp.refl _⟩
            · rw [if_neg (by simp; omega), if_neg (fun h => c1 h.1)]; simp only [Bool.false_eq_true, if_false]; exact ⟨trivial, Kp.refl _⟩
          intro s6 k6 h6
          have e6 : ((List.range (n - 1)).filter fun _ => true) = List.range (n - 1) := List.filter_eq_self.mpr (fun _ _ => rfl)
          rw [e6] at h6
          generalize hF : (fun a : Nat => ((a, if (a + 1) % (1 + z) > 0 ∧ a + 1 < n then a + 1 else a / (1 + z) * (1 + z)) : Nat × Nat)) = F
          have e7 : (List.range (n - 1)).map (fun a => pr (a, if (a + 1) % (1 + z) > 0 ∧ a + 1 < n then a + 1 else a / (1 + z) * (1 + z))) = ((List.range (n - 1)).map F).map pr := by
            rw [List.map_map, ← hF]; rfl
          rw [e7] at h6
          have hrs6 := k6.2 _ _ (by simp) hrs5
          rw [w_addL hrs6 h6 (by simp; omega), ← List.map_append]
          have k06 : Kp [p, q] s s6 := (k4.trans k5).trans k6.nil
          refine ⟨_, _, _, _, _, _, rs ++ (List.range (n - 1)).map F, rfl, P5.keep (Kp.app _ k6), k06.app _, by simp, ?_, ?_, ?_, ?_⟩
          · have := (P5.keep k6).lt; omega
          · have := (P5.keep k6).lt; omega
          · rw [List.length_append, List.length_map, List.length_range]; omega
          · intro r hr
            rcases List.mem_append.mp hr with h | h
            · exact hin r h
            · obtain ⟨a, ha, rfl⟩ := List.mem_map.mp h
              have ha := List.mem_range.mp ha
              subst hF
              refine ⟨by simp only; omega, ?_⟩
              simp only
              split
              · omega
              · have := Nat.div_mul_le_self a (1 + z); omega
        · exact ⟨_, _, _, _, _, _, rs, rfl, P4, k4, hrs, by omega, by omega, by omega, hin⟩
      · clear hrs hin hlen P4 k4
        rintro en s5 ⟨o5, o6, o7, o8, o9, lr, rs, rfl, P5, k5, hrs, np, nq, hl, hin⟩
        refine x_ret ?_
        simp only [w_calln, w_call, w_cons, w_nil, w_tup, w_lst, w_op, w_un, w_c, w_var0, w_varS, w_and, w_or, w_not, w_iteE, w_lmeth, t_val, t_tru, t_and, t_or, t_not, t_yes, w_ch0, w_ch1, w_ch2, w_pr0, w_pr1, w_ix20, w_ix21, w_ix30, w_ix31, w_ix32, w_inT, w_eqI, w_add, w_sub, w_lt, w_le, w_gt, w_ge, w_neg, w_lenT, w_int, w_min, w_max, w_tupT, onB_bl, truth_bl, x_seq, x_skip, KR_ret, TK_ret, TK_brk, TK_cnt, g_name, g_unp, g_allS, g_all0, g_sub, lz0, lz1, lz2, lz3, lz4, lz5, lz6, lz7, lz8, List.set, wipe, List.map_cons, List.map_nil, List.cons_append, List.nil_append, List.length_cons, List.length_nil, Nat.reduceAdd, Nat.reduceSub, List.replicate_succ, List.replicate_zero, eq_self, Bool.false_eq_true, if_true, if_false]
        refine some_wished_w P5 (by omega) hrs np nq (by omega) fun lw s6 ws0 hw1 hw2 P6 k6 hlw h6 => ?_
        have hpl5 := P5.lt
        refine map_named_w P6 (by omega) (k6.2 _ _ (by simp [np, nq]) hrs) np nq h6 (by omega) (by omega) hin hw1 hl hw2 fun l f s7 nm rs' ws' N V rl rmem wmem P7 k7 hl7 hf7 h7 hnm => ?_
        rw [show AV.int 0 = nv 0 from rfl, w_ixL (k := 0) (v := CH n rs' ws') (seqAt_lst h7) rfl]
        exact k s7 n rs' ws' hn' V rl P7 ((k5.trans k6).trans k7)
end
end Sp
namespace Sp
open PySem Mi Mr
section
variable {n : Nat} {rs : List (Nat × Nat)} {ws : List Nat} {Q : AV → Sto → Prop} {s : Sto}
theorem nodup_lt {fd : List Nat} (h : fd.Nodup) (k : ∀ x ∈ fd, x < n) : fd.length ≤ n := by
  have := h.length_le_of_subset (l₂ := List.range n) fun x hx => List.mem_range.mpr (k x hx)
  rwa [List.length_range] at this
theorem law_met_w {a : Nat} (V : VM n rs ws) (hrl : rs.length < 64) (ha : a < n) (k : ∀ f s' (ys : List Nat), Kp [] s s' → s.length ≤ f → s'[f]? = some (.lst (ys.map nv)) → (∀ x, x ∈ ys ↔ Met rs ws a x) → Q (.ref f) s') : W (m__law_map_met [CH n rs ws, nv a] s) Q := by
  have hn := V.hn
  unfold m__law_map_met b__law_map_met
  refine d_runn (by rfl) ?_
  simp only [w_calln, w_call, w_cons, w_nil, w_tup, w_lst, w_op, w_un, w_c, w_var0, w_varS, w_and, w_or, w_not, w_iteE, w_lmeth, t_val, t_tru, t_and, t_or, t_not, t_yes, w_ch0, w_ch1, w_ch2, w_pr0, w_pr1, w_ix20, w_ix21, w_ix30, w_ix31, w_ix32, w_inT, w_eqI, w_add, w_sub, w_lt, w_le, w_gt, w_ge, w_neg, w_lenT, w_int, w_min, w_max, w_tupT, onB_bl, truth_bl, x_seq, x_skip, KR_ret, TK_ret, TK_brk, TK_cnt, g_name, g_unp, g_allS, g_all0, g_sub, lz0, lz1, lz2, lz3, lz4, lz5, lz6, lz7, lz8, List.set, wipe, List.map_cons, List.map_nil, List.cons_append, List.nil_append, List.length_cons, List.length_nil, Nat.reduceAdd, Nat.reduceSub, List.replicate_succ, List.replicate_zero, eq_self, Bool.false_eq_true, if_true, if_false]
  refine x_asg ?_
  simp only [w_calln, w_call, w_cons, w_nil, w_tup, w_lst, w_op, w_un, w_c, w_var0, w_varS, w_and, w_or, w_not, w_iteE, w_lmeth, t_val, t_tru, t_and, t_or, t_not, t_yes, w_ch0, w_ch1, w_ch2, w_pr0, w_pr1, w_ix20, w_ix21, w_ix30, w_ix31, w_ix32, w_inT, w_eqI, w_add, w_sub, w_lt, w_le, w_gt, w_ge, w_neg, w_lenT, w_int, w_min, w_max, w_tupT, onB_bl, truth_bl, x_seq, x_skip, KR_ret, TK_ret, TK_brk, TK_cnt, g_name, g_unp, g_allS, g_all0, g_sub, lz0, lz1, lz2, lz3, lz4, lz5, lz6, lz7, lz8, List.set, wipe, List.map_cons, List.map_nil, List.cons_append, List.nil_append, List.length_cons, List.length_nil, Nat.reduceAdd, Nat.reduceSub, List.replicate_succ, List.replicate_zero, eq_self, Bool.false_eq_true, if_true, if_false]
  refine X_mono (N := fun en s' => ∃ (f : Nat) (r : En) (fd : List Nat), en = some (CH n rs ws) :: some (nv a) :: some (.ref f) :: r ∧ Kp [] s s' ∧ s.length ≤ f ∧ s'[f]? = some (.lst (fd.map nv)) ∧ fd.length ≤ n ∧ ∀ x, x ∈ fd ↔ Met rs ws a x) (K := fun _ => False) ?_ ?_ (fun _ h => h.elim)
  · refine for_r ?_
    simp only [w_calln, w_call, w_cons, w_nil, w_tup, w_lst, w_op, w_un, w_c, w_var0, w_varS, w_and, w_or, w_not, w_iteE, w_lmeth, t_val, t_tru, t_and, t_or, t_not, t_yes, w_ch0, w_ch1, w_ch2, w_pr0, w_pr1, w_ix20, w_ix21, w_ix30, w_ix31, w_ix32, w_inT, w_eqI, w_add, w_sub, w_lt, w_le, w_gt, w_ge, w_neg, w_lenT, w_int, w_min, w_max, w_tupT, onB_bl, truth_bl, x_seq, x_skip, KR_ret, TK_ret, TK_brk, TK_cnt, g_name, g_unp, g_allS, g_all0, g_sub, lz0, lz1, lz2, lz3, lz4, lz5, lz6, lz7, lz8, List.set, wipe, List.map_cons, List.map_nil, List.cons_append, List.nil_append, List.length_cons, List.length_nil, Nat.reduceAdd, Nat.reduceSub, List.replicate_succ, List.replicate_zero, eq_self, Bool.false_eq_true, if_true, if_false]
    refine .mk (n + 1) (fun j en s' => ∃ (o4 o5 o6 o7 : Option AV) (f l : Nat) (fd lf : List Nat), en = [some (CH n rs ws), some (nv a), some (.ref f), some (.ref l), o4, o5, o6, o7] ∧ Kp [] s s' ∧ s.length ≤ f ∧ s'[f]? = some (.lst (fd.map nv)) ∧ s'[l]? = some (.lst (lf.map nv)) ∧
      fd.Nodup ∧ (∀ x ∈ fd, x < n ∧ Met rs ws a x) ∧ (∀ x ∈ lf, x = a ∨ (x ∈ fd ∧ x ∉ ws)) ∧ (∀ x, (x = a ∨ (x ∈ fd ∧ x ∉ ws)) → x ∈ lf ∨ ∀ c, (x, c) ∈ rs → c ∈ fd) ∧ j ≤ fd.length) (by rw [show ((n : Int) + 1) = ((n + 1 : Nat) : Int) by omega]) (by omega)
      ⟨_, _, _, _, s.length, _, [], [a], rfl, Kp.app _ (Kp.app _ (Kp.refl _)), Nat.le_refl _, by simp, by simp, List.Pairwise.nil, by simp, by simp, by simp, by simp⟩ ?_ ?_
    · rintro j en s1 hj ⟨o4, o5, o6, o7, f, l, fd, lf, rfl, k1, hf, hfd, hlf, hnd, hmet, hleft, hdone, hjl⟩
      simp only [w_calln, w_call, w_cons, w_nil, w_tup, w_lst, w_op, w_un, w_c, w_var0, w_varS, w_and, w_or, w_not, w_iteE, w_lmeth, t_val, t_tru, t_and, t_or, t_not, t_yes, w_ch0, w_ch1, w_ch2, w_pr0, w_pr1, w_ix20, w_ix21, w_ix30, w_ix31, w_ix32, w_inT, w_eqI, w_add, w_sub, w_lt, w_le, w_gt, w_ge, w_neg, w_lenT, w_int, w_min, w_max, w_tupT, onB_bl, truth_bl, x_seq, x_skip, KR_ret, TK_ret, TK_brk, TK_cnt, g_name, g_unp, g_allS, g_all0, g_sub, lz0, lz1, lz2, lz3, lz4, lz5, lz6, lz7, lz8, List.set, wipe, List.map_cons, List.map_nil, List.cons_append, List.nil_append, List.length_cons, List.length_nil, Nat.reduceAdd, Nat.reduceSub, List.replicate_succ, List.replicate_zero, eq_self, Bool.false_eq_true, if_true, if_false]
      refine x_asg ?_
      refine lc_pure rs pr (fun r => decide (r.1 ∈ lf)) (fun r => nv r.2) (i_seq ?_)
      simp only [w_calln, w_call, w_cons, w_nil, w_tup, w_lst, w_op, w_un, w_c, w_var0, w_varS, w_and, w_or, w_not, w_iteE, w_lmeth, t_val, t_tru, t_and, t_or, t_not, t_yes, w_ch0, w_ch1, w_ch2, w_pr0, w_pr1, w_ix20, w_ix21, w_ix30, w_ix31, w_ix32, w_inT, w_eqI, w_add, w_sub, w_lt, w_le, w_gt, w_ge, w_neg, w_lenT, w_int, w_min, w_max, w_tupT, onB_bl, truth_bl, x_seq, x_skip, KR_ret, TK_ret, TK_brk, TK_cnt, g_name, g_unp, g_allS, g_all0, g_sub, lz0, lz1, lz2, lz3, lz4, lz5, lz6, lz7, lz8, List.set, wipe, List.map_cons, List.map_nil, List.cons_append, List.nil_append, List.length_cons, List.length_nil, Nat.reduceAdd, Nat.reduceSub, List.replicate_succ, List.replicate_zero, eq_self, Bool.false_eq_true, if_true, if_false]
      refine .mk _ (Lk.tup _ _) (fun _ => ?_) (fun l e => nomatch e)
      refine .mk (by unfold lineZ; omega) (Or.inl rfl) ?_ ?_
      · intro r hr s' hk
        simp only [w_calln, w_call, w_cons, w_nil, w_tup, w_lst, w_op, w_un, w_c, w_var0, w_varS, w_and, w_or, w_not, w_iteE, w_lmeth, t_val, t_tru, t_and, t_or, t_not, t_yes, w_ch0, w_ch1, w_ch2, w_pr0, w_pr1, w_ix20, w_ix21, w_ix30, w_ix31, w_ix32, w_inT, w_eqI, w_add, w_sub, w_lt, w_le, w_gt, w_ge, w_neg, w_lenT, w_int, w_min, w_max, w_tupT, onB_bl, truth_bl, x_seq, x_skip, KR_ret, TK_ret, TK_brk, TK_cnt, g_name, g_unp, g_allS, g_all0, g_sub, lz0, lz1, lz2, lz3, lz4, lz5, lz6, lz7, lz8, List.set, wipe, List.map_cons, List.map_nil, List.cons_append, List.nil_append, List.length_cons, List.length_nil, Nat.reduceAdd, Nat.reduceSub, List.replicate_succ, List.replicate_zero, eq_self, Bool.false_eq_true, if_true, if_false]
        rw [w_inL false r.1 l lf (seqAt_lst (hk.2 _ _ (by simp) hlf))]
        simp [Kp.refl]
      intro s2 k2 h2
      have e2 : (rs.filter fun r => decide (r.1 ∈ lf)).map (fun r => nv r.2) = ((rs.filter fun r => decide (r.1 ∈ lf)).map Prod.snd).map nv := by rw [List.map_map]; rfl
      rw [e2] at h2
      refine x_asg ?_
      refine lc_w (i_seq ?_)
      simp only [w_calln, w_call, w_cons, w_nil, w_tup, w_lst, w_op, w_un, w_c, w_var0, w_varS, w_and, w_or, w_not, w_iteE, w_lmeth, t_val, t_tru, t_and, t_or, t_not, t_yes, w_ch0, w_ch1, w_ch2, w_pr0, w_pr1, w_ix20, w_ix21, w_ix30, w_ix31, w_ix32, w_inT, w_eqI, w_add, w_sub, w_lt, w_le, w_gt, w_ge, w_neg, w_lenT, w_int, w_min, w_max, w_tupT, onB_bl, truth_bl, x_seq, x_skip, KR_ret, TK_ret, TK_brk, TK_cnt, g_name, g_unp, g_allS, g_all0, g_sub, lz0, lz1, lz2, lz3, lz4, lz5, lz6, lz7, lz8, List.set, wipe, List.map_cons, List.map_nil, List.cons_append, List.nil_append, List.length_cons, List.length_nil, Nat.reduceAdd, Nat.reduceSub, List.replicate_succ, List.replicate_zero, eq_self, Bool.false_eq_true, if_true, if_false]
      refine sset_w nleO nv_inj nle_s h2 (by rw [List.length_map]; have := List.length_filter_le (fun r : Nat × Nat => decide (r.1 ∈ lf)) rs; omega) (fun ys _ => srt_nv ys) fun l3 s3 ah k3 hl3 hasc hmem hlen h3 => ?_
      have ahm : ∀ x, x ∈ ah ↔ ∃ r, r ∈ lf ∧ (r, x) ∈ rs := fun x => by
        rw [hmem, List.mem_map]
        constructor
        · rintro ⟨⟨r1, r2⟩, h, rfl⟩
          have := List.mem_filter.mp h
          exact ⟨r1, of_decide_eq_true this.2, this.1⟩
        · rintro ⟨r, h, h'⟩
          exact ⟨(r, x), List.mem_filter.mpr ⟨h', decide_eq_true h⟩, rfl⟩
      refine .mk _ (Lk.lst h3) (fun e => nomatch e) (fun l e he => ?_)
      cases e
      have hk13 : Kp [] s1 s3 := k2.trans k3
      refine .mk (ah.map nv) (fun j acc s' => Kp [] s3 s' ∧ acc = ((ah.take j).filter fun b => !decide (b ∈ fd)).map nv) (by rw [List.length_map]; rw [List.length_map] at hlen; have := List.length_filter_le (fun r : Nat × Nat => decide (r.1 ∈ lf)) rs; unfold lineZ; omega) (Or.inr ⟨_, rfl, fun _ _ _ hi => seqAt_keep he (by simp) hi.1⟩) ⟨Kp.app _ (Kp.refl _), by simp⟩ ?_ ?_
      · rintro j x acc s' hx hl ⟨hk, rfl⟩ hD
        rw [List.getElem?_map] at hx
        cases hz : ah[j]? with
        | none => rw [hz] at hx; exact nomatch hx
        | some z =>
          rw [hz] at hx
          cases hx
          have ht : ah.take (j + 1) = ah.take j ++ [z] := by rw [List.take_add_one, hz]; rfl
          simp only [w_calln, w_call, w_cons, w_nil, w_tup, w_lst, w_op, w_un, w_c, w_var0, w_varS, w_and, w_or, w_not, w_iteE, w_lmeth, t_val, t_tru, t_and, t_or, t_not, t_yes, w_ch0, w_ch1, w_ch2, w_pr0, w_pr1, w_ix20, w_ix21, w_ix30, w_ix31, w_ix32, w_inT, w_eqI, w_add, w_sub, w_lt, w_le, w_gt, w_ge, w_neg, w_lenT, w_int, w_min, w_max, w_tupT, onB_bl, truth_bl, x_seq, x_skip, KR_ret, TK_ret, TK_brk, TK_cnt, g_name, g_unp, g_allS, g_all0, g_sub, lz0, lz1, lz2, lz3, lz4, lz5, lz6, lz7, lz8, List.set, wipe, List.map_cons, List.map_nil, List.cons_append, List.nil_append, List.length_cons, List.length_nil, Nat.reduceAdd, Nat.reduceSub, List.replicate_succ, List.replicate_zero, eq_self, Bool.false_eq_true, if_true, if_false]
          rw [w_inL true z f fd (seqAt_lst ((hk13.trans hk).2 _ _ (by simp) hfd))]
          simp only [w_calln, w_call, w_cons, w_nil, w_tup, w_lst, w_op, w_un, w_c, w_var0, w_varS, w_and, w_or, w_not, w_iteE, w_lmeth, t_val, t_tru, t_and, t_or, t_not, t_yes, w_ch0, w_ch1, w_ch2, w_pr0, w_pr1, w_ix20, w_ix21, w_ix30, w_ix31, w_ix32, w_inT, w_eqI, w_add, w_sub, w_lt, w_le, w_gt, w_ge, w_neg, w_lenT, w_int, w_min, w_max, w_tupT, onB_bl, truth_bl, x_seq, x_skip, KR_ret, TK_ret, TK_brk, TK_cnt, g_name, g_unp, g_allS, g_all0, g_sub, lz0, lz1, lz2, lz3, lz4, lz5, lz6, lz7, lz8, List.set, wipe, List.map_cons, List.map_nil, List.cons_append, List.nil_append, List.length_cons, List.length_nil, Nat.reduceAdd, Nat.reduceSub, List.replicate_succ, List.replicate_zero, eq_self, Bool.false_eq_true, if_true, if_false]
          by_cases hzf : z ∈ fd
          · rw [if_neg (by simp [hzf])]
            exact ⟨hD, hk, by rw [ht, List.filter_append, List.map_append]; simp [hzf]⟩
          · rw [if_pos (by simp [hzf])]
            exact ⟨hD, hk.setN _ _ (Nat.le_refl _), by rw [ht, List.filter_append, List.map_append]; simp [hzf]⟩
      rintro acc s4 ⟨k4, rfl⟩ hD
      rw [List.length_map, List.take_of_length_le (Nat.le_refl _)] at hD
      generalize hnew : ah.filter (fun b => !decide (b ∈ fd)) = new at hD
      have newm : ∀ x, x ∈ new ↔ (∃ r, r ∈ lf ∧ (r, x) ∈ rs) ∧ x ∉ fd := fun x => by
        rw [← hnew, List.mem_filter, ahm]; simp
      have newd : new.Nodup := by rw [← hnew]; exact List.Pairwise.filter _ hasc.nodup
      have newn : ∀ x ∈ new, x < n ∧ Met rs ws a x := fun x hx => by
        obtain ⟨⟨r, h, h'⟩, _⟩ := (newm x).mp hx
        refine ⟨(V.inr _ h').2, ?_⟩
        rcases hleft r h with rfl | ⟨h1, h2⟩
        · exact .one h'
        · exact .more (hmet r h1).2 h2 h'
      have k14 : Kp [] s1 s4 := hk13.trans k4
      have hfd4 := k14.2 _ _ (by simp) hfd
      have fdn : (fd ++ new).Nodup := by
        rw [List.nodup_append]
        exact ⟨hnd, newd, fun x hx y hy e => ((newm y).mp hy).2 (e ▸ hx)⟩
      have fdm : ∀ x ∈ fd ++ new, x < n ∧ Met rs ws a x := fun x hx => (List.mem_append.mp hx).elim (hmet x) (newn x)
      have fdl := nodup_lt fdn fun x hx => (fdm x hx).1
      refine x_asg ?_
      simp only [w_calln, w_call, w_cons, w_nil, w_tup, w_lst, w_op, w_un, w_c, w_var0, w_varS, w_and, w_or, w_not, w_iteE, w_lmeth, t_val, t_tru, t_and, t_or, t_not, t_yes, w_ch0, w_ch1, w_ch2, w_pr0, w_pr1, w_ix20, w_ix21, w_ix30, w_ix31, w_ix32, w_inT, w_eqI, w_add, w_sub, w_lt, w_le, w_gt, w_ge, w_neg, w_lenT, w_int, w_min, w_max, w_tupT, onB_bl, truth_bl, x_seq, x_skip, KR_ret, TK_ret, TK_brk, TK_cnt, g_name, g_unp, g_allS, g_all0, g_sub, lz0, lz1, lz2, lz3, lz4, lz5, lz6, lz7, lz8, List.set, wipe, List.map_cons, List.map_nil, List.cons_append, List.nil_append, List.length_cons, List.length_nil, Nat.reduceAdd, Nat.reduceSub, List.replicate_succ, List.replicate_zero, eq_self, Bool.false_eq_true, if_true, if_false]
      rw [w_addL hfd4 hD (by simp at fdl ⊢; omega), ← List.map_append]
      refine x_asg ?_
      refine lc_pure new nv (fun b => !decide (b ∈ ws)) nv (i_seq ?_)
      simp only [w_calln, w_call, w_cons, w_nil, w_tup, w_lst, w_op, w_un, w_c, w_var0, w_varS, w_and, w_or, w_not, w_iteE, w_lmeth, t_val, t_tru, t_and, t_or, t_not, t_yes, w_ch0, w_ch1, w_ch2, w_pr0, w_pr1, w_ix20, w_ix21, w_ix30, w_ix31, w_ix32, w_inT, w_eqI, w_add, w_sub, w_lt, w_le, w_gt, w_ge, w_neg, w_lenT, w_int, w_min, w_max, w_tupT, onB_bl, truth_bl, x_seq, x_skip, KR_ret, TK_ret, TK_brk, TK_cnt, g_name, g_unp, g_allS, g_all0, g_sub, lz0, lz1, lz2, lz3, lz4, lz5, lz6, lz7, lz8, List.set, wipe, List.map_cons, List.map_nil, List.cons_append, List.nil_append, List.length_cons, List.length_nil, Nat.reduceAdd, Nat.reduceSub, List.replicate_succ, List.replicate_zero, eq_self, Bool.false_eq_true, if_true, if_false]
      have hD' := (Kp.app [MO.lst ((fd ++ new).map nv)] (Kp.refl (L := []) s4)).2 _ _ (by simp) hD
      refine .mk _ (Lk.lst hD') (fun e => nomatch e) (fun l e he => ?_)
      cases e
      refine .mk (by rw [List.length_append] at fdl; unfold lineZ; omega) (Or.inr ⟨_, rfl, he⟩) ?_ ?_
      · intro b hb s' hk
        simp only [w_calln, w_call, w_cons, w_nil, w_tup, w_lst, w_op, w_un, w_c, w_var0, w_varS, w_and, w_or, w_not, w_iteE, w_lmeth, t_val, t_tru, t_and, t_or, t_not, t_yes, w_ch0, w_ch1, w_ch2, w_pr0, w_pr1, w_ix20, w_ix21, w_ix30, w_ix31, w_ix32, w_inT, w_eqI, w_add, w_sub, w_lt, w_le, w_gt, w_ge, w_neg, w_lenT, w_int, w_min, w_max, w_tupT, onB_bl, truth_bl, x_seq, x_skip, KR_ret, TK_ret, TK_brk, TK_cnt, g_name, g_unp, g_allS, g_all0, g_sub, lz0, lz1, lz2, lz3, lz4, lz5, lz6, lz7, lz8, List.set, wipe, List.map_cons, List.map_nil, List.cons_append, List.nil_append, List.length_cons, List.length_nil, Nat.reduceAdd, Nat.reduceSub, List.replicate_succ, List.replicate_zero, eq_self, Bool.false_eq_true, if_true, if_false]
        simp [Kp.refl]
      intro s6 k6 h6
      generalize hlw : new.filter (fun b => !decide (b ∈ ws)) = lf' at h6
      have lfm : ∀ x, x ∈ lf' ↔ x ∈ new ∧ x ∉ ws := fun x => by rw [← hlw, List.mem_filter]; simp
      have k06 : Kp [] s s6 := ((k1.trans k14).app _).trans k6
      have hf6 : s6[s4.length]? = some (.lst ((fd ++ new).map nv)) := k6.2 _ _ (by simp) (by simp)
      have sl4 : s.length ≤ s4.length := (k1.trans k14).1
      have done' : ∀ x, (x = a ∨ (x ∈ fd ++ new ∧ x ∉ ws)) → x ∈ lf' ∨ ∀ c, (x, c) ∈ rs → c ∈ fd ++ new := by
        intro x hx
        have old : (x = a ∨ (x ∈ fd ∧ x ∉ ws)) → x ∈ lf' ∨ ∀ c, (x, c) ∈ rs → c ∈ fd ++ new := fun hx => by
          rcases hdone x hx with h | h
          · refine Or.inr fun c hc => ?_
            by_cases hcf : c ∈ fd
            · exact List.mem_append_left _ hcf
            · exact List.mem_append_right _ ((newm c).mpr ⟨⟨x, h, hc⟩, hcf⟩)
          · exact Or.inr fun c hc => List.mem_append_left _ (h c hc)
        rcases hx with h | ⟨h, h'⟩
        · exact old (Or.inl h)
        · rcases List.mem_append.mp h with h | h
          · exact old (Or.inr ⟨h, h'⟩)
          · exact Or.inl ((lfm x).mpr ⟨h, h'⟩)
      refine x_ife ?_
      simp only [w_calln, w_call, w_cons, w_nil, w_tup, w_lst, w_op, w_un, w_c, w_var0, w_varS, w_and, w_or, w_not, w_iteE, w_lmeth, t_val, t_tru, t_and, t_or, t_not, t_yes, w_ch0, w_ch1, w_ch2, w_pr0, w_pr1, w_ix20, w_ix21, w_ix30, w_ix31, w_ix32, w_inT, w_eqI, w_add, w_sub, w_lt, w_le, w_gt, w_ge, w_neg, w_lenT, w_int, w_min, w_max, w_tupT, onB_bl, truth_bl, x_seq, x_skip, KR_ret, TK_ret, TK_brk, TK_cnt, g_name, g_unp, g_allS, g_all0, g_sub, lz0, lz1, lz2, lz3, lz4, lz5, lz6, lz7, lz8, List.set, wipe, List.map_cons, List.map_nil, List.cons_append, List.nil_append, List.length_cons, List.length_nil, Nat.reduceAdd, Nat.reduceSub, List.replicate_succ, List.replicate_zero, eq_self, Bool.false_eq_true, if_true, if_false]
      rw [w_eqL0 false _ s6.length 0 (by omega) (lf'.map nv) (by simp [pln]) (seqAt_lst ((Kp.app [MO.lst []] (Kp.refl (L := []) s6)).2 _ _ (by simp) h6)) (seqAt_lst (by simp))]
      simp only [w_calln, w_call, w_cons, w_nil, w_tup, w_lst, w_op, w_un, w_c, w_var0, w_varS, w_and, w_or, w_not, w_iteE, w_lmeth, t_val, t_tru, t_and, t_or, t_not, t_yes, w_ch0, w_ch1, w_ch2, w_pr0, w_pr1, w_ix20, w_ix21, w_ix30, w_ix31, w_ix32, w_inT, w_eqI, w_add, w_sub, w_lt, w_le, w_gt, w_ge, w_neg, w_lenT, w_int, w_min, w_max, w_tupT, onB_bl, truth_bl, x_seq, x_skip, KR_ret, TK_ret, TK_brk, TK_cnt, g_name, g_unp, g_allS, g_all0, g_sub, lz0, lz1, lz2, lz3, lz4, lz5, lz6, lz7, lz8, List.set, wipe, List.map_cons, List.map_nil, List.cons_append, List.nil_append, List.length_cons, List.length_nil, Nat.reduceAdd, Nat.reduceSub, List.replicate_succ, List.replicate_zero, eq_self, Bool.false_eq_true, if_true, if_false]
      have k07 : Kp [] s (s6 ++ [MO.lst []]) := k06.app _
      have hf7 : (s6 ++ [MO.lst []])[s4.length]? = some (.lst ((fd ++ new).map nv)) := (Kp.app [MO.lst []] (Kp.refl (L := []) s6)).2 _ _ (by simp) hf6
      cases hlf' : lf' with
      | nil =>
        subst hlf'
        rw [if_pos (by simp)]
        rw [x_brk, TK_brk]
        refine ⟨s4.length, _, fd ++ new, rfl, k07, sl4, hf7, fdl, fun x => ⟨fun hx => (fdm x hx).2, fun hM => ?_⟩⟩
        induction hM with
        | one e => exact (done' a (Or.inl rfl)).resolve_left (by simp) _ e
        | more hM hc e ih => exact (done' _ (Or.inr ⟨ih, hc⟩)).resolve_left (by simp) _ e
      | cons z r =>
        rw [if_neg (by simp)]
        have : 1 ≤ new.length := by
          have hz : z ∈ lf' := by rw [hlf']; simp
          have := ((lfm z).mp hz).1
          cases new with
          | nil => exact nomatch this
          | cons => simp
        refine ⟨_, _, _, _, s4.length, (s4 ++ [MO.lst ((fd ++ new).map nv)]).length, fd ++ new, lf', rfl, k07, sl4, hf7, ?_, fdn, fdm, fun x hx => ?_, done', by rw [List.length_append]; omega⟩
        · exact (Kp.app [MO.lst []] (Kp.refl (L := []) s6)).2 _ _ (by simp) h6
        · have := (lfm x).mp hx
          exact Or.inr ⟨List.mem_append_right _ this.1, this.2⟩
    · rintro en s1 ⟨o4, o5, o6, o7, f, l, fd, lf, rfl, k1, hf, hfd, hlf, hnd, hmet, hleft, hdone, hjl⟩
      have := nodup_lt hnd fun x hx => (hmet x hx).1
      omega
  · rintro en s1 ⟨f, r, fd, rfl, k1, hf, hfd, hlen, hm⟩
    refine x_ret ?_
    simp only [w_calln, w_call, w_cons, w_nil, w_tup, w_lst, w_op, w_un, w_c, w_var0, w_varS, w_and, w_or, w_not, w_iteE, w_lmeth, t_val, t_tru, t_and, t_or, t_not, t_yes, w_ch0, w_ch1, w_ch2, w_pr0, w_pr1, w_ix20, w_ix21, w_ix30, w_ix31, w_ix32, w_inT, w_eqI, w_add, w_sub, w_lt, w_le, w_gt, w_ge, w_neg, w_lenT, w_int, w_min, w_max, w_tupT, onB_bl, truth_bl, x_seq, x_skip, KR_ret, TK_ret, TK_brk, TK_cnt, g_name, g_unp, g_allS, g_all0, g_sub, lz0, lz1, lz2, lz3, lz4, lz5, lz6, lz7, lz8, List.set, wipe, List.map_cons, List.map_nil, List.cons_append, List.nil_append, List.length_cons, List.length_nil, Nat.reduceAdd, Nat.reduceSub, List.replicate_succ, List.replicate_zero, eq_self, Bool.false_eq_true, if_true, if_false]
    rw [sorted_w nle_s hfd (by omega) (srt_nv fd)]
    exact k _ _ (fd.mergeSort nle) (k1.app _) k1.1 (by simp) fun x => by rw [List.mem_mergeSort]; exact hm x
end
end Sp
namespace Sp
open PySem Mi Mr
section
variable {n : Nat} {rs : List (Nat × Nat)} {ws : List Nat} {Q : AV → Sto → Prop} {s : Sto}
/-- the law's table -/
def Tab (s : Sto) (t n : Nat) (rs : List (Nat × Nat)) (ws : List Nat) : Prop := ∃ ls : List Nat, ls.length = n ∧ s[t]? = some (.lst (ls.map .ref)) ∧
  ∀ k, k < n → ∃ (f : Nat) (ys : List Nat), ls[k]? = some f ∧ s[f]? = some (.lst (ys.map nv)) ∧ ∀ x, x ∈ ys ↔ Met rs ws k x
theorem Tab.keep {L : List Nat} {s s' : Sto} {t : Nat} (h : Tab s t n rs ws) (k : Kp [] s s') : Tab s' t n rs ws := by
  obtain ⟨ls, h1, h2, h3⟩ := h
  refine ⟨ls, h1, k.2 _ _ (by simp) h2, fun i hi => ?_⟩
  obtain ⟨f, ys, a, b, c⟩ := h3 i hi
  exact ⟨f, ys, a, k.2 _ _ (by simp) b, c⟩
theorem law_table_w (V : VM n rs ws) (hrl : rs.length < 64) (k : ∀ t s', Kp [] s s' → s.length ≤ t → (∃ ls : List Nat, ls.length = n ∧ s'[t]? = some (.lst (ls.map .ref)) ∧ ∀ k, k < n → ∃ (f : Nat) (ys : List Nat), ls[k]? = some f ∧ s.length ≤ f ∧ s'[f]? = some (.lst (ys.map nv)) ∧ ∀ x, x ∈ ys ↔ Met rs ws k x) → Q (.ref t) s') : W (m__law_map_table [CH n rs ws] s) Q := by
  have hn := V.hn
  unfold m__law_map_table b__law_map_table
  refine d_runn (by rfl) (x_ret ?_)
  simp only [w_calln, w_call, w_cons, w_nil, w_tup, w_lst, w_op, w_un, w_c, w_var0, w_varS, w_and, w_or, w_not, w_iteE, w_lmeth, t_val, t_tru, t_and, t_or, t_not, t_yes, w_ch0, w_ch1, w_ch2, w_pr0, w_pr1, w_ix20, w_ix21, w_ix30, w_ix31, w_ix32, w_inT, w_eqI, w_add, w_sub, w_lt, w_le, w_gt, w_ge, w_neg, w_lenT, w_int, w_min, w_max, w_tupT, onB_bl, truth_bl, x_seq, x_skip, KR_ret, TK_ret, TK_brk, TK_cnt, g_name, g_unp, g_allS, g_all0, g_sub, lz0, lz1, lz2, lz3, lz4, lz5, lz6, lz7, lz8, List.set, wipe, List.map_cons, List.map_nil, List.cons_append, List.nil_append, List.length_cons, List.length_nil, Nat.reduceAdd, Nat.reduceSub, List.replicate_succ, List.replicate_zero, eq_self, Bool.false_eq_true, if_true, if_false]
  refine lc_w (i_range ?_)
  simp only [w_calln, w_call, w_cons, w_nil, w_tup, w_lst, w_op, w_un, w_c, w_var0, w_varS, w_and, w_or, w_not, w_iteE, w_lmeth, t_val, t_tru, t_and, t_or, t_not, t_yes, w_ch0, w_ch1, w_ch2, w_pr0, w_pr1, w_ix20, w_ix21, w_ix30, w_ix31, w_ix32, w_inT, w_eqI, w_add, w_sub, w_lt, w_le, w_gt, w_ge, w_neg, w_lenT, w_int, w_min, w_max, w_tupT, onB_bl, truth_bl, x_seq, x_skip, KR_ret, TK_ret, TK_brk, TK_cnt, g_name, g_unp, g_allS, g_all0, g_sub, lz0, lz1, lz2, lz3, lz4, lz5, lz6, lz7, lz8, List.set, wipe, List.map_cons, List.map_nil, List.cons_append, List.nil_append, List.length_cons, List.length_nil, Nat.reduceAdd, Nat.reduceSub, List.replicate_succ, List.replicate_zero, eq_self, Bool.false_eq_true, if_true, if_false]
  refine .mk n rfl (by omega) ?_
  refine .mk ((List.range n).map nv) (fun j acc s' => Kp [] s s' ∧ ∃ ls : List Nat, acc = ls.map .ref ∧ ls.length = j ∧ ∀ k, k < j → ∃ (f : Nat) (ys : List Nat), ls[k]? = some f ∧ s.length < f ∧ s'[f]? = some (.lst (ys.map nv)) ∧ ∀ x, x ∈ ys ↔ Met rs ws k x) (by simp; unfold lineZ; omega) (Or.inl rfl) ⟨Kp.app _ (Kp.refl _), [], rfl, rfl, fun k h => absurd h (Nat.not_lt_zero k)⟩ ?_ ?_
  · rintro j x acc s1 hx _ ⟨k1, ls, rfl, hlj, hls⟩ hD
    obtain ⟨hj, rfl⟩ := getR hx
    simp only [w_calln, w_call, w_cons, w_nil, w_tup, w_lst, w_op, w_un, w_c, w_var0, w_varS, w_and, w_or, w_not, w_iteE, w_lmeth, t_val, t_tru, t_and, t_or, t_not, t_yes, w_ch0, w_ch1, w_ch2, w_pr0, w_pr1, w_ix20, w_ix21, w_ix30, w_ix31, w_ix32, w_inT, w_eqI, w_add, w_sub, w_lt, w_le, w_gt, w_ge, w_neg, w_lenT, w_int, w_min, w_max, w_tupT, onB_bl, truth_bl, x_seq, x_skip, KR_ret, TK_ret, TK_brk, TK_cnt, g_name, g_unp, g_allS, g_all0, g_sub, lz0, lz1, lz2, lz3, lz4, lz5, lz6, lz7, lz8, List.set, wipe, List.map_cons, List.map_nil, List.cons_append, List.nil_append, List.length_cons, List.length_nil, Nat.reduceAdd, Nat.reduceSub, List.replicate_succ, List.replicate_zero, eq_self, Bool.false_eq_true, if_true, if_false]
    refine law_met_w V hrl hj fun f s2 ys k2 hf hys hm => ?_
    have lD := lt_of_get hD
    refine ⟨k2.2 _ _ (by simp) hD, (k1.trans k2).setN _ _ (Nat.le_refl _), ls ++ [f], by simp, by simp; omega, fun i hi => ?_⟩
    rcases Nat.lt_or_ge i j with h | h
    · obtain ⟨f', ys', a, b, c, d⟩ := hls i h
      refine ⟨f', ys', ?_, b, ?_, d⟩
      · rw [List.getElem?_append_left (by omega)]; exact a
      · rw [List.getElem?_set_ne (by omega)]; exact k2.2 _ _ (by simp) c
    · have : i = j := by omega
      subst this
      refine ⟨f, ys, ?_, by omega, ?_, hm⟩
      · rw [List.getElem?_append_right (by omega), hlj]; simp
      · rw [List.getElem?_set_ne (by omega)]; exact hys
  · rintro acc s1 ⟨k1, ls, rfl, hlj, hls⟩ hD
    have hlj : ls.length = n := by simpa using hlj
    refine k _ _ k1 (Nat.le_refl _) ⟨ls, hlj, hD, fun i hi => ?_⟩
    obtain ⟨f, ys, a, b, c, d⟩ := hls i (by simpa using hi)
    exact ⟨f, ys, a, by omega, c, d⟩
theorem ix_tab {t a : Nat} (T : Tab s t n rs ws) (ha : a < n) : ∃ (f : Nat) (ys : List Nat), s[f]? = some (.lst (ys.map nv)) ∧ (∀ x, x ∈ ys ↔ Met rs ws a x) ∧ ∀ Q : AV → Sto → Prop, W (ixAV (.ref t) (nv a) s) Q = Q (.ref f) s := by
  obtain ⟨ls, h1, h2, h3⟩ := T
  obtain ⟨f, ys, a1, a2, a3⟩ := h3 a ha
  exact ⟨f, ys, a2, a3, fun Q => w_ixL (seqAt_lst h2) (by rw [List.getElem?_map, a1]; rfl)⟩
theorem law_piece_w {t a : Nat} (V : VM n rs ws) (T : Tab s t n rs ws) (ha : a < n) (k : ∀ s', Kp [] s s' → Q (tn (PC n rs ws a)) s') : W (m__law_map_piece [CH n rs ws, .ref t, nv a] s) Q := by
  have hn := V.hn
  unfold m__law_map_piece b__law_map_piece
  refine d_runn (by rfl) ?_
  simp only [w_calln, w_call, w_cons, w_nil, w_tup, w_lst, w_op, w_un, w_c, w_var0, w_varS, w_and, w_or, w_not, w_iteE, w_lmeth, t_val, t_tru, t_and, t_or, t_not, t_yes, w_ch0, w_ch1, w_ch2, w_pr0, w_pr1, w_ix20, w_ix21, w_ix30, w_ix31, w_ix32, w_inT, w_eqI, w_add, w_sub, w_lt, w_le, w_gt, w_ge, w_neg, w_lenT, w_int, w_min, w_max, w_tupT, onB_bl, truth_bl, x_seq, x_skip, KR_ret, TK_ret, TK_brk, TK_cnt, g_name, g_unp, g_allS, g_all0, g_sub, lz0, lz1, lz2, lz3, lz4, lz5, lz6, lz7, lz8, List.set, wipe, List.map_cons, List.map_nil, List.cons_append, List.nil_append, List.length_cons, List.length_nil, Nat.reduceAdd, Nat.reduceSub, List.replicate_succ, List.replicate_zero, eq_self, Bool.false_eq_true, if_true, if_false]
  refine x_ife ?_
  simp only [w_calln, w_call, w_cons, w_nil, w_tup, w_lst, w_op, w_un, w_c, w_var0, w_varS, w_and, w_or, w_not, w_iteE, w_lmeth, t_val, t_tru, t_and, t_or, t_not, t_yes, w_ch0, w_ch1, w_ch2, w_pr0, w_pr1, w_ix20, w_ix21, w_ix30, w_ix31, w_ix32, w_inT, w_eqI, w_add, w_sub, w_lt, w_le, w_gt, w_ge, w_neg, w_lenT, w_int, w_min, w_max, w_tupT, onB_bl, truth_bl, x_seq, x_skip, KR_ret, TK_ret, TK_brk, TK_cnt, g_name, g_unp, g_allS, g_all0, g_sub, lz0, lz1, lz2, lz3, lz4, lz5, lz6, lz7, lz8, List.set, wipe, List.map_cons, List.map_nil, List.cons_append, List.nil_append, List.length_cons, List.length_nil, Nat.reduceAdd, Nat.reduceSub, List.replicate_succ, List.replicate_zero, eq_self, Bool.false_eq_true, if_true, if_false]
  by_cases hw : a ∈ ws
  · rw [if_pos (by simp [hw])]
    refine x_ret ?_
    simp only [w_calln, w_call, w_cons, w_nil, w_tup, w_lst, w_op, w_un, w_c, w_var0, w_varS, w_and, w_or, w_not, w_iteE, w_lmeth, t_val, t_tru, t_and, t_or, t_not, t_yes, w_ch0, w_ch1, w_ch2, w_pr0, w_pr1, w_ix20, w_ix21, w_ix30, w_ix31, w_ix32, w_inT, w_eqI, w_add, w_sub, w_lt, w_le, w_gt, w_ge, w_neg, w_lenT, w_int, w_min, w_max, w_tupT, onB_bl, truth_bl, x_seq, x_skip, KR_ret, TK_ret, TK_brk, TK_cnt, g_name, g_unp, g_allS, g_all0, g_sub, lz0, lz1, lz2, lz3, lz4, lz5, lz6, lz7, lz8, List.set, wipe, List.map_cons, List.map_nil, List.cons_append, List.nil_append, List.length_cons, List.length_nil, Nat.reduceAdd, Nat.reduceSub, List.replicate_succ, List.replicate_zero, eq_self, Bool.false_eq_true, if_true, if_false]
    have := k s (Kp.refl _)
    unfold PC at this; rw [if_pos hw] at this
    exact this
  · rw [if_neg (by simp [hw])]
    refine x_ret ?_
    simp only [w_calln, w_call, w_cons, w_nil, w_tup, w_lst, w_op, w_un, w_c, w_var0, w_varS, w_and, w_or, w_not, w_iteE, w_lmeth, t_val, t_tru, t_and, t_or, t_not, t_yes, w_ch0, w_ch1, w_ch2, w_pr0, w_pr1, w_ix20, w_ix21, w_ix30, w_ix31, w_ix32, w_inT, w_eqI, w_add, w_sub, w_lt, w_le, w_gt, w_ge, w_neg, w_lenT, w_int, w_min, w_max, w_tupT, onB_bl, truth_bl, x_seq, x_skip, KR_ret, TK_ret, TK_brk, TK_cnt, g_name, g_unp, g_allS, g_all0, g_sub, lz0, lz1, lz2, lz3, lz4, lz5, lz6, lz7, lz8, List.set, wipe, List.map_cons, List.map_nil, List.cons_append, List.nil_append, List.length_cons, List.length_nil, Nat.reduceAdd, Nat.reduceSub, List.replicate_succ, List.replicate_zero, eq_self, Bool.false_eq_true, if_true, if_false]
    refine lc_pure (List.range n) nv (fun b => decide (b = a) || (mB rs ws a b && (mB rs ws b a && !decide (b ∈ ws)))) nv (i_range ?_)
    simp only [w_calln, w_call, w_cons, w_nil, w_tup, w_lst, w_op, w_un, w_c, w_var0, w_varS, w_and, w_or, w_not, w_iteE, w_lmeth, t_val, t_tru, t_and, t_or, t_not, t_yes, w_ch0, w_ch1, w_ch2, w_pr0, w_pr1, w_ix20, w_ix21, w_ix30, w_ix31, w_ix32, w_inT, w_eqI, w_add, w_sub, w_lt, w_le, w_gt, w_ge, w_neg, w_lenT, w_int, w_min, w_max, w_tupT, onB_bl, truth_bl, x_seq, x_skip, KR_ret, TK_ret, TK_brk, TK_cnt, g_name, g_unp, g_allS, g_all0, g_sub, lz0, lz1, lz2, lz3, lz4, lz5, lz6, lz7, lz8, List.set, wipe, List.map_cons, List.map_nil, List.cons_append, List.nil_append, List.length_cons, List.length_nil, Nat.reduceAdd, Nat.reduceSub, List.replicate_succ, List.replicate_zero, eq_self, Bool.false_eq_true, if_true, if_false]
    refine .mk n rfl (by omega) ?_
    refine .mk (by unfold lineZ; simp; omega) (Or.inl rfl) ?_ ?_
    · intro b hb s' hk
      have hb := List.mem_range.mp hb
      have T' := Tab.keep (L := []) T hk
      obtain ⟨f, ys, a1, a2, a3⟩ := ix_tab T' ha
      obtain ⟨f', ys', b1, b2, b3⟩ := ix_tab T' hb
      simp only [w_calln, w_call, w_cons, w_nil, w_tup, w_lst, w_op, w_un, w_c, w_var0, w_varS, w_and, w_or, w_not, w_iteE, w_lmeth, t_val, t_tru, t_and, t_or, t_not, t_yes, w_ch0, w_ch1, w_ch2, w_pr0, w_pr1, w_ix20, w_ix21, w_ix30, w_ix31, w_ix32, w_inT, w_eqI, w_add, w_sub, w_lt, w_le, w_gt, w_ge, w_neg, w_lenT, w_int, w_min, w_max, w_tupT, onB_bl, truth_bl, x_seq, x_skip, KR_ret, TK_ret, TK_brk, TK_cnt, g_name, g_unp, g_allS, g_all0, g_sub, lz0, lz1, lz2, lz3, lz4, lz5, lz6, lz7, lz8, List.set, wipe, List.map_cons, List.map_nil, List.cons_append, List.nil_append, List.length_cons, List.length_nil, Nat.reduceAdd, Nat.reduceSub, List.replicate_succ, List.replicate_zero, eq_self, Bool.false_eq_true, if_true, if_false, a3]
      rw [w_inL false b f ys (seqAt_lst a1), onB_bl, b3, w_inL false a f' ys' (seqAt_lst b1), onB_bl]
      have m1 : decide (b ∈ ys) = mB rs ws a b := mB_of (decide_eq_true_iff.trans (a2 b))
      have m2 : decide (a ∈ ys') = mB rs ws b a := mB_of (decide_eq_true_iff.trans (b2 a))
      rw [m1, m2]
      by_cases e : b = a
      · subst e; simp [hw, Kp.refl]
      · have e' : ¬ ((b : Int) = (a : Int)) := by omega
        by_cases hbw : b ∈ ws
        · simp [e, e', hbw, Kp.refl]
        · cases mB rs ws a b <;> cases mB rs ws b a <;> simp [e, e', hbw, Kp.refl]
    · intro s' hk hD
      rw [w_tupL (seqAt_lst hD)]
      have := k s' hk
      unfold PC at this; rw [if_neg hw] at this
      exact this
theorem sub_PC (a : Nat) : (PC n rs ws a).length ≤ n + 1 := by
  unfold PC; split
  · simp
  · have := List.length_filter_le (fun b => decide (b = a) || (mB rs ws a b && (mB rs ws b a && !decide (b ∈ ws)))) (List.range n)
    rw [List.length_range] at this; omega
theorem PC_hd {a : Nat} (ha : a < n) (hw : a ∉ ws) : ∃ h r, PC n rs ws a = h :: r ∧ h < n ∧ h ∉ ws ∧ PC n rs ws h = PC n rs ws a := by
  cases e : PC n rs ws a with
  | nil => have := self_PC (rs := rs) (ws := ws) ha; rw [e] at this; exact nomatch this
  | cons h r =>
    have hm : h ∈ PC n rs ws a := by rw [e]; simp
    have := (mem_PC hw).mp hm
    refine ⟨h, r, rfl, this.1, ?_, by rw [(same_PC ha hm).1, e]⟩
    rcases this.2 with rfl | h2
    · exact hw
    · exact h2.2.2
theorem mem_PCS (x : List Nat) : x ∈ PCS n rs ws ↔ ∃ a, a < n ∧ a ∉ ws ∧ x = PC n rs ws a := by
  unfold PCS
  rw [List.mem_map]
  constructor
  · rintro ⟨a, ha, rfl⟩
    have := List.mem_filter.mp ha
    have h2 := this.2
    unfold isHd at h2
    simp at h2
    exact ⟨a, List.mem_range.mp this.1, h2.1, rfl⟩
  · rintro ⟨a, ha, hw, rfl⟩
    obtain ⟨h, r, e1, e2, e3, e4⟩ := PC_hd (rs := rs) ha hw
    refine ⟨h, List.mem_filter.mpr ⟨List.mem_range.mpr e2, ?_⟩, e4⟩
    unfold isHd
    rw [e4, e1]; simp [e3]
theorem asc_PCS : Asc lle (PCS n rs ws) := by
  unfold PCS Asc
  rw [List.pairwise_map]
  refine List.Pairwise.imp_of_mem ?_ ((asc_range n).filter _)
  intro a b ha hb h
  have ha := (List.mem_filter.mp ha).2
  have hb := (List.mem_filter.mp hb).2
  unfold isHd at ha hb
  simp at ha hb
  have hab : a ≤ b := of_decide_eq_true h.1
  have hne := h.2
  cases ea : PC n rs ws a with
  | nil => rw [ea] at ha; exact nomatch ha.2
  | cons x r =>
    cases eb : PC n rs ws b with
    | nil => rw [eb] at hb; exact nomatch hb.2
    | cons y r' =>
      rw [ea] at ha; rw [eb] at hb
      have hx : x = a := by have := ha.2; simpa using this
      have hy : y = b := by have := hb.2; simpa using this
      subst hx; subst hy
      refine ⟨?_, fun e => hne (by injection e)⟩
      unfold lle
      rw [if_neg hne]; exact decide_eq_true hab
theorem PC_ne {a : Nat} (ha : a < n) : PC n rs ws a ≠ [] := fun e => by
  have := self_PC (rs := rs) (ws := ws) ha; rw [e] at this; exact nomatch this
theorem law_pieces_w {t : Nat} (V : VM n rs ws) (T : Tab s t n rs ws) (k : ∀ s', Kp [] s s' → Q (.tup ((PCS n rs ws).map tn)) s') : W (m__law_map_pieces [CH n rs ws, .ref t] s) Q := by
  have hn := V.hn
  unfold m__law_map_pieces b__law_map_pieces
  refine d_runn (by rfl) ?_
  simp only [w_calln, w_call, w_cons, w_nil, w_tup, w_lst, w_op, w_un, w_c, w_var0, w_varS, w_and, w_or, w_not, w_iteE, w_lmeth, t_val, t_tru, t_and, t_or, t_not, t_yes, w_ch0, w_ch1, w_ch2, w_pr0, w_pr1, w_ix20, w_ix21, w_ix30, w_ix31, w_ix32, w_inT, w_eqI, w_add, w_sub, w_lt, w_le, w_gt, w_ge, w_neg, w_lenT, w_int, w_min, w_max, w_tupT, onB_bl, truth_bl, x_seq, x_skip, KR_ret, TK_ret, TK_brk, TK_cnt, g_name, g_unp, g_allS, g_all0, g_sub, lz0, lz1, lz2, lz3, lz4, lz5, lz6, lz7, lz8, List.set, wipe, List.map_cons, List.map_nil, List.cons_append, List.nil_append, List.length_cons, List.length_nil, Nat.reduceAdd, Nat.reduceSub, List.replicate_succ, List.replicate_zero, eq_self, Bool.false_eq_true, if_true, if_false]
  refine x_asg ?_
  refine lc_pure (List.range n) nv (fun a => !decide (a ∈ ws)) (fun a => tn (PC n rs ws a)) (i_range ?_)
  simp only [w_calln, w_call, w_cons, w_nil, w_tup, w_lst, w_op, w_un, w_c, w_var0, w_varS, w_and, w_or, w_not, w_iteE, w_lmeth, t_val, t_tru, t_and, t_or, t_not, t_yes, w_ch0, w_ch1, w_ch2, w_pr0, w_pr1, w_ix20, w_ix21, w_ix30, w_ix31, w_ix32, w_inT, w_eqI, w_add, w_sub, w_lt, w_le, w_gt, w_ge, w_neg, w_lenT, w_int, w_min, w_max, w_tupT, onB_bl, truth_bl, x_seq, x_skip, KR_ret, TK_ret, TK_brk, TK_cnt, g_name, g_unp, g_allS, g_all0, g_sub, lz0, lz1, lz2, lz3, lz4, lz5, lz6, lz7, lz8, List.set, wipe, List.map_cons, List.map_nil, List.cons_append, List.nil_append, List.length_cons, List.length_nil, Nat.reduceAdd, Nat.reduceSub, List.replicate_succ, List.replicate_zero, eq_self, Bool.false_eq_true, if_true, if_false]
  refine .mk n rfl (by omega) ?_
  refine .mk (by unfold lineZ; simp; omega) (Or.inl rfl) ?_ ?_
  · intro a ha s' hk
    have ha := List.mem_range.mp ha
    simp only [w_calln, w_call, w_cons, w_nil, w_tup, w_lst, w_op, w_un, w_c, w_var0, w_varS, w_and, w_or, w_not, w_iteE, w_lmeth, t_val, t_tru, t_and, t_or, t_not, t_yes, w_ch0, w_ch1, w_ch2, w_pr0, w_pr1, w_ix20, w_ix21, w_ix30, w_ix31, w_ix32, w_inT, w_eqI, w_add, w_sub, w_lt, w_le, w_gt, w_ge, w_neg, w_lenT, w_int, w_min, w_max, w_tupT, onB_bl, truth_bl, x_seq, x_skip, KR_ret, TK_ret, TK_brk, TK_cnt, g_name, g_unp, g_allS, g_all0, g_sub, lz0, lz1, lz2, lz3, lz4, lz5, lz6, lz7, lz8, List.set, wipe, List.map_cons, List.map_nil, List.cons_append, List.nil_append, List.length_cons, List.length_nil, Nat.reduceAdd, Nat.reduceSub, List.replicate_succ, List.replicate_zero, eq_self, Bool.false_eq_true, if_true, if_false]
    refine ⟨by simp, Kp.refl _, fun _ => ?_⟩
    exact law_piece_w V (Tab.keep (L := []) T hk) ha fun s2 k2 => ⟨rfl, k2⟩
  intro s1 k1 h1
  have e1 : ((List.range n).filter fun a => !decide (a ∈ ws)).map (fun a => tn (PC n rs ws a)) = (((List.range n).filter fun a => !decide (a ∈ ws)).map (PC n rs ws)).map tn := by rw [List.map_map]; rfl
  rw [e1] at h1
  have mem : ∀ x, x ∈ ((List.range n).filter fun a => !decide (a ∈ ws)).map (PC n rs ws) ↔ x ∈ PCS n rs ws := fun x => by
    rw [mem_PCS, List.mem_map]
    constructor
    · rintro ⟨a, h, rfl⟩
      have := List.mem_filter.mp h
      exact ⟨a, List.mem_range.mp this.1, by simpa using this.2, rfl⟩
    · rintro ⟨a, h, h2, rfl⟩
      exact ⟨a, List.mem_filter.mpr ⟨List.mem_range.mpr h, by simp [h2]⟩, rfl⟩
  refine x_ret ?_
  simp only [w_calln, w_call, w_cons, w_nil, w_tup, w_lst, w_op, w_un, w_c, w_var0, w_varS, w_and, w_or, w_not, w_iteE, w_lmeth, t_val, t_tru, t_and, t_or, t_not, t_yes, w_ch0, w_ch1, w_ch2, w_pr0, w_pr1, w_ix20, w_ix21, w_ix30, w_ix31, w_ix32, w_inT, w_eqI, w_add, w_sub, w_lt, w_le, w_gt, w_ge, w_neg, w_lenT, w_int, w_min, w_max, w_tupT, onB_bl, truth_bl, x_seq, x_skip, KR_ret, TK_ret, TK_brk, TK_cnt, g_name, g_unp, g_allS, g_all0, g_sub, lz0, lz1, lz2, lz3, lz4, lz5, lz6, lz7, lz8, List.set, wipe, List.map_cons, List.map_nil, List.cons_append, List.nil_append, List.length_cons, List.length_nil, Nat.reduceAdd, Nat.reduceSub, List.replicate_succ, List.replicate_zero, eq_self, Bool.false_eq_true, if_true, if_false]
  refine sset_w lleO tn_inj lle_s h1 ?_ (fun ys hys => srt_tn ys fun y hy => ?_) fun l2 s2 ys k2 hl2 hasc hmem hlen h2 => ?_
  · rw [List.length_map]; have := List.length_filter_le (fun a => !decide (a ∈ ws)) (List.range n); rw [List.length_range] at this; omega
  · obtain ⟨a, ha, _, rfl⟩ := (mem_PCS y).mp ((mem y).mp (hys y hy))
    exact PC_ne ha
  · rw [w_tupL (seqAt_lst h2)]
    have : ys = PCS n rs ws := hasc.ext lleO asc_PCS fun x => (hmem x).trans (mem x)
    rw [this]
    exact k s2 (k1.trans k2)
/-! texts -/
theorem plz_tn {m : Nat} {xs : List Nat} (hl : xs.length ≤ 64) (h : ∀ x ∈ xs, x < 1000000) : plz (m + 1) (tn xs) = true := by
  unfold tn
  change (decide ((xs.map nv).length ≤ 64) && (xs.map nv).all (plz m)) = true
  rw [List.length_map, decide_eq_true hl, Bool.true_and, List.all_eq_true]
  intro x hx
  obtain ⟨y, hy, rfl⟩ := List.mem_map.mp hx
  have := h y hy
  have e : plz m (nv y) = decide ((y : Int).natAbs < 10 ^ 19) := by cases m <;> rfl
  rw [e]; exact decide_eq_true (by rw [Int.natAbs_natCast]; exact Nat.lt_trans this (by decide))
theorem plz_tns {xss : List (List Nat)} (hl : xss.length ≤ 64) (h : ∀ xs ∈ xss, xs.length ≤ 64 ∧ ∀ x ∈ xs, x < 1000000) : plz 3 (.tup (xss.map tn)) = true := by
  change (decide ((xss.map tn).length ≤ 64) && (xss.map tn).all (plz 2)) = true
  rw [List.length_map, decide_eq_true hl, Bool.true_and, List.all_eq_true]
  intro x hx
  obtain ⟨y, hy, rfl⟩ := List.mem_map.mp hx
  exact plz_tn (h y hy).1 (h y hy).2
theorem len_PCS : (PCS n rs ws).length ≤ n := by
  unfold PCS
  rw [List.length_map]
  have := List.length_filter_le (isHd n rs ws) (List.range n)
  rwa [List.length_range] at this
theorem repr_PCS (hn : n ≤ 60) : W (Mi.B.repr_ [.tup ((PCS n rs ws).map tn)] s) Q = Q (.str (dat 3 (.tup ((PCS n rs ws).map tn))).shown) s := by
  refine w_repr _ (plz_tns (by have := len_PCS (n := n) (rs := rs) (ws := ws); omega) fun xs hxs => ?_)
  obtain ⟨a, ha, _, rfl⟩ := (mem_PCS xs).mp hxs
  exact ⟨by have := sub_PC (n := n) (rs := rs) (ws := ws) a; omega, fun x hx => by have := lt_PC ha hx; omega⟩
theorem repr_tn {xs : List Nat} (hl : xs.length ≤ 64) (h : ∀ x ∈ xs, x < 1000000) : W (Mi.B.repr_ [tn xs] s) Q = Q (.str (dat 3 (tn xs)).shown) s := w_repr _ (plz_tn hl h)
theorem repr_tns {xss : List (List Nat)} (hl : xss.length ≤ 64) (h : ∀ xs ∈ xss, xs.length ≤ 64 ∧ ∀ x ∈ xs, x < 1000000) : W (Mi.B.repr_ [.tup (xss.map tn)] s) Q = Q (.str (dat 3 (.tup (xss.map tn))).shown) s := w_repr _ (plz_tns hl h)
theorem eq_shown {x : AV} (neg : Bool) (h : pln 3 x = true) : W (eqAV neg (.str (dat 3 x).shown) (.str (dat 3 x).shown) s) Q = Q (.bl (neg != true)) s := w_eqS neg _ (dat_ok 3 x h)
theorem pln_tn {m : Nat} (xs : List Nat) : pln (m + 1) (tn xs) = true := by
  unfold tn
  change (xs.map nv).all (pln m) = true
  rw [List.all_eq_true]
  intro x hx
  obtain ⟨y, hy, rfl⟩ := List.mem_map.mp hx
  cases m <;> rfl
theorem pln_tns (xss : List (List Nat)) : pln 3 (.tup (xss.map tn)) = true := by
  change (xss.map tn).all (pln 2) = true
  rw [List.all_eq_true]
  intro x hx
  obtain ⟨y, hy, rfl⟩ := List.mem_map.mp hx
  exact pln_tn y
end
end Sp
namespace Sp
open PySem Mi Mr
section
variable {n : Nat} {rs : List (Nat × Nat)} {ws : List Nat} {Q : AV → Sto → Prop} {s : Sto}
/-- the law's table, at new places -/
def TabL (lo : Nat) (s : Sto) (t n : Nat) (rs : List (Nat × Nat)) (ws : List Nat) : Prop := lo ≤ t ∧ ∃ ls : List Nat, ls.length = n ∧ s[t]? = some (.lst (ls.map .ref)) ∧
  ∀ k, k < n → ∃ (f : Nat) (ys : List Nat), ls[k]? = some f ∧ lo ≤ f ∧ s[f]? = some (.lst (ys.map nv)) ∧ ∀ x, x ∈ ys ↔ Met rs ws k x
theorem TabL.keep {lo : Nat} {L : List Nat} {s s' : Sto} {t : Nat} (h : TabL lo s t n rs ws) (k : Kp L s s') (hL : ∀ l ∈ L, l < lo) : TabL lo s' t n rs ws := by
  obtain ⟨h0, ls, h1, h2, h3⟩ := h
  have nm : ∀ l, lo ≤ l → l ∉ L := fun l hl hm => by have := hL l hm; omega
  refine ⟨h0, ls, h1, k.2 _ _ (nm _ h0) h2, fun i hi => ?_⟩
  obtain ⟨f, ys, a, b, c, d⟩ := h3 i hi
  exact ⟨f, ys, a, b, k.2 _ _ (nm _ b) c, d⟩
theorem TabL.tab {lo : Nat} {s : Sto} {t : Nat} (h : TabL lo s t n rs ws) : Tab s t n rs ws := by
  obtain ⟨h0, ls, h1, h2, h3⟩ := h
  refine ⟨ls, h1, h2, fun i hi => ?_⟩
  obtain ⟨f, ys, a, b, c, d⟩ := h3 i hi
  exact ⟨f, ys, a, c, d⟩
theorem repr_PC {a : Nat} (hn : n ≤ 60) (ha : a < n) : W (Mi.B.repr_ [tn (PC n rs ws a)] s) Q = Q (.str (dat 3 (tn (PC n rs ws a))).shown) s :=
  repr_tn (by have := sub_PC (n := n) (rs := rs) (ws := ws) a; omega) fun x hx => by have := lt_PC ha hx; omega
theorem parted_w {p q : Nat} (P : Pool s p q) (V : VM n rs ws) (hrl : rs.length < 64) (k : ∀ s', Pool s' p q → Kp [p, q] s s' → Q (.bl true) s') : W (m__law_parted [.ref p, CH n rs ws] s) Q := by
  have hn := V.hn
  have hpl := P.lt
  have hL : ∀ l ∈ [p, q], l < s.length := by simp; omega
  unfold m__law_parted b__law_parted
  refine d_runn (by rfl) ?_
  simp only [w_calln, w_call, w_cons, w_nil, w_tup, w_lst, w_op, w_un, w_c, w_var0, w_varS, w_and, w_or, w_not, w_iteE, w_lmeth, t_val, t_tru, t_and, t_or, t_not, t_yes, w_ch0, w_ch1, w_ch2, w_pr0, w_pr1, w_ix20, w_ix21, w_ix30, w_ix31, w_ix32, w_inT, w_eqI, w_add, w_sub, w_lt, w_le, w_gt, w_ge, w_neg, w_lenT, w_int, w_min, w_max, w_tupT, onB_bl, truth_bl, x_seq, x_skip, KR_ret, TK_ret, TK_brk, TK_cnt, g_name, g_unp, g_allS, g_all0, g_sub, lz0, lz1, lz2, lz3, lz4, lz5, lz6, lz7, lz8, List.set, wipe, List.map_cons, List.map_nil, List.cons_append, List.nil_append, List.length_cons, List.length_nil, Nat.reduceAdd, Nat.reduceSub, List.replicate_succ, List.replicate_zero, eq_self, Bool.false_eq_true, if_true, if_false]
  refine x_asg ?_
  simp only [w_calln, w_call, w_cons, w_nil, w_tup, w_lst, w_op, w_un, w_c, w_var0, w_varS, w_and, w_or, w_not, w_iteE, w_lmeth, t_val, t_tru, t_and, t_or, t_not, t_yes, w_ch0, w_ch1, w_ch2, w_pr0, w_pr1, w_ix20, w_ix21, w_ix30, w_ix31, w_ix32, w_inT, w_eqI, w_add, w_sub, w_lt, w_le, w_gt, w_ge, w_neg, w_lenT, w_int, w_min, w_max, w_tupT, onB_bl, truth_bl, x_seq, x_skip, KR_ret, TK_ret, TK_brk, TK_cnt, g_name, g_unp, g_allS, g_all0, g_sub, lz0, lz1, lz2, lz3, lz4, lz5, lz6, lz7, lz8, List.set, wipe, List.map_cons, List.map_nil, List.cons_append, List.nil_append, List.length_cons, List.length_nil, Nat.reduceAdd, Nat.reduceSub, List.replicate_succ, List.replicate_zero, eq_self, Bool.false_eq_true, if_true, if_false]
  refine law_table_w V hrl fun t s1 k1 ht hT => ?_
  have Tb : TabL s.length s1 t n rs ws := ⟨ht, hT⟩
  refine x_ife ?_
  simp only [w_calln, w_call, w_cons, w_nil, w_tup, w_lst, w_op, w_un, w_c, w_var0, w_varS, w_and, w_or, w_not, w_iteE, w_lmeth, t_val, t_tru, t_and, t_or, t_not, t_yes, w_ch0, w_ch1, w_ch2, w_pr0, w_pr1, w_ix20, w_ix21, w_ix30, w_ix31, w_ix32, w_inT, w_eqI, w_add, w_sub, w_lt, w_le, w_gt, w_ge, w_neg, w_lenT, w_int, w_min, w_max, w_tupT, onB_bl, truth_bl, x_seq, x_skip, KR_ret, TK_ret, TK_brk, TK_cnt, g_name, g_unp, g_allS, g_all0, g_sub, lz0, lz1, lz2, lz3, lz4, lz5, lz6, lz7, lz8, List.set, wipe, List.map_cons, List.map_nil, List.cons_append, List.nil_append, List.length_cons, List.length_nil, Nat.reduceAdd, Nat.reduceSub, List.replicate_succ, List.replicate_zero, eq_self, Bool.false_eq_true, if_true, if_false]
  refine pieces_w V fun s2 k2 => ?_
  rw [repr_PCS hn]
  refine law_pieces_w V ((Tb.keep (L := []) k2 (by simp)).tab) fun s3 k3 => ?_
  rw [repr_PCS hn, eq_shown true (pln_tns _), onB_bl, if_neg (by simp)]
  have k03 : Kp [] s s3 := (k1.trans k2).trans k3
  have T3 : TabL s.length s3 t n rs ws := Tb.keep (L := []) (k2.trans k3) (by simp)
  refine for_r ?_
  simp only [w_calln, w_call, w_cons, w_nil, w_tup, w_lst, w_op, w_un, w_c, w_var0, w_varS, w_and, w_or, w_not, w_iteE, w_lmeth, t_val, t_tru, t_and, t_or, t_not, t_yes, w_ch0, w_ch1, w_ch2, w_pr0, w_pr1, w_ix20, w_ix21, w_ix30, w_ix31, w_ix32, w_inT, w_eqI, w_add, w_sub, w_lt, w_le, w_gt, w_ge, w_neg, w_lenT, w_int, w_min, w_max, w_tupT, onB_bl, truth_bl, x_seq, x_skip, KR_ret, TK_ret, TK_brk, TK_cnt, g_name, g_unp, g_allS, g_all0, g_sub, lz0, lz1, lz2, lz3, lz4, lz5, lz6, lz7, lz8, List.set, wipe, List.map_cons, List.map_nil, List.cons_append, List.nil_append, List.length_cons, List.length_nil, Nat.reduceAdd, Nat.reduceSub, List.replicate_succ, List.replicate_zero, eq_self, Bool.false_eq_true, if_true, if_false]
  have st : ∀ c : Nat, c < 1000 → (0 < c → 0 < n) → ForR (G.name 3) (S.seq (S.asg (G.name 4) (E.calln m__law_draw (E.cons (E.var 0) (E.cons (E.op ixAV (E.var 1) (E.c (.int 0))) (E.nil))))) (S.ife (T.val (E.op (eqAV true) (E.call Mi.B.repr_ (E.cons (E.calln m_piece (E.cons (E.var 1) (E.cons (E.var 4) (E.nil)))) (E.nil))) (E.call Mi.B.repr_ (E.cons (E.calln m__law_map_piece (E.cons (E.var 1) (E.cons (E.var 2) (E.cons (E.var 4) (E.nil))))) (E.nil))))) (S.ret (E.c (.bl false))) (S.skip)))
      (fun e s => X (S.ret (E.c (AV.bl true)) e s) (fun x s => Q AV.non s) (KR Q)) (KR Q) [some (.ref p), some (CH n rs ws), some (.ref t), none, none] [nv c] s3 := by
    intro c hc h0
    refine .mk c (fun _ en s' => (∃ o3 o4 : Option AV, en = [some (.ref p), some (CH n rs ws), some (.ref t), o3, o4]) ∧ Pool s' p q ∧ Kp [p, q] s s' ∧ TabL s.length s' t n rs ws) rfl (by omega) ⟨⟨_, _, rfl⟩, P.keep k03, k03.nil, T3⟩ ?_ ?_
    · rintro j en s4 hj ⟨⟨o3, o4, rfl⟩, P4, k4, T4⟩
      have hn0 := h0 (by omega)
      simp only [w_calln, w_call, w_cons, w_nil, w_tup, w_lst, w_op, w_un, w_c, w_var0, w_varS, w_and, w_or, w_not, w_iteE, w_lmeth, t_val, t_tru, t_and, t_or, t_not, t_yes, w_ch0, w_ch1, w_ch2, w_pr0, w_pr1, w_ix20, w_ix21, w_ix30, w_ix31, w_ix32, w_inT, w_eqI, w_add, w_sub, w_lt, w_le, w_gt, w_ge, w_neg, w_lenT, w_int, w_min, w_max, w_tupT, onB_bl, truth_bl, x_seq, x_skip, KR_ret, TK_ret, TK_brk, TK_cnt, g_name, g_unp, g_allS, g_all0, g_sub, lz0, lz1, lz2, lz3, lz4, lz5, lz6, lz7, lz8, List.set, wipe, List.map_cons, List.map_nil, List.cons_append, List.nil_append, List.length_cons, List.length_nil, Nat.reduceAdd, Nat.reduceSub, List.replicate_succ, List.replicate_zero, eq_self, Bool.false_eq_true, if_true, if_false]
      refine x_asg ?_
      simp only [w_calln, w_call, w_cons, w_nil, w_tup, w_lst, w_op, w_un, w_c, w_var0, w_varS, w_and, w_or, w_not, w_iteE, w_lmeth, t_val, t_tru, t_and, t_or, t_not, t_yes, w_ch0, w_ch1, w_ch2, w_pr0, w_pr1, w_ix20, w_ix21, w_ix30, w_ix31, w_ix32, w_inT, w_eqI, w_add, w_sub, w_lt, w_le, w_gt, w_ge, w_neg, w_lenT, w_int, w_min, w_max, w_tupT, onB_bl, truth_bl, x_seq, x_skip, KR_ret, TK_ret, TK_brk, TK_cnt, g_name, g_unp, g_allS, g_all0, g_sub, lz0, lz1, lz2, lz3, lz4, lz5, lz6, lz7, lz8, List.set, wipe, List.map_cons, List.map_nil, List.cons_append, List.nil_append, List.length_cons, List.length_nil, Nat.reduceAdd, Nat.reduceSub, List.replicate_succ, List.replicate_zero, eq_self, Bool.false_eq_true, if_true, if_false]
      refine draw_w P4 (by omega) (by omega) fun a s5 ha P5 k5 => ?_
      have ha : a < n := by omega
      refine x_ife ?_
      simp only [w_calln, w_call, w_cons, w_nil, w_tup, w_lst, w_op, w_un, w_c, w_var0, w_varS, w_and, w_or, w_not, w_iteE, w_lmeth, t_val, t_tru, t_and, t_or, t_not, t_yes, w_ch0, w_ch1, w_ch2, w_pr0, w_pr1, w_ix20, w_ix21, w_ix30, w_ix31, w_ix32, w_inT, w_eqI, w_add, w_sub, w_lt, w_le, w_gt, w_ge, w_neg, w_lenT, w_int, w_min, w_max, w_tupT, onB_bl, truth_bl, x_seq, x_skip, KR_ret, TK_ret, TK_brk, TK_cnt, g_name, g_unp, g_allS, g_all0, g_sub, lz0, lz1, lz2, lz3, lz4, lz5, lz6, lz7, lz8, List.set, wipe, List.map_cons, List.map_nil, List.cons_append, List.nil_append, List.length_cons, List.length_nil, Nat.reduceAdd, Nat.reduceSub, List.replicate_succ, List.replicate_zero, eq_self, Bool.false_eq_true, if_true, if_false]
      refine piece_w V ha fun s6 k6 => ?_
      rw [repr_PC hn ha]
      have T6 := (T4.keep k5 hL).keep (L := []) k6 (by simp)
      refine law_piece_w V T6.tab ha fun s7 k7 => ?_
      rw [repr_PC hn ha, eq_shown true (pln_tn _), onB_bl, if_neg (by simp)]
      exact ⟨⟨_, _, rfl⟩, (P5.keep k6).keep k7, ((k4.trans k5).trans k6.nil).trans k7.nil, T6.keep (L := []) k7 (by simp)⟩
    · rintro en s4 ⟨⟨o3, o4, rfl⟩, P4, k4, T4⟩
      refine x_ret ?_
      simp only [w_calln, w_call, w_cons, w_nil, w_tup, w_lst, w_op, w_un, w_c, w_var0, w_varS, w_and, w_or, w_not, w_iteE, w_lmeth, t_val, t_tru, t_and, t_or, t_not, t_yes, w_ch0, w_ch1, w_ch2, w_pr0, w_pr1, w_ix20, w_ix21, w_ix30, w_ix31, w_ix32, w_inT, w_eqI, w_add, w_sub, w_lt, w_le, w_gt, w_ge, w_neg, w_lenT, w_int, w_min, w_max, w_tupT, onB_bl, truth_bl, x_seq, x_skip, KR_ret, TK_ret, TK_brk, TK_cnt, g_name, g_unp, g_allS, g_all0, g_sub, lz0, lz1, lz2, lz3, lz4, lz5, lz6, lz7, lz8, List.set, wipe, List.map_cons, List.map_nil, List.cons_append, List.nil_append, List.length_cons, List.length_nil, Nat.reduceAdd, Nat.reduceSub, List.replicate_succ, List.replicate_zero, eq_self, Bool.false_eq_true, if_true, if_false]
      exact k s4 P4 k4
  by_cases hn0 : 0 < n
  · rw [if_pos (by simp; omega)]
    exact st 3 (by omega) (fun _ => hn0)
  · rw [if_neg (by simp; omega)]
    exact st 0 (by omega) (fun h => absurd h (Nat.lt_irrefl 0))
end
end Sp
namespace Sp
open PySem Mi Mr
section
variable {Q : AV → Sto → Prop} {s : Sto}
/-- a planted map, ahead of its names -/
structure Pl (ring ways n : Nat) (rs : List (Nat × Nat)) : Prop where
  steps : ∀ a, a < ring → (a, (a + 1) % ring) ∈ rs
  only : ∀ r ∈ rs, (r.1 < ring ∧ r.2 = (r.1 + 1) % ring) ∨ (r.1 < ring ∧ ring ≤ r.2 ∧ r.2 < ring + ways) ∨ (ring ≤ r.1 ∧ r.1 < ring + ways ∧ ring + ways ≤ r.2 ∧ r.2 < n)
/-- what is being planted -/
structure PS (s' : Sto) (lo gr gl base k c : Nat) (rs : List (Nat × Nat)) (ls : List Nat) (tt : List (List Nat)) : Prop where
  hr : s'[gr]? = some (.lst (rs.map pr))
  hl : s'[gl]? = some (.lst (ls.map .ref))
  ne : gr ≠ gl
  l1 : lo ≤ gr
  l2 : lo ≤ gl
  ll : ls.length = k
  lt : tt.length = k
  nd : ls.Nodup
  it : ∀ (i q : Nat), ls[i]? = some q → lo ≤ q ∧ q ≠ gr ∧ q ≠ gl ∧ ∃ t : List Nat, tt[i]? = some t ∧ s'[q]? = some (.lst (t.map nv))
  fl : tt.flatten = List.range' base c
theorem PS.keep {L : List Nat} {s' s'' : Sto} {lo gr gl base k c : Nat} {rs : List (Nat × Nat)} {ls : List Nat} {tt : List (List Nat)} (h : PS s' lo gr gl base k c rs ls tt) (kp : Kp L s' s'') (hL : ∀ l ∈ L, l < lo) : PS s'' lo gr gl base k c rs ls tt := by
  have nm : ∀ l, lo ≤ l → l ∉ L := fun l hl hm => by have := hL l hm; omega
  refine ⟨kp.2 _ _ (nm _ h.l1) h.hr, kp.2 _ _ (nm _ h.l2) h.hl, h.ne, h.l1, h.l2, h.ll, h.lt, h.nd, fun i q hi => ?_, h.fl⟩
  obtain ⟨a, b, c, t, d, e⟩ := h.it i q hi
  exact ⟨a, b, c, t, d, kp.2 _ _ (nm _ a) e⟩
theorem PS.road {s' : Sto} {lo gr gl base k c : Nat} {rs : List (Nat × Nat)} {ls : List Nat} {tt : List (List Nat)} (h : PS s' lo gr gl base k c rs ls tt) (r : Nat × Nat) : PS (s'.set gr (.lst (rs.map pr ++ [pr r]))) lo gr gl base k c (rs ++ [r]) ls tt := by
  refine ⟨?_, ?_, h.ne, h.l1, h.l2, h.ll, h.lt, h.nd, fun i q hi => ?_, h.fl⟩
  · rw [List.getElem?_set_self (lt_of_get h.hr)]; simp
  · rw [List.getElem?_set_ne h.ne]; exact h.hl
  · obtain ⟨a, b, c, t, d, e⟩ := h.it i q hi
    exact ⟨a, b, c, t, d, by rw [List.getElem?_set_ne (fun e => b e.symm)]; exact e⟩
theorem PS.lot {s' : Sto} {lo gr gl base k c : Nat} {rs : List (Nat × Nat)} {ls : List Nat} {tt : List (List Nat)} (h : PS s' lo gr gl base k c rs ls tt) : PS ((s' ++ [MO.lst []]).set gl (MO.lst (ls.map AV.ref ++ [AV.ref s'.length]))) lo gr gl base (k + 1) c rs (ls ++ [s'.length]) (tt ++ [[]]) := by
  have g1 := lt_of_get h.hr
  have g2 := lt_of_get h.hl
  have kp : Kp [] s' (s' ++ [MO.lst []]) := Kp.app _ (Kp.refl _)
  refine ⟨?_, ?_, h.ne, h.l1, h.l2, by simp [h.ll], by simp [h.lt], ?_, fun i q hi => ?_, by rw [List.flatten_append]; simp [h.fl]⟩
  · rw [List.getElem?_set_ne (fun e => h.ne e.symm)]; exact kp.2 _ _ (by simp) h.hr
  · rw [List.getElem?_set_self (by simp; omega)]; simp
  · rw [List.nodup_append]
    refine ⟨h.nd, by simp, fun a ha b hb => ?_⟩
    rw [List.mem_singleton.mp hb]
    obtain ⟨i, hi, e⟩ := List.mem_iff_getElem.mp ha
    obtain ⟨_, _, _, t, _, e'⟩ := h.it i a (by rw [List.getElem?_eq_getElem hi, e])
    have := lt_of_get e'; omega
  · rcases Nat.lt_or_ge i k with g | g
    · rw [List.getElem?_append_left (by rw [h.ll]; exact g)] at hi
      obtain ⟨a, b, c, t, d, e⟩ := h.it i q hi
      refine ⟨a, b, c, t, ?_, ?_⟩
      · rw [List.getElem?_append_left (by rw [h.lt]; exact g)]; exact d
      · rw [List.getElem?_set_ne (fun e => c e.symm)]; exact kp.2 _ _ (by simp) e
    · rw [List.getElem?_append_right (by rw [h.ll]; exact g), h.ll] at hi
      have hi0 : i = k := by
        rcases Nat.lt_or_ge k i with g' | g'
        · rw [List.getElem?_eq_none (by simp; omega)] at hi; exact nomatch hi
        · omega
      subst hi0
      rw [Nat.sub_self] at hi
      cases hi
      refine ⟨by have := h.l1; omega, by omega, by omega, [], ?_, ?_⟩
      · rw [List.getElem?_append_right (by rw [h.lt]; exact Nat.le_refl _), h.lt, Nat.sub_self]; rfl
      · rw [List.getElem?_set_ne (by omega)]; simp
theorem PS.add {s' : Sto} {lo gr gl base k c qk : Nat} {rs : List (Nat × Nat)} {ls : List Nat} {tt : List (List Nat)} {x : List Nat} (h : PS s' lo gr gl base (k + 1) c rs (ls ++ [qk]) (tt ++ [x])) :
    s'[qk]? = some (.lst (x.map nv)) ∧ lo ≤ qk ∧ PS (s'.set qk (.lst (x.map nv ++ [nv (base + c)]))) lo gr gl base (k + 1) (c + 1) rs (ls ++ [qk]) (tt ++ [x ++ [base + c]]) := by
  have hll : ls.length = k := by have := h.ll; simpa using this
  have hlt : tt.length = k := by have := h.lt; simpa using this
  have last : (ls ++ [qk])[k]? = some qk := by rw [List.getElem?_append_right (by omega), hll, Nat.sub_self]; rfl
  obtain ⟨a, b, d, t, e, g⟩ := h.it k qk last
  have ht : t = x := by
    rw [List.getElem?_append_right (by omega), hlt, Nat.sub_self] at e
    exact (Option.some.inj e).symm
  subst ht
  refine ⟨g, a, ?_, ?_, h.ne, h.l1, h.l2, h.ll, by simp [hlt], h.nd, fun i q hi => ?_, ?_⟩
  · rw [List.getElem?_set_ne b]; exact h.hr
  · rw [List.getElem?_set_ne d]; exact h.hl
  · obtain ⟨a', b', d', t', e', g'⟩ := h.it i q hi
    rcases Nat.lt_or_ge i k with gi | gi
    · rw [List.getElem?_append_left (by omega)] at e'
      refine ⟨a', b', d', t', by rw [List.getElem?_append_left (by omega)]; exact e', ?_⟩
      have hne : qk ≠ q := by
        rintro rfl
        have h1 : i < (ls ++ [qk]).length := by rw [List.length_append]; simp; omega
        have h2 : k < (ls ++ [qk]).length := by rw [List.length_append]; simp; omega
        have c1 : (ls ++ [qk])[i] = qk := by rw [List.getElem?_eq_getElem h1] at hi; exact Option.some.inj hi
        have c2 : (ls ++ [qk])[k] = qk := by rw [List.getElem?_eq_getElem h2] at last; exact Option.some.inj last
        have := nodup_inj h.nd h1 h2 (c1.trans c2.symm); omega
      rw [List.getElem?_set_ne hne]; exact g'
    · have hi0 : i = k := by
        rcases Nat.lt_or_ge k i with g' | g'
        · rw [List.getElem?_eq_none (by rw [List.length_append]; simp; omega)] at hi; exact nomatch hi
        · omega
      subst hi0
      rw [last] at hi; cases hi
      refine ⟨a, b, d, t ++ [base + c], ?_, ?_⟩
      · rw [List.getElem?_append_right (by omega), hlt, Nat.sub_self]; rfl
      · rw [List.getElem?_set_self (lt_of_get g)]; simp
  · have := h.fl
    rw [List.flatten_append] at this ⊢
    simp at this ⊢
    rw [← List.append_assoc, this, List.range'_concat]; simp
end
end Sp
namespace Sp
open PySem Mi Mr
section
variable {Q : AV → Sto → Prop} {s : Sto}
theorem nv_add (a b : Nat) : AV.int ((a : Int) + (b : Int)) = nv (a + b) := by unfold nv; rw [Int.natCast_add]
theorem nv_add1 (a : Nat) : AV.int ((a : Int) + 1) = nv (a + 1) := nv_add a 1
theorem nv_1add (a : Nat) : AV.int (1 + (a : Int)) = nv (1 + a) := nv_add 1 a
/-- roads planted so far -/
structure RF (ring ways k c : Nat) (rs : List (Nat × Nat)) : Prop where
  len : rs.length = ring + k + c
  steps : ∀ a, a < ring → (a, (a + 1) % ring) ∈ rs
  only : ∀ r ∈ rs, (r.1 < ring ∧ r.2 = (r.1 + 1) % ring) ∨ (r.1 < ring ∧ ring ≤ r.2 ∧ r.2 < ring + ways) ∨ (ring ≤ r.1 ∧ r.1 < ring + ways ∧ ring + ways ≤ r.2 ∧ r.2 < ring + ways + c)
theorem planted_w {p q ring ways behind : Nat} (P : Pool s p q) (h1 : 1 ≤ ring) (hb : 1 ≤ behind) (hsum : ring + ways + ways * behind ≤ 60)
    (k : ∀ (l f1 f2 : Nat) (s' : Sto) (n : Nat) (rs0 : List (Nat × Nat)) (nm : List Nat) (rs : List (Nat × Nat)) (ws : List Nat) (told : AV), Pl ring ways n rs0 → ring + ways ≤ n → n ≤ 60 → Nm n nm → VM n rs ws → rs.length < 64 →
      (∀ x y, (x, y) ∈ rs ↔ ∃ r ∈ rs0, x = nmf nm r.1 ∧ y = nmf nm r.2) → (∀ x, x ∈ ws ↔ ∃ t, ring + ways ≤ t ∧ t < n ∧ x = nmf nm t) → Pool s' p q → Kp [p, q] s s' → s.length ≤ l → s.length ≤ f1 → s.length ≤ f2 →
      s'[l]? = some (.lst [CH n rs ws, .ref f1, .ref f2, told]) → s'[f1]? = some (.lst ((((List.range ring).map (nmf nm)).mergeSort nle).map nv)) → s'[f2]? = some (.lst (((List.range ways).map fun w => nmf nm (ring + w)).map nv)) → Q (.ref l) s') :
    W (m__law_map_planted [.ref p, nv ring, nv ways, nv behind] s) Q := by
  have hpl := P.lt
  have hL : ∀ l ∈ [p, q], l < s.length := by simp; omega
  have hwb : ways ≤ ways * behind := Nat.le_mul_of_pos_right _ hb
  unfold m__law_map_planted b__law_map_planted
  refine d_runn (by rfl) ?_
  simp only [w_calln, w_call, w_cons, w_nil, w_tup, w_lst, w_op, w_un, w_c, w_var0, w_varS, w_and, w_or, w_not, w_iteE, w_lmeth, t_val, t_tru, t_and, t_or, t_not, t_yes, w_ch0, w_ch1, w_ch2, w_pr0, w_pr1, w_ix20, w_ix21, w_ix30, w_ix31, w_ix32, w_inT, w_eqI, w_add, w_sub, w_lt, w_le, w_gt, w_ge, w_neg, w_lenT, w_int, w_min, w_max, w_tupT, onB_bl, truth_bl, x_seq, x_skip, KR_ret, TK_ret, TK_brk, TK_cnt, g_name, g_unp, g_allS, g_all0, g_sub, lz0, lz1, lz2, lz3, lz4, lz5, lz6, lz7, lz8, List.set, wipe, List.map_cons, List.map_nil, List.cons_append, List.nil_append, List.length_cons, List.length_nil, Nat.reduceAdd, Nat.reduceSub, List.replicate_succ, List.replicate_zero, eq_self, Bool.false_eq_true, if_true, if_false]
  refine x_asg ?_
  simp only [w_calln, w_call, w_cons, w_nil, w_tup, w_lst, w_op, w_un, w_c, w_var0, w_varS, w_and, w_or, w_not, w_iteE, w_lmeth, t_val, t_tru, t_and, t_or, t_not, t_yes, w_ch0, w_ch1, w_ch2, w_pr0, w_pr1, w_ix20, w_ix21, w_ix30, w_ix31, w_ix32, w_inT, w_eqI, w_add, w_sub, w_lt, w_le, w_gt, w_ge, w_neg, w_lenT, w_int, w_min, w_max, w_tupT, onB_bl, truth_bl, x_seq, x_skip, KR_ret, TK_ret, TK_brk, TK_cnt, g_name, g_unp, g_allS, g_all0, g_sub, lz0, lz1, lz2, lz3, lz4, lz5, lz6, lz7, lz8, List.set, wipe, List.map_cons, List.map_nil, List.cons_append, List.nil_append, List.length_cons, List.length_nil, Nat.reduceAdd, Nat.reduceSub, List.replicate_succ, List.replicate_zero, eq_self, Bool.false_eq_true, if_true, if_false, nv_add]
  refine lc_pure (List.range ring) nv (fun _ => true) (fun a => pr (a, (a + 1) % ring)) (i_range ?_)
  simp only [w_calln, w_call, w_cons, w_nil, w_tup, w_lst, w_op, w_un, w_c, w_var0, w_varS, w_and, w_or, w_not, w_iteE, w_lmeth, t_val, t_tru, t_and, t_or, t_not, t_yes, w_ch0, w_ch1, w_ch2, w_pr0, w_pr1, w_ix20, w_ix21, w_ix30, w_ix31, w_ix32, w_inT, w_eqI, w_add, w_sub, w_lt, w_le, w_gt, w_ge, w_neg, w_lenT, w_int, w_min, w_max, w_tupT, onB_bl, truth_bl, x_seq, x_skip, KR_ret, TK_ret, TK_brk, TK_cnt, g_name, g_unp, g_allS, g_all0, g_sub, lz0, lz1, lz2, lz3, lz4, lz5, lz6, lz7, lz8, List.set, wipe, List.map_cons, List.map_nil, List.cons_append, List.nil_append, List.length_cons, List.length_nil, Nat.reduceAdd, Nat.reduceSub, List.replicate_succ, List.replicate_zero, eq_self, Bool.false_eq_true, if_true, if_false]
  refine .mk ring rfl (by omega) ?_
  refine .mk (by unfold lineZ; simp; omega) (Or.inl rfl) ?_ ?_
  · intro a ha s' hk
    simp only [w_calln, w_call, w_cons, w_nil, w_tup, w_lst, w_op, w_un, w_c, w_var0, w_varS, w_and, w_or, w_not, w_iteE, w_lmeth, t_val, t_tru, t_and, t_or, t_not, t_yes, w_ch0, w_ch1, w_ch2, w_pr0, w_pr1, w_ix20, w_ix21, w_ix30, w_ix31, w_ix32, w_inT, w_eqI, w_add, w_sub, w_lt, w_le, w_gt, w_ge, w_neg, w_lenT, w_int, w_min, w_max, w_tupT, onB_bl, truth_bl, x_seq, x_skip, KR_ret, TK_ret, TK_brk, TK_cnt, g_name, g_unp, g_allS, g_all0, g_sub, lz0, lz1, lz2, lz3, lz4, lz5, lz6, lz7, lz8, List.set, wipe, List.map_cons, List.map_nil, List.cons_append, List.nil_append, List.length_cons, List.length_nil, Nat.reduceAdd, Nat.reduceSub, List.replicate_succ, List.replicate_zero, eq_self, Bool.false_eq_true, if_true, if_false, w_mod]
    have e1 : ((a : Int) + 1) % (ring : Int) = (((a + 1) % ring : Nat) : Int) := by rw [Int.natCast_emod]; congr 1
    rw [if_pos (show (0 : Int) < (ring : Int) by omega), e1]
    exact ⟨trivial, Kp.refl _, fun _ => ⟨rfl, Kp.refl _⟩⟩
  intro s1 k1 hr1
  have e6 : ((List.range ring).filter fun _ => true) = List.range ring := List.filter_eq_self.mpr (fun _ _ => rfl)
  have e7 : (List.range ring).map (fun a => pr (a, (a + 1) % ring)) = ((List.range ring).map fun a => (a, (a + 1) % ring)).map pr := by rw [List.map_map]; rfl
  rw [e6, e7] at hr1
  have lr1 := lt_of_get hr1
  have S0 : PS (s1 ++ [MO.lst []]) s.length s.length s1.length (ring + ways) 0 0 ((List.range ring).map fun a => (a, (a + 1) % ring)) [] [] :=
    ⟨(Kp.app _ (Kp.refl (L := []) s1)).2 _ _ (by simp) hr1, by simp, by omega, Nat.le_refl _, k1.1, rfl, rfl, List.Pairwise.nil, fun i q h => (nomatch h), rfl⟩
  have F0 : RF ring ways 0 0 ((List.range ring).map fun a => (a, (a + 1) % ring)) := by
    refine ⟨by simp, fun a ha => List.mem_map.mpr ⟨a, List.mem_range.mpr ha, rfl⟩, fun r hr => ?_⟩
    obtain ⟨a, ha, rfl⟩ := List.mem_map.mp hr
    exact Or.inl ⟨List.mem_range.mp ha, rfl⟩
  refine X_mono (N := fun en s' => ∃ (o7 o8 : Option AV) (c : Nat) (rs : List (Nat × Nat)) (ls : List Nat) (tt : List (List Nat)), en = [some (.ref p), some (nv ring), some (nv ways), some (nv behind), some (nv (ring + ways + c)), some (.ref s.length), some (.ref s1.length), o7, o8, none, none, none, none, none, none] ∧
      Pool s' p q ∧ Kp [p, q] s s' ∧ PS s' s.length s.length s1.length (ring + ways) ways c rs ls tt ∧ RF ring ways ways c rs ∧ c ≤ ways * behind) (K := fun _ => False) ?_ ?_ (fun _ h => h.elim)
  · refine for_r ?_
    simp only [w_calln, w_call, w_cons, w_nil, w_tup, w_lst, w_op, w_un, w_c, w_var0, w_varS, w_and, w_or, w_not, w_iteE, w_lmeth, t_val, t_tru, t_and, t_or, t_not, t_yes, w_ch0, w_ch1, w_ch2, w_pr0, w_pr1, w_ix20, w_ix21, w_ix30, w_ix31, w_ix32, w_inT, w_eqI, w_add, w_sub, w_lt, w_le, w_gt, w_ge, w_neg, w_lenT, w_int, w_min, w_max, w_tupT, onB_bl, truth_bl, x_seq, x_skip, KR_ret, TK_ret, TK_brk, TK_cnt, g_name, g_unp, g_allS, g_all0, g_sub, lz0, lz1, lz2, lz3, lz4, lz5, lz6, lz7, lz8, List.set, wipe, List.map_cons, List.map_nil, List.cons_append, List.nil_append, List.length_cons, List.length_nil, Nat.reduceAdd, Nat.reduceSub, List.replicate_succ, List.replicate_zero, eq_self, Bool.false_eq_true, if_true, if_false]
    refine .mk ways (fun j en s' => ∃ (o7 o8 : Option AV) (c : Nat) (rs : List (Nat × Nat)) (ls : List Nat) (tt : List (List Nat)), en = [some (.ref p), some (nv ring), some (nv ways), some (nv behind), some (nv (ring + ways + c)), some (.ref s.length), some (.ref s1.length), o7, o8, none, none, none, none, none, none] ∧
      Pool s' p q ∧ Kp [p, q] s s' ∧ PS s' s.length s.length s1.length (ring + ways) j c rs ls tt ∧ RF ring ways j c rs ∧ c ≤ j * behind) rfl (by omega) ⟨_, _, 0, _, [], [], rfl, P.keep (k1.app _), k1.nil.app _, S0, F0, Nat.zero_le _⟩ ?_ (fun en s' h => h)
    rintro j en s2 hj ⟨o7, o8, c, rs, ls, tt, rfl, P2, k2, S2, F2, hc⟩
    have hjb : (j + 1) * behind ≤ ways * behind := Nat.mul_le_mul_right _ (by omega)
    have hjb' : (j + 1) * behind = j * behind + behind := by rw [Nat.add_mul, Nat.one_mul]
    simp only [w_calln, w_call, w_cons, w_nil, w_tup, w_lst, w_op, w_un, w_c, w_var0, w_varS, w_and, w_or, w_not, w_iteE, w_lmeth, t_val, t_tru, t_and, t_or, t_not, t_yes, w_ch0, w_ch1, w_ch2, w_pr0, w_pr1, w_ix20, w_ix21, w_ix30, w_ix31, w_ix32, w_inT, w_eqI, w_add, w_sub, w_lt, w_le, w_gt, w_ge, w_neg, w_lenT, w_int, w_min, w_max, w_tupT, onB_bl, truth_bl, x_seq, x_skip, KR_ret, TK_ret, TK_brk, TK_cnt, g_name, g_unp, g_allS, g_all0, g_sub, lz0, lz1, lz2, lz3, lz4, lz5, lz6, lz7, lz8, List.set, wipe, List.map_cons, List.map_nil, List.cons_append, List.nil_append, List.length_cons, List.length_nil, Nat.reduceAdd, Nat.reduceSub, List.replicate_succ, List.replicate_zero, eq_self, Bool.false_eq_true, if_true, if_false]
    refine x_expr ?_
    simp only [w_calln, w_call, w_cons, w_nil, w_tup, w_lst, w_op, w_un, w_c, w_var0, w_varS, w_and, w_or, w_not, w_iteE, w_lmeth, t_val, t_tru, t_and, t_or, t_not, t_yes, w_ch0, w_ch1, w_ch2, w_pr0, w_pr1, w_ix20, w_ix21, w_ix30, w_ix31, w_ix32, w_inT, w_eqI, w_add, w_sub, w_lt, w_le, w_gt, w_ge, w_neg, w_lenT, w_int, w_min, w_max, w_tupT, onB_bl, truth_bl, x_seq, x_skip, KR_ret, TK_ret, TK_brk, TK_cnt, g_name, g_unp, g_allS, g_all0, g_sub, lz0, lz1, lz2, lz3, lz4, lz5, lz6, lz7, lz8, List.set, wipe, List.map_cons, List.map_nil, List.cons_append, List.nil_append, List.length_cons, List.length_nil, Nat.reduceAdd, Nat.reduceSub, List.replicate_succ, List.replicate_zero, eq_self, Bool.false_eq_true, if_true, if_false]
    rw [if_pos (isLst_of S2.hr)]
    refine draw_w P2 (by omega) (by omega) fun r s3 hr P3 k3 => ?_
    have hr : r < ring := by omega
    have S3 := S2.keep k3 hL
    simp only [nv_add]
    rw [show AV.tup [nv r, nv (ring + j)] = pr (r, ring + j) from rfl, w_append S3.hr (by rw [List.length_map, F2.len]; unfold lineZ; omega)]
    have S4 := S3.road (r, ring + j)
    have P4 : Pool (s3.set s.length (.lst (rs.map pr ++ [pr (r, ring + j)]))) p q := P3.setN (by omega) (by omega)
    have k4 : Kp [p, q] s (s3.set s.length (.lst (rs.map pr ++ [pr (r, ring + j)]))) := (k2.trans k3).setN _ _ (Nat.le_refl _)
    generalize s3.set s.length (.lst (rs.map pr ++ [pr (r, ring + j)])) = s4 at S4 P4 k4
    refine x_expr ?_
    simp only [w_calln, w_call, w_cons, w_nil, w_tup, w_lst, w_op, w_un, w_c, w_var0, w_varS, w_and, w_or, w_not, w_iteE, w_lmeth, t_val, t_tru, t_and, t_or, t_not, t_yes, w_ch0, w_ch1, w_ch2, w_pr0, w_pr1, w_ix20, w_ix21, w_ix30, w_ix31, w_ix32, w_inT, w_eqI, w_add, w_sub, w_lt, w_le, w_gt, w_ge, w_neg, w_lenT, w_int, w_min, w_max, w_tupT, onB_bl, truth_bl, x_seq, x_skip, KR_ret, TK_ret, TK_brk, TK_cnt, g_name, g_unp, g_allS, g_all0, g_sub, lz0, lz1, lz2, lz3, lz4, lz5, lz6, lz7, lz8, List.set, wipe, List.map_cons, List.map_nil, List.cons_append, List.nil_append, List.length_cons, List.length_nil, Nat.reduceAdd, Nat.reduceSub, List.replicate_succ, List.replicate_zero, eq_self, Bool.false_eq_true, if_true, if_false]
    rw [if_pos (isLst_of S4.hl), w_append ((Kp.app _ (Kp.refl (L := []) s4)).2 _ _ (by simp) S4.hl) (by rw [List.length_map, S4.ll]; unfold lineZ; omega)]
    have S5 := S4.lot
    have P5 : Pool ((s4 ++ [MO.lst []]).set s1.length (.lst (ls.map .ref ++ [.ref s4.length]))) p q := (P4.keep (Kp.app _ (Kp.refl _))).setN (by omega) (by omega)
    have k5 : Kp [p, q] s ((s4 ++ [MO.lst []]).set s1.length (.lst (ls.map .ref ++ [.ref s4.length]))) := (k4.app _).setN _ _ k1.1
    generalize (s4 ++ [MO.lst []]).set s1.length (.lst (ls.map .ref ++ [.ref s4.length])) = s5 at S5 P5 k5
    generalize s4.length = qk at S5
    refine for_r ?_
    simp only [w_calln, w_call, w_cons, w_nil, w_tup, w_lst, w_op, w_un, w_c, w_var0, w_varS, w_and, w_or, w_not, w_iteE, w_lmeth, t_val, t_tru, t_and, t_or, t_not, t_yes, w_ch0, w_ch1, w_ch2, w_pr0, w_pr1, w_ix20, w_ix21, w_ix30, w_ix31, w_ix32, w_inT, w_eqI, w_add, w_sub, w_lt, w_le, w_gt, w_ge, w_neg, w_lenT, w_int, w_min, w_max, w_tupT, onB_bl, truth_bl, x_seq, x_skip, KR_ret, TK_ret, TK_brk, TK_cnt, g_name, g_unp, g_allS, g_all0, g_sub, lz0, lz1, lz2, lz3, lz4, lz5, lz6, lz7, lz8, List.set, wipe, List.map_cons, List.map_nil, List.cons_append, List.nil_append, List.length_cons, List.length_nil, Nat.reduceAdd, Nat.reduceSub, List.replicate_succ, List.replicate_zero, eq_self, Bool.false_eq_true, if_true, if_false]
    refine draw_w P5 (by omega) (by omega) fun d s6 hd P6 k6 => ?_
    simp only [w_calln, w_call, w_cons, w_nil, w_tup, w_lst, w_op, w_un, w_c, w_var0, w_varS, w_and, w_or, w_not, w_iteE, w_lmeth, t_val, t_tru, t_and, t_or, t_not, t_yes, w_ch0, w_ch1, w_ch2, w_pr0, w_pr1, w_ix20, w_ix21, w_ix30, w_ix31, w_ix32, w_inT, w_eqI, w_add, w_sub, w_lt, w_le, w_gt, w_ge, w_neg, w_lenT, w_int, w_min, w_max, w_tupT, onB_bl, truth_bl, x_seq, x_skip, KR_ret, TK_ret, TK_brk, TK_cnt, g_name, g_unp, g_allS, g_all0, g_sub, lz0, lz1, lz2, lz3, lz4, lz5, lz6, lz7, lz8, List.set, wipe, List.map_cons, List.map_nil, List.cons_append, List.nil_append, List.length_cons, List.length_nil, Nat.reduceAdd, Nat.reduceSub, List.replicate_succ, List.replicate_zero, eq_self, Bool.false_eq_true, if_true, if_false, nv_1add]
    have S6 := S5.keep k6 hL
    have F6 : RF ring ways (j + 1) c (rs ++ [(r, ring + j)]) := by
      refine ⟨by simp [F2.len]; omega, fun a ha => List.mem_append_left _ (F2.steps a ha), fun x hx => ?_⟩
      rcases List.mem_append.mp hx with h | h
      · exact F2.only x h
      · rw [List.mem_singleton.mp h]; exact Or.inr (Or.inl ⟨hr, by simp, by simp; omega⟩)
    refine .mk (1 + d) (fun i en s' => ∃ (o8 : Option AV) (rs : List (Nat × Nat)) (x : List Nat), en = [some (.ref p), some (nv ring), some (nv ways), some (nv behind), some (nv (ring + ways + (c + i))), some (.ref s.length), some (.ref s1.length), some (nv j), o8, none, none, none, none, none, none] ∧
      Pool s' p q ∧ Kp [p, q] s s' ∧ PS s' s.length s.length s1.length (ring + ways) (j + 1) (c + i) rs (ls ++ [qk]) (tt ++ [x]) ∧ RF ring ways (j + 1) (c + i) rs) rfl (by omega) ⟨_, _, [], rfl, P6, k5.trans k6, S6, F6⟩ ?_ ?_
    · clear P6 k6 S6 F6 P5 k5 S5 P4 k4 S4 S3 P3 k3
      rintro i en s7 hi ⟨o8, rs', x, rfl, P7, k7, S7, F7⟩
      simp only [w_calln, w_call, w_cons, w_nil, w_tup, w_lst, w_op, w_un, w_c, w_var0, w_varS, w_and, w_or, w_not, w_iteE, w_lmeth, t_val, t_tru, t_and, t_or, t_not, t_yes, w_ch0, w_ch1, w_ch2, w_pr0, w_pr1, w_ix20, w_ix21, w_ix30, w_ix31, w_ix32, w_inT, w_eqI, w_add, w_sub, w_lt, w_le, w_gt, w_ge, w_neg, w_lenT, w_int, w_min, w_max, w_tupT, onB_bl, truth_bl, x_seq, x_skip, KR_ret, TK_ret, TK_brk, TK_cnt, g_name, g_unp, g_allS, g_all0, g_sub, lz0, lz1, lz2, lz3, lz4, lz5, lz6, lz7, lz8, List.set, wipe, List.map_cons, List.map_nil, List.cons_append, List.nil_append, List.length_cons, List.length_nil, Nat.reduceAdd, Nat.reduceSub, List.replicate_succ, List.replicate_zero, eq_self, Bool.false_eq_true, if_true, if_false]
      refine x_expr ?_
      simp only [w_calln, w_call, w_cons, w_nil, w_tup, w_lst, w_op, w_un, w_c, w_var0, w_varS, w_and, w_or, w_not, w_iteE, w_lmeth, t_val, t_tru, t_and, t_or, t_not, t_yes, w_ch0, w_ch1, w_ch2, w_pr0, w_pr1, w_ix20, w_ix21, w_ix30, w_ix31, w_ix32, w_inT, w_eqI, w_add, w_sub, w_lt, w_le, w_gt, w_ge, w_neg, w_lenT, w_int, w_min, w_max, w_tupT, onB_bl, truth_bl, x_seq, x_skip, KR_ret, TK_ret, TK_brk, TK_cnt, g_name, g_unp, g_allS, g_all0, g_sub, lz0, lz1, lz2, lz3, lz4, lz5, lz6, lz7, lz8, List.set, wipe, List.map_cons, List.map_nil, List.cons_append, List.nil_append, List.length_cons, List.length_nil, Nat.reduceAdd, Nat.reduceSub, List.replicate_succ, List.replicate_zero, eq_self, Bool.false_eq_true, if_true, if_false, nv_add]
      rw [if_pos (isLst_of S7.hr), show AV.tup [nv (ring + j), nv (ring + ways + (c + i))] = pr (ring + j, ring + ways + (c + i)) from rfl, w_append S7.hr (by rw [List.length_map, F7.len]; unfold lineZ; omega)]
      have S8 := S7.road (ring + j, ring + ways + (c + i))
      have P8 : Pool (s7.set s.length (.lst (rs'.map pr ++ [pr (ring + j, ring + ways + (c + i))]))) p q := P7.setN (by omega) (by omega)
      have k8 : Kp [p, q] s (s7.set s.length (.lst (rs'.map pr ++ [pr (ring + j, ring + ways + (c + i))]))) := k7.setN _ _ (Nat.le_refl _)
      generalize s7.set s.length (.lst (rs'.map pr ++ [pr (ring + j, ring + ways + (c + i))])) = s8 at S8 P8 k8
      obtain ⟨g1, g2, S9⟩ := S8.add
      have hlsl : ls.length = j := by have := S8.ll; simpa using this
      refine x_expr ?_
      simp only [w_calln, w_call, w_cons, w_nil, w_tup, w_lst, w_op, w_un, w_c, w_var0, w_varS, w_and, w_or, w_not, w_iteE, w_lmeth, t_val, t_tru, t_and, t_or, t_not, t_yes, w_ch0, w_ch1, w_ch2, w_pr0, w_pr1, w_ix20, w_ix21, w_ix30, w_ix31, w_ix32, w_inT, w_eqI, w_add, w_sub, w_lt, w_le, w_gt, w_ge, w_neg, w_lenT, w_int, w_min, w_max, w_tupT, onB_bl, truth_bl, x_seq, x_skip, KR_ret, TK_ret, TK_brk, TK_cnt, g_name, g_unp, g_allS, g_all0, g_sub, lz0, lz1, lz2, lz3, lz4, lz5, lz6, lz7, lz8, List.set, wipe, List.map_cons, List.map_nil, List.cons_append, List.nil_append, List.length_cons, List.length_nil, Nat.reduceAdd, Nat.reduceSub, List.replicate_succ, List.replicate_zero, eq_self, Bool.false_eq_true, if_true, if_false]
      rw [w_ixL (v := .ref qk) (seqAt_lst S8.hl) (by rw [List.getElem?_map, List.getElem?_append_right (by omega), hlsl, Nat.sub_self]; rfl), if_pos (isLst_of g1), w_append g1 (by
        have h2 : x.length ≤ (tt ++ [x]).flatten.length := by rw [List.flatten_append]; simp
        rw [S8.fl, List.length_range'] at h2
        rw [List.length_map]; unfold lineZ; omega)]
      refine x_asg ?_
      simp only [w_calln, w_call, w_cons, w_nil, w_tup, w_lst, w_op, w_un, w_c, w_var0, w_varS, w_and, w_or, w_not, w_iteE, w_lmeth, t_val, t_tru, t_and, t_or, t_not, t_yes, w_ch0, w_ch1, w_ch2, w_pr0, w_pr1, w_ix20, w_ix21, w_ix30, w_ix31, w_ix32, w_inT, w_eqI, w_add, w_sub, w_lt, w_le, w_gt, w_ge, w_neg, w_lenT, w_int, w_min, w_max, w_tupT, onB_bl, truth_bl, x_seq, x_skip, KR_ret, TK_ret, TK_brk, TK_cnt, g_name, g_unp, g_allS, g_all0, g_sub, lz0, lz1, lz2, lz3, lz4, lz5, lz6, lz7, lz8, List.set, wipe, List.map_cons, List.map_nil, List.cons_append, List.nil_append, List.length_cons, List.length_nil, Nat.reduceAdd, Nat.reduceSub, List.replicate_succ, List.replicate_zero, eq_self, Bool.false_eq_true, if_true, if_false, nv_add1]
      refine ⟨_, _, _, rfl, P8.setN (by omega) (by omega), k8.setN _ _ g2, S9, ?_⟩
      refine ⟨by simp [F7.len]; omega, fun a ha => List.mem_append_left _ (F7.steps a ha), fun y hy => ?_⟩
      rcases List.mem_append.mp hy with h | h
      · rcases F7.only y h with h | h | h
        · exact Or.inl h
        · exact Or.inr (Or.inl h)
        · exact Or.inr (Or.inr ⟨h.1, h.2.1, h.2.2.1, by have := h.2.2.2; omega⟩)
      · rw [List.mem_singleton.mp h]; exact Or.inr (Or.inr ⟨by simp, by simp; omega, by simp, by simp⟩)
    · rintro en s7 ⟨o8, rs', x, rfl, P7, k7, S7, F7⟩
      refine ⟨_, _, c + (1 + d), rs', _, _, rfl, P7, k7, S7, F7, ?_⟩
      rw [hjb']; omega
  · rintro en s2 ⟨o7, o8, c, rs, ls, tt, rfl, P2, k2, S2, F2, hc⟩
    refine x_asg ?_
    simp only [w_calln, w_call, w_cons, w_nil, w_tup, w_lst, w_op, w_un, w_c, w_var0, w_varS, w_and, w_or, w_not, w_iteE, w_lmeth, t_val, t_tru, t_and, t_or, t_not, t_yes, w_ch0, w_ch1, w_ch2, w_pr0, w_pr1, w_ix20, w_ix21, w_ix30, w_ix31, w_ix32, w_inT, w_eqI, w_add, w_sub, w_lt, w_le, w_gt, w_ge, w_neg, w_lenT, w_int, w_min, w_max, w_tupT, onB_bl, truth_bl, x_seq, x_skip, KR_ret, TK_ret, TK_brk, TK_cnt, g_name, g_unp, g_allS, g_all0, g_sub, lz0, lz1, lz2, lz3, lz4, lz5, lz6, lz7, lz8, List.set, wipe, List.map_cons, List.map_nil, List.cons_append, List.nil_append, List.length_cons, List.length_nil, Nat.reduceAdd, Nat.reduceSub, List.replicate_succ, List.replicate_zero, eq_self, Bool.false_eq_true, if_true, if_false]
    have k23 : Kp [] s2 (s2 ++ [MO.lst []]) := Kp.app _ (Kp.refl _)
    have lq : ∀ q', q' < s.length → q' < s2.length := fun q' h => by have := k2.1; omega
    refine X_mono (N := fun en s' => ∃ (o10 : Option AV) (fw : Nat), en = [some (.ref p), some (nv ring), some (nv ways), some (nv behind), some (nv (ring + ways + c)), some (.ref s.length), some (.ref s1.length), o7, o8, some (.ref fw), o10, none, none, none, none] ∧ Kp [] s2 s' ∧ s.length ≤ fw ∧ s'[fw]? = some (.lst (tt.flatten.map nv))) (K := fun _ => False) ?_ ?_ (fun _ h => h.elim)
    · refine for_w ?_
      simp only [w_calln, w_call, w_cons, w_nil, w_tup, w_lst, w_op, w_un, w_c, w_var0, w_varS, w_and, w_or, w_not, w_iteE, w_lmeth, t_val, t_tru, t_and, t_or, t_not, t_yes, w_ch0, w_ch1, w_ch2, w_pr0, w_pr1, w_ix20, w_ix21, w_ix30, w_ix31, w_ix32, w_inT, w_eqI, w_add, w_sub, w_lt, w_le, w_gt, w_ge, w_neg, w_lenT, w_int, w_min, w_max, w_tupT, onB_bl, truth_bl, x_seq, x_skip, KR_ret, TK_ret, TK_brk, TK_cnt, g_name, g_unp, g_allS, g_all0, g_sub, lz0, lz1, lz2, lz3, lz4, lz5, lz6, lz7, lz8, List.set, wipe, List.map_cons, List.map_nil, List.cons_append, List.nil_append, List.length_cons, List.length_nil, Nat.reduceAdd, Nat.reduceSub, List.replicate_succ, List.replicate_zero, eq_self, Bool.false_eq_true, if_true, if_false]
      have S3 := S2.keep (L := []) k23 (by simp)
      refine .mk (ls.map .ref) (fun j en s' => ∃ (o10 : Option AV) (fw : Nat), en = [some (.ref p), some (nv ring), some (nv ways), some (nv behind), some (nv (ring + ways + c)), some (.ref s.length), some (.ref s1.length), o7, o8, some (.ref fw), o10, none, none, none, none] ∧ Kp [] s2 s' ∧ s.length ≤ fw ∧ s'[fw]? = some (.lst ((tt.take j).flatten.map nv))) (Lk.lst S3.hl) (by rw [List.length_map, S2.ll]; omega) ⟨_, s2.length, rfl, k23, k2.1, by simp⟩ ?_ ?_ ?_
      · rintro j en s' ⟨_, _, _, k', _⟩
        exact Lk.lst (k'.2 _ _ (by simp) S2.hl)
      · rintro j x en s4 hx ⟨o10, fw, rfl, k4, hfw, h4⟩
        rw [List.getElem?_map] at hx
        cases hz : ls[j]? with
        | none => rw [hz] at hx; exact nomatch hx
        | some q' =>
          rw [hz] at hx
          cases hx
          obtain ⟨a, b, d, t, e, g⟩ := S2.it j q' hz
          have ht : (tt.take (j + 1)).flatten = (tt.take j).flatten ++ t := by rw [List.take_add_one, e, List.flatten_append]; simp
          have fl : (tt.take (j + 1)).flatten.length ≤ tt.flatten.length := by
            conv => rhs; rw [← List.take_append_drop (j + 1) tt, List.flatten_append, List.length_append]
            omega
          rw [S2.fl, List.length_range', ht, List.length_append] at fl
          simp only [w_calln, w_call, w_cons, w_nil, w_tup, w_lst, w_op, w_un, w_c, w_var0, w_varS, w_and, w_or, w_not, w_iteE, w_lmeth, t_val, t_tru, t_and, t_or, t_not, t_yes, w_ch0, w_ch1, w_ch2, w_pr0, w_pr1, w_ix20, w_ix21, w_ix30, w_ix31, w_ix32, w_inT, w_eqI, w_add, w_sub, w_lt, w_le, w_gt, w_ge, w_neg, w_lenT, w_int, w_min, w_max, w_tupT, onB_bl, truth_bl, x_seq, x_skip, KR_ret, TK_ret, TK_brk, TK_cnt, g_name, g_unp, g_allS, g_all0, g_sub, lz0, lz1, lz2, lz3, lz4, lz5, lz6, lz7, lz8, List.set, wipe, List.map_cons, List.map_nil, List.cons_append, List.nil_append, List.length_cons, List.length_nil, Nat.reduceAdd, Nat.reduceSub, List.replicate_succ, List.replicate_zero, eq_self, Bool.false_eq_true, if_true, if_false]
          refine x_asg ?_
          simp only [w_calln, w_call, w_cons, w_nil, w_tup, w_lst, w_op, w_un, w_c, w_var0, w_varS, w_and, w_or, w_not, w_iteE, w_lmeth, t_val, t_tru, t_and, t_or, t_not, t_yes, w_ch0, w_ch1, w_ch2, w_pr0, w_pr1, w_ix20, w_ix21, w_ix30, w_ix31, w_ix32, w_inT, w_eqI, w_add, w_sub, w_lt, w_le, w_gt, w_ge, w_neg, w_lenT, w_int, w_min, w_max, w_tupT, onB_bl, truth_bl, x_seq, x_skip, KR_ret, TK_ret, TK_brk, TK_cnt, g_name, g_unp, g_allS, g_all0, g_sub, lz0, lz1, lz2, lz3, lz4, lz5, lz6, lz7, lz8, List.set, wipe, List.map_cons, List.map_nil, List.cons_append, List.nil_append, List.length_cons, List.length_nil, Nat.reduceAdd, Nat.reduceSub, List.replicate_succ, List.replicate_zero, eq_self, Bool.false_eq_true, if_true, if_false]
          rw [w_addL h4 (k4.2 _ _ (by simp) g) (by rw [List.length_map, List.length_map]; omega), ← List.map_append, ← ht]
          exact ⟨_, _, rfl, k4.app _, by have := k4.1; have := k2.1; omega, by simp⟩
      · rintro en s4 ⟨o10, fw, rfl, k4, hfw, h4⟩
        rw [List.length_map, S2.ll, List.take_of_length_le (by rw [S2.lt]; exact Nat.le_refl _)] at h4
        exact ⟨_, _, rfl, k4, hfw, h4⟩
    · rintro en s4 ⟨o10, fw, rfl, k4, hfw, h4⟩
      rw [S2.fl] at h4
      have P4 := P2.keep k4
      have S4 := S2.keep (L := []) k4 (by simp)
      refine x_asg ?_
      simp only [w_calln, w_call, w_cons, w_nil, w_tup, w_lst, w_op, w_un, w_c, w_var0, w_varS, w_and, w_or, w_not, w_iteE, w_lmeth, t_val, t_tru, t_and, t_or, t_not, t_yes, w_ch0, w_ch1, w_ch2, w_pr0, w_pr1, w_ix20, w_ix21, w_ix30, w_ix31, w_ix32, w_inT, w_eqI, w_add, w_sub, w_lt, w_le, w_gt, w_ge, w_neg, w_lenT, w_int, w_min, w_max, w_tupT, onB_bl, truth_bl, x_seq, x_skip, KR_ret, TK_ret, TK_brk, TK_cnt, g_name, g_unp, g_allS, g_all0, g_sub, lz0, lz1, lz2, lz3, lz4, lz5, lz6, lz7, lz8, List.set, wipe, List.map_cons, List.map_nil, List.cons_append, List.nil_append, List.length_cons, List.length_nil, Nat.reduceAdd, Nat.reduceSub, List.replicate_succ, List.replicate_zero, eq_self, Bool.false_eq_true, if_true, if_false]
      have hn : ring + ways + c ≤ 60 := by omega
      refine map_named_w P4 hn S4.hr (by omega) (by omega) h4 (by omega) (by omega) (fun r hr => ?_) (fun w hw => ?_) (by rw [F2.len]; omega) (by rw [List.length_range']; omega) fun l f s5 nm rs' ws N V rl rmem wmem P5 k5 hl5 hf5 h5 hnm => ?_
      · rcases F2.only r hr with h | h | h
        · have : (r.1 + 1) % ring < ring := Nat.mod_lt _ h1
          omega
        · omega
        · omega
      · have := List.mem_range'_1.mp hw; omega
      rw [g_unpL _ l _ (seqAt_lst h5)]
      simp only [w_calln, w_call, w_cons, w_nil, w_tup, w_lst, w_op, w_un, w_c, w_var0, w_varS, w_and, w_or, w_not, w_iteE, w_lmeth, t_val, t_tru, t_and, t_or, t_not, t_yes, w_ch0, w_ch1, w_ch2, w_pr0, w_pr1, w_ix20, w_ix21, w_ix30, w_ix31, w_ix32, w_inT, w_eqI, w_add, w_sub, w_lt, w_le, w_gt, w_ge, w_neg, w_lenT, w_int, w_min, w_max, w_tupT, onB_bl, truth_bl, x_seq, x_skip, KR_ret, TK_ret, TK_brk, TK_cnt, g_name, g_unp, g_allS, g_all0, g_sub, lz0, lz1, lz2, lz3, lz4, lz5, lz6, lz7, lz8, List.set, wipe, List.map_cons, List.map_nil, List.cons_append, List.nil_append, List.length_cons, List.length_nil, Nat.reduceAdd, Nat.reduceSub, List.replicate_succ, List.replicate_zero, eq_self, Bool.false_eq_true, if_true, if_false]
      have k05 : Kp [p, q] s s5 := (k2.trans k4.nil).trans k5
      have S5 := S4.keep k5 hL
      have hwm : ∀ x, x ∈ ws ↔ ∃ t, ring + ways ≤ t ∧ t < ring + ways + c ∧ x = nmf nm t := fun x => by
        rw [wmem]
        constructor
        · rintro ⟨w, h, e⟩
          have := List.mem_range'_1.mp h
          exact ⟨w, this.1, this.2, e⟩
        · rintro ⟨t, h, h', e⟩
          exact ⟨t, List.mem_range'_1.mpr ⟨h, h'⟩, e⟩
      have nm5 : ∀ {s' : Sto} {a : Nat} {Q : AV → Sto → Prop}, Kp [] s5 s' → a < ring + ways + c → W (ixAV (.ref f) (nv a) s') Q = Q (nv (nmf nm a)) s' := fun {s' a Q} k' ha =>
        w_ixL (seqAt_lst (k'.2 _ _ (by simp) hnm)) (by rw [List.getElem?_map, N.get ha]; rfl)
      refine x_asg ?_
      refine lc_w (i_seq ?_)
      simp only [w_calln, w_call, w_cons, w_nil, w_tup, w_lst, w_op, w_un, w_c, w_var0, w_varS, w_and, w_or, w_not, w_iteE, w_lmeth, t_val, t_tru, t_and, t_or, t_not, t_yes, w_ch0, w_ch1, w_ch2, w_pr0, w_pr1, w_ix20, w_ix21, w_ix30, w_ix31, w_ix32, w_inT, w_eqI, w_add, w_sub, w_lt, w_le, w_gt, w_ge, w_neg, w_lenT, w_int, w_min, w_max, w_tupT, onB_bl, truth_bl, x_seq, x_skip, KR_ret, TK_ret, TK_brk, TK_cnt, g_name, g_unp, g_allS, g_all0, g_sub, lz0, lz1, lz2, lz3, lz4, lz5, lz6, lz7, lz8, List.set, wipe, List.map_cons, List.map_nil, List.cons_append, List.nil_append, List.length_cons, List.length_nil, Nat.reduceAdd, Nat.reduceSub, List.replicate_succ, List.replicate_zero, eq_self, Bool.false_eq_true, if_true, if_false]
      refine .mk _ (Lk.lst S5.hl) (fun e => nomatch e) (fun l e he => ?_)
      cases e
      refine .mk (ls.map .ref) (fun j acc s' => Kp [] s5 s') (by rw [List.length_map, S2.ll]; unfold lineZ; omega) (Or.inr ⟨_, rfl, fun _ _ _ hi => seqAt_keep he (by simp) hi⟩) (Kp.app _ (Kp.refl _)) ?_ ?_
      · rintro j x acc s6 hx hl k6 hD
        rw [List.getElem?_map] at hx
        cases hz : ls[j]? with
        | none => rw [hz] at hx; exact nomatch hx
        | some q' =>
          rw [hz] at hx
          cases hx
          obtain ⟨a, b, d, t, e, g⟩ := S5.it j q' hz
          have ht : ∀ y ∈ t, y < ring + ways + c := fun y hy => by
            have : y ∈ tt.flatten := List.mem_flatten.mpr ⟨t, List.mem_of_getElem? e, hy⟩
            rw [S2.fl] at this
            have := List.mem_range'_1.mp this; omega
          have htl : t.length ≤ 60 := by
            have h2 : t.length ≤ tt.flatten.length := by
              have := List.Sublist.length_le (List.sublist_flatten_of_mem (List.mem_of_getElem? e))
              exact this
            rw [S2.fl, List.length_range'] at h2; omega
          simp only [w_calln, w_call, w_cons, w_nil, w_tup, w_lst, w_op, w_un, w_c, w_var0, w_varS, w_and, w_or, w_not, w_iteE, w_lmeth, t_val, t_tru, t_and, t_or, t_not, t_yes, w_ch0, w_ch1, w_ch2, w_pr0, w_pr1, w_ix20, w_ix21, w_ix30, w_ix31, w_ix32, w_inT, w_eqI, w_add, w_sub, w_lt, w_le, w_gt, w_ge, w_neg, w_lenT, w_int, w_min, w_max, w_tupT, onB_bl, truth_bl, x_seq, x_skip, KR_ret, TK_ret, TK_brk, TK_cnt, g_name, g_unp, g_allS, g_all0, g_sub, lz0, lz1, lz2, lz3, lz4, lz5, lz6, lz7, lz8, List.set, wipe, List.map_cons, List.map_nil, List.cons_append, List.nil_append, List.length_cons, List.length_nil, Nat.reduceAdd, Nat.reduceSub, List.replicate_succ, List.replicate_zero, eq_self, Bool.false_eq_true, if_true, if_false]
          refine lc_pure t nv (fun _ => true) (fun y => nv (nmf nm y)) (i_seq ?_)
          simp only [w_calln, w_call, w_cons, w_nil, w_tup, w_lst, w_op, w_un, w_c, w_var0, w_varS, w_and, w_or, w_not, w_iteE, w_lmeth, t_val, t_tru, t_and, t_or, t_not, t_yes, w_ch0, w_ch1, w_ch2, w_pr0, w_pr1, w_ix20, w_ix21, w_ix30, w_ix31, w_ix32, w_inT, w_eqI, w_add, w_sub, w_lt, w_le, w_gt, w_ge, w_neg, w_lenT, w_int, w_min, w_max, w_tupT, onB_bl, truth_bl, x_seq, x_skip, KR_ret, TK_ret, TK_brk, TK_cnt, g_name, g_unp, g_allS, g_all0, g_sub, lz0, lz1, lz2, lz3, lz4, lz5, lz6, lz7, lz8, List.set, wipe, List.map_cons, List.map_nil, List.cons_append, List.nil_append, List.length_cons, List.length_nil, Nat.reduceAdd, Nat.reduceSub, List.replicate_succ, List.replicate_zero, eq_self, Bool.false_eq_true, if_true, if_false]
          have g6 := k6.2 _ _ (by simp) g
          refine .mk _ (Lk.lst g6) (fun e => nomatch e) (fun l e he => ?_)
          cases e
          refine .mk (by unfold lineZ; omega) (Or.inr ⟨_, rfl, he⟩) ?_ ?_
          · intro y hy s' hk
            simp only [w_calln, w_call, w_cons, w_nil, w_tup, w_lst, w_op, w_un, w_c, w_var0, w_varS, w_and, w_or, w_not, w_iteE, w_lmeth, t_val, t_tru, t_and, t_or, t_not, t_yes, w_ch0, w_ch1, w_ch2, w_pr0, w_pr1, w_ix20, w_ix21, w_ix30, w_ix31, w_ix32, w_inT, w_eqI, w_add, w_sub, w_lt, w_le, w_gt, w_ge, w_neg, w_lenT, w_int, w_min, w_max, w_tupT, onB_bl, truth_bl, x_seq, x_skip, KR_ret, TK_ret, TK_brk, TK_cnt, g_name, g_unp, g_allS, g_all0, g_sub, lz0, lz1, lz2, lz3, lz4, lz5, lz6, lz7, lz8, List.set, wipe, List.map_cons, List.map_nil, List.cons_append, List.nil_append, List.length_cons, List.length_nil, Nat.reduceAdd, Nat.reduceSub, List.replicate_succ, List.replicate_zero, eq_self, Bool.false_eq_true, if_true, if_false]
            refine ⟨trivial, Kp.refl _, fun _ => ?_⟩
            rw [nm5 (k6.trans hk) (ht y hy)]
            exact ⟨rfl, Kp.refl _⟩
          intro s7 k7 h7
          have e7 : ((t.filter fun _ => true).map fun y => nv (nmf nm y)) = (t.map (nmf nm)).map nv := by
            rw [List.filter_eq_self.mpr (fun _ _ => rfl), List.map_map]; rfl
          rw [e7] at h7
          rw [sorted_w nle_s h7 (by rw [List.length_map]; omega) (srt_nv _)]
          have k68 := Kp.app [MO.lst (((t.map (nmf nm)).mergeSort nle).map nv)] k7
          exact ⟨k68.2 _ _ (by simp) hD, (k6.trans k68).setN _ _ (Nat.le_refl _)⟩
      rintro acc s6 k6 hD
      refine x_ret ?_
      simp only [w_calln, w_call, w_cons, w_nil, w_tup, w_lst, w_op, w_un, w_c, w_var0, w_varS, w_and, w_or, w_not, w_iteE, w_lmeth, t_val, t_tru, t_and, t_or, t_not, t_yes, w_ch0, w_ch1, w_ch2, w_pr0, w_pr1, w_ix20, w_ix21, w_ix30, w_ix31, w_ix32, w_inT, w_eqI, w_add, w_sub, w_lt, w_le, w_gt, w_ge, w_neg, w_lenT, w_int, w_min, w_max, w_tupT, onB_bl, truth_bl, x_seq, x_skip, KR_ret, TK_ret, TK_brk, TK_cnt, g_name, g_unp, g_allS, g_all0, g_sub, lz0, lz1, lz2, lz3, lz4, lz5, lz6, lz7, lz8, List.set, wipe, List.map_cons, List.map_nil, List.cons_append, List.nil_append, List.length_cons, List.length_nil, Nat.reduceAdd, Nat.reduceSub, List.replicate_succ, List.replicate_zero, eq_self, Bool.false_eq_true, if_true, if_false]
      refine lc_pure (List.range ring) nv (fun _ => true) (fun a => nv (nmf nm a)) (i_range ?_)
      simp only [w_calln, w_call, w_cons, w_nil, w_tup, w_lst, w_op, w_un, w_c, w_var0, w_varS, w_and, w_or, w_not, w_iteE, w_lmeth, t_val, t_tru, t_and, t_or, t_not, t_yes, w_ch0, w_ch1, w_ch2, w_pr0, w_pr1, w_ix20, w_ix21, w_ix30, w_ix31, w_ix32, w_inT, w_eqI, w_add, w_sub, w_lt, w_le, w_gt, w_ge, w_neg, w_lenT, w_int, w_min, w_max, w_tupT, onB_bl, truth_bl, x_seq, x_skip, KR_ret, TK_ret, TK_brk, TK_cnt, g_name, g_unp, g_allS, g_all0, g_sub, lz0, lz1, lz2, lz3, lz4, lz5, lz6, lz7, lz8, List.set, wipe, List.map_cons, List.map_nil, List.cons_append, List.nil_append, List.length_cons, List.length_nil, Nat.reduceAdd, Nat.reduceSub, List.replicate_succ, List.replicate_zero, eq_self, Bool.false_eq_true, if_true, if_false]
      refine .mk ring rfl (by omega) ?_
      refine .mk (by unfold lineZ; simp; omega) (Or.inl rfl) ?_ ?_
      · intro a ha s' hk
        have ha := List.mem_range.mp ha
        simp only [w_calln, w_call, w_cons, w_nil, w_tup, w_lst, w_op, w_un, w_c, w_var0, w_varS, w_and, w_or, w_not, w_iteE, w_lmeth, t_val, t_tru, t_and, t_or, t_not, t_yes, w_ch0, w_ch1, w_ch2, w_pr0, w_pr1, w_ix20, w_ix21, w_ix30, w_ix31, w_ix32, w_inT, w_eqI, w_add, w_sub, w_lt, w_le, w_gt, w_ge, w_neg, w_lenT, w_int, w_min, w_max, w_tupT, onB_bl, truth_bl, x_seq, x_skip, KR_ret, TK_ret, TK_brk, TK_cnt, g_name, g_unp, g_allS, g_all0, g_sub, lz0, lz1, lz2, lz3, lz4, lz5, lz6, lz7, lz8, List.set, wipe, List.map_cons, List.map_nil, List.cons_append, List.nil_append, List.length_cons, List.length_nil, Nat.reduceAdd, Nat.reduceSub, List.replicate_succ, List.replicate_zero, eq_self, Bool.false_eq_true, if_true, if_false]
        refine ⟨trivial, Kp.refl _, fun _ => ?_⟩
        rw [nm5 (k6.trans hk) (by omega)]
        exact ⟨rfl, Kp.refl _⟩
      intro s7 k7 h7
      have e7 : (((List.range ring).filter fun _ => true).map fun a => nv (nmf nm a)) = ((List.range ring).map (nmf nm)).map nv := by
        rw [List.filter_eq_self.mpr (fun _ _ => rfl), List.map_map]; rfl
      rw [e7] at h7
      rw [sorted_w nle_s h7 (by simp; omega) (srt_nv _)]
      have k68 := Kp.app [MO.lst ((((List.range ring).map (nmf nm)).mergeSort nle).map nv)] k7
      refine lc_pure (List.range ways) nv (fun _ => true) (fun w => nv (nmf nm (ring + w))) (i_range ?_)
      simp only [w_calln, w_call, w_cons, w_nil, w_tup, w_lst, w_op, w_un, w_c, w_var0, w_varS, w_and, w_or, w_not, w_iteE, w_lmeth, t_val, t_tru, t_and, t_or, t_not, t_yes, w_ch0, w_ch1, w_ch2, w_pr0, w_pr1, w_ix20, w_ix21, w_ix30, w_ix31, w_ix32, w_inT, w_eqI, w_add, w_sub, w_lt, w_le, w_gt, w_ge, w_neg, w_lenT, w_int, w_min, w_max, w_tupT, onB_bl, truth_bl, x_seq, x_skip, KR_ret, TK_ret, TK_brk, TK_cnt, g_name, g_unp, g_allS, g_all0, g_sub, lz0, lz1, lz2, lz3, lz4, lz5, lz6, lz7, lz8, List.set, wipe, List.map_cons, List.map_nil, List.cons_append, List.nil_append, List.length_cons, List.length_nil, Nat.reduceAdd, Nat.reduceSub, List.replicate_succ, List.replicate_zero, eq_self, Bool.false_eq_true, if_true, if_false]
      refine .mk ways rfl (by omega) ?_
      refine .mk (by unfold lineZ; simp; omega) (Or.inl rfl) ?_ ?_
      · intro a ha s' hk
        have ha := List.mem_range.mp ha
        simp only [w_calln, w_call, w_cons, w_nil, w_tup, w_lst, w_op, w_un, w_c, w_var0, w_varS, w_and, w_or, w_not, w_iteE, w_lmeth, t_val, t_tru, t_and, t_or, t_not, t_yes, w_ch0, w_ch1, w_ch2, w_pr0, w_pr1, w_ix20, w_ix21, w_ix30, w_ix31, w_ix32, w_inT, w_eqI, w_add, w_sub, w_lt, w_le, w_gt, w_ge, w_neg, w_lenT, w_int, w_min, w_max, w_tupT, onB_bl, truth_bl, x_seq, x_skip, KR_ret, TK_ret, TK_brk, TK_cnt, g_name, g_unp, g_allS, g_all0, g_sub, lz0, lz1, lz2, lz3, lz4, lz5, lz6, lz7, lz8, List.set, wipe, List.map_cons, List.map_nil, List.cons_append, List.nil_append, List.length_cons, List.length_nil, Nat.reduceAdd, Nat.reduceSub, List.replicate_succ, List.replicate_zero, eq_self, Bool.false_eq_true, if_true, if_false, nv_add]
        refine ⟨trivial, Kp.refl _, fun _ => ?_⟩
        rw [nm5 ((k6.trans k68).trans hk) (by omega)]
        exact ⟨rfl, Kp.refl _⟩
      intro s9 k9 h9
      have e9 : (((List.range ways).filter fun _ => true).map fun w => nv (nmf nm (ring + w))) = ((List.range ways).map fun w => nmf nm (ring + w)).map nv := by
        rw [List.filter_eq_self.mpr (fun _ _ => rfl), List.map_map]; rfl
      rw [e9] at h9
      have k59 : Kp [] s5 s9 := (k6.trans k68).trans k9
      have k9a := Kp.app [MO.lst [CH (ring + ways + c) rs' ws, .ref s7.length, .ref (s7 ++ [MO.lst ((((List.range ring).map (nmf nm)).mergeSort nle).map nv)]).length, .ref s5.length]] (Kp.refl (L := []) s9)
      have l57 : s5.length ≤ s7.length := (k6.trans k7).1
      have l05 : s.length ≤ s5.length := k05.1
      refine k _ s7.length (s7 ++ [MO.lst ((((List.range ring).map (nmf nm)).mergeSort nle).map nv)]).length _ (ring + ways + c) rs nm rs' ws (.ref s5.length) ⟨F2.steps, F2.only⟩ (by omega) hn N V rl rmem hwm (P5.keep (k59.trans k9a)) ((k05.trans k59.nil).trans k9a.nil) ?_ ?_ ?_ ?_ ?_ ?_
      · have := k59.1; omega
      · exact Nat.le_trans l05 l57
      · rw [List.length_append]; omega
      · simp
      · refine k9a.2 _ _ (by simp) (k9.2 _ _ (by simp) ?_); simp
      · exact k9a.2 _ _ (by simp) h9
end
end Sp
namespace Sp
open PySem Mi Mr
section
variable {n : Nat} {rs : List (Nat × Nat)} {ws : List Nat} {Q : AV → Sto → Prop} {s : Sto}
theorem pcs_eq {L : List (List Nat)} (h : Asc lle L) (k : ∀ x, x ∈ L ↔ ∃ a, a < n ∧ a ∉ ws ∧ x = PC n rs ws a) : PCS n rs ws = L :=
  asc_PCS.ext lleO h fun x => (mem_PCS x).trans (k x).symm
/-! walks, looked at by a closed lot -/
theorem met_in {a b : Nat} (S : List Nat) (h : ∀ r ∈ rs, (r.1 = a ∨ (r.1 ∈ S ∧ r.1 ∉ ws)) → r.2 ∈ S) (m : Met rs ws a b) : b ∈ S := by
  induction m with
  | one e => exact h _ e (Or.inl rfl)
  | more _ hc e ih => exact h _ e (Or.inr ⟨ih, hc⟩)
/-! equal data -/
theorem eqvAll_refl {α : Type} {f : α → PyData} : ∀ xs : List α, (∀ x ∈ xs, PyData.eqv (f x) (f x) = true) → PyData.eqvAll (xs.map f) (xs.map f) = true
  | [], _ => by simp [PyData.eqvAll]
  | x :: xs, h => by
    rw [List.map_cons, PyData.eqvAll, h x (List.mem_cons_self ..), eqvAll_refl xs fun y hy => h y (List.mem_cons_of_mem _ hy)]; rfl
theorem eqv_dat : ∀ (m : Nat) (x : AV), pln m x = true → PyData.eqv (dat m x) (dat m x) = true
  | m, .int i, _ => by
    have e : dat m (.int i) = .int i := by cases m <;> rfl
    rw [e]; simp [PyData.eqv]
  | m + 1, .tup xs, h => by
    have h' : ∀ x ∈ xs, pln m x = true := List.all_eq_true.mp h
    have e : dat (m + 1) (.tup xs) = .tuple (xs.map (dat m)) := rfl
    rw [e, PyData.eqv]
    exact eqvAll_refl xs fun x hx => eqv_dat m x (h' x hx)
  | 0, .tup _, h => nomatch h
  | 0, .non, h => nomatch h
  | 0, .bl _, h => nomatch h
  | 0, .str _, h => nomatch h
  | 0, .ref _, h => nomatch h
  | 0, .adr _, h => nomatch h
  | 0, .ty _, h => nomatch h
  | _ + 1, .non, h => nomatch h
  | _ + 1, .bl _, h => nomatch h
  | _ + 1, .str _, h => nomatch h
  | _ + 1, .ref _, h => nomatch h
  | _ + 1, .adr _, h => nomatch h
  | _ + 1, .ty _, h => nomatch h
theorem w_eqD (neg : Bool) {m : Nat} {x : AV} (hm : m ≤ 60) (h : pln m x = true) : W (eqAV neg x x s) Q = Q (.bl (neg != true)) s := by
  unfold eqAV
  rw [pd_dat s m deepN x h (by unfold deepN; exact hm)]
  simp only [shaped_dat h hm, eqv_dat m x h, Bool.and_self, if_true, W_ok]
/-! the told map -/
def toldR : List (Nat × Nat) := [(0, 1), (0, 2), (1, 0), (1, 4), (2, 3), (2, 5), (3, 0), (3, 6)]
theorem told1 : VM 7 toldR [4, 5, 6] := ⟨by decide, by decide, by decide, by unfold Asc; decide, by decide, by unfold Asc; decide⟩
theorem told2 : VM 7 toldR [0, 4, 5, 6] := ⟨by decide, by decide, by decide, by unfold Asc; decide, by decide, by unfold Asc; decide⟩
theorem told1_met {a b : Nat} (ha : a < 4) (hb : b < 4) : Met toldR [4, 5, 6] a b := by
  have m01 : Met toldR [4, 5, 6] 0 1 := .one (by decide)
  have m02 : Met toldR [4, 5, 6] 0 2 := .one (by decide)
  have m03 : Met toldR [4, 5, 6] 0 3 := .more m02 (by decide) (by decide)
  have m00 : Met toldR [4, 5, 6] 0 0 := .more m01 (by decide) (by decide)
  have m10 : Met toldR [4, 5, 6] 1 0 := .one (by decide)
  have m30 : Met toldR [4, 5, 6] 3 0 := .one (by decide)
  have m20 : Met toldR [4, 5, 6] 2 0 := Met.head (b := 3) (by decide) (by decide) m30
  have to : Met toldR [4, 5, 6] a 0 := by
    rcases (by omega : a = 0 ∨ a = 1 ∨ a = 2 ∨ a = 3) with rfl | rfl | rfl | rfl <;> assumption
  have fr : Met toldR [4, 5, 6] 0 b := by
    rcases (by omega : b = 0 ∨ b = 1 ∨ b = 2 ∨ b = 3) with rfl | rfl | rfl | rfl <;> assumption
  exact to.tr (by decide) fr
theorem told1_PC {a : Nat} (ha : a < 4) : PC 7 toldR [4, 5, 6] a = [0, 1, 2, 3] := by
  have hw : a ∉ [4, 5, 6] := by simp; omega
  have : PC 7 toldR [4, 5, 6] a = (List.range 7).filter fun b => decide (b < 4) := by
    unfold PC; rw [if_neg hw]
    refine List.filter_congr fun b hb => ?_
    have hb := List.mem_range.mp hb
    by_cases h4 : b < 4
    · rw [mB_iff.mpr (told1_met ha h4), mB_iff.mpr (told1_met h4 ha)]
      have : b ∉ [4, 5, 6] := by simp; omega
      simp [h4, this]
    · have : b ∈ [4, 5, 6] := by simp; omega
      have hne : b ≠ a := by omega
      simp [h4, this, hne]
  rw [this]; decide
theorem told1_PCS : PCS 7 toldR [4, 5, 6] = [[0, 1, 2, 3]] := by
  refine pcs_eq (by unfold Asc; simp) fun x => ?_
  rw [List.mem_singleton]
  constructor
  · rintro rfl; exact ⟨0, by decide, by decide, (told1_PC (by decide)).symm⟩
  · rintro ⟨a, h1, h2, rfl⟩
    exact told1_PC (by simp at h2; omega)
theorem single_PC {a : Nat} (ha : a < n) (h : a ∉ ws → ∀ b, b < n → b ∉ ws → Met rs ws a b → Met rs ws b a → b = a) : PC n rs ws a = [a] := by
  by_cases hw : a ∈ ws
  · unfold PC; rw [if_pos hw]
  · refine Asc.ext nleO ?_ (List.pairwise_singleton _ _) fun x => ?_
    · unfold PC; rw [if_neg hw]; exact (asc_range n).filter _
    · rw [mem_PC hw, List.mem_singleton]
      constructor
      · rintro ⟨h1, h2 | ⟨h2, h3, h4⟩⟩
        · exact h2
        · exact h hw x h1 h4 h2 h3
      · rintro rfl; exact ⟨ha, Or.inl rfl⟩
theorem told2_PC {a : Nat} (ha : a < 7) : PC 7 toldR [0, 4, 5, 6] a = [a] := by
  refine single_PC ha fun haw b hb hw m1 m2 => ?_
  have hb' : b = 1 ∨ b = 2 ∨ b = 3 := by simp at hw; omega
  have ha' : a = 1 ∨ a = 2 ∨ a = 3 := by simp at haw; omega
  have n1 : ∀ {x : Nat}, Met toldR [0, 4, 5, 6] 1 x → x ∈ [0, 4] := fun m => met_in [0, 4] (by decide) m
  have n3 : ∀ {x : Nat}, Met toldR [0, 4, 5, 6] 3 x → x ∈ [0, 6] := fun m => met_in [0, 6] (by decide) m
  rcases ha' with rfl | rfl | rfl <;> rcases hb' with rfl | rfl | rfl <;> first | rfl | exact absurd (n1 m1) (by decide) | exact absurd (n3 m1) (by decide) | exact absurd (n1 m2) (by decide) | exact absurd (n3 m2) (by decide)
theorem told2_PCS : PCS 7 toldR [0, 4, 5, 6] = [[1], [2], [3]] := by
  refine pcs_eq (by unfold Asc; decide) fun x => ?_
  constructor
  · intro h
    rcases List.mem_cons.mp h with rfl | h
    · exact ⟨1, by decide, by decide, (told2_PC (by decide)).symm⟩
    rcases List.mem_cons.mp h with rfl | h
    · exact ⟨2, by decide, by decide, (told2_PC (by decide)).symm⟩
    rw [List.mem_singleton.mp h]
    exact ⟨3, by decide, by decide, (told2_PC (by decide)).symm⟩
  · rintro ⟨a, h1, h2, rfl⟩
    rw [told2_PC h1]
    have : a = 1 ∨ a = 2 ∨ a = 3 := by simp at h2; omega
    rcases this with rfl | rfl | rfl <;> decide
/-! planted rings -/
section
variable {ring ways : Nat} {rs0 : List (Nat × Nat)} {nm : List Nat}
theorem Pl.lt (L : Pl ring ways n rs0) (hn : ring + ways ≤ n) (h1 : 1 ≤ ring) : ∀ r ∈ rs0, r.1 < n ∧ r.2 < n := fun r hr => by
  rcases L.only r hr with h | h | h
  · have : (r.1 + 1) % ring < ring := Nat.mod_lt _ h1
    omega
  · omega
  · omega
/-- walks by names are walks -/
theorem met_named (N : Nm n nm) (hin : ∀ r ∈ rs0, r.1 < n ∧ r.2 < n) (rmem : ∀ x y, (x, y) ∈ rs ↔ ∃ r ∈ rs0, x = nmf nm r.1 ∧ y = nmf nm r.2) {ws0 : List Nat} (wm : ∀ t, t < n → (t ∈ ws0 ↔ nmf nm t ∈ ws)) {a : Nat} (ha : a < n) {y : Nat} (m : Met rs ws (nmf nm a) y) : ∃ b, b < n ∧ y = nmf nm b ∧ Met rs0 ws0 a b := by
  induction m with
  | one e =>
    obtain ⟨r, hr, e1, e2⟩ := (rmem _ _).mp e
    have hi := hin r hr
    have : a = r.1 := N.inj ha hi.1 e1
    refine ⟨r.2, hi.2, e2, .one ?_⟩
    rw [this]; exact hr
  | more _ hc e ih =>
    obtain ⟨c, hcn, rfl, mc⟩ := ih
    obtain ⟨r, hr, e1, e2⟩ := (rmem _ _).mp e
    have hi := hin r hr
    have : c = r.1 := N.inj hcn hi.1 e1
    refine ⟨r.2, hi.2, e2, .more mc (fun h => hc ((wm c hcn).mp h)) ?_⟩
    rw [this]; exact hr
theorem met_named' (N : Nm n nm) (hin : ∀ r ∈ rs0, r.1 < n ∧ r.2 < n) (rmem : ∀ x y, (x, y) ∈ rs ↔ ∃ r ∈ rs0, x = nmf nm r.1 ∧ y = nmf nm r.2) {ws0 : List Nat} (wm : ∀ t, t < n → (t ∈ ws0 ↔ nmf nm t ∈ ws)) {a b : Nat} (ha : a < n) (m : Met rs0 ws0 a b) : Met rs ws (nmf nm a) (nmf nm b) := by
  induction m with
  | one e => exact .one ((rmem _ _).mpr ⟨_, e, rfl, rfl⟩)
  | more _ hc e ih => exact .more ih (fun h => hc ((wm _ (hin _ e).1).mpr h)) ((rmem _ _).mpr ⟨_, e, rfl, rfl⟩)
theorem mod_step (h1 : 1 ≤ ring) {a : Nat} (ha : a < ring) : (a + 1 < ring ∧ (a + 1) % ring = a + 1) ∨ (a + 1 = ring ∧ (a + 1) % ring = 0) := by
  rcases Nat.lt_or_ge (a + 1) ring with h | h
  · exact Or.inl ⟨h, Nat.mod_eq_of_lt h⟩
  · have : a + 1 = ring := by omega
    exact Or.inr ⟨this, by rw [this, Nat.mod_self]⟩
/-- around the ring -/
theorem Pl.around (L : Pl ring ways n rs0) (h1 : 1 ≤ ring) {ws0 : List Nat} (hw : ∀ t, t < ring → t ∉ ws0) {a : Nat} (ha : a < ring) : ∀ i : Nat, Met rs0 ws0 a ((a + (i + 1)) % ring)
  | 0 => .one (L.steps a ha)
  | i + 1 => by
    have ih := Pl.around L h1 hw ha i
    have hlt : (a + (i + 1)) % ring < ring := Nat.mod_lt _ h1
    have := Met.more ih (hw _ hlt) (L.steps _ hlt)
    rw [Nat.mod_add_mod] at this
    exact this
theorem Pl.all (L : Pl ring ways n rs0) (h1 : 1 ≤ ring) {ws0 : List Nat} (hw : ∀ t, t < ring → t ∉ ws0) {a b : Nat} (ha : a < ring) (hb : b < ring) : Met rs0 ws0 a b := by
  rcases Nat.lt_or_ge a b with h | h
  · have := Pl.around L h1 hw ha (b - a - 1)
    rw [show a + (b - a - 1 + 1) = b by omega, Nat.mod_eq_of_lt hb] at this
    exact this
  · have := Pl.around L h1 hw ha (ring + b - a - 1)
    rw [show a + (ring + b - a - 1 + 1) = ring + b by omega, Nat.add_mod_left, Nat.mod_eq_of_lt hb] at this
    exact this
/-- out of a waist nothing comes back -/
theorem Pl.waist (L : Pl ring ways n rs0) (h1 : 1 ≤ ring) {ws0 : List Nat} {a b : Nat} (ha : ring ≤ a) (m : Met rs0 ws0 a b) : ring + ways ≤ b := by
  induction m with
  | one e =>
    rcases L.only _ e with h | h | h
    · have := h.1; simp at this; omega
    · have := h.1; simp at this; omega
    · exact h.2.2.1
  | more _ hc e ih =>
    rcases L.only _ e with h | h | h
    · have := h.1; simp at this; omega
    · have := h.1; simp at this; omega
    · exact h.2.2.1
/-- where a place stands behind g -/
def pos (ring g v : Nat) : Nat := if v < g then v + ring - g else v - g
theorem Pl.cut (L : Pl ring ways n rs0) (h1 : 1 ≤ ring) {ws0 : List Nat} {g : Nat} (hg : g < ring) (hgw : g ∈ ws0) {a b : Nat} (ha : a < ring) (hb : b < ring) (hbg : b ≠ g) (m : Met rs0 ws0 a b) : pos ring g a < pos ring g b := by
  have step : ∀ c d : Nat, c < ring → d < ring → d ≠ g → (c, d) ∈ rs0 → pos ring g c < pos ring g d := by
    intro c d hc hd hdg e
    rcases L.only _ e with h | h | h
    · have h2 : d = (c + 1) % ring := h.2
      rcases mod_step h1 hc with ⟨x, y⟩ | ⟨x, y⟩
      · rw [y] at h2; unfold pos; split <;> split <;> omega
      · rw [y] at h2; unfold pos; split <;> split <;> omega
    · have := h.2.1; simp at this; omega
    · have := h.1; simp at this; omega
  have into : ∀ c d : Nat, d < ring → (c, d) ∈ rs0 → c < ring := by
    intro c d hd e
    rcases L.only _ e with h | h | h
    · exact h.1
    · exact h.1
    · have := h.2.2.1; simp at this; omega
  induction m with
  | one e => exact step _ _ ha hb hbg e
  | @more c d _ hc e ih =>
    have hcr := into _ _ hb e
    have hcg : c ≠ g := fun h => hc (by rw [h]; exact hgw)
    exact Nat.lt_trans (ih hcr hcg) (step _ _ hcr hb hbg e)
end
end
end Sp
namespace Sp
open PySem Mi Mr
/-- a planted map, with its names -/
structure PM (ring ways n : Nat) (rs0 : List (Nat × Nat)) (nm : List Nat) (rs : List (Nat × Nat)) (ws : List Nat) : Prop where
  pl : Pl ring ways n rs0
  hn : ring + ways ≤ n
  h1 : 1 ≤ ring
  np : Nm n nm
  vm : VM n rs ws
  rm : ∀ x y, (x, y) ∈ rs ↔ ∃ r ∈ rs0, x = nmf nm r.1 ∧ y = nmf nm r.2
  wm : ∀ x, x ∈ ws ↔ ∃ t, ring + ways ≤ t ∧ t < n ∧ x = nmf nm t
section
variable {ring ways n : Nat} {rs0 rs : List (Nat × Nat)} {nm ws : List Nat}
def rg (ring : Nat) (nm : List Nat) : List Nat := ((List.range ring).map (nmf nm)).mergeSort nle
def wst (ring ways : Nat) (nm : List Nat) : List Nat := (List.range ways).map fun w => nmf nm (ring + w)
theorem map_nodup {f : Nat → Nat} {k : Nat} (h : ∀ a b, a < k → b < k → f a = f b → a = b) : ((List.range k).map f).Nodup := by
  unfold List.Nodup
  rw [List.pairwise_map]
  refine List.Pairwise.imp_of_mem ?_ (List.nodup_range (n := k))
  intro a b ha hb hne e
  exact hne (h a b (List.mem_range.mp ha) (List.mem_range.mp hb) e)
theorem PM.rg_asc (M : PM ring ways n rs0 nm rs ws) : Asc nle (rg ring nm) :=
  sort_asc nleO (map_nodup fun a b ha hb e => M.np.inj (by have := M.hn; omega) (by have := M.hn; omega) e)
theorem rg_mem (x : Nat) : x ∈ rg ring nm ↔ ∃ a, a < ring ∧ x = nmf nm a := by
  unfold rg
  rw [List.mem_mergeSort, List.mem_map]
  exact ⟨fun ⟨a, h, e⟩ => ⟨a, List.mem_range.mp h, e.symm⟩, fun ⟨a, h, e⟩ => ⟨a, List.mem_range.mpr h, e.symm⟩⟩
theorem wst_mem (x : Nat) : x ∈ wst ring ways nm ↔ ∃ w, w < ways ∧ x = nmf nm (ring + w) := by
  unfold wst
  rw [List.mem_map]
  exact ⟨fun ⟨a, h, e⟩ => ⟨a, List.mem_range.mp h, e.symm⟩, fun ⟨a, h, e⟩ => ⟨a, List.mem_range.mpr h, e.symm⟩⟩
theorem rg_len : (rg ring nm).length = ring := by unfold rg; rw [List.length_mergeSort]; simp
theorem wst_len : (wst ring ways nm).length = ways := by unfold wst; simp
theorem PM.lt (M : PM ring ways n rs0 nm rs ws) {t : Nat} (h : t < ring + ways) : nmf nm t < n := M.np.lt' (by have := M.hn; omega)
def W0 (n : Nat) (nm ws : List Nat) : List Nat := (List.range n).filter fun t => decide (nmf nm t ∈ ws)
theorem W0_mem {t : Nat} (h : t < n) : t ∈ W0 n nm ws ↔ nmf nm t ∈ ws := by
  unfold W0; rw [List.mem_filter, List.mem_range]; simp [h]
theorem PM.wished (M : PM ring ways n rs0 nm rs ws) {t : Nat} (h : t < n) : nmf nm t ∈ ws ↔ ring + ways ≤ t := by
  rw [M.wm]
  constructor
  · rintro ⟨u, h1, h2, e⟩; rw [M.np.inj h h2 e]; exact h1
  · exact fun h' => ⟨t, h', h, rfl⟩
theorem PM.pc_ring (M : PM ring ways n rs0 nm rs ws) {a : Nat} (ha : a < ring) : PC n rs ws (nmf nm a) = rg ring nm := by
  have hn := M.hn
  have han : a < n := by omega
  have hw : nmf nm a ∉ ws := fun h => by have := (M.wished han).mp h; omega
  have hin := M.pl.lt hn M.h1
  refine Asc.ext nleO (by unfold PC; rw [if_neg hw]; exact (asc_range n).filter _) M.rg_asc fun x => ?_
  rw [mem_PC hw, rg_mem]
  have h0 : ∀ t, t < ring → t ∉ W0 n nm ws := fun t ht h => by
    have := (M.wished (by omega)).mp ((W0_mem (by omega)).mp h); omega
  have all : ∀ {b c : Nat}, b < ring → c < ring → Met rs ws (nmf nm b) (nmf nm c) := fun {b c} hb hc =>
    met_named' M.np hin M.rm (fun t ht => W0_mem ht) (by omega) (M.pl.all M.h1 h0 hb hc)
  constructor
  · rintro ⟨hx, rfl | ⟨m1, m2, m3⟩⟩
    · exact ⟨a, ha, rfl⟩
    · obtain ⟨b, hb, rfl⟩ := M.np.surj hx
      refine ⟨b, ?_, rfl⟩
      refine Classical.byContradiction fun hbr => ?_
      obtain ⟨c, hc, e, m⟩ := met_named M.np hin M.rm (fun t ht => W0_mem ht) hb m2
      have := M.np.inj han hc e
      subst this
      have := M.pl.waist M.h1 (by omega) m
      omega
  · rintro ⟨b, hb, rfl⟩
    have hbn : b < n := by omega
    exact ⟨M.np.lt' hbn, Or.inr ⟨all ha hb, all hb ha, fun h => by have := (M.wished hbn).mp h; omega⟩⟩
theorem PM.pc_waist (M : PM ring ways n rs0 nm rs ws) {wc : List Nat} (hsub : ∀ t, ring + ways ≤ t → t < n → nmf nm t ∈ wc) {w : Nat} (hw : w < ways) : PC n rs wc (nmf nm (ring + w)) = [nmf nm (ring + w)] := by
  have hn := M.hn
  have hin := M.pl.lt hn M.h1
  refine single_PC (M.lt (by omega)) fun _ b hb hbw m1 m2 => ?_
  obtain ⟨c, hc, rfl, m⟩ := met_named M.np hin M.rm (fun t ht => W0_mem ht) (by omega) m1
  exact absurd (hsub c (M.pl.waist M.h1 (by omega) m) hc) hbw
theorem PM.pcs (M : PM ring ways n rs0 nm rs ws) : PCS n rs ws = (rg ring nm :: (wst ring ways nm).map fun z => [z]).mergeSort lle := by
  have hn := M.hn
  have h1 := M.h1
  refine pcs_eq (sort_asc lleO ?_) fun x => ?_
  · rw [List.nodup_cons]
    constructor
    · intro h
      obtain ⟨z, hz, e⟩ := List.mem_map.mp h
      obtain ⟨w, hw, rfl⟩ := (wst_mem z).mp hz
      have h0 : nmf nm 0 ∈ rg ring nm := (rg_mem _).mpr ⟨0, h1, rfl⟩
      rw [← e, List.mem_singleton] at h0
      have := M.np.inj (by omega) (by omega) h0
      omega
    · unfold wst
      rw [List.map_map]
      unfold List.Nodup
      rw [List.pairwise_map]
      refine List.Pairwise.imp_of_mem ?_ (List.nodup_range (n := ways))
      intro a b ha hb hne e
      have ha := List.mem_range.mp ha
      have hb := List.mem_range.mp hb
      simp at e
      have := M.np.inj (a := ring + a) (b := ring + b) (by omega) (by omega) e
      omega
  · rw [List.mem_mergeSort, List.mem_cons, List.mem_map]
    constructor
    · rintro (rfl | ⟨z, hz, rfl⟩)
      · exact ⟨nmf nm 0, M.lt (by omega), fun h => by have := (M.wished (by omega)).mp h; omega, (M.pc_ring (by omega)).symm⟩
      · obtain ⟨w, hw, rfl⟩ := (wst_mem z).mp hz
        exact ⟨_, M.lt (by omega), fun h => by have := (M.wished (by omega)).mp h; omega, (M.pc_waist (fun t h h' => (M.wished h').mpr h) hw).symm⟩
    · rintro ⟨a, ha, haw, rfl⟩
      obtain ⟨t, ht, rfl⟩ := M.np.surj ha
      have htw : ¬ ring + ways ≤ t := fun h => haw ((M.wished ht).mpr h)
      rcases Nat.lt_or_ge t ring with h | h
      · exact Or.inl (M.pc_ring h)
      · refine Or.inr ⟨nmf nm t, (wst_mem _).mpr ⟨t - ring, by omega, by rw [show ring + (t - ring) = t by omega]⟩, ?_⟩
        have := M.pc_waist (wc := ws) (fun t h h' => (M.wished h').mpr h) (w := t - ring) (by omega)
        rw [show ring + (t - ring) = t by omega] at this
        exact this.symm
/-! with places of the ring wished -/
def wcut (ws gone : List Nat) : List Nat := (ws ++ gone).mergeSort nle
theorem wcut_mem {gone : List Nat} (x : Nat) : x ∈ wcut ws gone ↔ x ∈ ws ∨ x ∈ gone := by
  unfold wcut; rw [List.mem_mergeSort, List.mem_append]
theorem PM.cut_vm (M : PM ring ways n rs0 nm rs ws) {gone : List Nat} (ha : Asc nle gone) (hg : ∀ x ∈ gone, x ∈ rg ring nm) : VM n rs (wcut ws gone) := by
  have hn := M.hn
  refine ⟨M.vm.hn, M.vm.hr, M.vm.inr, M.vm.ar, fun w hw => ?_, sort_asc nleO ?_⟩
  · rcases (wcut_mem w).mp hw with h | h
    · exact M.vm.inw w h
    · obtain ⟨a, h, rfl⟩ := (rg_mem _).mp (hg w h)
      exact M.lt (by omega)
  · rw [List.nodup_append]
    refine ⟨M.vm.aw.nodup, ha.nodup, fun x hx y hy e => ?_⟩
    obtain ⟨a, h, rfl⟩ := (rg_mem _).mp (hg y hy)
    rw [e] at hx
    have := (M.wished (by omega)).mp hx; omega
theorem PM.cut_pc (M : PM ring ways n rs0 nm rs ws) {gone : List Nat} (hg : ∀ x ∈ gone, x ∈ rg ring nm) (hne : gone ≠ []) {t : Nat} (ht : t < ring + ways) : PC n rs (wcut ws gone) (nmf nm t) = [nmf nm t] := by
  have hn := M.hn
  have hin := M.pl.lt hn M.h1
  have sub : ∀ t, ring + ways ≤ t → t < n → nmf nm t ∈ wcut ws gone := fun t h h' => (wcut_mem _).mpr (Or.inl ((M.wished h').mpr h))
  rcases Nat.lt_or_ge t ring with h | h
  · refine single_PC (M.lt ht) fun haw b hb hbw m1 m2 => ?_
    obtain ⟨x, hx⟩ : ∃ x, x ∈ gone := by
      cases gone with
      | nil => exact absurd rfl hne
      | cons x r => exact ⟨x, by simp⟩
    obtain ⟨g, hgr, e⟩ := (rg_mem _).mp (hg x hx)
    have hgw : g ∈ W0 n nm (wcut ws gone) := (W0_mem (by omega)).mpr ((wcut_mem _).mpr (Or.inr (e ▸ hx)))
    obtain ⟨c, hc, rfl, mc⟩ := met_named M.np hin M.rm (fun t ht => W0_mem ht) (by omega) m1
    obtain ⟨d, hd, ed, md⟩ := met_named M.np hin M.rm (fun t ht => W0_mem ht) hc m2
    have : t = d := M.np.inj (by omega) hd ed
    subst this
    have hcr : c < ring := by
      refine Classical.byContradiction fun hcr => ?_
      have := M.pl.waist M.h1 (by omega) md; omega
    have hcg : c ≠ g := fun h => hbw ((wcut_mem _).mpr (Or.inr (by rw [h, ← e]; exact hx)))
    have htg : t ≠ g := fun h => haw ((wcut_mem _).mpr (Or.inr (by rw [h, ← e]; exact hx)))
    have p1 := M.pl.cut M.h1 hgr hgw h hcr hcg mc
    have p2 := M.pl.cut M.h1 hgr hgw hcr h htg md
    omega
  · have := M.pc_waist sub (w := t - ring) (by omega)
    rw [show ring + (t - ring) = t by omega] at this
    exact this
theorem PM.cut_pcs (M : PM ring ways n rs0 nm rs ws) {gone : List Nat} (hg : ∀ x ∈ gone, x ∈ rg ring nm) (hne : gone ≠ []) : PCS n rs (wcut ws gone) = (((rg ring nm ++ wst ring ways nm).filter fun z => !decide (z ∈ gone)).map fun z => [z]).mergeSort lle := by
  have hn := M.hn
  have mem : ∀ z, z ∈ rg ring nm ++ wst ring ways nm ↔ ∃ t, t < ring + ways ∧ z = nmf nm t := fun z => by
    rw [List.mem_append, rg_mem, wst_mem]
    constructor
    · rintro (⟨a, h, e⟩ | ⟨w, h, e⟩)
      · exact ⟨a, by omega, e⟩
      · exact ⟨ring + w, by omega, e⟩
    · rintro ⟨t, h, e⟩
      rcases Nat.lt_or_ge t ring with h' | h'
      · exact Or.inl ⟨t, h', e⟩
      · exact Or.inr ⟨t - ring, by omega, by rw [show ring + (t - ring) = t by omega]; exact e⟩
  refine pcs_eq (sort_asc lleO ?_) fun x => ?_
  · unfold List.Nodup
    rw [List.pairwise_map]
    suffices hnd : (rg ring nm ++ wst ring ways nm).Nodup from List.Pairwise.imp (R := fun a b : Nat => a ≠ b) (fun {a b} h (e : [a] = [b]) => h (by simpa using e)) (List.Pairwise.filter _ hnd)
    rw [List.nodup_append]
    refine ⟨M.rg_asc.nodup, ?_, fun x hx y hy e => ?_⟩
    · exact map_nodup fun a b ha hb e => by
        have := M.np.inj (a := ring + a) (b := ring + b) (by omega) (by omega) e
        omega
    · obtain ⟨a, h, rfl⟩ := (rg_mem _).mp hx
      obtain ⟨w, h', rfl⟩ := (wst_mem _).mp hy
      have := M.np.inj (by omega) (by omega) e
      omega
  · rw [List.mem_mergeSort, List.mem_map]
    constructor
    · rintro ⟨z, hz, rfl⟩
      have hz := List.mem_filter.mp hz
      obtain ⟨t, ht, rfl⟩ := (mem z).mp hz.1
      refine ⟨_, M.lt ht, fun h => ?_, (M.cut_pc hg hne ht).symm⟩
      rcases (wcut_mem _).mp h with h | h
      · have := (M.wished (by omega)).mp h; omega
      · have := hz.2; simp [h] at this
    · rintro ⟨a, ha, haw, rfl⟩
      obtain ⟨t, ht, rfl⟩ := M.np.surj ha
      have htw : t < ring + ways := by
        refine Classical.byContradiction fun h => haw ((wcut_mem _).mpr (Or.inl ((M.wished ht).mpr (by omega))))
      refine ⟨nmf nm t, List.mem_filter.mpr ⟨(mem _).mpr ⟨t, htw, rfl⟩, ?_⟩, (M.cut_pc hg hne htw).symm⟩
      have : nmf nm t ∉ gone := fun h => haw ((wcut_mem _).mpr (Or.inr h))
      simp [this]
end
end Sp
namespace Sp
open PySem Mi Mr
theorem law_w (ns : List Int) : W (m_law [.ref 0] [.rol (ns.map AV.int)]) fun v _ => v = .bl true := by
  unfold m_law b_law
  refine d_runn (by rfl) ?_
  simp only [w_calln, w_call, w_cons, w_nil, w_tup, w_lst, w_op, w_un, w_c, w_var0, w_varS, w_and, w_or, w_not, w_iteE, w_lmeth, t_val, t_tru, t_and, t_or, t_not, t_yes, w_ch0, w_ch1, w_ch2, w_pr0, w_pr1, w_ix20, w_ix21, w_ix30, w_ix31, w_ix32, w_inT, w_eqI, w_add, w_sub, w_lt, w_le, w_gt, w_ge, w_neg, w_lenT, w_int, w_min, w_max, w_tupT, onB_bl, truth_bl, x_seq, x_skip, KR_ret, TK_ret, TK_brk, TK_cnt, g_name, g_unp, g_allS, g_all0, g_sub, lz0, lz1, lz2, lz3, lz4, lz5, lz6, lz7, lz8, List.set, wipe, List.map_cons, List.map_nil, List.cons_append, List.nil_append, List.length_cons, List.length_nil, Nat.reduceAdd, Nat.reduceSub, List.replicate_succ, List.replicate_zero, eq_self, Bool.false_eq_true, if_true, if_false]
  refine x_asg ?_
  simp only [w_calln, w_call, w_cons, w_nil, w_tup, w_lst, w_op, w_un, w_c, w_var0, w_varS, w_and, w_or, w_not, w_iteE, w_lmeth, t_val, t_tru, t_and, t_or, t_not, t_yes, w_ch0, w_ch1, w_ch2, w_pr0, w_pr1, w_ix20, w_ix21, w_ix30, w_ix31, w_ix32, w_inT, w_eqI, w_add, w_sub, w_lt, w_le, w_gt, w_ge, w_neg, w_lenT, w_int, w_min, w_max, w_tupT, onB_bl, truth_bl, x_seq, x_skip, KR_ret, TK_ret, TK_brk, TK_cnt, g_name, g_unp, g_allS, g_all0, g_sub, lz0, lz1, lz2, lz3, lz4, lz5, lz6, lz7, lz8, List.set, wipe, List.map_cons, List.map_nil, List.cons_append, List.nil_append, List.length_cons, List.length_nil, Nat.reduceAdd, Nat.reduceSub, List.replicate_succ, List.replicate_zero, eq_self, Bool.false_eq_true, if_true, if_false]
  refine x_ife ?_
  simp only [w_calln, w_call, w_cons, w_nil, w_tup, w_lst, w_op, w_un, w_c, w_var0, w_varS, w_and, w_or, w_not, w_iteE, w_lmeth, t_val, t_tru, t_and, t_or, t_not, t_yes, w_ch0, w_ch1, w_ch2, w_pr0, w_pr1, w_ix20, w_ix21, w_ix30, w_ix31, w_ix32, w_inT, w_eqI, w_add, w_sub, w_lt, w_le, w_gt, w_ge, w_neg, w_lenT, w_int, w_min, w_max, w_tupT, onB_bl, truth_bl, x_seq, x_skip, KR_ret, TK_ret, TK_brk, TK_cnt, g_name, g_unp, g_allS, g_all0, g_sub, lz0, lz1, lz2, lz3, lz4, lz5, lz6, lz7, lz8, List.set, wipe, List.map_cons, List.map_nil, List.cons_append, List.nil_append, List.length_cons, List.length_nil, Nat.reduceAdd, Nat.reduceSub, List.replicate_succ, List.replicate_zero, eq_self, Bool.false_eq_true, if_true, if_false]
  generalize hs0 : [MO.rol (ns.map AV.int)] = s0
  have h0 : s0[0]? = some (.rol (ns.map AV.int)) := by subst hs0; rfl
  clear hs0
  refine pieces_w (n := 7) (rs := toldR) (ws := [4, 5, 6]) told1 fun s1 k1 => ?_
  rw [told1_PCS]
  have e1 : AV.tup [AV.tup [AV.int 0, AV.int 1, AV.int 2, AV.int 3]] = AV.tup ([[0, 1, 2, 3]].map tn) := rfl
  rw [e1, w_eqD true (m := 3) (by decide) (pln_tns _), onB_bl, if_neg (by decide)]
  refine pieces_w (n := 7) (rs := toldR) (ws := [0, 4, 5, 6]) told2 fun s2 k2 => ?_
  rw [told2_PCS]
  have e2 : AV.tup [AV.tup [AV.int 1], AV.tup [AV.int 2], AV.tup [AV.int 3]] = AV.tup ([[1], [2], [3]].map tn) := rfl
  rw [e2, w_eqD true (m := 3) (by decide) (pln_tns _), onB_bl, if_neg (by decide)]
  refine x_asg ?_
  simp only [w_calln, w_call, w_cons, w_nil, w_tup, w_lst, w_op, w_un, w_c, w_var0, w_varS, w_and, w_or, w_not, w_iteE, w_lmeth, t_val, t_tru, t_and, t_or, t_not, t_yes, w_ch0, w_ch1, w_ch2, w_pr0, w_pr1, w_ix20, w_ix21, w_ix30, w_ix31, w_ix32, w_inT, w_eqI, w_add, w_sub, w_lt, w_le, w_gt, w_ge, w_neg, w_lenT, w_int, w_min, w_max, w_tupT, onB_bl, truth_bl, x_seq, x_skip, KR_ret, TK_ret, TK_brk, TK_cnt, g_name, g_unp, g_allS, g_all0, g_sub, lz0, lz1, lz2, lz3, lz4, lz5, lz6, lz7, lz8, List.set, wipe, List.map_cons, List.map_nil, List.cons_append, List.nil_append, List.length_cons, List.length_nil, Nat.reduceAdd, Nat.reduceSub, List.replicate_succ, List.replicate_zero, eq_self, Bool.false_eq_true, if_true, if_false]
  refine pool_w ((k1.trans k2).2 _ _ (by simp) h0) fun p q s3 P3 k3 hp3 hq3 => ?_
  refine x_ife ?_
  simp only [w_calln, w_call, w_cons, w_nil, w_tup, w_lst, w_op, w_un, w_c, w_var0, w_varS, w_and, w_or, w_not, w_iteE, w_lmeth, t_val, t_tru, t_and, t_or, t_not, t_yes, w_ch0, w_ch1, w_ch2, w_pr0, w_pr1, w_ix20, w_ix21, w_ix30, w_ix31, w_ix32, w_inT, w_eqI, w_add, w_sub, w_lt, w_le, w_gt, w_ge, w_neg, w_lenT, w_int, w_min, w_max, w_tupT, onB_bl, truth_bl, x_seq, x_skip, KR_ret, TK_ret, TK_brk, TK_cnt, g_name, g_unp, g_allS, g_all0, g_sub, lz0, lz1, lz2, lz3, lz4, lz5, lz6, lz7, lz8, List.set, wipe, List.map_cons, List.map_nil, List.cons_append, List.nil_append, List.length_cons, List.length_nil, Nat.reduceAdd, Nat.reduceSub, List.replicate_succ, List.replicate_zero, eq_self, Bool.false_eq_true, if_true, if_false]
  refine map_drawn_w (most := 8) P3 (by decide) fun s4 n0 rs0 ws0 hn0 V0 hrl0 P4 k4 => ?_
  refine parted_w P4 V0 hrl0 fun s5 P5 k5 => ?_
  simp only [w_calln, w_call, w_cons, w_nil, w_tup, w_lst, w_op, w_un, w_c, w_var0, w_varS, w_and, w_or, w_not, w_iteE, w_lmeth, t_val, t_tru, t_and, t_or, t_not, t_yes, w_ch0, w_ch1, w_ch2, w_pr0, w_pr1, w_ix20, w_ix21, w_ix30, w_ix31, w_ix32, w_inT, w_eqI, w_add, w_sub, w_lt, w_le, w_gt, w_ge, w_neg, w_lenT, w_int, w_min, w_max, w_tupT, onB_bl, truth_bl, x_seq, x_skip, KR_ret, TK_ret, TK_brk, TK_cnt, g_name, g_unp, g_allS, g_all0, g_sub, lz0, lz1, lz2, lz3, lz4, lz5, lz6, lz7, lz8, List.set, wipe, List.map_cons, List.map_nil, List.cons_append, List.nil_append, List.length_cons, List.length_nil, Nat.reduceAdd, Nat.reduceSub, List.replicate_succ, List.replicate_zero, eq_self, Bool.false_eq_true, if_true, if_false, Bool.not_true]
  refine X_mono (N := fun en s' => ∃ size : Nat, 1 ≤ size ∧ size ≤ 24 ∧ (∃ r1, en = [some (.ref 0), r1, some (.ref p), some (nv size), none, none, none, none, none, none, none, none, none]) ∧ Pool s' p q) (K := fun _ => False) ?_ ?_ (fun _ h => h.elim)
  · refine x_asg ?_
    simp only [w_calln, w_call, w_cons, w_nil, w_tup, w_lst, w_op, w_un, w_c, w_var0, w_varS, w_and, w_or, w_not, w_iteE, w_lmeth, t_val, t_tru, t_and, t_or, t_not, t_yes, w_ch0, w_ch1, w_ch2, w_pr0, w_pr1, w_ix20, w_ix21, w_ix30, w_ix31, w_ix32, w_inT, w_eqI, w_add, w_sub, w_lt, w_le, w_gt, w_ge, w_neg, w_lenT, w_int, w_min, w_max, w_tupT, onB_bl, truth_bl, x_seq, x_skip, KR_ret, TK_ret, TK_brk, TK_cnt, g_name, g_unp, g_allS, g_all0, g_sub, lz0, lz1, lz2, lz3, lz4, lz5, lz6, lz7, lz8, List.set, wipe, List.map_cons, List.map_nil, List.cons_append, List.nil_append, List.length_cons, List.length_nil, Nat.reduceAdd, Nat.reduceSub, List.replicate_succ, List.replicate_zero, eq_self, Bool.false_eq_true, if_true, if_false]
    refine draw_w P5 (by omega) (by omega) fun r s6 hr P6 k6 => ?_
    simp only [w_calln, w_call, w_cons, w_nil, w_tup, w_lst, w_op, w_un, w_c, w_var0, w_varS, w_and, w_or, w_not, w_iteE, w_lmeth, t_val, t_tru, t_and, t_or, t_not, t_yes, w_ch0, w_ch1, w_ch2, w_pr0, w_pr1, w_ix20, w_ix21, w_ix30, w_ix31, w_ix32, w_inT, w_eqI, w_add, w_sub, w_lt, w_le, w_gt, w_ge, w_neg, w_lenT, w_int, w_min, w_max, w_tupT, onB_bl, truth_bl, x_seq, x_skip, KR_ret, TK_ret, TK_brk, TK_cnt, g_name, g_unp, g_allS, g_all0, g_sub, lz0, lz1, lz2, lz3, lz4, lz5, lz6, lz7, lz8, List.set, wipe, List.map_cons, List.map_nil, List.cons_append, List.nil_append, List.length_cons, List.length_nil, Nat.reduceAdd, Nat.reduceSub, List.replicate_succ, List.replicate_zero, eq_self, Bool.false_eq_true, if_true, if_false]
    split
    · exact ⟨24, by omega, by omega, ⟨_, rfl⟩, P6⟩
    · refine draw_w P6 (by omega) (by omega) fun r2 s7 hr2 P7 k7 => ?_
      simp only [w_calln, w_call, w_cons, w_nil, w_tup, w_lst, w_op, w_un, w_c, w_var0, w_varS, w_and, w_or, w_not, w_iteE, w_lmeth, t_val, t_tru, t_and, t_or, t_not, t_yes, w_ch0, w_ch1, w_ch2, w_pr0, w_pr1, w_ix20, w_ix21, w_ix30, w_ix31, w_ix32, w_inT, w_eqI, w_add, w_sub, w_lt, w_le, w_gt, w_ge, w_neg, w_lenT, w_int, w_min, w_max, w_tupT, onB_bl, truth_bl, x_seq, x_skip, KR_ret, TK_ret, TK_brk, TK_cnt, g_name, g_unp, g_allS, g_all0, g_sub, lz0, lz1, lz2, lz3, lz4, lz5, lz6, lz7, lz8, List.set, wipe, List.map_cons, List.map_nil, List.cons_append, List.nil_append, List.length_cons, List.length_nil, Nat.reduceAdd, Nat.reduceSub, List.replicate_succ, List.replicate_zero, eq_self, Bool.false_eq_true, if_true, if_false, nv_1add]
      exact ⟨1 + r2, by omega, by omega, ⟨_, rfl⟩, P7⟩
  rintro en s6 ⟨ring, hr1, hr2, ⟨r1, rfl⟩, P6⟩
  clear P5 P4 P3
  refine x_asg ?_
  simp only [w_calln, w_call, w_cons, w_nil, w_tup, w_lst, w_op, w_un, w_c, w_var0, w_varS, w_and, w_or, w_not, w_iteE, w_lmeth, t_val, t_tru, t_and, t_or, t_not, t_yes, w_ch0, w_ch1, w_ch2, w_pr0, w_pr1, w_ix20, w_ix21, w_ix30, w_ix31, w_ix32, w_inT, w_eqI, w_add, w_sub, w_lt, w_le, w_gt, w_ge, w_neg, w_lenT, w_int, w_min, w_max, w_tupT, onB_bl, truth_bl, x_seq, x_skip, KR_ret, TK_ret, TK_brk, TK_cnt, g_name, g_unp, g_allS, g_all0, g_sub, lz0, lz1, lz2, lz3, lz4, lz5, lz6, lz7, lz8, List.set, wipe, List.map_cons, List.map_nil, List.cons_append, List.nil_append, List.length_cons, List.length_nil, Nat.reduceAdd, Nat.reduceSub, List.replicate_succ, List.replicate_zero, eq_self, Bool.false_eq_true, if_true, if_false]
  refine draw_w P6 (by omega) (by omega) fun ways s7 hways P7 k7 => ?_
  have hways : ways < 4 := by omega
  refine planted_w (behind := 2) P7 hr1 (by decide) (by omega) fun l f1 f2 s8 n rs0 nm rs ws told hpl hn hn60 N V hrl rmem wmem P8 k8 hl hf1 hf2 hlst hring hwst => ?_
  have M : PM ring ways n rs0 nm rs ws := ⟨hpl, hn, hr1, N, V, rmem, wmem⟩
  change s8[f1]? = some (.lst ((rg ring nm).map nv)) at hring
  change s8[f2]? = some (.lst ((wst ring ways nm).map nv)) at hwst
  have np1 : f1 ≠ p ∧ f1 ≠ q := by have := P7.lt; omega
  have np2 : f2 ≠ p ∧ f2 ≠ q := by have := P7.lt; omega
  rw [g_unpL _ l _ (seqAt_lst hlst)]
  simp only [w_calln, w_call, w_cons, w_nil, w_tup, w_lst, w_op, w_un, w_c, w_var0, w_varS, w_and, w_or, w_not, w_iteE, w_lmeth, t_val, t_tru, t_and, t_or, t_not, t_yes, w_ch0, w_ch1, w_ch2, w_pr0, w_pr1, w_ix20, w_ix21, w_ix30, w_ix31, w_ix32, w_inT, w_eqI, w_add, w_sub, w_lt, w_le, w_gt, w_ge, w_neg, w_lenT, w_int, w_min, w_max, w_tupT, onB_bl, truth_bl, x_seq, x_skip, KR_ret, TK_ret, TK_brk, TK_cnt, g_name, g_unp, g_allS, g_all0, g_sub, lz0, lz1, lz2, lz3, lz4, lz5, lz6, lz7, lz8, List.set, wipe, List.map_cons, List.map_nil, List.cons_append, List.nil_append, List.length_cons, List.length_nil, Nat.reduceAdd, Nat.reduceSub, List.replicate_succ, List.replicate_zero, eq_self, Bool.false_eq_true, if_true, if_false]
  refine x_asg ?_
  simp only [w_calln, w_call, w_cons, w_nil, w_tup, w_lst, w_op, w_un, w_c, w_var0, w_varS, w_and, w_or, w_not, w_iteE, w_lmeth, t_val, t_tru, t_and, t_or, t_not, t_yes, w_ch0, w_ch1, w_ch2, w_pr0, w_pr1, w_ix20, w_ix21, w_ix30, w_ix31, w_ix32, w_inT, w_eqI, w_add, w_sub, w_lt, w_le, w_gt, w_ge, w_neg, w_lenT, w_int, w_min, w_max, w_tupT, onB_bl, truth_bl, x_seq, x_skip, KR_ret, TK_ret, TK_brk, TK_cnt, g_name, g_unp, g_allS, g_all0, g_sub, lz0, lz1, lz2, lz3, lz4, lz5, lz6, lz7, lz8, List.set, wipe, List.map_cons, List.map_nil, List.cons_append, List.nil_append, List.length_cons, List.length_nil, Nat.reduceAdd, Nat.reduceSub, List.replicate_succ, List.replicate_zero, eq_self, Bool.false_eq_true, if_true, if_false]
  rw [w_tupL (seqAt_lst hring)]
  refine lc_pure (wst ring ways nm) nv (fun _ => true) (fun z => tn [z]) (i_seq ?_)
  simp only [w_calln, w_call, w_cons, w_nil, w_tup, w_lst, w_op, w_un, w_c, w_var0, w_varS, w_and, w_or, w_not, w_iteE, w_lmeth, t_val, t_tru, t_and, t_or, t_not, t_yes, w_ch0, w_ch1, w_ch2, w_pr0, w_pr1, w_ix20, w_ix21, w_ix30, w_ix31, w_ix32, w_inT, w_eqI, w_add, w_sub, w_lt, w_le, w_gt, w_ge, w_neg, w_lenT, w_int, w_min, w_max, w_tupT, onB_bl, truth_bl, x_seq, x_skip, KR_ret, TK_ret, TK_brk, TK_cnt, g_name, g_unp, g_allS, g_all0, g_sub, lz0, lz1, lz2, lz3, lz4, lz5, lz6, lz7, lz8, List.set, wipe, List.map_cons, List.map_nil, List.cons_append, List.nil_append, List.length_cons, List.length_nil, Nat.reduceAdd, Nat.reduceSub, List.replicate_succ, List.replicate_zero, eq_self, Bool.false_eq_true, if_true, if_false]
  have k8a : Kp [] s8 (s8 ++ [MO.lst [AV.tup ((rg ring nm).map nv)]]) := Kp.app _ (Kp.refl _)
  refine .mk _ (Lk.lst (k8a.2 _ _ (by simp) hwst)) (fun e => nomatch e) (fun l e he => ?_)
  cases e
  refine .mk (by rw [wst_len]; unfold lineZ; omega) (Or.inr ⟨_, rfl, he⟩) ?_ ?_
  · intro z hz s' hk
    simp only [w_calln, w_call, w_cons, w_nil, w_tup, w_lst, w_op, w_un, w_c, w_var0, w_varS, w_and, w_or, w_not, w_iteE, w_lmeth, t_val, t_tru, t_and, t_or, t_not, t_yes, w_ch0, w_ch1, w_ch2, w_pr0, w_pr1, w_ix20, w_ix21, w_ix30, w_ix31, w_ix32, w_inT, w_eqI, w_add, w_sub, w_lt, w_le, w_gt, w_ge, w_neg, w_lenT, w_int, w_min, w_max, w_tupT, onB_bl, truth_bl, x_seq, x_skip, KR_ret, TK_ret, TK_brk, TK_cnt, g_name, g_unp, g_allS, g_all0, g_sub, lz0, lz1, lz2, lz3, lz4, lz5, lz6, lz7, lz8, List.set, wipe, List.map_cons, List.map_nil, List.cons_append, List.nil_append, List.length_cons, List.length_nil, Nat.reduceAdd, Nat.reduceSub, List.replicate_succ, List.replicate_zero, eq_self, Bool.false_eq_true, if_true, if_false]
    exact ⟨trivial, Kp.refl _, fun _ => ⟨rfl, Kp.refl _⟩⟩
  intro s9 k9 h9
  have e9 : (((wst ring ways nm).filter fun _ => true).map fun z => tn [z]) = ((wst ring ways nm).map fun z => [z]).map tn := by
    rw [List.filter_eq_self.mpr (fun _ _ => rfl), List.map_map]; rfl
  rw [e9] at h9
  rw [w_addL (xs := [AV.tup ((rg ring nm).map nv)]) (k9.2 _ _ (by simp) (by simp)) h9 (by simp [wst_len]; omega)]
  have e10 : [AV.tup ((rg ring nm).map nv)] ++ ((wst ring ways nm).map fun z => [z]).map tn = (rg ring nm :: (wst ring ways nm).map fun z => [z]).map tn := rfl
  have rgne : rg ring nm ≠ [] := fun e => by have := rg_len (ring := ring) (nm := nm); rw [e] at this; simp at this; omega
  rw [e10, sorted_w lle_s (xs := rg ring nm :: (wst ring ways nm).map fun z => [z]) (by simp) (by simp [wst_len]; omega) (srt_tn _ fun x hx => by
    rcases List.mem_cons.mp hx with rfl | hx
    · exact rgne
    · obtain ⟨z, _, rfl⟩ := List.mem_map.mp hx; simp), ← M.pcs]
  generalize hs10 : s9 ++ [MO.lst ((rg ring nm :: (wst ring ways nm).map fun z => [z]).map tn)] = s10
  have k10 : Kp [] s8 s10 := by subst hs10; exact Kp.app _ (k8a.trans k9)
  clear hs10
  have kS : Kp [] s10 (s10 ++ [MO.lst ((PCS n rs ws).map tn)]) := Kp.app _ (Kp.refl _)
  have kf : ∀ {f : Nat} {xs : List AV} {s' : Sto}, s8[f]? = some (.lst xs) → Kp [] s8 s' → s'[f]? = some (.lst xs) := fun h k => k.2 _ _ (by simp) h
  refine x_ife ?_
  simp only [w_calln, w_call, w_cons, w_nil, w_tup, w_lst, w_op, w_un, w_c, w_var0, w_varS, w_and, w_or, w_not, w_iteE, w_lmeth, t_val, t_tru, t_and, t_or, t_not, t_yes, w_ch0, w_ch1, w_ch2, w_pr0, w_pr1, w_ix20, w_ix21, w_ix30, w_ix31, w_ix32, w_inT, w_eqI, w_add, w_sub, w_lt, w_le, w_gt, w_ge, w_neg, w_lenT, w_int, w_min, w_max, w_tupT, onB_bl, truth_bl, x_seq, x_skip, KR_ret, TK_ret, TK_brk, TK_cnt, g_name, g_unp, g_allS, g_all0, g_sub, lz0, lz1, lz2, lz3, lz4, lz5, lz6, lz7, lz8, List.set, wipe, List.map_cons, List.map_nil, List.cons_append, List.nil_append, List.length_cons, List.length_nil, Nat.reduceAdd, Nat.reduceSub, List.replicate_succ, List.replicate_zero, eq_self, Bool.false_eq_true, if_true, if_false]
  refine pieces_w V fun s11 k11 => ?_
  have k811 : Kp [] s8 s11 := (k10.trans kS).trans k11
  rw [repr_PCS hn60]
  rw [w_tupL (xs := (PCS n rs ws).map tn) (seqAt_lst (k11.2 _ _ (by simp) (by simp))), repr_PCS hn60, eq_shown true (pln_tns _), onB_bl, if_neg (by decide)]
  refine pick_w (P8.keep k811) (kf hring k811) np1.1 np1.2 (by rw [rg_len]; omega) (by rw [rg_len]; omega) fun x s12 hx P12 k12 => ?_
  obtain ⟨a, ha, rfl⟩ := (rg_mem x).mp hx
  have hring12 := k12.2 _ _ (by simp [np1.1, np1.2]) (kf hring k811)
  have hwst12 := k12.2 _ _ (by simp [np2.1, np2.2]) (kf hwst k811)
  refine piece_w V (M.lt (by omega)) fun s13 k13 => ?_
  have hrgl : (rg ring nm).length ≤ 64 := by rw [rg_len]; omega
  have hrgx : ∀ x ∈ rg ring nm, x < 1000000 := fun x hx => by
    obtain ⟨b, hb, rfl⟩ := (rg_mem x).mp hx
    have := M.lt (t := b) (by omega); omega
  rw [M.pc_ring ha, repr_tn hrgl hrgx]
  have hring13 := k13.2 _ _ (by simp) hring12
  have hwst13 := k13.2 _ _ (by simp) hwst12
  have P13 := P12.keep k13
  rw [w_tupL (seqAt_lst hring13), map_nv_tn, repr_tn hrgl hrgx, eq_shown true (pln_tn _), onB_bl, if_neg (by decide)]
  refine x_asg ?_
  simp only [w_calln, w_call, w_cons, w_nil, w_tup, w_lst, w_op, w_un, w_c, w_var0, w_varS, w_and, w_or, w_not, w_iteE, w_lmeth, t_val, t_tru, t_and, t_or, t_not, t_yes, w_ch0, w_ch1, w_ch2, w_pr0, w_pr1, w_ix20, w_ix21, w_ix30, w_ix31, w_ix32, w_inT, w_eqI, w_add, w_sub, w_lt, w_le, w_gt, w_ge, w_neg, w_lenT, w_int, w_min, w_max, w_tupT, onB_bl, truth_bl, x_seq, x_skip, KR_ret, TK_ret, TK_brk, TK_cnt, g_name, g_unp, g_allS, g_all0, g_sub, lz0, lz1, lz2, lz3, lz4, lz5, lz6, lz7, lz8, List.set, wipe, List.map_cons, List.map_nil, List.cons_append, List.nil_append, List.length_cons, List.length_nil, Nat.reduceAdd, Nat.reduceSub, List.replicate_succ, List.replicate_zero, eq_self, Bool.false_eq_true, if_true, if_false]
  refine pick_w P13 hring13 np1.1 np1.2 (by rw [rg_len]; omega) (by rw [rg_len]; omega) fun x1 s14 hx1 P14 k14 => ?_
  have hring14 := k14.2 _ _ (by simp [np1.1, np1.2]) hring13
  have hwst14 := k14.2 _ _ (by simp [np2.1, np2.2]) hwst13
  refine pick_w P14 hring14 np1.1 np1.2 (by rw [rg_len]; omega) (by rw [rg_len]; omega) fun x2 s15 hx2 P15 k15 => ?_
  have hring15 := k15.2 _ _ (by simp [np1.1, np1.2]) hring14
  have hwst15 := k15.2 _ _ (by simp [np2.1, np2.2]) hwst14
  have kT : Kp [] s15 (s15 ++ [MO.lst [nv x1, nv x2]]) := Kp.app _ (Kp.refl _)
  refine sset_w nleO nv_inj nle_s (xs := [x1, x2]) (by simp) (by simp) (fun ys _ => srt_nv ys) fun lg s16 gone k16 hlg hasc hmem hlen hgone => ?_
  have hg : ∀ x ∈ gone, x ∈ rg ring nm := fun x hx => by
    have := (hmem x).mp hx
    rcases List.mem_cons.mp this with rfl | h
    · exact hx1
    · rw [List.mem_singleton.mp h]; exact hx2
  have hgne : gone ≠ [] := fun e => by have := (hmem x1).mpr (by simp); rw [e] at this; exact nomatch this
  have k1516 : Kp [] s15 s16 := kT.trans k16
  have P16 := P15.keep k1516
  have hring16 := k1516.2 _ _ (by simp) hring15
  have hwst16 := k1516.2 _ _ (by simp) hwst15
  have hlg2 : s15.length ≤ lg := by have := kT.1; omega
  have npg : lg ≠ p ∧ lg ≠ q := by have := P15.lt; omega
  have hlen2 : gone.length ≤ 2 := hlen
  refine x_asg ?_
  simp only [w_calln, w_call, w_cons, w_nil, w_tup, w_lst, w_op, w_un, w_c, w_var0, w_varS, w_and, w_or, w_not, w_iteE, w_lmeth, t_val, t_tru, t_and, t_or, t_not, t_yes, w_ch0, w_ch1, w_ch2, w_pr0, w_pr1, w_ix20, w_ix21, w_ix30, w_ix31, w_ix32, w_inT, w_eqI, w_add, w_sub, w_lt, w_le, w_gt, w_ge, w_neg, w_lenT, w_int, w_min, w_max, w_tupT, onB_bl, truth_bl, x_seq, x_skip, KR_ret, TK_ret, TK_brk, TK_cnt, g_name, g_unp, g_allS, g_all0, g_sub, lz0, lz1, lz2, lz3, lz4, lz5, lz6, lz7, lz8, List.set, wipe, List.map_cons, List.map_nil, List.cons_append, List.nil_append, List.length_cons, List.length_nil, Nat.reduceAdd, Nat.reduceSub, List.replicate_succ, List.replicate_zero, eq_self, Bool.false_eq_true, if_true, if_false]
  have kL : Kp [] s16 (s16 ++ [MO.lst (ws.map nv)]) := Kp.app _ (Kp.refl _)
  have hwsl := asc_len V
  rw [w_lstT, w_addL (xs := ws.map nv) (ys := gone.map nv) (by simp) (kL.2 _ _ (by simp) hgone) (by simp; omega), ← List.map_append, sorted_w nle_s (xs := ws ++ gone) (by simp) (by rw [List.length_append]; omega) (srt_nv _)]
  have eC : (ws ++ gone).mergeSort nle = wcut ws gone := rfl
  rw [eC, w_tupL (xs := (wcut ws gone).map nv) (seqAt_lst (by simp))]
  generalize hs17 : s16 ++ [MO.lst (ws.map nv)] ++ [MO.lst ((ws ++ gone).map nv)] ++ [MO.lst ((wcut ws gone).map nv)] = s17
  have k17 : Kp [] s16 s17 := by subst hs17; exact Kp.app _ (Kp.app _ (Kp.app _ (Kp.refl _)))
  clear hs17
  have eCH : AV.tup [nv n, AV.tup (rs.map pr), AV.tup ((wcut ws gone).map nv)] = CH n rs (wcut ws gone) := rfl
  rw [eCH]
  have VC := M.cut_vm hasc hg
  have hring17 := k17.2 _ _ (by simp) hring16
  have hwst17 := k17.2 _ _ (by simp) hwst16
  have hgone17 := k17.2 _ _ (by simp) hgone
  have P17 := P16.keep k17
  refine x_asg ?_
  simp only [w_calln, w_call, w_cons, w_nil, w_tup, w_lst, w_op, w_un, w_c, w_var0, w_varS, w_and, w_or, w_not, w_iteE, w_lmeth, t_val, t_tru, t_and, t_or, t_not, t_yes, w_ch0, w_ch1, w_ch2, w_pr0, w_pr1, w_ix20, w_ix21, w_ix30, w_ix31, w_ix32, w_inT, w_eqI, w_add, w_sub, w_lt, w_le, w_gt, w_ge, w_neg, w_lenT, w_int, w_min, w_max, w_tupT, onB_bl, truth_bl, x_seq, x_skip, KR_ret, TK_ret, TK_brk, TK_cnt, g_name, g_unp, g_allS, g_all0, g_sub, lz0, lz1, lz2, lz3, lz4, lz5, lz6, lz7, lz8, List.set, wipe, List.map_cons, List.map_nil, List.cons_append, List.nil_append, List.length_cons, List.length_nil, Nat.reduceAdd, Nat.reduceSub, List.replicate_succ, List.replicate_zero, eq_self, Bool.false_eq_true, if_true, if_false]
  refine lc_pure (rg ring nm ++ wst ring ways nm) nv (fun z => !decide (z ∈ gone)) (fun z => tn [z]) (i_seq ?_)
  simp only [w_calln, w_call, w_cons, w_nil, w_tup, w_lst, w_op, w_un, w_c, w_var0, w_varS, w_and, w_or, w_not, w_iteE, w_lmeth, t_val, t_tru, t_and, t_or, t_not, t_yes, w_ch0, w_ch1, w_ch2, w_pr0, w_pr1, w_ix20, w_ix21, w_ix30, w_ix31, w_ix32, w_inT, w_eqI, w_add, w_sub, w_lt, w_le, w_gt, w_ge, w_neg, w_lenT, w_int, w_min, w_max, w_tupT, onB_bl, truth_bl, x_seq, x_skip, KR_ret, TK_ret, TK_brk, TK_cnt, g_name, g_unp, g_allS, g_all0, g_sub, lz0, lz1, lz2, lz3, lz4, lz5, lz6, lz7, lz8, List.set, wipe, List.map_cons, List.map_nil, List.cons_append, List.nil_append, List.length_cons, List.length_nil, Nat.reduceAdd, Nat.reduceSub, List.replicate_succ, List.replicate_zero, eq_self, Bool.false_eq_true, if_true, if_false]
  rw [w_addL hring17 hwst17 (by simp [rg_len, wst_len]; omega), ← List.map_append]
  have kA : Kp [] s17 (s17 ++ [MO.lst ((rg ring nm ++ wst ring ways nm).map nv)]) := Kp.app _ (Kp.refl _)
  refine .mk ((rg ring nm ++ wst ring ways nm).map nv) (Lk.lst (by simp)) (fun e => nomatch e) (fun l e he => ?_)
  cases e
  refine .mk (by rw [List.length_append, rg_len, wst_len]; unfold lineZ; omega) (Or.inr ⟨_, rfl, he⟩) ?_ ?_
  · intro z hz s' hk
    simp only [w_calln, w_call, w_cons, w_nil, w_tup, w_lst, w_op, w_un, w_c, w_var0, w_varS, w_and, w_or, w_not, w_iteE, w_lmeth, t_val, t_tru, t_and, t_or, t_not, t_yes, w_ch0, w_ch1, w_ch2, w_pr0, w_pr1, w_ix20, w_ix21, w_ix30, w_ix31, w_ix32, w_inT, w_eqI, w_add, w_sub, w_lt, w_le, w_gt, w_ge, w_neg, w_lenT, w_int, w_min, w_max, w_tupT, onB_bl, truth_bl, x_seq, x_skip, KR_ret, TK_ret, TK_brk, TK_cnt, g_name, g_unp, g_allS, g_all0, g_sub, lz0, lz1, lz2, lz3, lz4, lz5, lz6, lz7, lz8, List.set, wipe, List.map_cons, List.map_nil, List.cons_append, List.nil_append, List.length_cons, List.length_nil, Nat.reduceAdd, Nat.reduceSub, List.replicate_succ, List.replicate_zero, eq_self, Bool.false_eq_true, if_true, if_false]
    rw [w_inL true z lg gone (seqAt_lst ((kA.trans hk).2 _ _ (by simp) hgone17))]
    simp only [w_calln, w_call, w_cons, w_nil, w_tup, w_lst, w_op, w_un, w_c, w_var0, w_varS, w_and, w_or, w_not, w_iteE, w_lmeth, t_val, t_tru, t_and, t_or, t_not, t_yes, w_ch0, w_ch1, w_ch2, w_pr0, w_pr1, w_ix20, w_ix21, w_ix30, w_ix31, w_ix32, w_inT, w_eqI, w_add, w_sub, w_lt, w_le, w_gt, w_ge, w_neg, w_lenT, w_int, w_min, w_max, w_tupT, onB_bl, truth_bl, x_seq, x_skip, KR_ret, TK_ret, TK_brk, TK_cnt, g_name, g_unp, g_allS, g_all0, g_sub, lz0, lz1, lz2, lz3, lz4, lz5, lz6, lz7, lz8, List.set, wipe, List.map_cons, List.map_nil, List.cons_append, List.nil_append, List.length_cons, List.length_nil, Nat.reduceAdd, Nat.reduceSub, List.replicate_succ, List.replicate_zero, eq_self, Bool.false_eq_true, if_true, if_false]
    exact ⟨by simp, Kp.refl _, fun _ => ⟨rfl, Kp.refl _⟩⟩
  intro s18 k18 h18
  have e18 : (((rg ring nm ++ wst ring ways nm).filter fun z => !decide (z ∈ gone)).map fun z => tn [z]) = (((rg ring nm ++ wst ring ways nm).filter fun z => !decide (z ∈ gone)).map fun z => [z]).map tn := by
    rw [List.map_map]; rfl
  rw [e18] at h18
  rw [sorted_w lle_s h18 (by
    rw [List.length_map]
    have := List.length_filter_le (fun z => !decide (z ∈ gone)) (rg ring nm ++ wst ring ways nm)
    rw [List.length_append, rg_len, wst_len] at this; omega) (srt_tn _ fun x hx => by obtain ⟨z, _, rfl⟩ := List.mem_map.mp hx; simp), ← M.cut_pcs hg hgne]
  have k1718 : Kp [] s17 s18 := kA.trans k18
  have kB : Kp [] s18 (s18 ++ [MO.lst ((PCS n rs (wcut ws gone)).map tn)]) := Kp.app _ (Kp.refl _)
  refine x_ife ?_
  simp only [w_calln, w_call, w_cons, w_nil, w_tup, w_lst, w_op, w_un, w_c, w_var0, w_varS, w_and, w_or, w_not, w_iteE, w_lmeth, t_val, t_tru, t_and, t_or, t_not, t_yes, w_ch0, w_ch1, w_ch2, w_pr0, w_pr1, w_ix20, w_ix21, w_ix30, w_ix31, w_ix32, w_inT, w_eqI, w_add, w_sub, w_lt, w_le, w_gt, w_ge, w_neg, w_lenT, w_int, w_min, w_max, w_tupT, onB_bl, truth_bl, x_seq, x_skip, KR_ret, TK_ret, TK_brk, TK_cnt, g_name, g_unp, g_allS, g_all0, g_sub, lz0, lz1, lz2, lz3, lz4, lz5, lz6, lz7, lz8, List.set, wipe, List.map_cons, List.map_nil, List.cons_append, List.nil_append, List.length_cons, List.length_nil, Nat.reduceAdd, Nat.reduceSub, List.replicate_succ, List.replicate_zero, eq_self, Bool.false_eq_true, if_true, if_false]
  refine pieces_w VC fun s19 k19 => ?_
  rw [repr_PCS hn60, w_tupL (xs := (PCS n rs (wcut ws gone)).map tn) (seqAt_lst (k19.2 _ _ (by simp) (by simp))), repr_PCS hn60, eq_shown true (pln_tns _), onB_bl, if_neg (by decide)]
  have k1719 : Kp [] s17 s19 := (k1718.trans kB).trans k19
  refine x_asg ?_
  simp only [w_calln, w_call, w_cons, w_nil, w_tup, w_lst, w_op, w_un, w_c, w_var0, w_varS, w_and, w_or, w_not, w_iteE, w_lmeth, t_val, t_tru, t_and, t_or, t_not, t_yes, w_ch0, w_ch1, w_ch2, w_pr0, w_pr1, w_ix20, w_ix21, w_ix30, w_ix31, w_ix32, w_inT, w_eqI, w_add, w_sub, w_lt, w_le, w_gt, w_ge, w_neg, w_lenT, w_int, w_min, w_max, w_tupT, onB_bl, truth_bl, x_seq, x_skip, KR_ret, TK_ret, TK_brk, TK_cnt, g_name, g_unp, g_allS, g_all0, g_sub, lz0, lz1, lz2, lz3, lz4, lz5, lz6, lz7, lz8, List.set, wipe, List.map_cons, List.map_nil, List.cons_append, List.nil_append, List.length_cons, List.length_nil, Nat.reduceAdd, Nat.reduceSub, List.replicate_succ, List.replicate_zero, eq_self, Bool.false_eq_true, if_true, if_false]
  refine pick_w (P17.keep k1719) (k1719.2 _ _ (by simp) hring17) np1.1 np1.2 (by rw [rg_len]; omega) (by rw [rg_len]; omega) fun y s20 hy P20 k20 => ?_
  have one : ∀ {x : Nat}, x ∈ rg ring nm → x < n ∧ PC n rs (wcut ws gone) x = [x] := fun {x} hx => by
    obtain ⟨b, hb, rfl⟩ := (rg_mem x).mp hx
    exact ⟨M.lt (by omega), M.cut_pc hg hgne (by omega)⟩
  have sm : ∀ {x : Nat}, x ∈ rg ring nm → ∀ z ∈ [x], z < 1000000 := fun {x} hx z hz => by
    rw [List.mem_singleton.mp hz]; exact hrgx x hx
  refine x_ret ?_
  simp only [w_calln, w_call, w_cons, w_nil, w_tup, w_lst, w_op, w_un, w_c, w_var0, w_varS, w_and, w_or, w_not, w_iteE, w_lmeth, t_val, t_tru, t_and, t_or, t_not, t_yes, w_ch0, w_ch1, w_ch2, w_pr0, w_pr1, w_ix20, w_ix21, w_ix30, w_ix31, w_ix32, w_inT, w_eqI, w_add, w_sub, w_lt, w_le, w_gt, w_ge, w_neg, w_lenT, w_int, w_min, w_max, w_tupT, onB_bl, truth_bl, x_seq, x_skip, KR_ret, TK_ret, TK_brk, TK_cnt, g_name, g_unp, g_allS, g_all0, g_sub, lz0, lz1, lz2, lz3, lz4, lz5, lz6, lz7, lz8, List.set, wipe, List.map_cons, List.map_nil, List.cons_append, List.nil_append, List.length_cons, List.length_nil, Nat.reduceAdd, Nat.reduceSub, List.replicate_succ, List.replicate_zero, eq_self, Bool.false_eq_true, if_true, if_false]
  refine piece_w VC (one hy).1 fun s21 k21 => ?_
  have eY : ∀ x : Nat, AV.tup [nv x] = tn [x] := fun _ => rfl
  rw [(one hy).2, repr_tn (by simp) (sm hy), eY, repr_tn (by simp) (sm hy), eq_shown false (pln_tn _), onB_bl, if_pos (by decide)]
  have hgone21 : s21[lg]? = some (.lst (gone.map nv)) := k21.2 _ _ (by simp) (k20.2 _ _ (by simp [npg.1, npg.2]) (k1719.2 _ _ (by simp) hgone17))
  obtain ⟨g0, gr, eg⟩ : ∃ g0 gr, gone = g0 :: gr := by
    cases gone with
    | nil => exact absurd rfl hgne
    | cons a b => exact ⟨a, b, rfl⟩
  have hg0 : g0 ∈ rg ring nm := hg g0 (by rw [eg]; simp)
  have ixg : ∀ {s' : Sto} {Q : AV → Sto → Prop}, s'[lg]? = some (.lst (gone.map nv)) → W (ixAV (.ref lg) (.int 0) s') Q = Q (nv g0) s' := fun {s' Q} h =>
    w_ixL (k := 0) (seqAt_lst h) (by rw [eg]; rfl)
  rw [ixg hgone21]
  refine piece_w VC (one hg0).1 fun s22 k22 => ?_
  rw [(one hg0).2, repr_tn (by simp) (sm hg0), ixg (k22.2 _ _ (by simp) hgone21), eY, repr_tn (by simp) (sm hg0), eq_shown false (pln_tn _)]
  rfl
theorem law_ok : Br.LawOk Mr.m_law := fun ns _ => by
  obtain ⟨v, s, e, rfl⟩ := W_ex (law_w ns)
  exact ⟨s, e⟩
end Sp
set_option Elab.async false
open PySem PySem.W PyProof.Rows in
set_option maxRecDepth 100000 in
set_option maxHeartbeats 0 in
theorem PySem.Challenge.cw_fewtraps_k04_pieces_of_maps_holds : PySem.Challenge.rw_fewtraps_k04_pieces_of_maps.Holds := by
  w_on; o_law; k_head; (case hw => w_witness2)
  k_fill
  refine Br.walkG (l := PySem.Challenge.rw_fewtraps_k04_pieces_of_maps) (k := 8) (x := "script") (m := fun _ => Mr.m_law) rfl rfl ⟨rfl, by decide, by decide⟩ (fun w h Y => PySem.W.kIn_of Y) ?F (fun _ => Sp.law_ok)
  case F =>
    intro w mg fa h KX G hmg
    refine' Rf.all_mk KX G hmg ?a0 ?l0 ?c0 ?k0 ?a1 ?l1 ?c1 ?k1 ?a2 ?l2 ?c2 ?k2 ?a3 ?l3 ?c3 ?k3 ?a4 ?l4 ?c4 ?k4 ?a5 ?l5 ?c5 ?k5 ?a6 ?l6 ?c6 ?k6 ?a7 ?l7 ?c7 ?k7 ?a8 ?l8 ?c8 ?k8 ?a9 ?l9 ?c9 ?k9 ?a10 ?l10 ?c10 ?k10 ?a11 ?l11 ?c11 ?k11 ?a12 ?l12 ?c12 ?k12 ?a13 ?l13 ?c13 ?k13 ?a14 ?l14 ?c14 ?k14 ?a15 ?l15 ?c15 ?k15 ?a16 ?l16 ?c16 ?k16 ?a17 ?l17 ?c17 ?k17 ?a18 ?l18 ?c18 ?k18 ?a19 ?l19 ?c19 ?k19 ?a20 ?l20 ?c20 ?k20 ?a21 ?l21 ?c21 ?k21 ?a22 ?l22 ?c22 ?k22 ?a23 ?l23 ?c23 ?k23 ?a24 ?l24 ?c24 ?k24 ?a25 ?l25 ?c25 ?k25 ?a26 ?l26 ?c26 ?k26 ?a27 ?l27 ?c27 ?k27 ?a28 ?l28 ?c28 ?k28 ?a29 ?l29 ?c29 ?k29 ?a30 ?l30 ?c30 ?k30 ?z_int ?z_isinstance ?z_bool ?z_tuple ?z_len ?z_range ?z_list ?z_set ?z_sorted ?z_min ?z_max ?z_repr ?q_MOST_PLACES ?q_MOST_ROADS
    (case a0 => k_is)
    (case l0 => k_is)
    (case c0 => k_is)
    (case k0 => k_is)
    (case a1 => k_is)
    (case l1 => k_is)
    (case c1 => k_is)
    (case k1 => k_is)
    (case a2 => k_is)
    (case l2 => k_is)
    (case c2 => k_is)
    (case k2 => k_is)
    (case a3 => k_is)
    (case l3 => k_is)
    (case c3 => k_is)
    (case k3 => k_is)
    (case a4 => k_is)
    (case l4 => k_is)
    (case c4 => k_is)
    (case k4 => k_is)
    (case a5 => k_is)
    (case l5 => k_is)
    (case c5 => k_is)
    (case k5 => k_is)
    (case a6 => k_is)
    (case l6 => k_is)
    (case c6 => k_is)
    (case k6 => k_is)
    (case a7 => k_is)
    (case l7 => k_is)
    (case c7 => k_is)
    (case k7 => k_is)
    (case a8 => k_is)
    (case l8 => k_is)
    (case c8 => k_is)
    (case k8 => k_is)
    (case a9 => k_is)
    (case l9 => k_is)
    (case c9 => k_is)
    (case k9 => k_is)
    (case a10 => k_is)
    (case l10 => k_is)
    (case c10 => k_is)
    (case k10 => k_is)
    (case a11 => k_is)
    (case l11 => k_is)
    (case c11 => k_is)
    (case k11 => k_is)
    (case a12 => k_is)
    (case l12 => k_is)
    (case c12 => k_is)
    (case k12 => k_is)
    (case a13 => k_is)
    (case l13 => k_is)
    (case c13 => k_is)
    (case k13 => k_is)
    (case a14 => k_is)
    (case l14 => k_is)
    (case c14 => k_is)
    (case k14 => k_is)
    (case a15 => k_is)
    (case l15 => k_is)
    (case c15 => k_is)
    (case k15 => k_is)
    (case a16 => k_is)
    (case l16 => k_is)
    (case c16 => k_is)
    (case k16 => k_is)
    (case a17 => k_is)
    (case l17 => k_is)
    (case c17 => k_is)
    (case k17 => k_is)
    (case a18 => k_is)
    (case l18 => k_is)
    (case c18 => k_is)
    (case k18 => k_is)
    (case a19 => k_is)
    (case l19 => k_is)
    (case c19 => k_is)
    (case k19 => k_is)
    (case a20 => k_is)
    (case l20 => k_is)
    (case c20 => k_is)
    (case k20 => k_is)
    (case a21 => k_is)
    (case l21 => k_is)
    (case c21 => k_is)
    (case k21 => k_is)
    (case a22 => k_is)
    (case l22 => k_is)
    (case c22 => k_is)
    (case k22 => k_is)
    (case a23 => k_is)
    (case l23 => k_is)
    (case c23 => k_is)
    (case k23 => k_is)
    (case a24 => k_is)
    (case l24 => k_is)
    (case c24 => k_is)
    (case k24 => k_is)
    (case a25 => k_is)
    (case l25 => k_is)
    (case c25 => k_is)
    (case k25 => k_is)
    (case a26 => k_is)
    (case l26 => k_is)
    (case c26 => k_is)
    (case k26 => k_is)
    (case a27 => k_is)
    (case l27 => k_is)
    (case c27 => k_is)
    (case k27 => k_is)
    (case a28 => k_is)
    (case l28 => k_is)
    (case c28 => k_is)
    (case k28 => k_is)
    (case a29 => k_is)
    (case l29 => k_is)
    (case c29 => k_is)
    (case k29 => k_is)
    (case a30 => k_is)
    (case l30 => k_is)
    (case c30 => k_is)
    (case k30 => k_is)
    (case z_int => k_is)
    (case z_isinstance => k_is)
    (case z_bool => k_is)
    (case z_tuple => k_is)
    (case z_len => k_is)
    (case z_range => k_is)
    (case z_list => k_is)
    (case z_set => k_is)
    (case z_sorted => k_is)
    (case z_min => k_is)
    (case z_max => k_is)
    (case z_repr => k_is)
    (case q_MOST_PLACES => k_is)
    (case q_MOST_ROADS => k_is)
#print axioms PySem.Challenge.cw_fewtraps_k04_pieces_of_maps_holds
