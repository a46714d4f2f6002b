import PyProof.Rows.All
import Wide.All
import OpenK.AllK
import Wide.FinOn
import PyProof.ReprReads
import HandS.ForMost
import HandS.ForExc
import HandS.ExcOwn
import HandS.TryOnly
import HandS.Defaults
import HandS.TupAny
import HandS.IsInst
import HandS.Wide
import KE.DatumIndex
import HandS.Conv
import HandS.Rev
import HandS.TupMul
import HandS.WideBits
import HandS.Zip
import KE.GoesMore
import KE.GoesEnum
import HandS.EndBits
import HandS.Small
import HandS.Style
import HandS.Strs
import KE.KIndexOf
import PyProof.ReprRoads
import PyProof.DictUpdate
import HandS.ExcInit
import HandS.ExcIs
import HandS.ExcField
import HandS.ClsMeth
import KE.KExcIs
import HandS.Head0
import HandS.Head1
import HandS.Head2
import HandS.HeadEnd
import HandS.HeadHook1
import HandS.HeadHook2
import HandS.HeadHook4
import HandS.Words
import PySem.Challenge.RW_turnback_k20_ways_back
set_option Elab.async false

/-! ## TbCore -/
section
set_option linter.all false
set_option autoImplicit false
/-! A small language of data and a store of mutable things: what a def of the program does, as a plain function. -/
namespace TB
open PySem

/-- data: trees that never change, and places of the store -/
inductive D where
  | non | bl (b : Bool) | int (i : Int) | str (s : Str) | tup (xs : List D)
  /-- a tuple of which the walk knows that it has no dict of its own (for t.index) -/
  | ptup (xs : List D)
  /-- a list that is read alone (the script), a list by its value in comparisons -/
  | lstv (xs : List D)
  /-- the n-th mutable thing of the store -/
  | loc (n : Nat)
  /-- a def or class of the module -/
  | gl (x : Str)
  /-- a built-in class -/
  | ty (n : String)
  /-- an exception: its class, its fields -/
  | exc (c : Str) (fs : List D)

mutual
def D.beq : D → D → Bool
  | .non, .non => true
  | .bl a, .bl b => a == b
  | .int a, .int b => a == b
  | .str a, .str b => decide (a = b)
  | .tup a, .tup b => D.beqL a b
  | .lstv a, .lstv b => D.beqL a b
  | .ptup a, .ptup b => D.beqL a b
  | .loc a, .loc b => a == b
  | .gl a, .gl b => decide (a = b)
  | .ty a, .ty b => a == b
  | .exc c a, .exc d b => decide (c = d) && D.beqL a b
  | _, _ => false
def D.beqL : List D → List D → Bool
  | [], [] => true
  | a :: as, b :: bs => D.beq a b && D.beqL as bs
  | _, _ => false
end
mutual
theorem D.beq_self : ∀ a : D, D.beq a a = true
  | .non => rfl
  | .bl a => by simp [D.beq]
  | .int a => by simp [D.beq]
  | .str a => by simp [D.beq]
  | .tup a => by rw [D.beq]; exact D.beqL_self a
  | .lstv a => by rw [D.beq]; exact D.beqL_self a
  | .ptup a => by rw [D.beq]; exact D.beqL_self a
  | .loc a => by simp [D.beq]
  | .gl a => by simp [D.beq]
  | .ty a => by simp [D.beq]
  | .exc c a => by rw [D.beq, D.beqL_self a]; simp
theorem D.beqL_self : ∀ a : List D, D.beqL a a = true
  | [] => rfl
  | a :: as => by rw [D.beqL, D.beq_self a, D.beqL_self as]; rfl
end
mutual
theorem D.eq_of_beq : ∀ a b : D, D.beq a b = true → a = b
  | .non, b, h => by cases b <;> simp_all [D.beq]
  | .bl a, b, h => by cases b <;> simp_all [D.beq]
  | .int a, b, h => by cases b <;> simp_all [D.beq]
  | .str a, b, h => by cases b <;> simp_all [D.beq]
  | .tup a, b, h => by
    cases b with
    | tup b => rw [D.beq] at h; rw [D.eq_of_beqL a b h]
    | _ => simp [D.beq] at h
  | .lstv a, b, h => by
    cases b with
    | lstv b => rw [D.beq] at h; rw [D.eq_of_beqL a b h]
    | _ => simp [D.beq] at h
  | .ptup a, b, h => by
    cases b with
    | ptup b => rw [D.beq] at h; rw [D.eq_of_beqL a b h]
    | _ => simp [D.beq] at h
  | .loc a, b, h => by cases b <;> simp_all [D.beq]
  | .gl a, b, h => by cases b <;> simp_all [D.beq]
  | .ty a, b, h => by cases b <;> simp_all [D.beq]
  | .exc c a, b, h => by
    cases b with
    | exc d b => rw [D.beq, Bool.and_eq_true, decide_eq_true_eq] at h; rw [h.1, D.eq_of_beqL a b h.2]
    | _ => simp [D.beq] at h
theorem D.eq_of_beqL : ∀ a b : List D, D.beqL a b = true → a = b
  | [], b, h => by cases b <;> simp_all [D.beqL]
  | a :: as, b, h => by
    cases b with
    | nil => simp [D.beqL] at h
    | cons b bs =>
      rw [D.beqL, Bool.and_eq_true] at h
      rw [D.eq_of_beq a b h.1, D.eq_of_beqL as bs h.2]
end
instance : DecidableEq D := fun a b => if h : D.beq a b = true then .isTrue (D.eq_of_beq a b h) else .isFalse fun e => h (e ▸ D.beq_self a)

/-- what stands in the store -/
inductive Cell where
  | lst (xs : List D)
  | dct (kvs : List (D × D))
  | ins (c : Str) (fs : List (Str × D))
  deriving DecidableEq
abbrev Sto := List Cell
abbrev Env := List (Option D)

inductive Res (α : Type) where
  | ok (a : α) (st : Sto)
  | exc (c : Str) (fs : List D) (st : Sto)
  | stuck
def Res.bind {α β : Type} (r : Res α) (f : α → Sto → Res β) : Res β := match r with
  | .ok a st => f a st
  | .exc c fs st => .exc c fs st
  | .stuck => .stuck
@[simp] theorem Res.bind_ok {α β : Type} (a : α) (st : Sto) (f : α → Sto → Res β) : (Res.ok a st).bind f = f a st := rfl
@[simp] theorem Res.bind_exc {α β : Type} (c : Str) (fs : List D) (st : Sto) (f : α → Sto → Res β) : (Res.exc c fs st : Res α).bind f = .exc c fs st := rfl
@[simp] theorem Res.bind_stuck {α β : Type} (f : α → Sto → Res β) : (Res.stuck : Res α).bind f = .stuck := rfl

/-! ### what names no place from n on -/
mutual
def D.under (n : Nat) : D → Bool
  | .loc m => decide (m < n)
  | .tup xs => D.underL n xs
  | .lstv xs => D.underL n xs
  | .ptup xs => D.underL n xs
  | .exc _ xs => D.underL n xs
  | .non | .bl _ | .int _ | .str _ | .gl _ | .ty _ => true
def D.underL (n : Nat) : List D → Bool
  | [] => true
  | x :: xs => D.under n x && D.underL n xs
end
def Cell.under (n : Nat) : Cell → Bool
  | .lst xs => D.underL n xs
  | .dct kvs => kvs.all fun p => p.1.under n && p.2.under n
  | .ins _ fs => fs.all fun p => p.2.under n
/-- what was made since the store was st0 is dropped, as far as nothing names it -/
def prefOk (st0 st : Sto) : Bool := decide (st.take st0.length = st0) || (st.take st0.length).all (Cell.under st0.length)
def tidy (st0 : Sto) : Res D → Res D
  | .ok d st =>
    if st.length ≤ st0.length then .ok d st
    else if prefOk st0 st then
      if d.under st0.length then .ok d (st.take st0.length)
      else match d with
        | .loc m => (match st[m]? with
          | some c => if st0.length ≤ m ∧ c.under st0.length = true then .ok (.loc st0.length) (st.take st0.length ++ [c]) else .ok d st
          | none => .ok d st)
        | _ => .ok d st
    else .ok d st
  | .exc c fs st => if prefOk st0 st && D.underL st0.length fs then .exc c fs (st.take st0.length) else .exc c fs st
  | .stuck => .stuck

/-! ### combinators: expressions -/
abbrev EM := Env → Sto → Res D
abbrev AM := Env → Sto → Res (List D)
abbrev TM := Env → Sto → Res Bool
def eV (i : Nat) : EM := fun r st => match r[i]? with
  | some (some d) => .ok d st
  | _ => .stuck
def eC (d : D) : EM := fun _ st => .ok d st
def e1 (f : D → Sto → Res D) (a : EM) : EM := fun r st => (a r st).bind f
def e2 (f : D → D → Sto → Res D) (a b : EM) : EM := fun r st => (a r st).bind fun x s1 => (b r s1).bind fun y s2 => f x y s2
def eN (f : List D → Sto → Res D) (as : AM) : EM := fun r st => (as r st).bind f
/-- o.m(args) of a built-in type -/
def eM (f : D → List D → Sto → Res D) (o : EM) (as : AM) : EM := fun r st => (o r st).bind fun x s1 => (as r s1).bind fun ys s2 => f x ys s2
def eIf (c : TM) (a b : EM) : EM := fun r st => (c r st).bind fun k s1 => if k = true then a r s1 else b r s1
def aNil : AM := fun _ st => .ok [] st
def aCons (a : EM) (as : AM) : AM := fun r st => (a r st).bind fun x s1 => (as r s1).bind fun xs s2 => .ok (x :: xs) s2
/-- truth of what it has a truth of here -/
def truth : D → Sto → Res Bool
  | .bl b, st => .ok b st
  | .non, st => .ok false st
  | .int i, st => .ok (decide (i ≠ 0)) st
  | .loc n, st => (match st[n]? with
    | some (.lst xs) => .ok (!xs.isEmpty) st
    | _ => .stuck)
  | .tup xs, st => .ok (!xs.isEmpty) st
  | .lstv xs, st => .ok (!xs.isEmpty) st
  | _, _ => .stuck
def isBl : D → Sto → Res Bool
  | .bl b, st => .ok b st
  | _, _ => .stuck
/-- a test: an expression that is a bool; by its truth; not, and, or -/
def tB (a : EM) : TM := fun r st => (a r st).bind isBl
def tTr (a : EM) : TM := fun r st => (a r st).bind truth
def tNot (a : TM) : TM := fun r st => (a r st).bind fun k s1 => .ok (!k) s1
def tAnd (a b : TM) : TM := fun r st => (a r st).bind fun k s1 => if k = true then b r s1 else .ok false s1
def tOr (a b : TM) : TM := fun r st => (a r st).bind fun k s1 => if k = true then .ok true s1 else b r s1
/-- as values: and, or, not of bools -/
def eAnd (a b : EM) : EM := fun r st => (a r st).bind fun x s1 => (isBl x s1).bind fun k s2 => if k = true then b r s2 else .ok (.bl false) s2
def eOr (a b : EM) : EM := fun r st => (a r st).bind fun x s1 => (isBl x s1).bind fun k s2 => if k = true then .ok (.bl true) s2 else b r s2
def eNot (a : EM) : EM := fun r st => (a r st).bind fun x s1 => (isBl x s1).bind fun k s2 => .ok (.bl (!k)) s2
/-- x or y by x's truth -/
def eOrT (a b : EM) : EM := fun r st => (a r st).bind fun x s1 => (truth x s1).bind fun k s2 => if k = true then .ok x s2 else b r s2
/-- a < b < c: f, g as comparisons -/
def eChain (f g : D → D → Sto → Res D) (a b c : EM) : EM := fun r st => (a r st).bind fun x s1 => (b r s1).bind fun y s2 => (f x y s2).bind fun z s3 =>
  (isBl z s3).bind fun k s4 => if k = true then (c r s4).bind fun w s5 => g y w s5 else .ok (.bl false) s4

/-! ### combinators: statements -/
inductive SRes where
  | nx (r : Env) (st : Sto)
  | ret (d : D) (st : Sto)
  | exc (c : Str) (fs : List D) (r : Env) (st : Sto)
  | stuck
abbrev SM := Env → Sto → SRes
def Res.thenS {α : Type} (x : Res α) (r : Env) (k : α → Sto → SRes) : SRes := match x with
  | .ok a st => k a st
  | .exc c fs st => .exc c fs r st
  | .stuck => .stuck
def SRes.thenS (x : SRes) (k : Env → Sto → SRes) : SRes := match x with
  | .nx r st => k r st
  | .ret d st => .ret d st
  | .exc c fs r st => .exc c fs r st
  | .stuck => .stuck
@[simp] theorem thenS_ok {α : Type} (a : α) (st : Sto) (r : Env) (k : α → Sto → SRes) : (Res.ok a st).thenS r k = k a st := rfl
@[simp] theorem thenS_exc {α : Type} (c : Str) (fs : List D) (st : Sto) (r : Env) (k : α → Sto → SRes) : (Res.exc c fs st : Res α).thenS r k = .exc c fs r st := rfl
@[simp] theorem thenS_stuck {α : Type} (r : Env) (k : α → Sto → SRes) : (Res.stuck : Res α).thenS r k = .stuck := rfl
@[simp] theorem thenS_nx (r : Env) (st : Sto) (k : Env → Sto → SRes) : (SRes.nx r st).thenS k = k r st := rfl
@[simp] theorem thenS_ret (d : D) (st : Sto) (k : Env → Sto → SRes) : (SRes.ret d st).thenS k = .ret d st := rfl
@[simp] theorem thenS_sexc (c : Str) (fs : List D) (r : Env) (st : Sto) (k : Env → Sto → SRes) : (SRes.exc c fs r st).thenS k = .exc c fs r st := rfl
@[simp] theorem thenS_sstuck (k : Env → Sto → SRes) : SRes.stuck.thenS k = .stuck := rfl
/-- an expression whose junk is dropped -/
def eT (a : EM) : EM := fun r st => tidy st (a r st)
/-- what a value is stored at -/
abbrev GM := D → Env → Sto → Res Env
def gV (i : Nat) : GM := fun d r st => if i < r.length then .ok (r.set i (some d)) st else .stuck
def gTupL : List GM → List D → Env → Sto → Res Env
  | [], [], r, st => .ok r st
  | g :: gs, d :: ds, r, st => (g d r st).bind fun r1 s1 => gTupL gs ds r1 s1
  | _, _, _, _ => .stuck
def gTup (gs : List GM) : GM := fun d r st => match d with
  | .tup ds => if ds.length = gs.length then gTupL gs ds r st else .stuck
  | _ => .stuck
/-- o[i] = v by values: f -/
def gSub (f : D → D → D → Sto → Res Unit) (o i : EM) : GM := fun d r st => (o r st).bind fun x s1 => (i r s1).bind fun y s2 => (f x y d s2).bind fun _ s3 => .ok r s3
def sSkip : SM := fun r st => .nx r st
def sSeq (a b : SM) : SM := fun r st => (a r st).thenS b
def sExp (a : EM) : SM := fun r st => (tidy st (a r st)).thenS r fun _ s1 => .nx r s1
def sSet (i : Nat) (a : EM) : SM := fun r st => (tidy st (a r st)).thenS r fun d s1 => if i < r.length then .nx (r.set i (some d)) s1 else .stuck
def sAsg (g : GM) (a : EM) : SM := fun r st => (tidy st (a r st)).thenS r fun d s1 => (g d r s1).thenS r fun r1 s2 => .nx r1 s2
/-- x, y = a, b with plain names: the stores from the right -/
def sPar (i j : Nat) (a b : EM) : SM := fun r st => (a r st).thenS r fun x s1 => (b r s1).thenS r fun y s2 => if i < r.length ∧ j < r.length then .nx ((r.set j (some y)).set i (some x)) s2 else .stuck
def sRet (a : EM) : SM := fun r st => (a r st).thenS r fun d s1 => .ret d s1
def sIf (c : TM) (a b : SM) : SM := fun r st => (c r st).thenS r fun k s1 => if k = true then a r s1 else b r s1
/-- f(args): an error of the class c, its fields by the arguments -/
def sRaise (c : Str) (k : Nat) (as : AM) : SM := fun r st => (as r st).thenS r fun ds s1 => .exc c (ds.take k) r s1
def whileL (c : TM) (b : SM) : Nat → Env → Sto → SRes
  | 0, _, _ => .stuck
  | n + 1, r, st => (c r st).thenS r fun k s1 => if k = true then (b r s1).thenS (whileL c b n) else .nx r s1
def sWhile (n : Nat) (c : TM) (b : SM) : SM := fun r st => whileL c b n r st
/-- what a loop walks: the items, and the lists that must stay as they are -/
structure Iter where
  items : List D
  holds : List (Nat × List D) := []
abbrev IM := Env → Sto → Res Iter
def lstAt (st : Sto) (n : Nat) : Option (List D) := match st[n]? with
  | some (.lst xs) => some xs
  | _ => none
def heldOk (hs : List (Nat × List D)) (st : Sto) : Bool := hs.all fun p => decide (lstAt st p.1 = some p.2)
def forL (hs : List (Nat × List D)) (g : GM) (b : SM) : List D → Env → Sto → SRes
  | [], r, st => if heldOk hs st then .nx r st else .stuck
  | x :: xs, r, st => if heldOk hs st then (g x r st).thenS r fun r1 s1 => (b r1 s1).thenS (forL hs g b xs) else .stuck
def sFor (g : GM) (it : IM) (b : SM) : SM := fun r st => (it r st).thenS r fun i s1 => forL i.holds g b i.items r s1
/-- a list comprehension: own: the slots of its own names -/
def wipeE (r : Env) : List Nat → Env
  | [] => r
  | v :: vs => (wipeE r vs).set v none
def lcL (hs : List (Nat × List D)) (g : GM) (t : TM) (e : EM) (r : Env) (p : Nat) : List D → Sto → Res D
  | [], st => if heldOk hs st then .ok (.loc p) st else .stuck
  | x :: xs, st => if heldOk hs st then
      (g x r st).bind fun r1 s1 => (t r1 s1).bind fun k s2 => if k = true then
        (tidy s2 (e r1 s2)).bind fun d s3 => (match s3[p]? with
          | some (.lst acc) => if acc.length < 16777216 then lcL hs g t e r p xs (s3.set p (.lst (acc ++ [d]))) else .stuck
          | _ => .stuck)
        else lcL hs g t e r p xs s2
    else .stuck
/-- nothing may be raised within -/
def noExc {α : Type} : Res α → Res α
  | .exc _ _ _ => .stuck
  | x => x
def eLc (own : List Nat) (g : GM) (it : IM) (t : TM) (e : EM) : EM := fun r st => (it r st).bind fun i s1 => noExc (lcL i.holds g t e (wipeE r own) s1.length i.items (s1 ++ [.lst []]))
def tYes : TM := fun _ st => .ok true st
/-- the fields that this program's errors have -/
def excFld (c : Str) : List Str :=
  if c = "BadState" ∨ c = "BadWeb" ∨ c = "BadSharing" then ["node"]
  else if c = "BadOrder" ∨ c = "BadPaper" then ["place"]
  else if c = "BadRow" then ["row", "word"] else []
mutual
/-- is one of c (of the classes cs) an x? -/
def excSub (cs : List Str) : D → Str → Option Bool
  | .gl x, c => if cs.contains c = true ∧ (x = "WebError" ∨ cs.contains x = true) then some (decide (x = "WebError") || decide (x = c)) else none
  | .ty t, c => if cs.contains c = true ∧ t = "ValueError" then some true else none
  | .tup xs, c => if cs.contains c = true then excSubL cs xs c else none
  | .non, _ | .bl _, _ | .int _, _ | .str _, _ | .ptup _, _ | .lstv _, _ | .loc _, _ | .exc _ _, _ => none
def excSubL (cs : List Str) : List D → Str → Option Bool
  | [], _ => some false
  | .gl x :: xs, c => (excSub cs (.gl x) c).bind fun b => (excSubL cs xs c).bind fun k => some (b || k)
  | .ty x :: xs, c => (excSub cs (.ty x) c).bind fun b => (excSubL cs xs c).bind fun k => some (b || k)
  | _, _ => none
end
/-- try: body / except x as i: j = i -/
def sTryAs (sub : Str → Option Bool) (b : SM) (i j : Nat) : SM := fun r st => match b r st with
  | .exc c fs r1 s1 => (match sub c with
    | some true => if i < r1.length ∧ j < r1.length then .nx (((r1.set i (some (.exc c fs))).set j (some (.exc c fs))).set i none) s1 else .stuck
    | some false => .exc c fs r1 s1
    | none => .stuck)
  | x => x
/-- a def's body run -/
def startE (n : Nat) (ds : List D) : Env := ds.map some ++ List.replicate (n - ds.length) none
def SRes.end : SRes → Res D
  | .nx _ st => .ok .non st
  | .ret d st => .ok d st
  | .exc c fs _ st => .exc c fs st
  | .stuck => .stuck
def runF (ps n : Nat) (b : SM) (ds : List D) (st : Sto) : Res D := if ds.length = ps then tidy st (b (startE n ds) st).end else .stuck
end TB

end

/-! ## TbRel -/
section
set_option linter.all false
set_option autoImplicit false
set_option maxRecDepth 100000
/-! How data and store lie in HandS's values and abstract heap; the readings of combinators. -/
namespace TB
open PySem PySem.Spec PyProof.Rows L2

/-- the program's facts that relations lean on: the written part, where names stand -/
structure Gx where
  K : PySem.W.Frag
  ga : Str → Addr

/-- an exception that has landed, at a: its class, its own dict -/
def excH (a C : Addr) (d : Option Addr) : HO := .ext fun h => ∃ (o : Obj) (vs : Array Value), h.get? a = some o ∧ o.cls = .ref C ∧ o.dict = d ∧ o.data = .fields vs

inductive Imm : Addr → HO → Prop
  | tup (a : Addr) (xs : List V) : Imm a (.tup xs)
  | frz (a : Addr) (o : Obj) (u : HO) : Imm a (.frz o u)
  | xd (a : Addr) (fs : List (Str × V)) : Imm a (.xd fs)
  | exc (a C : Addr) (d : Option Addr) : Imm a (excH a C d)

/-- the state has gone on: old places are where they were, what never changes stands -/
structure Later (m : List Addr) (H : Hp) (m' : List Addr) (H' : Hp) : Prop where
  pre : ∀ (i : Nat) (a : Addr), m[i]? = some a → m'[i]? = some a
  imm : ∀ a o, H a = some o → Imm a o → H' a = some o
theorem Later.refl {m : List Addr} {H : Hp} : Later m H m H := ⟨fun _ _ h => h, fun _ _ h _ => h⟩
theorem Later.trans {m m1 m2 : List Addr} {H H1 H2 : Hp} (a : Later m H m1 H1) (b : Later m1 H1 m2 H2) : Later m H m2 H2 :=
  ⟨fun i x h => b.pre i x (a.pre i x h), fun x o h k => b.imm x o (a.imm x o h k) k⟩
theorem Later.sqT {K : PySem.W.Frag} {m m' : List Addr} {H H' : Hp} (l : Later m H m' H') {a : Addr} {xs : List V} (h : SqT K H a xs) : SqT K H' a xs := by
  rcases h with (h | ⟨o, h⟩) | h
  · exact .inl (.inl (l.imm _ _ h (.tup _ _)))
  · exact .inl (.inr ⟨o, l.imm _ _ h (.frz _ _ _)⟩)
  · exact .inr h

/-- a list that nobody changes: locked, or of the module -/
def FrzL (K : PySem.W.Frag) (H : Hp) (a : Addr) (xs : List V) : Prop :=
  (∃ o, H a = some (.frz o (.lst xs))) ∨
    ∃ (o : Obj) (its : Array Value) (n : Nat), K.lookup a = some o ∧ o.cls = .type "list" ∧ o.dict = none ∧ o.data = .seq its n ∧ its.size ≤ sizeLine ∧ Vals xs its.toList
theorem FrzL.sq {K : PySem.W.Frag} {H : Hp} {a : Addr} {xs : List V} (h : FrzL K H a xs) : SqL K H a xs := h.elim (fun h => .inl (.inr h)) .inr
theorem Later.frz {K : PySem.W.Frag} {m m' : List Addr} {H H' : Hp} (l : Later m H m' H') {a : Addr} {xs : List V} (h : FrzL K H a xs) : FrzL K H' a xs := by
  rcases h with ⟨o, h⟩ | h
  · exact .inl ⟨o, l.imm _ _ h (.frz _ _ _)⟩
  · exact .inr h

mutual
def Rep (g : Gx) (m : List Addr) (H : Hp) : D → V → Prop
  | .non, v => v = .non
  | .bl b, v => v = .bl b
  | .int i, v => v = .int i
  | .str x, v => v = .str x
  | .ty n, v => v = .ty n
  | .gl x, v => v = .ref (g.ga x)
  | .loc n, v => ∃ a, m[n]? = some a ∧ v = .ref a
  | .tup ds, v => ∃ a vs, v = .ref a ∧ SqT g.K H a vs ∧ RepL g m H ds vs
  | .lstv ds, v => ∃ a vs, v = .ref a ∧ FrzL g.K H a vs ∧ RepL g m H ds vs
  | .ptup ds, v => ∃ a vs o, v = .ref a ∧ (H a = some (.frz o (.tup vs)) ∧ o.dict = none) ∧ RepL g m H ds vs
  | .exc c fs, v => ∃ a d vs, v = .ref a ∧ H a = some (excH a (g.ga c) d) ∧ RepL g m H fs vs ∧ ((fs = [] ∧ d = none) ∨ ∃ dx, d = some dx ∧ H dx = some (.xd ((excFld c).zip vs)))
def RepL (g : Gx) (m : List Addr) (H : Hp) : List D → List V → Prop
  | [], vs => vs = []
  | d :: ds, vs => ∃ v r, vs = v :: r ∧ Rep g m H d v ∧ RepL g m H ds r
end
section
variable {g : Gx} {m m' : List Addr} {H H' : Hp}
mutual
theorem Rep.later (l : Later m H m' H') : ∀ {d : D} {v : V}, Rep g m H d v → Rep g m' H' d v
  | .non, _, h => by simpa only [Rep] using h
  | .bl _, _, h => by simpa only [Rep] using h
  | .int _, _, h => by simpa only [Rep] using h
  | .str _, _, h => by simpa only [Rep] using h
  | .ty _, _, h => by simpa only [Rep] using h
  | .gl _, _, h => by simpa only [Rep] using h
  | .loc n, _, h => by
    simp only [Rep] at h ⊢
    obtain ⟨a, e, q⟩ := h
    exact ⟨a, l.pre _ _ e, q⟩
  | .tup ds, _, h => by
    simp only [Rep] at h ⊢
    obtain ⟨a, vs, e, q, r⟩ := h
    exact ⟨a, vs, e, l.sqT q, RepL.later l r⟩
  | .lstv ds, _, h => by
    simp only [Rep] at h ⊢
    obtain ⟨a, vs, e, q, r⟩ := h
    exact ⟨a, vs, e, l.frz q, RepL.later l r⟩
  | .ptup ds, _, h => by
    simp only [Rep] at h ⊢
    obtain ⟨a, vs, o, e, q, r⟩ := h
    exact ⟨a, vs, o, e, ⟨l.imm _ _ q.1 (.frz _ _ _), q.2⟩, RepL.later l r⟩
  | .exc c fs, _, h => by
    simp only [Rep] at h ⊢
    obtain ⟨a, d, vs, e, q, r, k⟩ := h
    refine ⟨a, d, vs, e, l.imm _ _ q (.exc _ _ _), RepL.later l r, ?_⟩
    rcases k with k | ⟨dx, k1, k2⟩
    · exact .inl k
    · exact .inr ⟨dx, k1, l.imm _ _ k2 (.xd _ _)⟩
theorem RepL.later (l : Later m H m' H') : ∀ {ds : List D} {vs : List V}, RepL g m H ds vs → RepL g m' H' ds vs
  | [], _, h => by simpa only [RepL] using h
  | d :: ds, _, h => by
    simp only [RepL] at h ⊢
    obtain ⟨v, r, e, q, k⟩ := h
    exact ⟨v, r, e, Rep.later l q, RepL.later l k⟩
end
theorem RepL.nil : RepL g m H [] [] := by simp only [RepL]
theorem RepL.cons {d : D} {v : V} {ds : List D} {vs : List V} (h : Rep g m H d v) (k : RepL g m H ds vs) : RepL g m H (d :: ds) (v :: vs) := by
  simp only [RepL]
  exact ⟨v, vs, rfl, h, k⟩
theorem RepL.nil_inv {vs : List V} (h : RepL g m H [] vs) : vs = [] := by simpa only [RepL] using h
theorem RepL.cons_inv {d : D} {ds : List D} {vs : List V} (h : RepL g m H (d :: ds) vs) : ∃ v r, vs = v :: r ∧ Rep g m H d v ∧ RepL g m H ds r := by simpa only [RepL] using h
theorem RepL.length : ∀ {ds : List D} {vs : List V}, RepL g m H ds vs → ds.length = vs.length
  | [], _, h => by rw [h.nil_inv]; rfl
  | d :: ds, _, h => by
    obtain ⟨v, r, rfl, _, k⟩ := h.cons_inv
    simp [RepL.length k]
theorem RepL.get : ∀ {ds : List D} {vs : List V} {i : Nat} {d : D}, RepL g m H ds vs → ds[i]? = some d → ∃ v, vs[i]? = some v ∧ Rep g m H d v
  | [], _, i, d, h, e => by simp at e
  | x :: ds, _, i, d, h, e => by
    obtain ⟨v, r, rfl, q, k⟩ := h.cons_inv
    cases i with
    | zero => simp at e; subst e; exact ⟨v, by simp, q⟩
    | succ i => simp at e; obtain ⟨u, h1, h2⟩ := RepL.get k e; exact ⟨u, by simpa using h1, h2⟩
theorem RepL.get' : ∀ {ds : List D} {vs : List V} {i : Nat} {v : V}, RepL g m H ds vs → vs[i]? = some v → ∃ d, ds[i]? = some d ∧ Rep g m H d v
  | [], _, i, d, h, e => by rw [h.nil_inv] at e; simp at e
  | x :: ds, _, i, d, h, e => by
    obtain ⟨v, r, rfl, q, k⟩ := h.cons_inv
    cases i with
    | zero => simp at e; subst e; exact ⟨x, by simp, q⟩
    | succ i => simp at e; obtain ⟨u, h1, h2⟩ := RepL.get' k e; exact ⟨u, by simpa using h1, h2⟩
theorem RepL.append : ∀ {ds es : List D} {vs us : List V}, RepL g m H ds vs → RepL g m H es us → RepL g m H (ds ++ es) (vs ++ us)
  | [], _, _, _, h, k => by rw [h.nil_inv]; exact k
  | d :: ds, es, _, us, h, k => by
    obtain ⟨v, r, rfl, q, h⟩ := h.cons_inv
    exact .cons q (RepL.append h k)
theorem RepL.take (n : Nat) : ∀ {ds : List D} {vs : List V}, RepL g m H ds vs → RepL g m H (ds.take n) (vs.take n)
  | [], _, h => by rw [h.nil_inv]; simpa using RepL.nil
  | d :: ds, _, h => by
    obtain ⟨v, r, rfl, q, h⟩ := h.cons_inv
    cases n with
    | zero => exact .nil
    | succ n => exact .cons q (RepL.take n h)
theorem RepL.drop (n : Nat) : ∀ {ds : List D} {vs : List V}, RepL g m H ds vs → RepL g m H (ds.drop n) (vs.drop n)
  | [], _, h => by rw [h.nil_inv]; simpa using RepL.nil
  | d :: ds, _, h => by
    cases n with
    | zero => exact h
    | succ n =>
      obtain ⟨v, r, rfl, q, h⟩ := h.cons_inv
      exact RepL.drop n h
theorem RepL.set {d : D} {v : V} (q : Rep g m H d v) : ∀ {ds : List D} {vs : List V} (i : Nat), RepL g m H ds vs → RepL g m H (ds.set i d) (vs.set i v)
  | [], _, i, h => by rw [h.nil_inv]; simpa using RepL.nil
  | x :: ds, _, i, h => by
    obtain ⟨u, r, rfl, p, h⟩ := h.cons_inv
    cases i with
    | zero => exact .cons q h
    | succ i => exact .cons p (RepL.set q i h)
theorem RepL.reverse {ds : List D} {vs : List V} (h : RepL g m H ds vs) : RepL g m H ds.reverse vs.reverse := by
  induction ds generalizing vs with
  | nil => rw [h.nil_inv]; exact .nil
  | cons d ds ih =>
    obtain ⟨v, r, rfl, p, h⟩ := h.cons_inv
    rw [List.reverse_cons, List.reverse_cons]
    exact (ih h).append (.cons p .nil)
theorem RepL.eraseIdx : ∀ {ds : List D} {vs : List V} (i : Nat), RepL g m H ds vs → RepL g m H (ds.eraseIdx i) (vs.eraseIdx i)
  | [], _, i, h => by rw [h.nil_inv]; simpa using RepL.nil
  | x :: ds, _, i, h => by
    obtain ⟨u, r, rfl, p, h⟩ := h.cons_inv
    cases i with
    | zero => exact h
    | succ i => exact .cons p (RepL.eraseIdx i h)
theorem RepL.one {d : D} {vs : List V} (h : RepL g m H [d] vs) : ∃ v, vs = [v] ∧ Rep g m H d v := by
  obtain ⟨v, r, rfl, q, h⟩ := h.cons_inv
  rw [h.nil_inv]
  exact ⟨v, rfl, q⟩
theorem RepL.two {d e : D} {vs : List V} (h : RepL g m H [d, e] vs) : ∃ v u, vs = [v, u] ∧ Rep g m H d v ∧ Rep g m H e u := by
  obtain ⟨v, r, rfl, q, h⟩ := h.cons_inv
  obtain ⟨u, rfl, p⟩ := h.one
  exact ⟨v, u, rfl, q, p⟩
end

/-! ### the store -/
def RepK : D → Key → Prop
  | .int i, k => k = .inl i
  | .str x, k => k = .inr x
  | _, _ => False
def RepKV (g : Gx) (m : List Addr) (H : Hp) (kvs : List (D × D)) (ws : List (Key × V)) : Prop := Paired (fun p q => RepK p.1 q.1 ∧ Rep g m H p.2 q.2) kvs ws
def RepFs (g : Gx) (m : List Addr) (H : Hp) (fs : List (Str × D)) (ws : List (Str × V)) : Prop := Paired (fun p q => p.1 = q.1 ∧ Rep g m H p.2 q.2) fs ws
def CellRep (g : Gx) (m : List Addr) (H : Hp) : Cell → Addr → Prop
  | .lst xs, a => ∃ vs, H a = some (.lst vs) ∧ RepL g m H xs vs
  | .dct kvs, a => ∃ ws, H a = some (.dK ws) ∧ RepKV g m H kvs ws
  | .ins c fs, a => ∃ dx ws, H a = some (.ins (g.ga c) dx ws) ∧ RepFs g m H fs ws
structure Sim (g : Gx) (m : List Addr) (H : Hp) (st : Sto) : Prop where
  len : m.length = st.length
  nd : m.Nodup
  at_ : ∀ (i : Nat) (c : Cell) (a : Addr), st[i]? = some c → m[i]? = some a → CellRep g m H c a
theorem paired_imp {α β : Type} {F G : α → β → Prop} : ∀ {l : List α} {r : List β}, Paired F l r → (∀ a b, a ∈ l → F a b → G a b) → Paired G l r
  | _, _, .nil, _ => .nil
  | _, _, .cons p q, h => .cons (h _ _ (List.mem_cons_self ..) p) (paired_imp q fun a b ha => h a b (List.mem_cons_of_mem _ ha))
section
variable {g : Gx} {m m' : List Addr} {H H' : Hp}
/-- a cell whose own object stands -/
theorem CellRep.later (l : Later m H m' H') {c : Cell} {a : Addr} (e : H' a = H a) (h : CellRep g m H c a) : CellRep g m' H' c a := by
  cases c with
  | lst xs => obtain ⟨vs, q, r⟩ := h; exact ⟨vs, e.trans q, r.later l⟩
  | dct kvs => obtain ⟨ws, q, r⟩ := h; exact ⟨ws, e.trans q, paired_imp r fun p q _ z => ⟨z.1, z.2.later l⟩⟩
  | ins c fs => obtain ⟨dx, ws, q, r⟩ := h; exact ⟨dx, ws, e.trans q, paired_imp r fun p q _ z => ⟨z.1, z.2.later l⟩⟩
/-- what is in the store stands in the abstract heap, or in the written part -/
theorem Sim.get {st : Sto} (S : Sim g m H st) {i : Nat} {c : Cell} (h : st[i]? = some c) : ∃ a, m[i]? = some a ∧ CellRep g m H c a := by
  have hi : i < st.length := (List.getElem?_eq_some_iff.mp h).1
  have e : m[i]? = some (m[i]'(by rw [S.len]; exact hi)) := List.getElem?_eq_getElem _
  exact ⟨_, e, S.at_ i c _ h e⟩
theorem nodup_get {m : List Addr} (h : m.Nodup) {i j : Nat} {a : Addr} (hi : m[i]? = some a) (hj : m[j]? = some a) : i = j := by
  obtain ⟨h1, e1⟩ := List.getElem?_eq_some_iff.mp hi
  obtain ⟨h2, e2⟩ := List.getElem?_eq_some_iff.mp hj
  exact (List.getElem_inj h).mp (e1.trans e2.symm)

/-! ### what names no new place -/
mutual
theorem Rep.under {n : Nat} (hn : m.length = n) : ∀ {d : D} {v : V}, Rep g m H d v → d.under n = true
  | .non, _, _ => by simp only [D.under]
  | .bl _, _, _ => by simp only [D.under]
  | .int _, _, _ => by simp only [D.under]
  | .str _, _, _ => by simp only [D.under]
  | .ty _, _, _ => by simp only [D.under]
  | .gl _, _, _ => by simp only [D.under]
  | .loc k, _, h => by
    simp only [Rep] at h
    obtain ⟨a, e, _⟩ := h
    simp only [D.under, decide_eq_true_eq]
    rw [← hn]
    exact (List.getElem?_eq_some_iff.mp e).1
  | .tup ds, _, h => by
    simp only [Rep] at h
    obtain ⟨a, vs, _, _, r⟩ := h
    simp only [D.under]
    exact RepL.under hn r
  | .lstv ds, _, h => by
    simp only [Rep] at h
    obtain ⟨a, vs, _, _, r⟩ := h
    simp only [D.under]
    exact RepL.under hn r
  | .ptup ds, _, h => by
    simp only [Rep] at h
    obtain ⟨a, vs, o, _, _, r⟩ := h
    simp only [D.under]
    exact RepL.under hn r
  | .exc c fs, _, h => by
    simp only [Rep] at h
    obtain ⟨a, d, vs, _, _, r, _⟩ := h
    simp only [D.under]
    exact RepL.under hn r
theorem RepL.under {n : Nat} (hn : m.length = n) : ∀ {ds : List D} {vs : List V}, RepL g m H ds vs → D.underL n ds = true
  | [], _, _ => by simp only [D.underL]
  | d :: ds, _, h => by
    simp only [RepL] at h
    obtain ⟨v, r, _, q, k⟩ := h
    simp only [D.underL, Rep.under hn q, RepL.under hn k, Bool.and_self]
end
mutual
theorem Rep.cut {n : Nat} : ∀ {d : D} {v : V}, Rep g m H d v → d.under n = true → Rep g (m.take n) H d v
  | .non, _, h, _ => by simpa only [Rep] using h
  | .bl _, _, h, _ => by simpa only [Rep] using h
  | .int _, _, h, _ => by simpa only [Rep] using h
  | .str _, _, h, _ => by simpa only [Rep] using h
  | .ty _, _, h, _ => by simpa only [Rep] using h
  | .gl _, _, h, _ => by simpa only [Rep] using h
  | .loc k, _, h, b => by
    simp only [Rep] at h ⊢
    simp only [D.under, decide_eq_true_eq] at b
    obtain ⟨a, e, q⟩ := h
    exact ⟨a, by rw [List.getElem?_take, if_pos b]; exact e, q⟩
  | .tup ds, _, h, b => by
    simp only [Rep] at h ⊢
    simp only [D.under] at b
    obtain ⟨a, vs, e, q, r⟩ := h
    exact ⟨a, vs, e, q, RepL.cut r b⟩
  | .lstv ds, _, h, b => by
    simp only [Rep] at h ⊢
    simp only [D.under] at b
    obtain ⟨a, vs, e, q, r⟩ := h
    exact ⟨a, vs, e, q, RepL.cut r b⟩
  | .ptup ds, _, h, b => by
    simp only [Rep] at h ⊢
    simp only [D.under] at b
    obtain ⟨a, vs, o, e, q, r⟩ := h
    exact ⟨a, vs, o, e, q, RepL.cut r b⟩
  | .exc c fs, _, h, b => by
    simp only [Rep] at h ⊢
    simp only [D.under] at b
    obtain ⟨a, d, vs, e, q, r, k⟩ := h
    exact ⟨a, d, vs, e, q, RepL.cut r b, k⟩
theorem RepL.cut {n : Nat} : ∀ {ds : List D} {vs : List V}, RepL g m H ds vs → D.underL n ds = true → RepL g (m.take n) H ds vs
  | [], _, h, _ => by simpa only [RepL] using h
  | d :: ds, _, h, b => by
    simp only [RepL] at h ⊢
    simp only [D.underL, Bool.and_eq_true] at b
    obtain ⟨v, r, e, q, k⟩ := h
    exact ⟨v, r, e, Rep.cut q b.1, RepL.cut k b.2⟩
end
theorem CellRep.under {n : Nat} (hn : m.length = n) {c : Cell} {a : Addr} (h : CellRep g m H c a) : c.under n = true := by
  cases c with
  | lst xs => obtain ⟨vs, _, r⟩ := h; exact r.under hn
  | dct kvs =>
    obtain ⟨ws, _, r⟩ := h
    simp only [Cell.under, List.all_eq_true]
    have key : ∀ {l : List (D × D)} {w : List (Key × V)}, RepKV g m H l w → ∀ p ∈ l, (p.1.under n && p.2.under n) = true := by
      intro l w q
      induction q with
      | nil => intro p hp; cases hp
      | cons z _ ih =>
        intro p hp
        rcases List.mem_cons.mp hp with rfl | hp
        · obtain ⟨z1, z2⟩ := z
          rw [z2.under hn, Bool.and_true]
          rename_i x y _ _ _
          obtain ⟨x1, x2⟩ := p
          cases x1 <;> first | rfl | exact z1.elim | simp only [D.under]
        · exact ih p hp
    exact key r
  | ins c fs =>
    obtain ⟨dx, ws, _, r⟩ := h
    simp only [Cell.under, List.all_eq_true]
    have key : ∀ {l : List (Str × D)} {w : List (Str × V)}, RepFs g m H l w → ∀ p ∈ l, p.2.under n = true := by
      intro l w q
      induction q with
      | nil => intro p hp; cases hp
      | cons z _ ih =>
        intro p hp
        rcases List.mem_cons.mp hp with rfl | hp
        · exact z.2.under hn
        · exact ih p hp
    exact key r
theorem CellRep.cut {n : Nat} {c : Cell} {a : Addr} (h : CellRep g m H c a) (b : c.under n = true) : CellRep g (m.take n) H c a := by
  cases c with
  | lst xs => obtain ⟨vs, q, r⟩ := h; exact ⟨vs, q, r.cut b⟩
  | dct kvs =>
    obtain ⟨ws, q, r⟩ := h
    simp only [Cell.under, List.all_eq_true, Bool.and_eq_true] at b
    exact ⟨ws, q, paired_imp r fun p q hp z => ⟨z.1, z.2.cut (b p hp).2⟩⟩
  | ins c fs =>
    obtain ⟨dx, ws, q, r⟩ := h
    simp only [Cell.under, List.all_eq_true] at b
    exact ⟨dx, ws, q, paired_imp r fun p q hp z => ⟨z.1, z.2.cut (b p hp)⟩⟩
theorem Sim.under {st : Sto} (S : Sim g m H st) : st.all (Cell.under st.length) = true := by
  rw [List.all_eq_true]
  intro c hc
  obtain ⟨i, hi, e⟩ := List.getElem_of_mem hc
  obtain ⟨a, _, r⟩ := S.get (by rw [List.getElem?_eq_getElem hi, e] : st[i]? = some c)
  exact r.under S.len
theorem Sim.cut {st : Sto} {n : Nat} (S : Sim g m H st) (b : (st.take n).all (Cell.under n) = true) : Sim g (m.take n) H (st.take n) := by
  refine ⟨by rw [List.length_take, List.length_take, S.len], S.nd.sublist (List.take_sublist n m), fun i c a h e => ?_⟩
  rw [List.all_eq_true] at b
  have hi : i < n := by
    have := (List.getElem?_eq_some_iff.mp h).1
    rw [List.length_take] at this
    omega
  have hc : c ∈ st.take n := List.mem_of_getElem? h
  rw [List.getElem?_take, if_pos hi] at h e
  exact (S.at_ i c a h e).cut (b c hc)
theorem Later.cut {m0 : List Addr} {H0 : Hp} {n : Nat} (l : Later m0 H0 m H) (hn : m0.length = n) : Later m0 H0 (m.take n) H := by
  refine ⟨fun i a e => ?_, l.imm⟩
  have hi : i < n := by rw [← hn]; exact (List.getElem?_eq_some_iff.mp e).1
  rw [List.getElem?_take, if_pos hi]
  exact l.pre i a e
end
end TB

end

/-! ## TbRd -/
section
set_option linter.all false
set_option autoImplicit false
set_option maxRecDepth 100000
namespace TB
open PySem PySem.Spec PyProof.Rows L2

/-- the fields of an error in flight, in its own dict -/
def ExcF (g : Gx) (m : List Addr) (H : Hp) (c : Str) (fs : List D) (d : Option Addr) : Prop :=
  ∃ vs, RepL g m H fs vs ∧ ((fs = [] ∧ d = none) ∨ ∃ dx, d = some dx ∧ H dx = some (.xd ((excFld c).zip vs)))
theorem ExcF.later {g : Gx} {m m' : List Addr} {H H' : Hp} (l : Later m H m' H') {c : Str} {fs : List D} {d : Option Addr} (h : ExcF g m H c fs d) : ExcF g m' H' c fs d := by
  obtain ⟨vs, r, k⟩ := h
  refine ⟨vs, r.later l, ?_⟩
  rcases k with k | ⟨dx, k1, k2⟩
  · exact .inl k
  · exact .inr ⟨dx, k1, l.imm _ _ k2 (.xd _ _)⟩

abbrev WK := Value → Option Addr → Hp → Prop
/-- what a result promises from (m, H) on -/
def PostR {α β : Type} (g : Gx) (R : List Addr → Hp → α → β → Prop) (W : WK) (m : List Addr) (H : Hp) (Q : β → Hp → Prop) : Res α → Prop
  | .ok a st => ∀ m' H' b, Later m H m' H' → Sim g m' H' st → R m' H' a b → Q b H'
  | .exc c fs st => ∀ m' H' d, Later m H m' H' → Sim g m' H' st → ExcF g m' H' c fs d → W (.ref (g.ga c)) d H'
  | .stuck => False
section
variable {α β γ δ : Type} {g : Gx} {R : List Addr → Hp → α → β → Prop} {R2 : List Addr → Hp → γ → δ → Prop} {W : WK} {m m' : List Addr} {H H' : Hp} {Q Q' : β → Hp → Prop} {Q2 : δ → Hp → Prop}
theorem PostR.later (l : Later m H m' H') {r : Res α} (h : PostR g R W m H Q r) : PostR g R W m' H' Q r := by
  cases r with
  | ok a st => exact fun m2 H2 b l2 => h m2 H2 b (l.trans l2)
  | exc c fs st => exact fun m2 H2 d l2 => h m2 H2 d (l.trans l2)
  | stuck => exact h
theorem PostR.imp {r : Res α} (h : PostR g R W m H Q r) (i : ∀ m' H' b a st, r = .ok a st → Later m H m' H' → Sim g m' H' st → R m' H' a b → Q b H' → Q' b H') : PostR g R W m H Q' r := by
  cases r with
  | ok a st => exact fun m2 H2 b l S r => i m2 H2 b a st rfl l S r (h m2 H2 b l S r)
  | exc c fs st => exact h
  | stuck => exact h
theorem PostR.bind {r : Res α} {f : α → Sto → Res γ} (h : PostR g R2 W m H Q2 (r.bind f)) : PostR g R W m H (fun b H1 => ∃ m1 a st1, r = .ok a st1 ∧ Later m H m1 H1 ∧ Sim g m1 H1 st1 ∧ R m1 H1 a b ∧ PostR g R2 W m1 H1 Q2 (f a st1)) r := by
  cases r with
  | ok a st => exact fun m2 H2 b l S r => ⟨m2, a, st, rfl, l, S, r, PostR.later l h⟩
  | exc c fs st => exact h
  | stuck => exact h
theorem PostR.ok_iff {a : α} {st : Sto} : PostR g R W m H Q (.ok a st) ↔ ∀ m' H' b, Later m H m' H' → Sim g m' H' st → R m' H' a b → Q b H' := Iff.rfl
theorem PostR.now {a : α} {st : Sto} {b : β} (h : PostR g R W m H Q (.ok a st)) (S : Sim g m H st) (r : R m H a b) : Q b H := h m H b .refl S r
end

/-- the slots -/
structure RepE (g : Gx) (m : List Addr) (H : Hp) (r : Env) (s : L2.St) : Prop where
  len : r.length = s.length
  at_ : ∀ (i : Nat) (d : D), r[i]? = some (some d) → ∃ v, s[i]? = some (some v) ∧ Rep g m H d v
section
variable {g : Gx} {m m' : List Addr} {H H' : Hp} {r : Env} {s : L2.St}
theorem RepE.later (l : Later m H m' H') (h : RepE g m H r s) : RepE g m' H' r s := ⟨h.len, fun i d e => let ⟨v, a, b⟩ := h.at_ i d e; ⟨v, a, b.later l⟩⟩
theorem RepE.set (h : RepE g m H r s) (i : Nat) {d : D} {v : V} (q : Rep g m H d v) : RepE g m H (r.set i (some d)) (s.set i (some v)) := by
  refine ⟨by simp [h.len], fun j e he => ?_⟩
  by_cases hj : i = j
  · subst hj
    have hi : i < r.length := by
      have := (List.getElem?_eq_some_iff.mp he).1
      simpa using this
    rw [List.getElem?_set_self hi] at he
    cases he
    exact ⟨v, List.getElem?_set_self (by rw [← h.len]; exact hi), q⟩
  · rw [List.getElem?_set_ne hj] at he
    obtain ⟨u, a, b⟩ := h.at_ j e he
    exact ⟨u, by rw [List.getElem?_set_ne hj]; exact a, b⟩
theorem RepE.unset (h : RepE g m H r s) (i : Nat) : RepE g m H (r.set i none) (s.set i none) := by
  refine ⟨by simp [h.len], fun j e he => ?_⟩
  by_cases hj : i = j
  · subst hj
    have hi : i < r.length := by
      have := (List.getElem?_eq_some_iff.mp he).1
      simpa using this
    rw [List.getElem?_set_self hi] at he
    cases he
  · rw [List.getElem?_set_ne hj] at he
    obtain ⟨u, a, b⟩ := h.at_ j e he
    exact ⟨u, by rw [List.getElem?_set_ne hj]; exact a, b⟩
theorem RepE.wipe (h : RepE g m H r s) : ∀ vs : List Nat, RepE g m H (wipeE r vs) (L2.wipe s vs)
  | [] => h
  | v :: vs => by
    unfold wipeE L2.wipe
    exact (RepE.wipe h vs).unset v
theorem RepE.start {ds : List D} {vs : List V} (n : Nat) (N : List Str) (hN : N.length = n) (h : RepL g m H ds vs) : RepE g m H (startE n ds) (L2.start N vs) := by
  have hl := h.length
  refine ⟨by simp [startE, L2.start, hl, hN], fun i d e => ?_⟩
  unfold startE at e
  unfold L2.start
  by_cases hi : i < ds.length
  · rw [List.getElem?_append_left (by simpa using hi), List.getElem?_map] at e
    cases hd : ds[i]? with
    | none => rw [hd] at e; simp at e
    | some x =>
      rw [hd] at e
      simp at e
      subst e
      obtain ⟨v, h1, h2⟩ := h.get hd
      exact ⟨v, by rw [List.getElem?_append_left (by simpa [← hl] using hi), List.getElem?_map, h1]; rfl, h2⟩
  · rw [List.getElem?_append_right (by simpa using hi), List.getElem?_replicate] at e
    split at e <;> simp at e
end

/-! ### the readings -/
def wAt (W : WX) (s : L2.St) : WK := fun c d H => W c d s H
def rdE (g : Gx) (W : WX) (a : EM) : TE := fun s H Q => ∃ m r st, Sim g m H st ∧ RepE g m H r s ∧ PostR g (Rep g) (wAt W s) m H Q (a r st)
def rdA (g : Gx) (W : WX) (a : AM) : TA := fun s H Q => ∃ m r st, Sim g m H st ∧ RepE g m H r s ∧ PostR g (RepL g) (wAt W s) m H Q (a r st)
def rdT (g : Gx) (W : WX) (a : TM) : TT := fun s H Q => ∃ m r st, Sim g m H st ∧ RepE g m H r s ∧ PostR g (fun _ _ (a b : Bool) => a = b) (wAt W s) m H Q (a r st)

theorem _root_.L2.PE.imp {X : Cx} {e : Expr} {t t' : TE} (h : PE X e t) (i : ∀ s H Q, t' s H Q → t s H Q) : PE X e t' := ⟨fun pins s σ H Q I q => h.run pins s σ H Q I (i _ _ _ q)⟩
theorem _root_.L2.PT.imp {X : Cx} {e : Expr} {t t' : TT} (h : PT X e t) (i : ∀ s H Q, t' s H Q → t s H Q) : PT X e t' := ⟨fun pins s σ H Q I q => h.run pins s σ H Q I (i _ _ _ q)⟩
theorem _root_.L2.PW.imp {X : Cx} {e : Expr} {t t' : TT} (h : PW X e t) (i : ∀ s H Q, t' s H Q → t s H Q) : PW X e t' := ⟨fun wh pins s σ H Q I q => h.run wh pins s σ H Q I (i _ _ _ q)⟩
theorem _root_.L2.PA.imp {X : Cx} {e : List Expr} {t t' : TA} (h : PA X e t) (i : ∀ s H Q, t' s H Q → t s H Q) : PA X e t' := ⟨fun pos pins s σ H Q I q => h.run pos pins s σ H Q I (i _ _ _ q)⟩
theorem _root_.L2.PS.imp {X : Cx} {e : Stmt} {t t' : TS} (h : PS X e t) (i : ∀ D s H, t' D s H → t D s H) : PS X e t' := ⟨fun pins s σ H D I q => h.run pins s σ H D I (i _ _ _ q)⟩
theorem _root_.L2.PSs.imp {X : Cx} {e : List Stmt} {t t' : TS} (h : PSs X e t) (i : ∀ D s H, t' D s H → t D s H) : PSs X e t' := ⟨fun pins s σ H D I q => h.run pins s σ H D I (i _ _ _ q)⟩

section
variable {g : Gx} {W : WX} {s : L2.St} {H : Hp}
/-- one part, then the rest -/
theorem rdE_step {β γ : Type} {R : List Addr → Hp → β → γ → Prop} {a : EM} {f : Env → D → Sto → Res β} {m : List Addr} {r : Env} {st : Sto} {Q : γ → Hp → Prop} {K : V → Hp → Prop}
    (S : Sim g m H st) (E : RepE g m H r s) (h : PostR g R (wAt W s) m H Q ((a r st).bind (f r)))
    (k : ∀ m1 H1 d v st1, a r st = .ok d st1 → Later m H m1 H1 → Sim g m1 H1 st1 → RepE g m1 H1 r s → Rep g m1 H1 d v → PostR g R (wAt W s) m1 H1 Q (f r d st1) → K v H1) : rdE g W a s H K :=
  ⟨m, r, st, S, E, (h.bind (R := Rep g)).imp fun m1 H1 v d st1 e l S1 rv ⟨m2, d2, st2, e2, l2, S2, r2, p2⟩ => by
    rw [e] at e2
    cases e2
    exact k m2 H1 d v st1 e l2 S2 (E.later l2) r2 p2⟩
end

/-! ### value-level rules -/
def r2D (g : Gx) (f : D → D → Sto → Res D) : R2 := fun x y H Q => ∃ W m st d e, Sim g m H st ∧ Rep g m H d x ∧ Rep g m H e y ∧ PostR g (Rep g) W m H Q (f d e st)
def r1D (g : Gx) (f : D → Sto → Res D) : V → Hp → VK → Prop := fun x H Q => ∃ W m st d, Sim g m H st ∧ Rep g m H d x ∧ PostR g (Rep g) W m H Q (f d st)
def rND (g : Gx) (f : List D → Sto → Res D) : List V → Hp → VK → Prop := fun xs H Q => ∃ W m st ds, Sim g m H st ∧ RepL g m H ds xs ∧ PostR g (Rep g) W m H Q (f ds st)
def rMD (g : Gx) (f : D → List D → Sto → Res D) : V → List V → Hp → VK → Prop := fun x ys H Q => ∃ W m st d ds, Sim g m H st ∧ Rep g m H d x ∧ RepL g m H ds ys ∧ PostR g (Rep g) W m H Q (f d ds st)
def rTD (g : Gx) (f : D → Sto → Res Bool) : V → Hp → (Bool → Hp → Prop) → Prop := fun x H Q => ∃ W m st d, Sim g m H st ∧ Rep g m H d x ∧ PostR g (fun _ _ (a b : Bool) => a = b) W m H Q (f d st)

section
variable {X : Cx} {g : Gx} {W : WX} {pos : Pos} {a b c : Expr} {es : List Expr} {ma mb mc : EM} {as : AM} {ta tb : TM}
theorem rdE_e2 {f : D → D → Sto → Res D} {s : L2.St} {H : Hp} {Q : VK} (h : rdE g W (e2 f ma mb) s H Q) : tOp (r2D g f) (rdE g W ma) (rdE g W mb) s H Q := by
  obtain ⟨m, r, st, S, E, P⟩ := h
  refine rdE_step (f := fun r x s1 => (mb r s1).bind fun y s2 => f x y s2) S E P fun m1 H1 d x st1 _ l1 S1 E1 r1 P1 => ?_
  refine rdE_step (f := fun r y s2 => f d y s2) S1 E1 P1 fun m2 H2 e y st2 _ l2 S2 E2 r2 P2 => ?_
  exact ⟨_, m2, st2, d, e, S2, r1.later l2, r2, P2⟩
theorem so_bin {op : Operator} {f : D → D → Sto → Res D} (ho : OpR X (binaryOp op) (r2D g f)) (ha : PE X a (rdE g W ma)) (hb : PE X b (rdE g W mb)) : PE X (.BinOp a op b pos) (rdE g W (e2 f ma mb)) :=
  (pe_op ho ha hb).imp fun _ _ _ => rdE_e2
theorem so_cmp {op : CmpOp} {f : D → D → Sto → Res D} (ho : OpR X (compareOp op) (r2D g f)) (ha : PE X a (rdE g W ma)) (hb : PE X b (rdE g W mb)) (hm : behindInMarks op b = false := by rfl) : PE X (.Compare a [op] [b] pos) (rdE g W (e2 f ma mb)) :=
  (pe_cmpR ho ha hb hm).imp fun _ _ _ => rdE_e2
theorem so_ix {f : D → D → Sto → Res D} (ho : IxR X (r2D g f)) (ha : PE X a (rdE g W ma)) (hb : PE X b (rdE g W mb)) (hs : PlainIx b := by intro _ _; rfl) : PE X (.Subscript a b pos) (rdE g W (e2 f ma mb)) :=
  (pe_ix ho ha hb hs).imp fun _ _ _ => rdE_e2
theorem so_un {op : UnaryOp} {f : D → Sto → Res D} (ho : UnR X (unaryOp op) (r1D g f)) (ha : PE X a (rdE g W ma)) : PE X (.UnaryOp op a pos) (rdE g W (e1 f ma)) :=
  (pe_un ho ha).imp fun s H Q ⟨m, r, st, S, E, P⟩ => rdE_step (f := fun _ => f) S E P fun m1 H1 d x st1 _ l1 S1 E1 r1 P1 => ⟨_, m1, st1, d, S1, r1, P1⟩
theorem so_V {i : Nat} {x : Str} (hN : X.N[i]? = some x := by rfl) (hv : Vis X.env.scope x := by first | exact Or.inl rfl | exact Or.inr (Or.inl rfl) | exact Or.inr (Or.inr rfl)) (hd : (x == ("__debug__" : Str)) = false := by decide)
    (hcd : (x == ("__classdict__" : Str)) = false := by decide) : PE X (.Name x pos) (rdE g W (eV i)) :=
  (pe_var hN hv hd hcd).imp fun s H Q ⟨m, r, st, S, E, P⟩ => by
    unfold eV at P
    cases h : r[i]? with
    | none => rw [h] at P; exact P.elim
    | some o =>
      cases o with
      | none => rw [h] at P; exact P.elim
      | some d =>
        rw [h] at P
        obtain ⟨v, h1, h2⟩ := E.at_ i d h
        exact ⟨v, h1, P.now S h2⟩
theorem so_int {i : Int} {j : Nat} : PE X (.Constant (.int i) j pos) (rdE g W (eC (.int i))) := pe_int.imp fun s H Q ⟨m, r, st, S, E, P⟩ => PostR.now P S (by simp only [Rep])
theorem so_bl {i : Bool} {j : Nat} : PE X (.Constant (.bool i) j pos) (rdE g W (eC (.bl i))) := pe_bl.imp fun s H Q ⟨m, r, st, S, E, P⟩ => PostR.now P S (by simp only [Rep])
theorem so_non {j : Nat} : PE X (.Constant .none j pos) (rdE g W (eC .non)) := pe_non.imp fun s H Q ⟨m, r, st, S, E, P⟩ => PostR.now P S (by simp only [Rep])
theorem so_str {x : Str} {j : Nat} : PE X (.Constant (.str x) j pos) (rdE g W (eC (.str x))) := pe_str.imp fun s H Q ⟨m, r, st, S, E, P⟩ => PostR.now P S (by simp only [Rep])
theorem so_gl {x : Str} (hm : X.mg x = some (.ref (g.ga x))) (hg : Gl X x := by rfl) (hd : (x == ("__debug__" : Str)) = false := by decide) : PE X (.Name x pos) (rdE g W (eC (.gl x))) :=
  (pe_glob (v := .ref (g.ga x)) hg hm rfl hd).imp fun s H Q ⟨m, r, st, S, E, P⟩ => PostR.now P S (by simp only [Rep])
theorem so_gint {x : Str} {i : Int} (hm : ∃ t, X.mg x = some (.int i t)) (hg : Gl X x := by rfl) (hd : (x == ("__debug__" : Str)) = false := by decide) : PE X (.Name x pos) (rdE g W (eC (.int i))) := by
  obtain ⟨t, hm⟩ := hm
  exact (pe_glob (v := .int i) hg hm ⟨t, rfl⟩ hd).imp fun s H Q ⟨m, r, st, S, E, P⟩ => PostR.now P S (by simp only [Rep])
theorem so_gstr {x y : Str} (hm : ∃ t, X.mg x = some (.str y t)) (hg : Gl X x := by rfl) (hd : (x == ("__debug__" : Str)) = false := by decide) : PE X (.Name x pos) (rdE g W (eC (.str y))) := by
  obtain ⟨t, hm⟩ := hm
  exact (pe_glob (v := .str y) hg hm ⟨t, rfl⟩ hd).imp fun s H Q ⟨m, r, st, S, E, P⟩ => PostR.now P S (by simp only [Rep])
theorem so_ty {x : Str} {T : String} (hm : X.mg x = none) (hv : bootBuiltins x = some (.type T)) (hg : Gl X x := by rfl) (hn : x ≠ "__name__" := by decide) (hd : (x == ("__debug__" : Str)) = false := by decide) : PE X (.Name x pos) (rdE g W (eC (.ty T))) :=
  (pe_bltn (v := .ty T) hg hm hv rfl hn hd).imp fun s H Q ⟨m, r, st, S, E, P⟩ => PostR.now P S (by simp only [Rep])

/-! arguments -/
theorem so_nil : PA X [] (rdA g W aNil) := pa_nil.imp fun s H Q ⟨m, r, st, S, E, P⟩ => PostR.now P S .nil
theorem so_cons (ha : PE X a (rdE g W ma)) (hr : PA X es (rdA g W as)) (hs : starEach (a :: es) X.env = (false, eval a X.env) :: starEach es X.env := by rfl) : PA X (a :: es) (rdA g W (aCons ma as)) :=
  (pa_cons ha hr hs).imp fun s H Q ⟨m, r, st, S, E, P⟩ => rdE_step (f := fun r x s1 => (as r s1).bind fun xs s2 => .ok (x :: xs) s2) S E P fun m1 H1 d x st1 _ l1 S1 E1 r1 P1 =>
    ⟨m1, r, st1, S1, E1, (P1.bind (R := RepL g)).imp fun m2 H2 xs ds st2 e l2 S2 rs ⟨m3, ds3, st3, e3, l3, S3, r3, P3⟩ => by
      rw [e] at e3; cases e3
      exact P3.now S3 (.cons (r1.later l3) r3)⟩
theorem rdA_step {f : List D → Sto → Res D} {s : L2.St} {H : Hp} {Q : VK} (h : rdE g W (eN f as) s H Q) : rdA g W as s H fun vs H1 => rND g f vs H1 Q := by
  obtain ⟨m, r, st, S, E, P⟩ := h
  refine ⟨m, r, st, S, E, (PostR.bind (R := RepL g) (f := f) P).imp fun m2 H2 xs ds st2 e l2 S2 rs ⟨m3, ds3, st3, e3, l3, S3, r3, P3⟩ => ?_⟩
  rw [e] at e3; cases e3
  exact ⟨_, m3, _, _, S3, r3, P3⟩
theorem so_callB {x : Str} {p : Pos} {id : String} {f : List D → Sto → Res D} (hc : CallR X (.builtin id) (rND g f)) (hm : X.mg x = none) (hv : bootBuiltins x = some (.builtin id)) (ha : PA X (a :: es) (rdA g W as)) (hg : Gl X x := by rfl)
    (hn : x ≠ "__name__" := by decide) (hdb : (x == ("__debug__" : Str)) = false := by decide) (he : starEach (a :: es) X.env = (false, eval a X.env) :: starEach es X.env := by rfl) (hpl : (backTo pos (starEach es X.env)).any (·.1) = false := by rfl) :
    PE X (.Call (.Name x p) (a :: es) [] pos) (rdE g W (eN f as)) :=
  (pe_callB hc hg hm hv ha hn hdb he hpl).imp fun s H Q h => rdA_step h
theorem so_callTy {x : Str} {p : Pos} {T : String} {f : List D → Sto → Res D} (hc : CallR X (.type T) (rND g f)) (hm : X.mg x = none) (hv : bootBuiltins x = some (.type T)) (ha : PA X (a :: es) (rdA g W as)) (hg : Gl X x := by rfl)
    (hn : x ≠ "__name__" := by decide) (hdb : (x == ("__debug__" : Str)) = false := by decide) (he : starEach (a :: es) X.env = (false, eval a X.env) :: starEach es X.env := by rfl) (hpl : (backTo pos (starEach es X.env)).any (·.1) = false := by rfl) :
    PE X (.Call (.Name x p) (a :: es) [] pos) (rdE g W (eN f as)) :=
  (pe_callTy hc hg hm hv ha hn hdb he hpl).imp fun s H Q h => rdA_step h
end
end TB

end

/-! ## TbSt -/
section
set_option linter.all false
set_option autoImplicit false
set_option maxRecDepth 100000
namespace TB
open PySem PySem.Spec PyProof.Rows L2

/-! ### junk is dropped -/
theorem PostR.tidy {g : Gx} {W : WK} {m : List Addr} {H : Hp} {Q : VK} {st : Sto} {r : Res D} (S : Sim g m H st) (h : PostR g (Rep g) W m H Q (tidy st r)) : PostR g (Rep g) W m H Q r := by
  have hn : m.length = st.length := S.len
  have pre : ∀ {m' : List Addr} {H' : Hp} {st' : Sto}, Sim g m' H' st' → prefOk st st' = true → (st'.take st.length).all (Cell.under st.length) = true := by
    intro m' H' st' S' p
    unfold prefOk at p
    rw [Bool.or_eq_true, decide_eq_true_eq] at p
    rcases p with p | p
    · rw [p]; exact S.under
    · exact p
  cases r with
  | stuck => exact h
  | exc c fs st' =>
    simp only [TB.tidy] at h
    split at h
    · rename_i hp
      rw [Bool.and_eq_true] at hp
      intro m' H' d l S' F
      refine h (m'.take st.length) H' d (l.cut hn) (S'.cut (pre S' hp.1)) ?_
      obtain ⟨vs, r, k⟩ := F
      exact ⟨vs, r.cut hp.2, k⟩
    · exact h
  | ok d st' =>
    simp only [TB.tidy] at h
    split at h
    · exact h
    · split at h
      · rename_i hl hp
        split at h
        · rename_i hb
          intro m' H' v l S' R
          exact h (m'.take st.length) H' v (l.cut hn) (S'.cut (pre S' hp)) (R.cut hb)
        · split at h
          · rename_i n _
            split at h
            · rename_i c hc
              split at h
              · rename_i hcond
                obtain ⟨hge, hcu⟩ := hcond
                intro m' H' v l S' R
                simp only [Rep] at R
                obtain ⟨a, ha, rfl⟩ := R
                have S1 := S'.cut (pre S' hp)
                have hlt : st.length < st'.length := by omega
                have l1 : (m'.take st.length).length = st.length := by
                  rw [List.length_take, S'.len]; omega
                have ext : Later (m'.take st.length) H' (m'.take st.length ++ [a]) H' := ⟨fun i b e => by rw [List.getElem?_append_left (List.getElem?_eq_some_iff.mp e).1]; exact e, fun _ _ e _ => e⟩
                refine h (m'.take st.length ++ [a]) H' (.ref a) ((l.cut hn).trans ext) ⟨?_, ?_, ?_⟩ ?_
                · simp [S'.len]
                · refine List.nodup_append.mpr ⟨S1.nd, by simp, ?_⟩
                  intro x hx y hy
                  simp at hy
                  subst hy
                  intro e
                  subst e
                  obtain ⟨i, hi⟩ := List.getElem?_of_mem hx
                  have hi2 : i < st.length := by have := (List.getElem?_eq_some_iff.mp hi).1; omega
                  rw [List.getElem?_take, if_pos hi2] at hi
                  have := nodup_get S'.nd hi ha
                  omega
                · intro i c' b hi hb
                  by_cases hlt2 : i < st.length
                  · rw [List.getElem?_append_left (by rw [List.length_take]; omega)] at hi
                    rw [List.getElem?_append_left (by omega)] at hb
                    exact (S1.at_ i c' b hi hb).later ext rfl
                  · have hz : i = st.length := by
                      have := (List.getElem?_eq_some_iff.mp hb).1
                      simp [S'.len] at this
                      omega
                    subst hz
                    rw [List.getElem?_append_right (by rw [List.length_take]; omega)] at hi
                    rw [List.getElem?_append_right (by omega)] at hb
                    have e1 : st.length - (st'.take st.length).length = 0 := by rw [List.length_take]; omega
                    have e2 : st.length - (m'.take st.length).length = 0 := by omega
                    rw [e1] at hi
                    rw [e2] at hb
                    simp at hi hb
                    subst hi hb
                    exact ((S'.at_ n c a hc ha).cut hcu).later ext rfl
                · simp only [Rep]
                  exact ⟨a, by rw [List.getElem?_append_right (by omega)]; simp [l1], rfl⟩
              · exact h
            · exact h
          · exact h
      · exact h
section
variable {X : Cx} {g : Gx} {W : WX} {pos : Pos} {a b c : Expr} {es rest : List Expr} {ma mb mc : EM} {as : AM} {ta tb : TM}
theorem so_T (h : PE X a (rdE g W ma)) : PE X a (rdE g W (eT ma)) := h.imp fun s H Q ⟨m, r, st, S, E, P⟩ => ⟨m, r, st, S, E, PostR.tidy S P⟩

/-! ### tests -/
theorem rdT_val {f : D → Sto → Res Bool} {s : L2.St} {H : Hp} {Q : Bool → Hp → Prop} (h : rdT g W (fun r st => (ma r st).bind f) s H Q) : rdE g W ma s H fun x H1 => rTD g f x H1 Q := by
  obtain ⟨m, r, st, S, E, P⟩ := h
  exact rdE_step (f := fun _ => f) S E P fun m1 H1 d x st1 _ l1 S1 E1 r1 P1 => ⟨_, m1, st1, d, S1, r1, P1⟩
theorem isBl_of {x : V} {H : Hp} {Q : Bool → Hp → Prop} (h : rTD g isBl x H Q) : ∃ k, x = .bl k ∧ Q k H := by
  obtain ⟨W, m, st, d, S, r, P⟩ := h
  cases d with
  | bl k => simp only [Rep] at r; exact ⟨k, r, P.now S rfl⟩
  | _ => exact P.elim
theorem so_tB (h : PE X a (rdE g W ma)) (he : ∀ whole, isTrue a X.env whole = (do let v ← whole; standAt a.pos; holding [v] (truthy v)) := by intro _; rfl) : PT X a (rdT g W (tB ma)) :=
  (pt_val h he).imp fun s H Q q => by
    have := rdT_val (f := isBl) q
    obtain ⟨m, r, st, S, E, P⟩ := this
    exact ⟨m, r, st, S, E, P.imp fun _ _ _ _ _ _ _ _ _ q => isBl_of q⟩
theorem so_tcmp {op : CmpOp} {f : D → D → Sto → Res D} (ho : OpR X (compareOp op) (r2D g f)) (ha : PE X a (rdE g W ma)) (hb : PE X b (rdE g W mb)) (hm : behindInMarks op b = false := by rfl) : PT X (.Compare a [op] [b] pos) (rdT g W (tB (e2 f ma mb))) :=
  (pt_cmpR ho ha hb hm).imp fun s H Q q => by
    have := rdT_val (f := isBl) q
    obtain ⟨m, r, st, S, E, P⟩ := this
    exact rdE_e2 ⟨m, r, st, S, E, P.imp fun _ _ _ _ _ _ _ _ _ q => isBl_of q⟩
theorem truth_of {x : V} {H : Hp} {Q : Bool → Hp → Prop} (h : rTD g truth x H Q) : ∃ k, TruV g.K x H k ∧ Q k H := by
  obtain ⟨W, m, st, d, S, r, P⟩ := h
  cases d with
  | bl k => simp only [Rep] at r; subst r; exact ⟨k, rfl, P.now S rfl⟩
  | non => simp only [Rep] at r; subst r; exact ⟨false, rfl, P.now S rfl⟩
  | int i =>
    simp only [Rep] at r; subst r
    refine ⟨i != 0, rfl, ?_⟩
    have := P.now S rfl
    simpa [bne, Bool.beq_eq_decide_eq] using this
  | tup ds =>
    simp only [Rep] at r
    obtain ⟨p, vs, rfl, q, k⟩ := r
    refine ⟨!vs.isEmpty, .inr (.inl ⟨vs, q, rfl⟩), ?_⟩
    have := P.now S rfl
    have e : ds.isEmpty = vs.isEmpty := by
      cases ds with
      | nil => rw [k.nil_inv]; rfl
      | cons d ds => obtain ⟨v, r, rfl, _, _⟩ := k.cons_inv; rfl
    rw [e] at this
    exact this
  | lstv ds =>
    simp only [Rep] at r
    obtain ⟨p, vs, rfl, q, k⟩ := r
    refine ⟨!vs.isEmpty, .inl ⟨vs, q.sq, rfl⟩, ?_⟩
    have := P.now S rfl
    have e : ds.isEmpty = vs.isEmpty := by
      cases ds with
      | nil => rw [k.nil_inv]; rfl
      | cons d ds => obtain ⟨v, r, rfl, _, _⟩ := k.cons_inv; rfl
    rw [e] at this
    exact this
  | loc n =>
    simp only [Rep] at r
    obtain ⟨p, e, rfl⟩ := r
    simp only [truth] at P
    cases hc : st[n]? with
    | none => rw [hc] at P; exact P.elim
    | some c =>
      rw [hc] at P
      have hcr := S.at_ n c p hc e
      have emp : ∀ {xs : List D} {vs : List V}, RepL g m H xs vs → xs.isEmpty = vs.isEmpty := by
        intro xs vs k
        cases xs with
        | nil => rw [k.nil_inv]; rfl
        | cons d ds => obtain ⟨v, r, rfl, _, _⟩ := k.cons_inv; rfl
      cases c with
      | lst xs =>
        obtain ⟨vs, q, k⟩ := hcr
        refine ⟨!vs.isEmpty, .inl ⟨vs, .of q, rfl⟩, ?_⟩
        rw [← emp k]
        exact P.now S rfl
      | dct _ => exact P.elim
      | ins _ _ => exact P.elim
  | _ => exact P.elim
theorem so_tTr (hK : X.K = g.K) (h : PE X a (rdE g W ma)) (he : ∀ whole, isTrue a X.env whole = (do let v ← whole; standAt a.pos; holding [v] (truthy v)) := by intro _; rfl) : PT X a (rdT g W (tTr ma)) :=
  (pt_truth h he).imp fun s H Q q => by
    have := rdT_val (f := truth) q
    obtain ⟨m, r, st, S, E, P⟩ := this
    exact ⟨m, r, st, S, E, P.imp fun _ _ _ _ _ _ _ _ _ q => by rw [hK]; exact truth_of q⟩
/-- one test, then the rest -/
theorem rdT_step {β γ : Type} {R : List Addr → Hp → β → γ → Prop} {s : L2.St} {H : Hp} {f : Env → Bool → Sto → Res β} {m : List Addr} {r : Env} {st : Sto} {Q : γ → Hp → Prop} {K : Bool → Hp → Prop}
    (S : Sim g m H st) (E : RepE g m H r s) (h : PostR g R (wAt W s) m H Q ((ta r st).bind (f r)))
    (k : ∀ m1 H1 d st1, ta r st = .ok d st1 → Later m H m1 H1 → Sim g m1 H1 st1 → RepE g m1 H1 r s → PostR g R (wAt W s) m1 H1 Q (f r d st1) → K d H1) : rdT g W ta s H K :=
  ⟨m, r, st, S, E, (h.bind (R := fun _ _ (a b : Bool) => a = b)).imp fun m1 H1 v d st1 e l S1 rv ⟨m2, d2, st2, e2, l2, S2, r2, p2⟩ => by
    rw [e] at e2
    cases e2
    cases r2
    exact k m2 H1 _ st1 e l2 S2 (E.later l2) p2⟩
theorem so_tNot (ha : PT X a (rdT g W ta)) : PT X (.UnaryOp .Not a pos) (rdT g W (tNot ta)) :=
  (pt_not ha).imp fun s H Q ⟨m, r, st, S, E, P⟩ => rdT_step (f := fun _ k s1 => .ok (!k) s1) S E P fun m1 H1 k st1 _ l1 S1 E1 P1 => P1.now S1 rfl
theorem so_and1 (ha : PT X a (rdT g W ta)) : PW X (.BoolOp .And [a] pos) (rdT g W ta) := pw_and1 ha
theorem so_or1 (ha : PT X a (rdT g W ta)) : PW X (.BoolOp .Or [a] pos) (rdT g W ta) := pw_or1 ha
theorem so_tAnd (ha : PT X a (rdT g W ta)) (hb : PW X (.BoolOp .And (b :: rest) pos) (rdT g W tb)) : PW X (.BoolOp .And (a :: b :: rest) pos) (rdT g W (tAnd ta tb)) :=
  (pw_and ha hb).imp fun s H Q ⟨m, r, st, S, E, P⟩ => rdT_step (f := fun r k s1 => if k = true then tb r s1 else .ok false s1) S E P fun m1 H1 k st1 _ l1 S1 E1 P1 => by
    cases k with
    | true => exact ⟨m1, r, st1, S1, E1, P1⟩
    | false => exact P1.now S1 rfl
theorem so_tOr (ha : PT X a (rdT g W ta)) (hb : PW X (.BoolOp .Or (b :: rest) pos) (rdT g W tb)) : PW X (.BoolOp .Or (a :: b :: rest) pos) (rdT g W (tOr ta tb)) :=
  (pw_or ha hb).imp fun s H Q ⟨m, r, st, S, E, P⟩ => rdT_step (f := fun r k s1 => if k = true then .ok true s1 else tb r s1) S E P fun m1 H1 k st1 _ l1 S1 E1 P1 => by
    cases k with
    | true => exact P1.now S1 rfl
    | false => exact ⟨m1, r, st1, S1, E1, P1⟩
/-! as values -/
theorem rdE_bl {f : Env → Bool → Sto → Res D} {K : V → Hp → Prop} {s : L2.St} {H : Hp} {Q : VK} (h : rdE g W (fun r st => (ma r st).bind fun x s1 => (isBl x s1).bind (f r)) s H Q)
    (kk : ∀ (m : List Addr) (H1 : Hp) (r : Env) (st : Sto) (d : Bool), Sim g m H1 st → RepE g m H1 r s → PostR g (Rep g) (wAt W s) m H1 Q (f r d st) → K (.bl d) H1) : rdE g W ma s H K := by
  obtain ⟨m, r, st, S, E, P⟩ := h
  refine rdE_step (f := fun r x s1 => (isBl x s1).bind (f r)) S E P fun m1 H1 d x st1 _ l1 S1 E1 r1 P1 => ?_
  cases d with
  | bl b =>
    simp only [Rep] at r1
    subst r1
    exact kk m1 H1 r st1 b S1 E1 P1
  | _ => exact P1.elim
theorem so_one {op : BoolOp} (ha : PE X a (rdE g W ma)) : PE X (.BoolOp op [a] pos) (rdE g W ma) := pe_one ha
theorem so_eAnd (ha : PE X a (rdE g W ma)) (hb : PE X (.BoolOp .And (b :: rest) pos) (rdE g W mb)) : PE X (.BoolOp .And (a :: b :: rest) pos) (rdE g W (eAnd ma mb)) :=
  (pe_and ha hb).imp fun s H Q h => rdE_bl (f := fun r k s2 => if k = true then mb r s2 else .ok (.bl false) s2) h fun m1 H1 r st1 k S1 E1 P1 => by
    refine ⟨k, rfl, ?_⟩
    cases k with
    | true => exact ⟨m1, r, st1, S1, E1, P1⟩
    | false => exact P1.now S1 (by simp only [Rep])
theorem so_eOr (ha : PE X a (rdE g W ma)) (hb : PE X (.BoolOp .Or (b :: rest) pos) (rdE g W mb)) : PE X (.BoolOp .Or (a :: b :: rest) pos) (rdE g W (eOr ma mb)) :=
  (pe_or ha hb).imp fun s H Q h => rdE_bl (f := fun r k s2 => if k = true then .ok (.bl true) s2 else mb r s2) h fun m1 H1 r st1 k S1 E1 P1 => by
    refine ⟨k, rfl, ?_⟩
    cases k with
    | true => exact P1.now S1 (by simp only [Rep])
    | false => exact ⟨m1, r, st1, S1, E1, P1⟩
theorem so_eNot (ha : PE X a (rdE g W ma)) : PE X (.UnaryOp .Not a pos) (rdE g W (eNot ma)) :=
  (pe_not ha).imp fun s H Q h => rdE_bl (f := fun r k s2 => .ok (.bl (!k)) s2) h fun m1 H1 r st1 k S1 E1 P1 => ⟨k, rfl, P1.now S1 (by simp only [Rep])⟩
theorem so_if {tc : TM} (hc : PT X c (rdT g W tc)) (ha : PE X a (rdE g W ma)) (hb : PE X b (rdE g W mb)) : PE X (.IfExp c a b pos) (rdE g W (eIf tc ma mb)) :=
  (pe_ifExp hc ha hb).imp fun s H Q ⟨m, r, st, S, E, P⟩ => rdT_step (f := fun r k s1 => if k = true then ma r s1 else mb r s1) S E P fun m1 H1 k st1 _ l1 S1 E1 P1 => by
    cases k with
    | true => exact ⟨m1, r, st1, S1, E1, P1⟩
    | false => exact ⟨m1, r, st1, S1, E1, P1⟩
theorem rdE_chain {f h : D → D → Sto → Res D} {s : L2.St} {H : Hp} {Q : VK} (q : rdE g W (eChain f h ma mb mc) s H Q) : tChain (r2D g f) (r2D g h) (rdE g W ma) (rdE g W mb) (rdE g W mc) s H Q := by
  obtain ⟨m, r, st, S, E, P⟩ := q
  refine rdE_step (f := fun r x s1 => (mb r s1).bind fun y s2 => (f x y s2).bind fun z s3 => (isBl z s3).bind fun k s4 => if k = true then (mc r s4).bind fun w s5 => h y w s5 else .ok (.bl false) s4) S E P fun m1 H1 d x st1 _ l1 S1 E1 r1 P1 => ?_
  refine rdE_step (f := fun r y s2 => (f d y s2).bind fun z s3 => (isBl z s3).bind fun k s4 => if k = true then (mc r s4).bind fun w s5 => h y w s5 else .ok (.bl false) s4) S1 E1 P1 fun m2 H2 e y st2 _ l2 S2 E2 r2 P2 => ?_
  refine ⟨_, m2, st2, d, e, S2, r1.later l2, r2, (P2.bind (R := Rep g)).imp fun m3 H3 z dz st3 e3 l3 S3 rz ⟨m4, d4, st4, e4, l4, S4, r4, P4⟩ => ?_⟩
  rw [e3] at e4; cases e4
  cases dz with
  | bl k =>
    simp only [Rep] at r4
    subst r4
    refine ⟨k, rfl, ?_⟩
    cases k with
    | true =>
      refine rdE_step (f := fun r w s5 => h e w s5) S4 (E2.later l4) P4 fun m5 H5 d5 w st5 _ l5 S5 E5 r5 P5 => ?_
      exact ⟨_, m5, st5, e, d5, S5, (r2.later l4).later l5, r5, P5⟩
    | false => exact P4.now S4 (by simp only [Rep])
  | _ => exact P4.elim
theorem so_chain {op op' : CmpOp} {f h : D → D → Sto → Res D} (ho : OpR X (compareOp op) (r2D g f)) (ho' : OpR X (compareOp op') (r2D g h)) (ha : PE X a (rdE g W ma)) (hb : PE X b (rdE g W mb)) (hc : PE X c (rdE g W mc))
    (hm : lastMarks [op, op'] [b, c] = false := by with_unfolding_all rfl) : PE X (.Compare a [op, op'] [b, c] pos) (rdE g W (eChain f h ma mb mc)) := (pe_chain ho ho' ha hb hc hm).imp fun s H Q => rdE_chain
theorem so_tchain {op op' : CmpOp} {f h : D → D → Sto → Res D} (ho : OpR X (compareOp op) (r2D g f)) (ho' : OpR X (compareOp op') (r2D g h)) (ha : PE X a (rdE g W ma)) (hb : PE X b (rdE g W mb)) (hc : PE X c (rdE g W mc))
    (hm : lastMarks [op, op'] [b, c] = false := by with_unfolding_all rfl) : PT X (.Compare a [op, op'] [b, c] pos) (rdT g W (tB (eChain f h ma mb mc))) := (pt_chain ho ho' ha hb hc hm).imp fun s H Q q => by
  have := rdT_val (f := isBl) q
  obtain ⟨m, r, st, S, E, P⟩ := this
  exact rdE_chain ⟨m, r, st, S, E, P.imp fun _ _ _ _ _ _ _ _ _ q => isBl_of q⟩
end
end TB

end

/-! ## TbFn -/
section
set_option linter.all false
set_option autoImplicit false
set_option maxRecDepth 100000
namespace TB
open PySem PySem.Spec PyProof.Rows L2

/-! ### the abstract heap changes -/
theorem noImm_lst {a : Addr} {xs : List V} : ¬ Imm a (.lst xs) := by intro h; cases h
theorem noImm_dK {a : Addr} {xs : List (Key × V)} : ¬ Imm a (.dK xs) := by intro h; cases h
theorem noImm_ins {a C dx : Addr} {xs : List (Str × V)} : ¬ Imm a (.ins C dx xs) := by intro h; cases h
section
variable {g : Gx} {m : List Addr} {H : Hp} {st : Sto} {p : Addr} {o : HO} {c : Cell} {a : Addr} {i : Nat}
theorem CellRep.own (h : CellRep g m H c a) : ∃ o, H a = some o ∧ ¬ Imm a o := by
  cases c with
  | lst xs => obtain ⟨vs, q, _⟩ := h; exact ⟨_, q, noImm_lst⟩
  | dct kvs => obtain ⟨ws, q, _⟩ := h; exact ⟨_, q, noImm_dK⟩
  | ins c fs => obtain ⟨dx, ws, q, _⟩ := h; exact ⟨_, q, noImm_ins⟩
theorem Sim.mem (S : Sim g m H st) (e : m[i]? = some a) : ∃ o, H a = some o ∧ ¬ Imm a o := by
  have hi : i < st.length := by rw [← S.len]; exact (List.getElem?_eq_some_iff.mp e).1
  exact (S.at_ i _ a (List.getElem?_eq_getElem hi) e).own
theorem Later.new (hp : H p = none) : Later m H m (upd H p o) := ⟨fun _ _ e => e, fun a u e _ => by rw [upd_ne (ne_of_none e hp)]; exact e⟩
theorem Sim.new (S : Sim g m H st) (hp : H p = none) : Sim g m (upd H p o) st := by
  refine ⟨S.len, S.nd, fun i c a hc e => (S.at_ i c a hc e).later (Later.new hp) ?_⟩
  obtain ⟨u, q, _⟩ := S.mem e
  rw [upd_ne (ne_of_none q hp)]
theorem Later.alloc (hp : H p = none) : Later m H (m ++ [p]) (upd H p o) :=
  ⟨fun i a e => by rw [List.getElem?_append_left (List.getElem?_eq_some_iff.mp e).1]; exact e, fun a u e _ => by rw [upd_ne (ne_of_none e hp)]; exact e⟩
theorem Sim.alloc (S : Sim g m H st) (hp : H p = none) (hc : CellRep g (m ++ [p]) (upd H p o) c p) : Sim g (m ++ [p]) (upd H p o) (st ++ [c]) := by
  refine ⟨by simp [S.len], ?_, fun i c' a hi e => ?_⟩
  · refine List.nodup_append.mpr ⟨S.nd, by simp, ?_⟩
    intro x hx y hy z
    simp at hy
    subst hy z
    obtain ⟨i, hi⟩ := List.getElem?_of_mem hx
    obtain ⟨u, q, _⟩ := S.mem hi
    rw [hp] at q
    cases q
  · by_cases hl : i < st.length
    · rw [List.getElem?_append_left hl] at hi
      rw [List.getElem?_append_left (by rw [S.len]; exact hl)] at e
      refine (S.at_ i c' a hi e).later (Later.alloc hp) ?_
      obtain ⟨u, q, _⟩ := S.mem e
      rw [upd_ne (ne_of_none q hp)]
    · have hz : i = st.length := by
        have := (List.getElem?_eq_some_iff.mp hi).1
        simp at this
        omega
      subst hz
      rw [List.getElem?_append_right (Nat.le_refl _)] at hi
      rw [List.getElem?_append_right (by rw [S.len]; exact Nat.le_refl _)] at e
      simp [S.len] at hi e
      subst hi e
      exact hc
theorem Later.write {m : List Addr} {u : HO} (e : H a = some u) (n : ¬ Imm a u) : Later m H m (upd H a o) := ⟨fun _ _ e => e, fun b v q k => by
  rw [upd_ne fun z => ?_]
  · exact q
  · subst z
    rw [e] at q
    cases q
    exact n k⟩
theorem Sim.write (S : Sim g m H st) (e : m[i]? = some a) (hc : CellRep g m (upd H a o) c a) : Sim g m (upd H a o) (st.set i c) := by
  obtain ⟨u, q, n⟩ := S.mem e
  refine ⟨by simp [S.len], S.nd, fun j c' b hj hb => ?_⟩
  by_cases hij : i = j
  · subst hij
    rw [e] at hb
    cases hb
    have hlt : i < st.length := by
      have := (List.getElem?_eq_some_iff.mp hj).1
      simpa using this
    rw [List.getElem?_set_self hlt] at hj
    cases hj
    exact hc
  · rw [List.getElem?_set_ne hij] at hj
    refine (S.at_ j c' b hj hb).later (Later.write q n) ?_
    rw [upd_ne fun z => ?_]
    subst z
    exact hij (nodup_get S.nd e hb)
end

/-! ### displays -/
def LINE : Nat := 16777216
theorem line_eq : sizeLine = LINE := sizeLine_eq
def mkTup (ds : List D) (st : Sto) : Res D := if ds.length ≤ LINE then .ok (.tup ds) st else .stuck
def mkLst (ds : List D) (st : Sto) : Res D := if ds.length ≤ LINE then .ok (.loc st.length) (st ++ [.lst ds]) else .stuck
section
variable {g : Gx} {m : List Addr} {H : Hp} {st : Sto} {W : WK} {Q : VK} {ds : List D} {vs : List V}
/-- a new tuple -/
theorem post_tup (S : Sim g m H st) (r : RepL g m H ds vs) (P : PostR g (Rep g) W m H Q (.ok (.tup ds) st)) (p : Addr) (hp : H p = none) : Q (.ref p) (upd H p (.tup vs)) := by
  refine P m _ (.ref p) (Later.new hp) (S.new hp) ?_
  simp only [Rep]
  exact ⟨p, vs, rfl, .of upd_same, r.later (Later.new hp)⟩
theorem post_lst (S : Sim g m H st) (r : RepL g m H ds vs) (P : PostR g (Rep g) W m H Q (.ok (.loc st.length) (st ++ [.lst ds]))) (p : Addr) (hp : H p = none) : Q (.ref p) (upd H p (.lst vs)) := by
  refine P (m ++ [p]) _ (.ref p) (Later.alloc hp) (S.alloc hp ⟨vs, upd_same, r.later (Later.alloc hp)⟩) ?_
  simp only [Rep]
  exact ⟨p, by rw [← S.len]; simp, rfl⟩
variable {X : Cx} {W : WX} {pos : Pos} {es : List Expr} {as : AM}
theorem so_tup {k : Nat} (h : PA X es (rdA g W as)) : PE X (.Tuple es k pos) (rdE g W (eN mkTup as)) :=
  (pe_tup h).imp fun s H Q q => by
    obtain ⟨m, r, st, S, E, P⟩ := rdA_step q
    refine ⟨m, r, st, S, E, P.imp fun m' H' vs ds st' _ l S' rr q => ?_⟩
    obtain ⟨W', m2, st2, es, S2, r2, P2⟩ := q
    unfold mkTup at P2
    split at P2
    · rename_i hl
      rw [r2.length] at hl
      exact ⟨by rw [line_eq]; exact hl, post_tup S2 r2 P2⟩
    · exact P2.elim
theorem so_lst (h : PA X es (rdA g W as)) : PE X (.List es pos) (rdE g W (eN mkLst as)) :=
  (pe_lst h).imp fun s H Q q => by
    obtain ⟨m, r, st, S, E, P⟩ := rdA_step q
    refine ⟨m, r, st, S, E, P.imp fun m' H' vs ds st' _ l S' rr q => ?_⟩
    obtain ⟨W', m2, st2, es, S2, r2, P2⟩ := q
    unfold mkLst at P2
    split at P2
    · rename_i hl
      rw [r2.length] at hl
      exact ⟨by rw [line_eq]; exact hl, post_lst S2 r2 P2⟩
    · exact P2.elim
end

/-! ### statements -/
def PostS (g : Gx) (W : WX) (m : List Addr) (H : Hp) (D : Ends) : SRes → Prop
  | .nx r st => ∀ m' H' s, Later m H m' H' → Sim g m' H' st → RepE g m' H' r s → D.nx s H'
  | .ret d st => ∀ m' H' v, Later m H m' H' → Sim g m' H' st → Rep g m' H' d v → D.rt v H'
  | .exc c fs r st => ∀ m' H' s d, Later m H m' H' → Sim g m' H' st → RepE g m' H' r s → ExcF g m' H' c fs d → W (.ref (g.ga c)) d s H'
  | .stuck => False
def rdS (g : Gx) (W : WX) (a : SM) : TS := fun D s H => ∃ m r st, Sim g m H st ∧ RepE g m H r s ∧ PostS g W m H D (a r st)
section
variable {g : Gx} {W : WX} {m m' : List Addr} {H H' : Hp} {D D' : Ends} {r : Env} {s : L2.St} {st : Sto}
theorem PostS.later (l : Later m H m' H') {x : SRes} (h : PostS g W m H D x) : PostS g W m' H' D x := by
  cases x with
  | nx r st => exact fun m2 H2 s l2 => h m2 H2 s (l.trans l2)
  | ret d st => exact fun m2 H2 s l2 => h m2 H2 s (l.trans l2)
  | exc c fs r st => exact fun m2 H2 s d l2 => h m2 H2 s d (l.trans l2)
  | stuck => exact h
theorem PostS.imp {x : SRes} (h : PostS g W m H D x) (i : ∀ m' H' s r st, x = .nx r st → Later m H m' H' → Sim g m' H' st → RepE g m' H' r s → D.nx s H' → D'.nx s H') (j : ∀ v H', D.rt v H' → D'.rt v H') : PostS g W m H D' x := by
  cases x with
  | nx r st => exact fun m2 H2 s l S E => i m2 H2 s r st rfl l S E (h m2 H2 s l S E)
  | ret d st => exact fun m2 H2 v l S R => j v H2 (h m2 H2 v l S R)
  | exc c fs r st => exact h
  | stuck => exact h
/-- an expression within a statement -/
theorem PostS.ofE {α β : Type} {R : List Addr → Hp → α → β → Prop} {x : Res α} {k : α → Sto → SRes} (E : RepE g m H r s) (h : PostS g W m H D (x.thenS r k)) :
    PostR g R (wAt W s) m H (fun b H1 => ∃ m1 a st1, x = .ok a st1 ∧ Later m H m1 H1 ∧ Sim g m1 H1 st1 ∧ R m1 H1 a b ∧ PostS g W m1 H1 D (k a st1)) x := by
  cases x with
  | ok a st1 => exact fun m2 H2 b l S R => ⟨m2, a, st1, rfl, l, S, R, PostS.later l h⟩
  | exc c fs st1 => exact fun m2 H2 d l S F => h m2 H2 s d l S (E.later l) F
  | stuck => exact h
theorem PostS.seq {x : SRes} {k : Env → Sto → SRes} (h : PostS g W m H D (x.thenS k)) :
    PostS g W m H { D with nx := fun s1 H1 => ∃ m1 r1 st1, x = .nx r1 st1 ∧ Later m H m1 H1 ∧ Sim g m1 H1 st1 ∧ RepE g m1 H1 r1 s1 ∧ PostS g W m1 H1 D (k r1 st1) } x := by
  cases x with
  | nx r1 st1 => exact fun m2 H2 s l S E => ⟨m2, r1, st1, rfl, l, S, E, PostS.later l h⟩
  | ret d st => exact h
  | exc c fs r st => exact h
  | stuck => exact h
theorem PostS.nowN (P : PostS g W m H D (.nx r st)) (S : Sim g m H st) (E : RepE g m H r s) : D.nx s H := P m H s .refl S E
end
section
variable {X : Cx} {g : Gx} {W : WX} {pos : Pos} {a b c e : Expr} {sa sb : List Stmt} {stm : Stmt} {ma mb : EM} {tc : TM} {ka kb : SM}
/-- one expression of a statement, its junk dropped -/
theorem rdS_step {K : V → Hp → Prop} {f : Env → D → Sto → SRes} {m : List Addr} {H : Hp} {D : Ends} {r : Env} {s : L2.St} {st : Sto} (S : Sim g m H st) (E : RepE g m H r s) (h : PostS g W m H D ((tidy st (ma r st)).thenS r (f r)))
    (k : ∀ m1 H1 d v st1, Later m H m1 H1 → Sim g m1 H1 st1 → RepE g m1 H1 r s → Rep g m1 H1 d v → PostS g W m1 H1 D (f r d st1) → K v H1) : rdE g W ma s H K :=
  ⟨m, r, st, S, E, PostR.tidy S ((PostS.ofE (R := Rep g) E h).imp fun m1 H1 v d st1 _ l1 S1 r1 ⟨m2, d2, st2, e2, l2, S2, r2, p2⟩ => k m2 H1 d2 v st2 l2 S2 (E.later l2) r2 p2)⟩
theorem rdS_step0 {K : V → Hp → Prop} {f : Env → D → Sto → SRes} {m : List Addr} {H : Hp} {D : Ends} {r : Env} {s : L2.St} {st : Sto} (S : Sim g m H st) (E : RepE g m H r s) (h : PostS g W m H D ((ma r st).thenS r (f r)))
    (k : ∀ m1 H1 d v st1, Later m H m1 H1 → Sim g m1 H1 st1 → RepE g m1 H1 r s → Rep g m1 H1 d v → PostS g W m1 H1 D (f r d st1) → K v H1) : rdE g W ma s H K :=
  ⟨m, r, st, S, E, ((PostS.ofE (R := Rep g) E h).imp fun m1 H1 v d st1 _ l1 S1 r1 ⟨m2, d2, st2, e2, l2, S2, r2, p2⟩ => k m2 H1 d2 v st2 l2 S2 (E.later l2) r2 p2)⟩
theorem ss_nil : PSs X [] (rdS g W sSkip) := pss_nil.imp fun D s H ⟨m, r, st, S, E, P⟩ => P.nowN S E
theorem ss_pass : PS X (.Pass pos) (rdS g W sSkip) := ps_pass.imp fun D s H ⟨m, r, st, S, E, P⟩ => P.nowN S E
theorem ss_cons (h1 : PS X stm (rdS g W ka)) (h2 : PSs X sa (rdS g W kb)) : PSs X (stm :: sa) (rdS g W (sSeq ka kb)) :=
  (pss_cons h1 h2).imp fun D s H ⟨m, r, st, S, E, P⟩ => ⟨m, r, st, S, E, (PostS.seq P).imp (fun _ H1 s1 _ _ _ _ _ _ ⟨m1, r1, st1, _, _, S1, E1, P1⟩ => ⟨m1, r1, st1, S1, E1, P1⟩) fun _ _ q => q⟩
theorem ss_one (h1 : PS X stm (rdS g W ka)) : PSs X [stm] (rdS g W ka) := pss_one h1
theorem ss_exp (he : PE X e (rdE g W ma)) (hs : swapsWith e none pos.line X.env = pure false := by rfl) : PS X (.Expr e pos) (rdS g W (sExp ma)) :=
  (ps_expr he hs).imp fun D s H ⟨m, r, st, S, E, P⟩ => rdS_step (f := fun r _ s1 => .nx r s1) S E P fun m1 H1 d v st1 l1 S1 E1 r1 P1 => P1.nowN S1 E1
theorem ss_set {i : Nat} {x : Str} {pos' : Pos} (hN : X.N.Nodup) (he : PE X e (rdE g W ma)) (hi : X.N[i]? = some x := by rfl) (hx : Loc X.env.scope x := by first | exact Or.inl rfl | exact Or.inr rfl) (hs : swapsWith e (some (.Name x pos')) pos.line X.env = pure false := by rfl)
    (hf : X.fn x = true ∨ X.env.scope.names.lookup x = some .local := by first | exact .inl rfl | exact .inr rfl | assumption) : PS X (.Assign [.Name x pos'] e pos) (rdS g W (sSet i ma)) :=
  (ps_set hN hi hx he hs hf).imp fun D s H ⟨m, r, st, S, E, P⟩ => rdS_step (f := fun r d s1 => if i < r.length then .nx (r.set i (some d)) s1 else .stuck) S E P fun m1 H1 d v st1 l1 S1 E1 r1 P1 => by
    split at P1
    · exact P1.nowN S1 (E1.set i r1)
    · exact P1.elim
theorem ss_ret (he : PE X e (rdE g W ma)) : PS X (.Return (some e) pos) (rdS g W (sRet ma)) :=
  (ps_ret he).imp fun D s H ⟨m, r, st, S, E, P⟩ => rdS_step0 (f := fun _ d s1 => .ret d s1) S E P fun m1 H1 d v st1 l1 S1 E1 r1 P1 => P1 m1 H1 v .refl S1 r1
theorem ss_retN : PS X (.Return none pos) (rdS g W (sRet (eC .non))) :=
  ps_retN.imp fun D s H ⟨m, r, st, S, E, P⟩ => P m H .non .refl S (by simp only [Rep])
theorem ss_if (hc : PT X c (rdT g W tc)) (ha : PSs X sa (rdS g W ka)) (hb : PSs X sb (rdS g W kb)) : PS X (.If c sa sb pos) (rdS g W (sIf tc ka kb)) :=
  (ps_if hc ha hb).imp fun D s H ⟨m, r, st, S, E, P⟩ => ⟨m, r, st, S, E, (PostS.ofE (R := fun _ _ (a b : Bool) => a = b) E P).imp fun m1 H1 k k2 st1 _ l1 S1 r1 ⟨m2, d2, st2, e2, l2, S2, r2, p2⟩ => by
    subst r2
    cases d2 with
    | true => exact ⟨m2, r, st2, S2, E.later l2, p2⟩
    | false => exact ⟨m2, r, st2, S2, E.later l2, p2⟩⟩

/-! ### targets -/
def rdG (g : Gx) (W : WX) (a : GM) : TG := fun v s H Q => ∃ m r st d, Sim g m H st ∧ RepE g m H r s ∧ Rep g m H d v ∧ PostR g (fun m H r s => RepE g m H r s) (wAt W s) m H Q (a d r st)
def rdGs (g : Gx) (W : WX) (gs : List GM) : TGs := fun vs s H Q => ∃ m r st ds, Sim g m H st ∧ RepE g m H r s ∧ RepL g m H ds vs ∧ PostR g (fun m H r s => RepE g m H r s) (wAt W s) m H Q (gTupL gs ds r st)
theorem _root_.L2.PG.imp {X : Cx} {e : Expr} {t t' : TG} (h : PG X e t) (i : ∀ v s H Q, t' v s H Q → t v s H Q) : PG X e t' := ⟨fun pins s σ H v u Q I r q => h.run pins s σ H v u Q I r (i _ _ _ _ q)⟩
theorem _root_.L2.PGs.imp {X : Cx} {e : List Expr} {t t' : TGs} (h : PGs X e t) (i : ∀ v s H Q, t' v s H Q → t v s H Q) : PGs X e t' := ⟨fun pins s σ H v u Q I r q => h.run pins s σ H v u Q I r (i _ _ _ _ q)⟩
theorem sg_V {i : Nat} {x : Str} (hN : X.N.Nodup) (hi : X.N[i]? = some x := by rfl) (hx : Loc X.env.scope x := by first | exact Or.inl rfl | exact Or.inr rfl)
    (hf : X.fn x = true ∨ X.env.scope.names.lookup x = some .local := by first | exact .inl rfl | exact .inr rfl | assumption) : PG X (.Name x pos) (rdG g W (gV i)) :=
  (pg_name hN hi hx hf).imp fun v s H Q ⟨m, r, st, d, S, E, R, P⟩ => by
    unfold gV at P
    split at P
    · exact P.now S (E.set i R)
    · exact P.elim
end
/-- targets of unpacking store names alone: no wish hangs on the slots -/
def NoS (W : WX) : Prop := ∀ c d s s' H, W c d s H → W c d s' H
section
variable {X : Cx} {g : Gx} {W : WX} {pos : Pos} {a b c e : Expr} {es : List Expr}
/-- a name's store raises nothing -/
def Calm (a : GM) : Prop := ∀ d r st, (∃ r', a d r st = .ok r' st) ∨ a d r st = .stuck
theorem gV_calm (i : Nat) : Calm (gV i) := fun d r st => by
  unfold gV
  split
  · exact .inl ⟨_, rfl⟩
  · exact .inr rfl
theorem gTupL_calm : ∀ {gs : List GM}, (∀ a ∈ gs, Calm a) → ∀ ds r st, (∃ r', gTupL gs ds r st = .ok r' st) ∨ gTupL gs ds r st = .stuck
  | [], _, [], r, st => .inl ⟨r, rfl⟩
  | [], _, _ :: _, r, st => .inr rfl
  | _ :: _, _, [], r, st => .inr rfl
  | a :: gs, h, d :: ds, r, st => by
    unfold gTupL
    rcases h a (List.mem_cons_self ..) d r st with ⟨r', e⟩ | e
    · rw [e]
      exact gTupL_calm (fun x hx => h x (List.mem_cons_of_mem _ hx)) ds r' st
    · rw [e]
      exact .inr rfl
theorem gTup_calm {gs : List GM} (h : ∀ a ∈ gs, Calm a) : Calm (gTup gs) := fun d r st => by
  unfold gTup
  cases d with
  | tup ds =>
    simp only
    split
    · exact gTupL_calm h _ r st
    · exact .inr rfl
  | _ => exact .inr rfl
theorem sg_nil : PGs X [] (rdGs g W []) := pgs_nil.imp fun vs s H Q ⟨m, r, st, ds, S, E, R, P⟩ => by
  cases ds with
  | nil => exact ⟨R.nil_inv, P.now S E⟩
  | cons d ds => exact P.elim
theorem sg_cons {x : GM} {xs : List GM} (hc : Calm x) (h1 : PG X e (rdG g W x)) (h2 : PGs X es (rdGs g W xs)) (hcs : ∀ a ∈ xs, Calm a) (hs : (assignEach (e :: es) X.env).map (·.2) = assign e X.env :: (assignEach es X.env).map (·.2) := by rfl) : PGs X (e :: es) (rdGs g W (x :: xs)) :=
  (pgs_cons h1 h2 hs).imp fun vs s H Q ⟨m, r, st, ds, S, E, R, P⟩ => by
    cases ds with
    | nil => exact P.elim
    | cons d ds =>
      obtain ⟨v, rest, rfl, rv, rr⟩ := R.cons_inv
      refine ⟨v, rest, rfl, m, r, st, d, S, E, rv, ?_⟩
      rcases hc d r st with ⟨r', e⟩ | e
      · unfold gTupL at P
        rw [e] at P ⊢
        intro m1 H1 s1 l1 S1 E1
        refine ⟨m1, r', st, ds, S1, E1, rr.later l1, ?_⟩
        have P1 := PostR.later l1 P
        rcases gTupL_calm hcs ds r' st with ⟨r2, e2⟩ | e2
        · rw [Res.bind_ok, e2] at P1
          rw [e2]
          exact P1
        · rw [Res.bind_ok, e2] at P1
          exact P1.elim
      · unfold gTupL at P
        rw [e] at P
        exact P.elim
theorem sg_tup {k : Nat} {gs : List GM} {n : Nat} (hK : X.K = g.K) (hc : X.calm = true) (h : PGs X es (rdGs g W gs)) (hgs : gs.length = n := by rfl) (hn : (assignEach es X.env).length = n := by rfl) (hst : (assignEach es X.env).findIdx? (·.1) = none := by rfl) : PG X (.Tuple es k pos) (rdG g W (gTup gs)) :=
  (pg_tup hc h hn hst).imp fun v s H Q ⟨m, r, st, d, S, E, R, P⟩ => by
    cases d with
    | tup ds =>
      simp only [Rep] at R
      obtain ⟨p, vs, rfl, q, rr⟩ := R
      unfold gTup at P
      simp only at P
      split at P
      · rename_i hl
        rw [hK]
        exact ⟨p, vs, rfl, q, by rw [← rr.length, hl, hgs], m, r, st, ds, S, E, rr, P⟩
      · exact P.elim
    | _ => exact P.elim
end
section
variable {X : Cx} {g : Gx} {W : WX} {pos : Pos} {a b c e tg : Expr} {es : List Expr} {sa : List Stmt} {ma mb : EM} {tc : TM} {ka kb : SM} {gm : GM}
theorem ss_asg (he : PE X e (rdE g W ma)) (hg : PG X tg (rdG g W gm)) (hs : swapsWithSole [tg] e pos.line X.env = pure false := by rfl) (hw : swappedStores [tg] e X.env = pure none := by rfl)
    (h1 : (assignEach [tg] X.env).map (·.2) = [assign tg X.env] := by rfl) : PS X (.Assign [tg] e pos) (rdS g W (sAsg gm ma)) :=
  (ps_asg he hg hs hw h1).imp fun D s H ⟨m, r, st, S, E, P⟩ => rdS_step (f := fun r d s1 => (gm d r s1).thenS r fun r1 s2 => .nx r1 s2) S E P fun m1 H1 d v st1 l1 S1 E1 r1 P1 =>
    ⟨m1, r, st1, d, S1, E1, r1, (PostS.ofE (R := fun m H r s => RepE g m H r s) E1 P1).imp fun m2 H2 s2 r2 st2 _ l2 S2 R2 ⟨m3, r3, st3, e3, l3, S3, R3, p3⟩ => p3.nowN S3 R3⟩
/-- o[i] = v -/
def rSD (g : Gx) (f : D → D → D → Sto → Res Unit) : TSet := fun o i v H Q => ∃ W m st d e u, Sim g m H st ∧ Rep g m H d o ∧ Rep g m H e i ∧ Rep g m H u v ∧ PostR g (fun _ _ (_ _ : Unit) => True) W m H (fun _ => Q) (f d e u st)
theorem sg_sub {f : D → D → D → Sto → Res Unit} (ha : PE X a (rdE g W ma)) (hb : PE X b (rdE g W mb)) (hs : PSet X (rSD g f))
    (hq : ∀ v, assign (.Subscript a b pos) X.env v = (do
      let ov ← holding [v] (eval a X.env)
      let iv ← holding [v, ov] (eval b X.env)
      standAt pos
      holding [v, ov, iv] (setItem ov iv v)
      release [v, ov, iv] []) := by intro _; rfl) : PG X (.Subscript a b pos) (rdG g W (gSub f ma mb)) :=
  (pg_sub ha hb hs hq).imp fun v s H Q ⟨m, r, st, d, S, E, R, P⟩ => by
    refine rdE_step (R := fun m H r s => RepE g m H r s) (f := fun r x s1 => (mb r s1).bind fun y s2 => (f x y d s2).bind fun _ s3 => .ok r s3) S E P fun m1 H1 x xv st1 _ l1 S1 E1 r1 P1 => ?_
    refine rdE_step (R := fun m H r s => RepE g m H r s) (f := fun r y s2 => (f x y d s2).bind fun _ s3 => .ok r s3) S1 E1 P1 fun m2 H2 y yv st2 _ l2 S2 E2 r2 P2 => ?_
    refine ⟨_, m2, st2, x, y, d, S2, r1.later l2, r2, (R.later l1).later l2, (P2.bind (R := fun _ _ (_ _ : Unit) => True)).imp fun m3 H3 _ _ st3 _ l3 S3 _ ⟨m4, _, st4, _, l4, S4, _, p4⟩ => ?_⟩
    exact p4.now S4 (E2.later l4)

/-! ### loops -/
theorem ss_while {n : Nat} (hp : PassesOwn (model X.prog X.w) X.A X.env X.xe) (hc : PT X c (rdT g W tc)) (hb : PSs X sa (rdS g W kb)) : PS X (.While c sa [] pos) (rdS g W (sWhile n tc kb)) :=
  (ps_while hp hc hb).imp fun D s H ⟨m, r, st, S, E, P⟩ => by
    refine ⟨fun k s1 H1 => ∃ m1 r1 st1, Sim g m1 H1 st1 ∧ RepE g m1 H1 r1 s1 ∧ PostS g W m1 H1 D (whileL tc kb k r1 st1), ⟨n, m, r, st, S, E, P⟩, ?_⟩
    rintro k s1 H1 ⟨m1, r1, st1, S1, E1, P1⟩
    cases k with
    | zero => exact P1.elim
    | succ k =>
      unfold whileL at P1
      refine ⟨m1, r1, st1, S1, E1, (PostS.ofE (R := fun _ _ (a b : Bool) => a = b) E1 P1).imp fun m2 H2 q q2 st2 _ l2 S2 rq ⟨m3, q3, st3, e3, l3, S3, r3, p3⟩ => ?_⟩
      subst r3
      cases q3 with
      | false => exact p3.nowN S3 (E1.later l3)
      | true =>
        refine ⟨fun s4 H4 => ∃ m4 r4 st4, Sim g m4 H4 st4 ∧ RepE g m4 H4 r4 s4 ∧ PostS g W m4 H4 D (whileL tc kb k r4 st4), fun s4 H4 h4 => ⟨k, Nat.lt_succ_self _, h4⟩, m3, r1, st3, S3, E1.later l3, (PostS.seq p3).imp (fun _ H4 s4 _ _ _ _ _ _ ⟨m4, r4, st4, _, _, S4, E4, P4⟩ => ?_) fun _ _ q => q⟩
        exact ⟨m4, r4, st4, S4, E4, P4⟩
/-- what an iterator J does is what it tells -/
structure Wlk (g : Gx) (J : It) (i : Iter) (m0 : List Addr) (H0 : Hp) : Prop where
  go : ∀ (k : Nat) (d : D) (m : List Addr) (H : Hp) (st : Sto), i.items[k]? = some d → Later m0 H0 m H → Sim g m H st → heldOk i.holds st = true → J.go k H ∧ ∀ v H', J.yld k H v H' → Later m H m H' ∧ Sim g m H' st ∧ Rep g m H' d v
  stop : ∀ (m : List Addr) (H : Hp) (st : Sto), Later m0 H0 m H → Sim g m H st → heldOk i.holds st = true → J.stop i.items.length H
theorem Wlk.later {J : It} {i : Iter} {m0 m1 : List Addr} {H0 H1 : Hp} (w : Wlk g J i m0 H0) (l : Later m0 H0 m1 H1) : Wlk g J i m1 H1 :=
  ⟨fun k d m H st e l2 => w.go k d m H st e (l.trans l2), fun m H st l2 => w.stop m H st (l.trans l2)⟩
def rdI (g : Gx) (W : WX) (a : IM) : TI := fun s H R => ∃ m r st, Sim g m H st ∧ RepE g m H r s ∧ PostR g (fun m H i J => Wlk g J i m H) (wAt W s) m H R (a r st)
theorem _root_.L2.PI.imp {X : Cx} {tg e : Expr} {t t' : TI} (h : PI X tg e t) (i : ∀ s H Q, t' s H Q → t s H Q) : PI X tg e t' := ⟨fun pins s σ H Q I q => h.run pins s σ H Q I (i _ _ _ q)⟩
theorem drop_cons {α : Type} {l : List α} {k : Nat} {x : α} {r : List α} (h : l.drop k = x :: r) : l[k]? = some x ∧ l.drop (k + 1) = r := by
  refine ⟨?_, ?_⟩
  · have := congrArg (fun z => z[0]?) h
    simpa using this
  · have := congrArg List.tail h
    simpa using this
theorem ss_for {it : Expr} {im : IM} (hp : PassesOwn (model X.prog X.w) X.A X.env X.xe) (hc : X.calm = true) (hi : PI X tg it (rdI g W im)) (hg : PG X tg (rdG g W gm)) (hb : PSs X sa (rdS g W kb))
    (hs : ∀ x, foldedSetIterable it X.env x = pure x := by intro _; rfl) : PS X (.For tg it sa [] pos) (rdS g W (sFor gm im kb)) :=
  (ps_for hp hc hi hg hb hs).imp fun D s H ⟨m, r, st, S, E, P⟩ => by
    refine ⟨m, r, st, S, E, (PostS.ofE (R := fun m H i J => Wlk g J i m H) E P).imp fun m1 H1 J i st1 _ l1 S1 w1 ⟨m2, i2, st2, e2, l2, S2, w2, p2⟩ => ?_⟩
    refine ⟨fun k n s3 H3 => ∃ m3 r3 st3, n + k = i2.items.length ∧ Later m2 H1 m3 H3 ∧ Sim g m3 H3 st3 ∧ RepE g m3 H3 r3 s3 ∧ PostS g W m3 H3 D (forL i2.holds gm kb (i2.items.drop k) r3 st3), ⟨i2.items.length, m2, r, st2, by simp, .refl, S2, E.later l2, p2⟩, ?_⟩
    rintro k n s3 H3 ⟨m3, r3, st3, hn, l3, S3, E3, P3⟩
    cases hd : i2.items.drop k with
    | nil =>
      rw [hd] at P3
      unfold forL at P3
      split at P3
      · rename_i hh
        have hk : k = i2.items.length := by
          have h1 := congrArg List.length hd
          simp at h1
          omega
        subst hk
        exact .inl ⟨w2.stop m3 H3 st3 l3 S3 hh, P3.nowN S3 E3⟩
      · exact P3.elim
    | cons x xs =>
      rw [hd] at P3
      unfold forL at P3
      split at P3
      · rename_i hh
        obtain ⟨h1, h2⟩ := drop_cons hd
        obtain ⟨gg, yy⟩ := w2.go k x m3 H3 st3 h1 l3 S3 hh
        refine .inr ⟨gg, fun s5 H5 => ∃ m5 r5 st5, Later m2 H1 m5 H5 ∧ Sim g m5 H5 st5 ∧ RepE g m5 H5 r5 s5 ∧ PostS g W m5 H5 D (forL i2.holds gm kb xs r5 st5), fun s5 H5 ⟨m5, r5, st5, l5, S5, E5, P5⟩ => ?_, fun v H4 y4 => ?_⟩
        · have hlt : k < i2.items.length := (List.getElem?_eq_some_iff.mp h1).1
          exact ⟨n - 1, by omega, m5, r5, st5, by omega, l5, S5, E5, by rw [h2]; exact P5⟩
        · obtain ⟨l4, S4, R4⟩ := yy v H4 y4
          have P4 := PostS.later l4 P3
          refine ⟨m3, r3, st3, x, S4, E3.later l4, R4, (PostS.ofE (R := fun m H r s => RepE g m H r s) (E3.later l4) P4).imp fun m5 H5 s5 r5 st5 _ l5 S5 E5 ⟨m6, r6, st6, e6, l6, S6, E6, p6⟩ => ?_⟩
          refine ⟨m6, r6, st6, S6, E6, (PostS.seq p6).imp (fun _ H7 s7 _ _ _ _ _ _ ⟨m7, r7, st7, _, l7, S7, E7, P7⟩ => ?_) fun _ _ q => q⟩
          exact ⟨m7, r7, st7, (((l3.trans l4).trans l6).trans l7), S7, E7, P7⟩
      · exact P3.elim

/-! ### calls of the program's defs -/
/-- what a def promises, by its function -/
def spOf (g : Gx) (n : Nat) (F : List D → Sto → Res D) : Sp := fun vs H Q E => vs.length = n ∧ ∃ m st ds, Sim g m H st ∧ RepL g m H ds vs ∧ PostR g (Rep g) E m H Q (F ds st)
theorem rdA_call {n : Nat} {F : List D → Sto → Res D} {as : AM} {s : L2.St} {H : Hp} {Q : VK} (hl : ∀ m H r st ds st1 vs, as r st = .ok ds st1 → RepL g m H ds vs → (∃ W Q, PostR g (Rep g) W m H Q (F ds st1)) → ds.length = n) (h : rdE g W (eN F as) s H Q) : rdA g W as s H fun vs H1 => spOf g n F vs H1 Q (WE W s) := by
  obtain ⟨m, r, st, S, E, P⟩ := h
  refine ⟨m, r, st, S, E, (PostR.bind (R := RepL g) (f := F) P).imp fun m2 H2 xs ds st2 e l2 S2 rs ⟨m3, ds3, st3, e3, l3, S3, r3, P3⟩ => ?_⟩
  exact ⟨by rw [← r3.length]; exact hl m3 H2 r st ds3 st3 xs e3 r3 ⟨_, _, P3⟩, m3, st3, ds3, S3, r3, P3⟩
/-- a function of so many arguments, else stuck -/
def Arity (n : Nat) (F : List D → Sto → Res D) : Prop := ∀ ds st, ds.length ≠ n → F ds st = .stuck
theorem runF_arity (ps n : Nat) (b : SM) : Arity ps (runF ps n b) := fun ds st h => if_neg h
theorem so_call {x : Str} {p : Pos} {n k : Nat} {F : List D → Sto → Res D} {as : AM} {f : Addr} {fd : FuncData} {ps : List Str} (Fn : FnOk X.prog X.w X.K X.mg X.base (L2.CX X.prog X.w) k f fd ps (spOf g n F)) (ar : Arity n F) (hr : Room k X.A) (hm : X.mg x = some (.ref f))
    (hk : PySem.W.keepIn X.K (.ref f) = true) (hb : Binds X.K fd ps []) (tk : Takes X W) (ha : PA X (a :: es) (rdA g W as)) (hg : Gl X x := by rfl) (hdb : (x == ("__debug__" : Str)) = false := by decide)
    (he : starEach (a :: es) X.env = (false, eval a X.env) :: starEach es X.env := by rfl) (hpl : (backTo pos (starEach es X.env)).any (·.1) = false := by rfl) : PE X (.Call (.Name x p) (a :: es) [] pos) (rdE g W (eN F as)) :=
  (pe_callS Fn hr hg hm hk hb (fun σ => passAt tk σ) ha hdb he hpl).imp fun s H Q q => rdA_call (fun m H r st ds st1 vs _ _ ⟨_, _, P⟩ => by
    by_cases h : ds.length = n
    · exact h
    · rw [ar ds st1 h] at P
      exact P.elim) q
/-- a def keeps the promise by its body -/
theorem fn_ok {P : Program} {w : World} {K : PySem.W.Frag} {mg : Str → Option Value} {base : Heap} {x qual : Str} {params : Arguments} {body : List Stmt} {scope : Scope} {f : Addr} {fd : FuncData} {N ps : List Str} {k n q : Nat} {b : SM}
    (F : FunD K x qual params body scope [] [] f fd) (S : FnScope N ps scope) (hn : ps.length = q) (hN : N.length = n)
    (hbody : ∀ (cdv : Value) (A : Around) (outer : List PySem.Env) (s : Shared) (H : Hp) (E : XK), Room k (A.deeper (envOfC qual scope s.heap.objs.size f cdv)) →
      PSs (cxOf (L2.CX P w) P w K mg base N qual scope f cdv A outer s H E) body (rdS g (fun c d _ H => E c d H) b)) : FnOk P w K mg base (L2.CX P w) (k + 1) f fd ps (spOf g q (runF q n b)) := by
  refine FunD.ok F S (fun vs H Q E h => by rw [hn]; exact h.1) fun cdv A outer s H vs Q E hr h => ⟨_, hbody cdv A outer s H E hr, ?_⟩
  obtain ⟨_, m, st, ds, S0, R, P0⟩ := h
  refine ⟨m, startE n ds, st, S0, .start n N hN R, ?_⟩
  unfold runF at P0
  split at P0
  · have P1 := PostR.tidy S0 P0
    cases hb : b (startE n ds) st with
    | nx r1 st1 =>
      rw [hb] at P1
      exact fun m' H' s l S1 E1 => P1 m' H' .non l S1 (by simp only [Rep])
    | ret d st1 =>
      rw [hb] at P1
      exact fun m' H' v l S1 E1 => P1 m' H' v l S1 E1
    | exc c fs r1 st1 =>
      rw [hb] at P1
      exact fun m' H' s d l S1 E1 F1 => P1 m' H' d l S1 F1
    | stuck =>
      rw [hb] at P1
      exact P1.elim
  · exact P0.elim
end
end TB

end

/-! ## TbLc -/
section
set_option linter.all false
set_option autoImplicit false
set_option maxRecDepth 100000
namespace TB
open PySem PySem.Spec PyProof.Rows L2

abbrev W0 : WX := fun _ _ _ _ => False
theorem noExc_bind {α β γ δ : Type} {g : Gx} {R : List Addr → Hp → α → β → Prop} {R1 : List Addr → Hp → γ → δ → Prop} {W : WK} {m : List Addr} {H : Hp} {Q : β → Hp → Prop} {x : Res γ} {f : γ → Sto → Res α} (h : PostR g R W m H Q (noExc (x.bind f))) {s : L2.St} :
    PostR g R1 (wAt W0 s) m H (fun b H1 => ∃ m1 a st1, x = .ok a st1 ∧ Later m H m1 H1 ∧ Sim g m1 H1 st1 ∧ R1 m1 H1 a b ∧ PostR g R W m1 H1 Q (noExc (f a st1))) x := by
  cases x with
  | ok a st => exact fun m2 H2 b l S r => ⟨m2, a, st, rfl, l, S, r, PostR.later l h⟩
  | exc c fs st => exact h.elim
  | stuck => exact h.elim
theorem wipe_wipe (s : L2.St) : ∀ vs : List Nat, L2.wipe (L2.wipe s vs) vs = L2.wipe s vs := by
  have key : ∀ (vs ws : List Nat) (s : L2.St), (∀ v ∈ vs, v ∈ ws) → L2.wipe (L2.wipe s ws) vs = L2.wipe s ws := by
    intro vs
    induction vs with
    | nil => intro ws s _; rfl
    | cons v vs ih =>
      intro ws s h
      show (L2.wipe (L2.wipe s ws) vs).set v none = L2.wipe s ws
      rw [ih ws s fun x hx => h x (List.mem_cons_of_mem _ hx)]
      refine List.ext_getElem? fun i => ?_
      by_cases hi : v = i
      · subst hi
        by_cases hl : v < (L2.wipe s ws).length
        · rw [List.getElem?_set_self hl]
          cases e : (L2.wipe s ws)[v]? with
          | none => rw [List.getElem?_eq_none_iff] at e; omega
          | some o =>
            cases o with
            | none => rfl
            | some x => exact absurd (h v (List.mem_cons_self ..)) (wipe_some e).2
        · rw [List.getElem?_eq_none (by simpa using hl), List.getElem?_eq_none (by omega)]
      · rw [List.getElem?_set_ne hi]
  exact fun vs => key vs vs s fun _ h => h
/-- a comprehension's target: names of its own -/
def TgOk (g : Gx) (vs : List Nat) (gm : GM) (t : TG) : Prop := ∀ (m : List Addr) (H : Hp) (r : Env) (s : L2.St) (d : D) (v : V) (st : Sto) (r' : Env) (Q : L2.St → Hp → Prop), RepE g m H r s → Rep g m H d v → gm d r st = .ok r' st →
  (∀ s', RepE g m H r' s' → L2.wipe s' vs = L2.wipe s vs → Q s' H) → t v s H Q
def TgsOk (g : Gx) (vs : List Nat) (gs : List GM) (t : TGs) : Prop := ∀ (m : List Addr) (H : Hp) (r : Env) (s : L2.St) (ds : List D) (us : List V) (st : Sto) (r' : Env) (Q : L2.St → Hp → Prop), RepE g m H r s → RepL g m H ds us → gTupL gs ds r st = .ok r' st →
  (∀ s', RepE g m H r' s' → L2.wipe s' vs = L2.wipe s vs → Q s' H) → t us s H Q
theorem wipe_set {vs : List Nat} {i : Nat} (hi : i ∈ vs) (s : L2.St) (o : Option V) : L2.wipe (s.set i o) vs = L2.wipe s vs := by
  have key : ∀ (vs : List Nat) (s : L2.St), L2.wipe (s.set i o) vs = if i ∈ vs then L2.wipe s vs else (L2.wipe s vs).set i o := by
    intro vs
    induction vs with
    | nil => intro s; simp [L2.wipe]
    | cons v vs ih =>
      intro s
      unfold L2.wipe
      rw [ih]
      by_cases h1 : i ∈ vs
      · simp [h1]
      · by_cases h2 : i = v
        · subst h2
          simp [h1, List.set_set]
        · simp [h1, h2, List.set_comm _ _ h2]
  rw [key, if_pos hi]
theorem tg_V {g : Gx} {vs : List Nat} {i : Nat} (hi : i ∈ vs := by decide) : TgOk g vs (gV i) (gName i) := fun m H r s d v st r' Q E R e k => by
  unfold gV at e
  split at e
  · cases e
    exact k _ (E.set i R) (wipe_set hi s _)
  · cases e
theorem tg_nil {g : Gx} {vs : List Nat} : TgsOk g vs [] gNil := fun m H r s ds us st r' Q E R e k => by
  cases ds with
  | nil => cases e; exact ⟨R.nil_inv, k s E rfl⟩
  | cons d ds => cases e
theorem tg_cons {g : Gx} {vs : List Nat} {gm : GM} {gs : List GM} {t : TG} {u : TGs} (hc : Calm gm) (h : TgOk g vs gm t) (k : TgsOk g vs gs u) : TgsOk g vs (gm :: gs) (gCons t u) := fun m H r s ds us st r' Q E R e q => by
  cases ds with
  | nil => cases e
  | cons d ds =>
    obtain ⟨v, rest, rfl, rv, rr⟩ := R.cons_inv
    unfold gTupL at e
    rcases hc d r st with ⟨r1, e1⟩ | e1
    · rw [e1, Res.bind_ok] at e
      exact ⟨v, rest, rfl, h m H r s d v st r1 _ E rv e1 fun s1 E1 w1 => k m H r1 s1 ds rest st r' Q E1 rr e fun s2 E2 w2 => q s2 E2 (w2.trans w1)⟩
    · rw [e1] at e
      cases e
theorem tg_tup {g : Gx} {vs : List Nat} {gs : List GM} {u : TGs} {n : Nat} (hn : gs.length = n) (h : TgsOk g vs gs u) : TgOk g vs (gTup gs) (L2.gTup g.K n u) := fun m H r s d v st r' Q E R e q => by
  cases d with
  | tup ds =>
    simp only [TB.gTup] at e
    split at e
    · rename_i hl
      simp only [Rep] at R
      obtain ⟨p, us, rfl, sq, rr⟩ := R
      exact ⟨p, us, rfl, sq, by rw [← rr.length, hl, hn], h m H r s ds us st r' Q E rr e q⟩
    · cases e
  | _ => cases e
section
variable {X : Cx} {g : Gx} {W : WX} {pos : Pos}
theorem so_tests0 : PTs X [] (rdT g W tYes) := by
  have h : PTs X [] L2.tYes := pts_nil
  exact ⟨fun pins s σ H Q I ⟨m, r, st, S, E, P⟩ => h.run pins s σ H Q I (P.now S rfl)⟩
theorem so_tests1 {c : Expr} {t : TM} (h : PT X c (rdT g W t)) : PTs X [c] (rdT g W t) := pts_one h
theorem rdE_lc {own : List Nat} {gm : GM} {t : TG} {im : IM} {tm : TM} {em : EM} {s : L2.St} {H : Hp} {Q : VK} (hg : TgOk g own gm t) (hcl : Calm gm) (h : rdE g W (eLc own gm im tm em) s H Q) : tLc (rdI g W im) t (rdT g W0 tm) (rdE g W0 em) own s H Q := by
  obtain ⟨m, r, st, S, E, P⟩ := h
  refine ⟨m, r, st, S, E, (P.bind (R := fun m H i J => Wlk g J i m H)).imp fun _ H1 J _ _ _ _ _ _ ⟨m1, i, st1, _, l1, S1, w1, P1⟩ => ?_⟩
  intro D hD
  have E1 := E.later l1
  have L2' : Later m1 H1 (m1 ++ [D]) (upd H1 D (.lst [])) := Later.alloc hD
  have S2 : Sim g (m1 ++ [D]) (upd H1 D (.lst [])) (st1 ++ [.lst []]) := S1.alloc hD ⟨[], upd_same, .nil⟩
  have hp : (m1 ++ [D])[st1.length]? = some D := by rw [← S1.len]; simp
  refine ⟨fun k n H3 => ∃ m3 st3, n + k = i.items.length ∧ Later (m1 ++ [D]) (upd H1 D (.lst [])) m3 H3 ∧ Sim g m3 H3 st3 ∧ PostR g (Rep g) (wAt W s) m3 H3 Q (noExc (lcL i.holds gm tm em (wipeE r own) st1.length (i.items.drop k) st3)),
    ⟨i.items.length, m1 ++ [D], _, by simp, .refl, S2, PostR.later L2' P1⟩, ?_⟩
  rintro k n H3 ⟨m3, st3, hn, l3, S3, P3⟩
  have hp3 : m3[st1.length]? = some D := l3.pre _ _ hp
  cases hd : i.items.drop k with
  | nil =>
    rw [hd] at P3
    unfold lcL at P3
    split at P3
    · rename_i hh
      have hk : k = i.items.length := by
        have h1 := congrArg List.length hd
        simp at h1
        omega
      subst hk
      exact .inl ⟨w1.stop m3 H3 st3 (L2'.trans l3) S3 hh, PostR.now (R := Rep g) P3 S3 (by simp only [Rep]; exact ⟨D, hp3, rfl⟩)⟩
    · exact P3.elim
  | cons x xs =>
    rw [hd] at P3
    unfold lcL at P3
    split at P3
    · rename_i hh
      obtain ⟨h1, h2⟩ := drop_cons hd
      obtain ⟨gg, yy⟩ := w1.go k x m3 H3 st3 h1 (L2'.trans l3) S3 hh
      have hlt : k < i.items.length := (List.getElem?_eq_some_iff.mp h1).1
      refine .inr ⟨gg, fun H5 => ∃ m5 st5, Later (m1 ++ [D]) (upd H1 D (.lst [])) m5 H5 ∧ Sim g m5 H5 st5 ∧ PostR g (Rep g) (wAt W s) m5 H5 Q (noExc (lcL i.holds gm tm em (wipeE r own) st1.length xs st5)),
        fun H5 ⟨m5, st5, l5, S5, P5⟩ => ⟨n - 1, by omega, m5, st5, by omega, l5, S5, by rw [h2]; exact P5⟩, fun v H4 y4 => ?_⟩
      obtain ⟨l4, S4, R4⟩ := yy v H4 y4
      have P4 := PostR.later l4 P3
      have E4 : RepE g m3 H4 (wipeE r own) (L2.wipe s own) := (((E1.later L2').later l3).later l4).wipe own
      rcases hcl x (wipeE r own) st3 with ⟨r', e'⟩ | e'
      · rw [e', Res.bind_ok] at P4
        refine hg m3 H4 (wipeE r own) (L2.wipe s own) x v st3 r' _ E4 R4 e' fun s5 E5 w5 => ⟨w5.trans (wipe_wipe s own), ?_⟩
        refine ⟨m3, r', st3, S4, E5, (noExc_bind (R1 := fun _ _ (a b : Bool) => a = b) P4).imp fun _ H6 b _ _ _ _ _ _ ⟨m6, k6, st6, _, l6, S6, rb, P6⟩ => ?_⟩
        subst rb
        cases k6 with
        | false => exact ⟨m6, st6, (l3.trans l4).trans l6, S6, P6⟩
        | true =>
          show rdE g W0 em s5 H6 _
          have P6' : PostR g (Rep g) (wAt W s) m6 H6 Q (noExc ((tidy st6 (em r' st6)).bind fun d s3 => (match s3[st1.length]? with
            | some (.lst acc) => if acc.length < 16777216 then lcL i.holds gm tm em (wipeE r own) st1.length xs (s3.set st1.length (.lst (acc ++ [d]))) else .stuck
            | _ => .stuck))) := P6
          refine ⟨m6, r', st6, S6, E5.later l6, PostR.tidy S6 ((noExc_bind (R1 := Rep g) P6').imp fun _ H7 v7 _ _ _ _ _ _ ⟨m7, d7, st7, _, l7, S7, r7, P7⟩ => ?_)⟩
          have l37 := ((l3.trans l4).trans l6).trans l7
          have hp7 := l37.pre _ _ hp
          cases hc : st7[st1.length]? with
          | none => rw [hc] at P7; exact P7.elim
          | some c =>
            rw [hc] at P7
            cases c with
            | lst acc =>
              simp only at P7
              split at P7
              · rename_i hlen
                obtain ⟨av, ha, ra⟩ := S7.at_ _ _ _ hc hp7
                have lw : Later m7 H7 m7 (upd H7 D (.lst (av ++ [v7]))) := Later.write ha noImm_lst
                refine ⟨av, ha, by rw [← ra.length, line_eq]; exact hlen, m7, _, l37.trans lw, S7.write (c := .lst (acc ++ [d7])) hp7 ⟨_, upd_same, (ra.later lw).append (.cons (r7.later lw) .nil)⟩, PostR.later lw P7⟩
              · exact P7.elim
            | dct _ => exact P7.elim
            | ins _ _ => exact P7.elim
      · rw [e'] at P4
        exact P4.elim
    · exact P3.elim
theorem so_lc {elt tg it : Expr} {ifs : List Expr} {scope : Scope} {own : List (Str × Nat)} {ow : List Nat} {gm : GM} {t : TG} {im : IM} {tm : TM} {em : EM} (hc : X.calm = true) (hN : X.N.Nodup) (how : own.map (·.2) = ow) (hi : PI X tg it (rdI g W im)) (ok : BlkOk X.N X.env.scope scope own) (hgk : TgOk g ow gm t) (hcl : Calm gm)
    (hg : ∀ (s : Shared) (H : Hp) (C : Addr) (cl : List (Str × Addr)) (fp : List Addr), PG (X.blk s H scope (compEnvC scope cl C X.env) fp) tg t) (ht : ∀ (s : Shared) (H : Hp) (C : Addr) (cl : List (Str × Addr)) (fp : List Addr), PTs (X.blk s H scope (compEnvC scope cl C X.env) fp) ifs (rdT g W0 tm))
    (he : ∀ (s : Shared) (H : Hp) (C : Addr) (cl : List (Str × Addr)) (fp : List Addr), PE (X.blk s H scope (compEnvC scope cl C X.env) fp) elt (rdE g W0 em)) (hs : ∀ x, foldedSetIterable it X.env x = pure x := by intro _; rfl) :
    PE X (.ListComp elt [⟨tg, it, ifs, 0⟩] scope pos) (rdE g W (eLc ow gm im tm em)) := by
  subst how
  exact (pe_lc hc hN hi ok hg ht he hs).imp fun s H Q h => rdE_lc hgk hcl h
theorem ss_setLc {i : Nat} {y : Str} {py spos : Pos} {elt tg it : Expr} {ifs : List Expr} {scope : Scope} {own : List (Str × Nat)} {ow : List Nat} {gm : GM} {t : TG} {im : IM} {tm : TM} {em : EM} (hc : X.calm = true) (hN : X.N.Nodup) (how : own.map (·.2) = ow)
    (hi : PI X tg it (rdI g W im)) (ok : BlkOk X.N X.env.scope scope own) (hgk : TgOk g ow gm t) (hcl : Calm gm)
    (hg : ∀ (s : Shared) (H : Hp) (C : Addr) (cl : List (Str × Addr)) (fp : List Addr), PG (X.blk s H scope (compEnvC scope cl C X.env) fp) tg t) (ht : ∀ (s : Shared) (H : Hp) (C : Addr) (cl : List (Str × Addr)) (fp : List Addr), PTs (X.blk s H scope (compEnvC scope cl C X.env) fp) ifs (rdT g W0 tm))
    (he : ∀ (s : Shared) (H : Hp) (C : Addr) (cl : List (Str × Addr)) (fp : List Addr), PE (X.blk s H scope (compEnvC scope cl C X.env) fp) elt (rdE g W0 em))
    (hy : X.N[i]? = some y := by rfl) (hyl : X.env.scope.names.lookup y = some .local := by rfl) (hsw : swapsWith (.ListComp elt [⟨tg, it, ifs, 0⟩] scope pos) (some (.Name y py)) spos.line X.env = pure true := by rfl) (hs : ∀ x, foldedSetIterable it X.env x = pure x := by intro _; rfl) :
    PS X (.Assign [.Name y py] (.ListComp elt [⟨tg, it, ifs, 0⟩] scope pos) spos) (rdS g W (sSet i (eLc ow gm im tm em))) := by
  subst how
  exact (ps_setLc hc hN hy hyl hsw hi ok hg ht he hs).imp fun D s H ⟨m, r, st, S, E, P⟩ => by
    have q : rdE g W (eLc (own.map (·.2)) gm im tm em) s H fun x H1 => gName i x s H1 D.nx := rdS_step (f := fun r d s1 => if i < r.length then .nx (r.set i (some d)) s1 else .stuck) S E P fun m1 H1 d v st1 l1 S1 E1 r1 P1 => by
      split at P1
      · exact P1.nowN S1 (E1.set i r1)
      · exact P1.elim
    exact rdE_lc hgk hcl q
end
end TB

end

/-! ## TbOp -/
section
set_option linter.all false
set_option autoImplicit false
set_option maxRecDepth 100000
namespace TB
open PySem PySem.Spec PyProof.Rows L2

/-! ### data as the library's data -/
mutual
def D.py : D → PyData
  | .non => .none
  | .bl b => .bool b
  | .int i => .int i
  | .str x => .str x
  | .tup xs => .tuple (D.pyL xs)
  | .lstv xs => .list (D.pyL xs)
  | .loc _ | .ptup _ | .gl _ | .ty _ | .exc _ _ => .dict []
def D.pyL : List D → List PyData
  | [] => []
  | x :: xs => D.py x :: D.pyL xs
end
mutual
/-- none, bools, ints, plain texts, tuples and lists of such, at most n deep -/
def D.okD : Nat → D → Bool
  | _, .non | _, .bl _ | _, .int _ => true
  | _, .str x => PyData.strOk x
  | 0, .tup _ | 0, .lstv _ => false
  | n + 1, .tup xs => D.okL n xs
  | n + 1, .lstv xs => D.okL n xs
  | _, .loc _ | _, .ptup _ | _, .gl _ | _, .ty _ | _, .exc _ _ => false
def D.okL : Nat → List D → Bool
  | _, [] => true
  | n, x :: xs => D.okD n x && D.okL n xs
end
mutual
/-- lists of the store by their values -/
def deepW (f : Nat → Option D) : D → Option D
  | .loc n => f n
  | .tup xs => (deepWL f xs).map .tup
  | .lstv xs => (deepWL f xs).map .lstv
  | .non => some .non
  | .bl b => some (.bl b)
  | .int i => some (.int i)
  | .str x => some (.str x)
  | .ptup _ | .gl _ | .ty _ | .exc _ _ => none
def deepWL (f : Nat → Option D) : List D → Option (List D)
  | [] => some []
  | x :: xs => match deepW f x, deepWL f xs with
    | some y, some ys => some (y :: ys)
    | _, _ => none
end
def deep : Nat → Sto → D → Option D
  | 0, _ => deepW fun _ => none
  | k + 1, st => deepW fun n => match lstAt st n with
    | some xs => (deepWL (fun j => match lstAt st j with
        | some ys => (deepWL (fun _ => none) ys).map .lstv
        | none => none) xs).map .lstv
    | none => none
/-- a value as data: lists of lists at most -/
def datum (st : Sto) (d : D) : Option D := deep 1 st d
def D.eqv (a b : D) : Bool := PyData.eqv a.py b.py
def pEq (a b : D) (st : Sto) : Res D := match a, b with
  | .str x, .str y => .ok (.bl (decide (x = y))) st
  | _, _ => (match datum st a, datum st b with
    | some x, some y => if D.okD 60 x && D.okD 60 y then .ok (.bl (x.eqv y)) st else .stuck
    | _, _ => .stuck)
def pNe (a b : D) (st : Sto) : Res D := match a, b with
  | .str x, .str y => .ok (.bl (!decide (x = y))) st
  | _, _ => (match datum st a, datum st b with
    | some x, some y => if D.okD 60 x && D.okD 60 y then .ok (.bl (!x.eqv y)) st else .stuck
    | _, _ => .stuck)

theorem rep_int {g : Gx} {m : List Addr} {H : Hp} {i : Int} {v : V} (h : Rep g m H (.int i) v) : v = .int i := by simpa only [Rep] using h
theorem rep_bl {g : Gx} {m : List Addr} {H : Hp} {i : Bool} {v : V} (h : Rep g m H (.bl i) v) : v = .bl i := by simpa only [Rep] using h
theorem rep_str {g : Gx} {m : List Addr} {H : Hp} {i : Str} {v : V} (h : Rep g m H (.str i) v) : v = .str i := by simpa only [Rep] using h
theorem rep_non {g : Gx} {m : List Addr} {H : Hp} {v : V} (h : Rep g m H .non v) : v = .non := by simpa only [Rep] using h
theorem rep_ty {g : Gx} {m : List Addr} {H : Hp} {n : String} {v : V} (h : Rep g m H (.ty n) v) : v = .ty n := by simpa only [Rep] using h
theorem rep_tup {g : Gx} {m : List Addr} {H : Hp} {ds : List D} {v : V} (h : Rep g m H (.tup ds) v) : ∃ a vs, v = .ref a ∧ SqT g.K H a vs ∧ RepL g m H ds vs := by simpa only [Rep] using h
theorem rep_lstv {g : Gx} {m : List Addr} {H : Hp} {ds : List D} {v : V} (h : Rep g m H (.lstv ds) v) : ∃ a vs, v = .ref a ∧ FrzL g.K H a vs ∧ RepL g m H ds vs := by simpa only [Rep] using h
theorem rep_loc {g : Gx} {m : List Addr} {H : Hp} {n : Nat} {v : V} (h : Rep g m H (.loc n) v) : ∃ a, m[n]? = some a ∧ v = .ref a := by simpa only [Rep] using h
theorem mkInt {g : Gx} {m : List Addr} {H : Hp} {i : Int} : Rep g m H (.int i) (.int i) := by simp only [Rep]
theorem mkBl {g : Gx} {m : List Addr} {H : Hp} {i : Bool} : Rep g m H (.bl i) (.bl i) := by simp only [Rep]
theorem mkStr {g : Gx} {m : List Addr} {H : Hp} {i : Str} : Rep g m H (.str i) (.str i) := by simp only [Rep]
theorem mkNon {g : Gx} {m : List Addr} {H : Hp} : Rep g m H .non .non := by simp only [Rep]
theorem lst_at {g : Gx} {m : List Addr} {H : Hp} {st : Sto} (S : Sim g m H st) {n : Nat} {a : Addr} {xs : List D} (h : lstAt st n = some xs) (e : m[n]? = some a) : ∃ vs, H a = some (.lst vs) ∧ RepL g m H xs vs := by
  unfold lstAt at h
  split at h
  · rename_i ys hc
    cases h
    exact S.at_ n _ a hc e
  · cases h
theorem lstAt_some {st : Sto} {n : Nat} {xs : List D} (h : lstAt st n = some xs) : st[n]? = some (.lst xs) := by
  unfold lstAt at h
  split at h
  · rename_i ys hc
    cases h
    exact hc
  · cases h

/-! what is data, lies as data -/
section
variable {g : Gx} {m : List Addr} {H : Hp} {st : Sto}
/-- f tells lists of the store by their values -/
def Tells (g : Gx) (m : List Addr) (H : Hp) (f : Nat → Option D) : Prop := ∀ (n : Nat) (x : D) (a : Addr), f n = some x → m[n]? = some a → ∀ k, D.okD k x = true → Dp g.K H (.ref a) x.py
mutual
theorem dp_of {f : Nat → Option D} (T : Tells g m H f) : ∀ (d x : D) (v : V) (k : Nat), Rep g m H d v → deepW f d = some x → D.okD k x = true → Dp g.K H v x.py
  | .non, x, v, k, r, e, o => by
    simp only [deepW] at e; cases e; rw [rep_non r]; simp only [D.py]; exact .non
  | .bl b, x, v, k, r, e, o => by
    simp only [deepW] at e; cases e; rw [rep_bl r]; simp only [D.py]; exact .bl b
  | .int b, x, v, k, r, e, o => by
    simp only [deepW] at e; cases e; rw [rep_int r]; simp only [D.py]; exact .int b
  | .str b, x, v, k, r, e, o => by
    simp only [deepW] at e; cases e; rw [rep_str r]; simp only [D.py]; exact .str b
  | .loc n, x, v, k, r, e, o => by
    simp only [deepW] at e
    obtain ⟨a, h1, rfl⟩ := rep_loc r
    exact T n x a e h1 k o
  | .tup ds, x, v, k, r, e, o => by
    simp only [deepW] at e
    obtain ⟨ys, e1, rfl⟩ := Option.map_eq_some_iff.mp e
    obtain ⟨a, vs, rfl, q, rr⟩ := rep_tup r
    cases k with
    | zero => simp [D.okD] at o
    | succ k =>
      simp only [D.okD] at o
      simp only [D.py]
      exact .tup q (dpL_of T ds ys vs k rr e1 o)
  | .lstv ds, x, v, k, r, e, o => by
    simp only [deepW] at e
    obtain ⟨ys, e1, rfl⟩ := Option.map_eq_some_iff.mp e
    obtain ⟨a, vs, rfl, q, rr⟩ := rep_lstv r
    cases k with
    | zero => simp [D.okD] at o
    | succ k =>
      simp only [D.okD] at o
      simp only [D.py]
      exact .lst q.sq (dpL_of T ds ys vs k rr e1 o)
  | .gl _, x, v, k, r, e, o => by simp only [deepW] at e; cases e
  | .ptup _, x, v, k, r, e, o => by simp only [deepW] at e; cases e
  | .ty _, x, v, k, r, e, o => by simp only [deepW] at e; cases e
  | .exc _ _, x, v, k, r, e, o => by simp only [deepW] at e; cases e
theorem dpL_of {f : Nat → Option D} (T : Tells g m H f) : ∀ (ds xs : List D) (vs : List V) (k : Nat), RepL g m H ds vs → deepWL f ds = some xs → D.okL k xs = true → DpAll g.K H vs (D.pyL xs)
  | [], xs, vs, k, r, e, o => by
    simp only [deepWL] at e; cases e; rw [r.nil_inv]; simp only [D.pyL]; exact .nil
  | d :: ds, xs, vs, k, r, e, o => by
    simp only [deepWL] at e
    obtain ⟨v, rest, rfl, rv, rr⟩ := r.cons_inv
    split at e
    · rename_i y ys h1 h2
      cases e
      simp only [D.okL, Bool.and_eq_true] at o
      simp only [D.pyL]
      exact .cons (dp_of T d y v k rv h1 o.1) (dpL_of T ds ys rest k rr h2 o.2)
    · cases e
end
theorem dp_datum (S : Sim g m H st) {d x : D} {v : V} {k : Nat} (r : Rep g m H d v) (e : datum st d = some x) (o : D.okD k x = true) : Dp g.K H v x.py := by
  have T0 : Tells g m H fun _ => none := fun n x a h => by cases h
  have T1 : Tells g m H fun j => match lstAt st j with
      | some ys => (deepWL (fun _ => none) ys).map .lstv
      | none => none := fun n x a h e k o => by
    simp only at h
    cases hl : lstAt st n with
    | none => rw [hl] at h; cases h
    | some ys =>
      rw [hl] at h
      obtain ⟨zs, h1, rfl⟩ := Option.map_eq_some_iff.mp h
      obtain ⟨vs, q, rr⟩ := lst_at S hl e
      cases k with
      | zero => simp [D.okD] at o
      | succ k =>
        simp only [D.okD] at o
        simp only [D.py]
        exact .lst (.of q) (dpL_of T0 ys zs vs k rr h1 o)
  refine dp_of (f := fun n => match lstAt st n with
    | some xs => (deepWL (fun j => match lstAt st j with
        | some ys => (deepWL (fun _ => none) ys).map .lstv
        | none => none) xs).map .lstv
    | none => none) (fun n x a h e k o => ?_) d x v k r e o
  simp only at h
  cases hl : lstAt st n with
  | none => rw [hl] at h; cases h
  | some ys =>
    rw [hl] at h
    obtain ⟨zs, h1, rfl⟩ := Option.map_eq_some_iff.mp h
    obtain ⟨vs, q, rr⟩ := lst_at S hl e
    cases k with
    | zero => simp [D.okD] at o
    | succ k =>
      simp only [D.okD] at o
      simp only [D.py]
      exact .lst (.of q) (dpL_of T1 ys zs vs k rr h1 o)
mutual
theorem canLay_ok : ∀ (n : Nat) (d : D), D.okD n d = true → d.py.canLay0 = true
  | _, .non, _ => by simp only [D.py, PyData.canLay0]
  | _, .bl _, _ => by simp only [D.py, PyData.canLay0]
  | _, .int _, _ => by simp only [D.py, PyData.canLay0]
  | _, .str x, h => by simp only [D.okD] at h; simp only [D.py, PyData.canLay0, h]
  | 0, .tup _, h => by simp [D.okD] at h
  | 0, .lstv _, h => by simp [D.okD] at h
  | n + 1, .tup xs, h => by simp only [D.okD] at h; simp only [D.py, PyData.canLay0]; exact canLayL_ok n xs h
  | n + 1, .lstv xs, h => by simp only [D.okD] at h; simp only [D.py, PyData.canLay0]; exact canLayL_ok n xs h
  | _, .loc _, h => by simp [D.okD] at h
  | _, .ptup _, h => by simp [D.okD] at h
  | _, .gl _, h => by simp [D.okD] at h
  | _, .ty _, h => by simp [D.okD] at h
  | _, .exc _ _, h => by simp [D.okD] at h
theorem canLayL_ok : ∀ (n : Nat) (ds : List D), D.okL n ds = true → PyData.canLayAll0 (D.pyL ds) = true
  | _, [], _ => by simp only [D.pyL, PyData.canLayAll0]
  | n, d :: ds, h => by
    simp only [D.okL, Bool.and_eq_true] at h
    simp only [D.pyL, PyData.canLayAll0, canLay_ok n d h.1, canLayL_ok n ds h.2, Bool.and_self]
end
mutual
theorem depth_ok : ∀ (n : Nat) (d : D), D.okD n d = true → d.py.depth ≤ n
  | _, .non, _ => by simp only [D.py, PyData.depth]; omega
  | _, .bl _, _ => by simp only [D.py, PyData.depth]; omega
  | _, .int _, _ => by simp only [D.py, PyData.depth]; omega
  | _, .str x, h => by simp only [D.py, PyData.depth]; omega
  | 0, .tup _, h => by simp [D.okD] at h
  | 0, .lstv _, h => by simp [D.okD] at h
  | n + 1, .tup xs, h => by simp only [D.okD] at h; simp only [D.py, PyData.depth]; exact Nat.succ_le_succ (depthL_ok n xs h)
  | n + 1, .lstv xs, h => by simp only [D.okD] at h; simp only [D.py, PyData.depth]; exact Nat.succ_le_succ (depthL_ok n xs h)
  | _, .loc _, h => by simp [D.okD] at h
  | _, .ptup _, h => by simp [D.okD] at h
  | _, .gl _, h => by simp [D.okD] at h
  | _, .ty _, h => by simp [D.okD] at h
  | _, .exc _ _, h => by simp [D.okD] at h
theorem depthL_ok : ∀ (n : Nat) (ds : List D), D.okL n ds = true → PyData.depthAll (D.pyL ds) ≤ n
  | _, [], _ => by simp only [D.pyL, PyData.depthAll]; omega
  | n, d :: ds, h => by
    simp only [D.okL, Bool.and_eq_true] at h
    simp only [D.pyL, PyData.depthAll]
    exact Nat.max_le.mpr ⟨depth_ok n d h.1, depthL_ok n ds h.2⟩
end
theorem shaped_ok {d : D} (h : D.okD 60 d = true) : SeqAt.shaped d.py = true := by
  unfold SeqAt.shaped
  rw [canLay_ok 60 d h, Bool.true_and]
  exact decide_eq_true (Nat.le_trans (depth_ok 60 d h) (by decide))
end
section
variable {X : Cx} {g : Gx}
theorem eq_gen {f : Bool → D} {a b : D} {st : Sto} {W : WK} {m : List Addr} {H : Hp} {Q : VK} (P : PostR g (Rep g) W m H Q (match datum st a, datum st b with
    | some x, some y => if D.okD 60 x && D.okD 60 y then .ok (f (x.eqv y)) st else .stuck
    | _, _ => .stuck)) : ∃ x y, datum st a = some x ∧ datum st b = some y ∧ D.okD 60 x = true ∧ D.okD 60 y = true ∧ PostR g (Rep g) W m H Q (.ok (f (x.eqv y)) st) := by
  cases h1 : datum st a with
  | none => rw [h1] at P; exact P.elim
  | some x =>
    cases h2 : datum st b with
    | none => rw [h1, h2] at P; exact P.elim
    | some y =>
      rw [h1, h2] at P
      simp only at P
      split at P
      · rename_i h
        rw [Bool.and_eq_true] at h
        exact ⟨x, y, rfl, rfl, h.1, h.2, P⟩
      · exact P.elim
theorem ov_eq (hK : X.K = g.K) (hu : X.A.units + 64 < cLine) : OpR X (compareOp .Eq) (r2D g pEq) := by
  rintro pins s σ H x y v u Q I rx ry ⟨W, m, st, d, e, S, r1, r2, P⟩
  have gen : (∃ x' y', datum st d = some x' ∧ datum st e = some y' ∧ D.okD 60 x' = true ∧ D.okD 60 y' = true ∧ PostR g (Rep g) W m H Q (.ok (.bl (x'.eqv y')) st)) → wpAny (model X.prog X.w) X.A (compareOp .Eq v u) (EP X pins σ Q) X.xe s := by
    rintro ⟨x', y', h1, h2, o1, o2, P2⟩
    exact op_eqD hu pins s σ H x y v u Q I rx ry ⟨_, _, by rw [hK]; exact dp_datum S r1 h1 o1, by rw [hK]; exact dp_datum S r2 h2 o2, shaped_ok o1, shaped_ok o2, P2.now S mkBl⟩
  unfold pEq at P
  split at P
  · rename_i a b
    cases rep_str r1
    cases rep_str r2
    exact op_eq pins s σ H _ _ v u Q I rx ry ⟨rfl, by rw [show decide (V.str a = V.str b) = decide (a = b) by simp]; exact P.now S mkBl⟩
  · exact gen (eq_gen P)
theorem ov_ne (hK : X.K = g.K) (hu : X.A.units + 64 < cLine) : OpR X (compareOp .NotEq) (r2D g pNe) := by
  rintro pins s σ H x y v u Q I rx ry ⟨W, m, st, d, e, S, r1, r2, P⟩
  have gen : (∃ x' y', datum st d = some x' ∧ datum st e = some y' ∧ D.okD 60 x' = true ∧ D.okD 60 y' = true ∧ PostR g (Rep g) W m H Q (.ok (.bl (!x'.eqv y')) st)) → wpAny (model X.prog X.w) X.A (compareOp .NotEq v u) (EP X pins σ Q) X.xe s := by
    rintro ⟨x', y', h1, h2, o1, o2, P2⟩
    exact op_neD hu pins s σ H x y v u Q I rx ry ⟨_, _, by rw [hK]; exact dp_datum S r1 h1 o1, by rw [hK]; exact dp_datum S r2 h2 o2, shaped_ok o1, shaped_ok o2, P2.now S mkBl⟩
  unfold pNe at P
  split at P
  · rename_i a b
    cases rep_str r1
    cases rep_str r2
    exact op_ne pins s σ H _ _ v u Q I rx ry ⟨rfl, by rw [show decide (V.str a = V.str b) = decide (a = b) by simp]; exact P.now S mkBl⟩
  · exact gen (eq_gen (f := fun b => .bl (!b)) P)
end
end TB

end

/-! ## TbOp2 -/
section
set_option linter.all false
set_option autoImplicit false
set_option maxRecDepth 100000
namespace TB
open PySem PySem.Spec PyProof.Rows L2

/-! ### arithmetic -/
def pSub (a b : D) (st : Sto) : Res D := match a, b with
  | .int i, .int j => .ok (.int (i - j)) st
  | _, _ => .stuck
def pMod (a b : D) (st : Sto) : Res D := match a, b with
  | .int i, .int j => if 0 < j then .ok (.int (i % j)) st else .stuck
  | _, _ => .stuck
def pFdiv (a b : D) (st : Sto) : Res D := match a, b with
  | .int i, .int j => if 0 < j ∧ j < 1073741824 then .ok (.int (i / j)) st else .stuck
  | _, _ => .stuck
def pPow (a b : D) (st : Sto) : Res D := match a, b with
  | .int i, .int j => if 0 ≤ j ∧ j ≤ 1000000 ∧ i.natAbs < 2 ^ 64 then .ok (.int (i ^ j.toNat)) st else .stuck
  | _, _ => .stuck
def pNeg (a : D) (st : Sto) : Res D := match a with
  | .int i => .ok (.int (-i)) st
  | _ => .stuck
def pAdd (a b : D) (st : Sto) : Res D := match a, b with
  | .int i, .int j => .ok (.int (i + j)) st
  | .tup xs, .tup ys => if xs.length + ys.length ≤ LINE then .ok (.tup (xs ++ ys)) st else .stuck
  | .loc p, .loc q => (match lstAt st p, lstAt st q with
    | some xs, some ys => if xs.length + ys.length ≤ LINE then .ok (.loc st.length) (st ++ [.lst (xs ++ ys)]) else .stuck
    | _, _ => .stuck)
  | .str x, .str y => if x.length + y.length ≤ LINE then .ok (.str (x ++ y)) st else .stuck
  | _, _ => .stuck
def pMul (a b : D) (st : Sto) : Res D := match a, b with
  | .int i, .int j => if i.natAbs.log2 + j.natAbs.log2 < 100000000 then .ok (.int (i * j)) st else .stuck
  | .tup xs, .int k => if 0 ≤ k ∧ k ≤ 1000 ∧ xs.length ≤ 1000 then .ok (.tup (List.replicate k.toNat xs).flatten) st else .stuck
  | .loc p, .int k => (match lstAt st p with
    | some xs => if 0 ≤ k ∧ k ≤ 1000000 ∧ xs.length * k.toNat ≤ LINE then .ok (.loc st.length) (st ++ [.lst (List.replicate k.toNat xs).flatten]) else .stuck
    | none => .stuck)
  | _, _ => .stuck
def pLt (a b : D) (st : Sto) : Res D := match a, b with
  | .int i, .int j => .ok (.bl (decide (i < j))) st
  | _, _ => .stuck
def pLe (a b : D) (st : Sto) : Res D := match a, b with
  | .int i, .int j => .ok (.bl (decide (i ≤ j))) st
  | _, _ => .stuck
def pGt (a b : D) (st : Sto) : Res D := match a, b with
  | .int i, .int j => .ok (.bl (decide (j < i))) st
  | _, _ => .stuck
def pGe (a b : D) (st : Sto) : Res D := match a, b with
  | .int i, .int j => .ok (.bl (decide (j ≤ i))) st
  | _, _ => .stuck
def isNonD : D → Bool
  | .non => true
  | _ => false
def pIsN (a b : D) (st : Sto) : Res D := match b with
  | .non => .ok (.bl (isNonD a)) st
  | _ => .stuck
def pNotN (a b : D) (st : Sto) : Res D := match b with
  | .non => .ok (.bl (!isNonD a)) st
  | _ => .stuck
section
variable {X : Cx} {g : Gx}
theorem ov_add_int : True := trivial
theorem ov_sub : OpR X (binaryOp .Sub) (r2D g pSub) := by
  rintro pins s σ H x y v u Q I rx ry ⟨W, m, st, d, e, S, r1, r2, P⟩
  cases d <;> cases e <;> try exact P.elim
  cases rep_int r1
  cases rep_int r2
  exact op_sub pins s σ H _ _ v u Q I rx ry ⟨_, _, rfl, rfl, P.now S mkInt⟩
theorem ov_mod : OpR X (binaryOp .Mod) (r2D g pMod) := by
  rintro pins s σ H x y v u Q I rx ry ⟨W, m, st, d, e, S, r1, r2, P⟩
  cases d <;> cases e <;> try exact P.elim
  cases rep_int r1
  cases rep_int r2
  simp only [pMod] at P
  split at P
  · rename_i h
    exact op_mod pins s σ H _ _ v u Q I rx ry ⟨_, _, rfl, rfl, h, P.now S mkInt⟩
  · exact P.elim
theorem ov_fdiv : OpR X (binaryOp .FloorDiv) (r2D g pFdiv) := by
  rintro pins s σ H x y v u Q I rx ry ⟨W, m, st, d, e, S, r1, r2, P⟩
  cases d <;> cases e <;> try exact P.elim
  cases rep_int r1
  cases rep_int r2
  simp only [pFdiv] at P
  split at P
  · rename_i h
    exact op_fdiv pins s σ H _ _ v u Q I rx ry ⟨_, _, rfl, rfl, h, P.now S mkInt⟩
  · exact P.elim
theorem ov_pow : OpR X (binaryOp .Pow) (r2D g pPow) := by
  rintro pins s σ H x y v u Q I rx ry ⟨W, m, st, d, e, S, r1, r2, P⟩
  cases d <;> cases e <;> try exact P.elim
  cases rep_int r1
  cases rep_int r2
  simp only [pPow] at P
  split at P
  · rename_i h
    exact op_pow pins s σ H _ _ v u Q I rx ry ⟨_, _, rfl, rfl, h, P.now S mkInt⟩
  · exact P.elim
theorem ov_neg : UnR X (unaryOp .USub) (r1D g pNeg) := by
  rintro pins s σ H x v Q I rx ⟨W, m, st, d, S, r1, P⟩
  cases d <;> try exact P.elim
  cases rep_int r1
  exact un_neg pins s σ H _ v Q I rx ⟨_, rfl, P.now S mkInt⟩
theorem ov_lt : OpR X (compareOp .Lt) (r2D g pLt) := by
  rintro pins s σ H x y v u Q I rx ry ⟨W, m, st, d, e, S, r1, r2, P⟩
  cases d <;> cases e <;> try exact P.elim
  cases rep_int r1
  cases rep_int r2
  exact op_lt pins s σ H _ _ v u Q I rx ry ⟨_, _, rfl, rfl, P.now S mkBl⟩
theorem ov_le : OpR X (compareOp .LtE) (r2D g pLe) := by
  rintro pins s σ H x y v u Q I rx ry ⟨W, m, st, d, e, S, r1, r2, P⟩
  cases d <;> cases e <;> try exact P.elim
  cases rep_int r1
  cases rep_int r2
  exact op_le pins s σ H _ _ v u Q I rx ry ⟨_, _, rfl, rfl, P.now S mkBl⟩
theorem ov_gt : OpR X (compareOp .Gt) (r2D g pGt) := by
  rintro pins s σ H x y v u Q I rx ry ⟨W, m, st, d, e, S, r1, r2, P⟩
  cases d <;> cases e <;> try exact P.elim
  cases rep_int r1
  cases rep_int r2
  exact op_gt pins s σ H _ _ v u Q I rx ry ⟨_, _, rfl, rfl, P.now S mkBl⟩
theorem ov_ge : OpR X (compareOp .GtE) (r2D g pGe) := by
  rintro pins s σ H x y v u Q I rx ry ⟨W, m, st, d, e, S, r1, r2, P⟩
  cases d <;> cases e <;> try exact P.elim
  cases rep_int r1
  cases rep_int r2
  exact op_ge pins s σ H _ _ v u Q I rx ry ⟨_, _, rfl, rfl, P.now S mkBl⟩
theorem rep_isN {m : List Addr} {H : Hp} {d : D} {v : V} (r : Rep g m H d v) : decide (v = .non) = isNonD d := by
  cases d with
  | non => rw [rep_non r]; rfl
  | bl b => rw [rep_bl r]; rfl
  | int i => rw [rep_int r]; rfl
  | str i => rw [rep_str r]; rfl
  | ty i => rw [rep_ty r]; rfl
  | tup ds => obtain ⟨a, vs, rfl, _⟩ := rep_tup r; rfl
  | lstv ds => obtain ⟨a, vs, rfl, _⟩ := rep_lstv r; rfl
  | ptup ds => simp only [Rep] at r; obtain ⟨a, vs, o, rfl, _⟩ := r; rfl
  | loc n => obtain ⟨a, _, rfl⟩ := rep_loc r; rfl
  | gl x => simp only [Rep] at r; rw [r]; rfl
  | exc c fs => simp only [Rep] at r; obtain ⟨a, d, vs, rfl, _⟩ := r; rfl
theorem ov_isN : OpR X (compareOp .Is) (r2D g pIsN) := by
  rintro pins s σ H x y v u Q I rx ry ⟨W, m, st, d, e, S, r1, r2, P⟩
  cases e <;> try exact P.elim
  cases rep_non r2
  exact op_isN pins s σ H _ _ v u Q I rx ry ⟨rfl, by rw [rep_isN r1]; exact P.now S mkBl⟩
theorem ov_notN : OpR X (compareOp .IsNot) (r2D g pNotN) := by
  rintro pins s σ H x y v u Q I rx ry ⟨W, m, st, d, e, S, r1, r2, P⟩
  cases e <;> try exact P.elim
  cases rep_non r2
  exact op_notN pins s σ H _ _ v u Q I rx ry ⟨rfl, by rw [rep_isN r1]; exact P.now S mkBl⟩
theorem ov_add (hK : X.K = g.K) : OpR X (binaryOp .Add) (r2D g pAdd) := by
  rintro pins s σ H x y v u Q I rx ry ⟨W, m, st, d, e, S, r1, r2, P⟩
  cases d <;> cases e <;> try exact P.elim
  · cases rep_int r1
    cases rep_int r2
    exact op_add pins s σ H _ _ v u Q I rx ry ⟨_, _, rfl, rfl, P.now S mkInt⟩
  · cases rep_str r1
    cases rep_str r2
    simp only [pAdd] at P
    split at P
    · rename_i h
      exact op_add_str pins s σ H _ _ v u Q I rx ry ⟨_, _, rfl, rfl, by rw [line_eq]; exact h, P.now S mkStr⟩
    · exact P.elim
  · rename_i xs ys
    obtain ⟨a, vs, rfl, q1, k1⟩ := rep_tup r1
    obtain ⟨b, us, rfl, q2, k2⟩ := rep_tup r2
    simp only [pAdd] at P
    split at P
    · rename_i h
      refine op_catA pins s σ H _ _ v u Q I rx ry ⟨a, b, vs, us, rfl, rfl, by rw [hK]; exact q1, by rw [hK]; exact q2, by rw [line_eq, ← k1.length, ← k2.length]; exact h, fun e => ?_, fun _ e => ?_, fun _ _ p hp => ?_⟩
      · subst e
        have : xs = [] := List.eq_nil_of_length_eq_zero (by rw [k1.length]; rfl)
        subst this
        exact P.now S (by simp only [Rep]; exact ⟨b, us, rfl, q2, k2⟩)
      · subst e
        have : ys = [] := List.eq_nil_of_length_eq_zero (by rw [k2.length]; rfl)
        subst this
        rw [List.append_nil] at P
        exact P.now S (by simp only [Rep]; exact ⟨a, vs, rfl, q1, k1⟩)
      · exact post_tup S (k1.append k2) P p hp
    · exact P.elim
  · rename_i p q
    obtain ⟨a, ha, rfl⟩ := rep_loc r1
    obtain ⟨b, hb, rfl⟩ := rep_loc r2
    simp only [pAdd] at P
    cases h1 : lstAt st p with
    | none => rw [h1] at P; exact P.elim
    | some xs =>
      cases h2 : lstAt st q with
      | none => rw [h1, h2] at P; exact P.elim
      | some ys =>
        rw [h1, h2] at P
        simp only at P
        split at P
        · rename_i h
          obtain ⟨vs, q1, k1⟩ := lst_at S h1 ha
          obtain ⟨us, q2, k2⟩ := lst_at S h2 hb
          exact op_cat pins s σ H _ _ v u Q I rx ry ⟨a, b, vs, us, rfl, rfl, q1, q2, by rw [line_eq, ← k1.length, ← k2.length]; exact h, fun p hp => post_lst S (k1.append k2) P p hp⟩
        · exact P.elim

/-! ### subscripts -/
def keyD : D → Bool
  | .int _ | .str _ => true
  | _ => false
def dctGet : List (D × D) → D → Option D
  | [], _ => none
  | (k, v) :: r, x => if k = x then some v else dctGet r x
def pIx (a b : D) (st : Sto) : Res D := match a, b with
  | .tup xs, .int i => (match atI xs i with
    | some d => .ok d st
    | none => .stuck)
  | .lstv xs, .int i => (match atI xs i with
    | some d => .ok d st
    | none => .stuck)
  | .loc p, k => (match st[p]? with
    | some (.lst xs) => (match k with
      | .int i => (match atI xs i with
        | some d => .ok d st
        | none => .stuck)
      | _ => .stuck)
    | some (.dct kvs) => if keyD k then (match dctGet kvs k with
        | some d => .ok d st
        | none => .stuck) else .stuck
    | _ => .stuck)
  | _, _ => .stuck
theorem atI_rep {m : List Addr} {H : Hp} {ds : List D} {vs : List V} {i : Int} {d : D} (r : RepL g m H ds vs) (h : atI ds i = some d) : ∃ v, atI vs i = some v ∧ Rep g m H d v := by
  unfold atI at h ⊢
  rw [← r.length]
  cases e : ixN ds.length i with
  | none => rw [e] at h; cases h
  | some j =>
    rw [e] at h
    exact r.get h
def dK (k : D) : Key := match k with
  | .int i => .inl i
  | .str x => .inr x
  | _ => .inl 0
theorem repK_of {k : D} {q : Key} (h : RepK k q) : keyD k = true ∧ q = dK k := by
  cases k <;> first | exact ⟨rfl, h⟩ | exact h.elim
theorem dK_inj {a b : D} (ha : keyD a = true) (hb : keyD b = true) (h : dK a = dK b) : a = b := by
  cases a <;> cases b <;> simp_all [keyD, dK]
theorem rep_key {m : List Addr} {H : Hp} {k : D} {v : V} (h : keyD k = true) (r : Rep g m H k v) : v = kV (dK k) := by
  cases k <;> first | (rw [rep_int r]; rfl) | (rw [rep_str r]; rfl) | cases h
theorem dctGet_rep {m : List Addr} {H : Hp} {k : D} (hk : keyD k = true) {kvs : List (D × D)} {ws : List (Key × V)} (r : RepKV g m H kvs ws) :
    (dctGet kvs k = none ∧ valV ws (dK k) = none) ∨ ∃ d v, dctGet kvs k = some d ∧ valV ws (dK k) = some v ∧ Rep g m H d v := by
  induction r with
  | nil => exact .inl ⟨rfl, rfl⟩
  | @cons p q l l' z _ ih =>
    obtain ⟨z1, z2⟩ := z
    obtain ⟨hk1, hk2⟩ := repK_of z1
    obtain ⟨p1, p2⟩ := p
    obtain ⟨q1, q2⟩ := q
    simp only at z1 z2 hk1 hk2
    subst hk2
    unfold dctGet
    by_cases e : p1 = k
    · subst e
      refine .inr ⟨p2, q2, by rw [if_pos rfl], ?_, z2⟩
      unfold valV
      simp
    · have ne : ¬ dK p1 = dK k := fun h => e (dK_inj hk1 hk h)
      rw [if_neg e]
      have : valV ((dK p1, q2) :: l') (dK k) = valV l' (dK k) := by
        unfold valV
        simp [ne]
      rw [this]
      exact ih
theorem ix_dict {X : Cx} (hu : X.A.units + 1 < cLine) : IxR X (fun x y H Q => ∃ a v, x = .ref a ∧ DGet H a y (some v) ∧ Q v H) := by
  intro value slice pins s σ H x y v u Q I rx ry h hs
  obtain ⟨a, z, rfl, gg, q⟩ := h
  obtain rfl : v = Value.ref a := rx
  exact tail_any (dict_typeIs I gg) PySem.F.slot_dict_getitem.lookup (d_getItem hu I gg ry fun w' s3 I3 rw' => ⟨z, H, I3, rw', q⟩) hs
theorem ov_ix (hK : X.K = g.K) (hu : X.A.units + 1 < cLine) : IxR X (r2D g pIx) := by
  rintro value slice pins s σ H x y v u Q I rx ry ⟨W, m, st, d, e, S, r1, r2, P⟩ hs
  cases d with
  | tup ds =>
    cases e <;> try exact P.elim
    rename_i i
    obtain ⟨a, vs, rfl, q, k⟩ := rep_tup r1
    cases rep_int r2
    simp only [pIx] at P
    cases hd : atI ds i with
    | none => rw [hd] at P; exact P.elim
    | some d =>
      rw [hd] at P
      obtain ⟨w, h1, h2⟩ := atI_rep k hd
      exact ix_tup value slice pins s σ H _ _ v u Q I rx ry ⟨a, vs, i, w, rfl, rfl, by rw [hK]; exact q, h1, P.now S h2⟩ hs
  | lstv ds =>
    cases e <;> try exact P.elim
    rename_i i
    obtain ⟨a, vs, rfl, q, k⟩ := rep_lstv r1
    cases rep_int r2
    simp only [pIx] at P
    cases hd : atI ds i with
    | none => rw [hd] at P; exact P.elim
    | some d =>
      rw [hd] at P
      obtain ⟨w, h1, h2⟩ := atI_rep k hd
      exact ix_list value slice pins s σ H _ _ v u Q I rx ry ⟨a, vs, i, w, rfl, rfl, by rw [hK]; exact q.sq, h1, P.now S h2⟩ hs
  | loc p =>
    obtain ⟨a, ha, rfl⟩ := rep_loc r1
    simp only [pIx] at P
    cases hc : st[p]? with
    | none => rw [hc] at P; exact P.elim
    | some c =>
      rw [hc] at P
      have hcr := S.at_ p c a hc ha
      cases c with
      | lst xs =>
        simp only at P
        obtain ⟨vs, q, k⟩ := hcr
        cases e <;> try exact P.elim
        rename_i i
        cases rep_int r2
        simp only at P
        cases hd : atI xs i with
        | none => rw [hd] at P; exact P.elim
        | some d =>
          rw [hd] at P
          obtain ⟨w, h1, h2⟩ := atI_rep k hd
          exact ix_list value slice pins s σ H _ _ v u Q I rx ry ⟨a, vs, i, w, rfl, rfl, .of q, h1, P.now S h2⟩ hs
      | dct kvs =>
        simp only at P
        obtain ⟨ws, q, k⟩ := hcr
        split at P
        · rename_i hk
          rw [rep_key hk r2] at ry
          rcases dctGet_rep hk k with ⟨h1, _⟩ | ⟨d, w, h1, h2, h3⟩
          · rw [h1] at P; exact P.elim
          · rw [h1] at P
            exact ix_dict hu value slice pins s σ H _ _ v u Q I rx ry ⟨a, w, rfl, by rw [← h2]; exact DGet.k q, P.now S h3⟩ hs
        · exact P.elim
      | ins _ _ => exact P.elim
  | _ => exact P.elim
end

/-! ### slices -/
def cutD (xs : List D) (lo hi : Option Int) : List D := (xs.drop (HT.sIx xs.length 0 lo)).take (HT.sIx xs.length xs.length hi - HT.sIx xs.length 0 lo)
def pSl (a : D) (lo hi : Option Int) (st : Sto) : Res D := match a with
  | .tup xs => .ok (.tup (cutD xs lo hi)) st
  | .lstv xs => .ok (.loc st.length) (st ++ [.lst (cutD xs lo hi)])
  | .loc p => (match lstAt st p with
    | some xs => .ok (.loc st.length) (st ++ [.lst (cutD xs lo hi)])
    | none => .stuck)
  | _ => .stuck
abbrev OM := Env → Sto → Res (Option Int)
def oN : OM := fun _ st => .ok none st
def oS (a : EM) : OM := fun r st => (a r st).bind fun d s1 => match d with
  | .int i => .ok (some i) s1
  | _ => .stuck
def eSl (a : EM) (lo hi : OM) : EM := fun r st => (a r st).bind fun d s1 => (lo r s1).bind fun l s2 => (hi r s2).bind fun h s3 => pSl d l h s3
section
variable {X : Cx} {g : Gx} {W : WX} {pos p2 : Pos} {a b c : Expr} {ma mb : EM} {lo hi : OM} {l h : Option Expr}
def rdO (g : Gx) (W : WX) (o : OM) : TO := fun s H Q => ∃ m r st, Sim g m H st ∧ RepE g m H r s ∧ PostR g (fun _ _ (a b : Option Int) => a = b) (wAt W s) m H Q (o r st)
theorem _root_.L2.PO.imp {X : Cx} {e : Option Expr} {t t' : TO} (h : PO X e t) (i : ∀ s H Q, t' s H Q → t s H Q) : PO X e t' := ⟨fun pins s σ H Q I q => h.run pins s σ H Q I (i _ _ _ q)⟩
theorem so_oN : PO X none (rdO g W oN) := po_none.imp fun s H Q ⟨m, r, st, S, E, P⟩ => P.now S rfl
theorem so_oS (ha : PE X a (rdE g W ma)) : PO X (some a) (rdO g W (oS ma)) := (po_some ha).imp fun s H Q ⟨m, r, st, S, E, P⟩ =>
  rdE_step (f := fun _ d s1 => match d with
    | .int i => .ok (some i) s1
    | _ => .stuck) S E P fun m1 H1 d v st1 q1 l1 S1 E1 r1 P1 => by
    cases d <;> try exact P1.elim
    rename_i i
    exact ⟨i, rep_int r1, P1.now S1 rfl⟩
theorem cut_rep {m : List Addr} {H : Hp} {ds : List D} {vs : List V} (r : RepL g m H ds vs) (lo hi : Option Int) : RepL g m H (cutD ds lo hi) (cutV vs lo hi) := by
  unfold cutD cutV
  rw [r.length]
  exact (r.drop _).take _
theorem sl_all (hK : X.K = g.K) : SlR X (fun x lo hi H Q => ∃ W m st d, Sim g m H st ∧ Rep g m H d x ∧ PostR g (Rep g) W m H Q (pSl d lo hi st)) := by
  rintro pins s σ H x v vl vu lo hi sl Q I rx hs pl pu ⟨W, m, st, d, S, r1, P⟩
  cases d with
  | tup ds =>
    obtain ⟨p, vs, rfl, q, k⟩ := rep_tup r1
    refine sl_tupA pins s σ H _ v vl vu lo hi sl Q I rx hs pl pu ⟨p, vs, rfl, by rw [hK]; exact q, fun hw => ?_, fun hw p' hp => post_tup S (cut_rep k lo hi) P p' hp⟩
    have e : cutD ds lo hi = ds := by
      unfold cutD
      rw [k.length, hw.1, hw.2]
      simp [← k.length]
    simp only [pSl, e] at P
    exact P.now S (by simp only [Rep]; exact ⟨p, vs, rfl, q, k⟩)
  | lstv ds =>
    obtain ⟨p, vs, rfl, q, k⟩ := rep_lstv r1
    exact sl_list pins s σ H _ v vl vu lo hi sl Q I rx hs pl pu ⟨p, vs, rfl, by rw [hK]; exact q.sq, fun p' hp => post_lst S (cut_rep k lo hi) P p' hp⟩
  | loc p =>
    obtain ⟨p', hp, rfl⟩ := rep_loc r1
    simp only [pSl] at P
    cases hl : lstAt st p with
    | none => rw [hl] at P; exact P.elim
    | some xs =>
      rw [hl] at P
      obtain ⟨vs, q, k⟩ := lst_at S hl hp
      exact sl_list pins s σ H _ v vl vu lo hi sl Q I rx hs pl pu ⟨p', vs, rfl, .of q, fun p' hp => post_lst S (cut_rep k lo hi) P p' hp⟩
  | _ => exact P.elim
theorem so_sl (hK : X.K = g.K) (ha : PE X a (rdE g W ma)) (hl : PO X l (rdO g W lo)) (hh : PO X h (rdO g W hi)) : PE X (.Subscript a (.Slice l h none p2) pos) (rdE g W (eSl ma lo hi)) :=
  (pe_slice (sl_all hK) ha hl hh).imp fun s H Q ⟨m, r, st, S, E, P⟩ =>
    rdE_step (f := fun r d s1 => (lo r s1).bind fun l s2 => (hi r s2).bind fun h s3 => pSl d l h s3) S E P fun m1 H1 d v st1 _ l1 S1 E1 r1 P1 =>
      ⟨m1, r, st1, S1, E1, (P1.bind (R := fun _ _ (a b : Option Int) => a = b)).imp fun _ H2 o _ _ _ _ _ _ ⟨m2, o2, st2, _, l2, S2, e2, P2⟩ => by
        subst e2
        exact ⟨m2, r, st2, S2, E1.later l2, (P2.bind (R := fun _ _ (a b : Option Int) => a = b)).imp fun _ H3 o3 _ _ _ _ _ _ ⟨m3, o4, st3, _, l3, S3, e3, P3⟩ => by
          subst e3
          exact ⟨_, m3, st3, d, S3, (r1.later l2).later l3, P3⟩⟩⟩
end
end TB

end

/-! ## TbMul -/
section
set_option linter.all false
set_option autoImplicit false
set_option maxRecDepth 100000
set_option maxHeartbeats 4000000
namespace TB
open PySem PySem.Spec PyProof.Rows L2

theorem tuple_mul1 (l : Addr) (items : Array Value) (n : Nat) (dd : Option Addr) (sl : Array (Option Value)) (x : Int) (u : Tok) (c0 : (decide (x < -(2 ^ 63)) || decide (x ≥ 2 ^ 63)) = false) (c1 : (items.isEmpty || x == 1) = true) :
    Meets (Builtin.«tuple.__mul__» ⟨[.ref l, .int x u], []⟩) (fun _ R s => s.heap.get? l = some { cls := .type "tuple", dict := dd, data := .seq items n, slots := sl } ∧ R (.ok (.ret (Value.ref l))) s) :=
  .of_wp fun prog w A R s h => by
    obtain ⟨hp, g, d, t, os⟩ := s
    obtain ⟨hl, h⟩ := h
    have f1 := AutoSeq1.idx_int
    wp_walk using wpAny_loadPart' hl
    repeat (first
      | (refine wpAny_ite_false (decide_eq_false (by rw [c0]; exact Bool.false_ne_true)) ?_; wp_walk using wpAny_loadPart' hl)
      | (refine wpAny_ite_true (decide_eq_true (by rw [c1])) ?_; wp_walk using wpAny_loadPart' hl))
    exact ⟨_, rfl, h⟩
theorem tuple_mul0 (l : Addr) (items : Array Value) (n : Nat) (dd : Option Addr) (sl : Array (Option Value)) (x : Int) (u : Tok) (c0 : (decide (x < -(2 ^ 63)) || decide (x ≥ 2 ^ 63)) = false) (c1 : (items.isEmpty || x == 1) = false) (c2 : (decide (x ≤ 0) || items.isEmpty) = true) :
    Meets (Builtin.«tuple.__mul__» ⟨[.ref l, .int x u], []⟩) (fun _ R s => s.heap.get? l = some { cls := .type "tuple", dict := dd, data := .seq items n, slots := sl } ∧
      R (.ok (.ret (Value.ref s.heap.objs.size))) { s with heap := s.heap.push { cls := Value.type "tuple", data := Data.seq #[] }, toks := s.toks }) :=
  .of_wp fun prog w A R s h => by
    obtain ⟨hp, g, d, t, os⟩ := s
    obtain ⟨hl, h⟩ := h
    have f1 := AutoSeq1.idx_int
    have hsz : (#[] : Array Value).size ≤ sizeLine := Nat.zero_le _
    wp_walk using wpAny_loadPart' hl
    repeat (first
      | (refine wpAny_ite_false (decide_eq_false (by rw [c0]; exact Bool.false_ne_true)) ?_; wp_walk using wpAny_loadPart' hl)
      | (refine wpAny_ite_false (decide_eq_false (by rw [c1]; exact Bool.false_ne_true)) ?_; wp_walk using wpAny_loadPart' hl)
      | (refine wpAny_ite_true (decide_eq_true (by rw [c2])) ?_; wp_walk using wpAny_loadPart' hl)
      | (refine wpAny_ite_false (decide_eq_false (Nat.not_lt.mpr hsz)) ?_; wp_walk using wpAny_loadPart' hl))
    exact ⟨_, rfl, h⟩
/-- tuple * int, any count that is not too large -/
theorem op_repA {X : Cx} : OpR X (binaryOp .Mult) (fun x y H Q => ∃ l k xs, x = .ref l ∧ y = .int k ∧ SqT X.K H l xs ∧ 0 ≤ k ∧ k ≤ 1000 ∧ xs.length ≤ 1000 ∧
    ((List.replicate k.toNat xs).flatten = xs → Q (.ref l) H) ∧ ∀ p, H p = none → Q (.ref p) (upd H p (.tup (List.replicate k.toNat xs).flatten))) := by
  intro pins s σ H x y v u Q I rx ry h
  obtain ⟨l, k, xs, rfl, rfl, hT, h1, h2, hz, q1, q2⟩ := h
  by_cases hk : xs ≠ [] ∧ 2 ≤ k
  · exact op_repT pins s σ H _ _ v u Q I rx ry ⟨l, k, xs, rfl, rfl, hT, hk.1, hk.2, h2, hz, q2⟩
  cases rx
  obtain ⟨t, rfl⟩ := ry
  obtain ⟨its, r, ⟨⟨cls, dd, data, sl⟩, ho, hc, n, hd⟩, hs⟩ := I.tuple hT
  simp only at hc hd
  subst hc hd
  have hle : its.length = xs.length := r.length.symm
  have c0 : (decide (k < -(2 ^ 63)) || decide (k ≥ 2 ^ 63)) = false := by
    rw [decide_eq_false (by omega), decide_eq_false (by omega)] <;> rfl
  have emp : its.toArray.isEmpty = xs.isEmpty := by
    cases r <;> simp
  by_cases hk1 : xs = [] ∨ k = 1
  · have c1 : (its.toArray.isEmpty || k == 1) = true := by
      rw [emp]
      rcases hk1 with e | e
      · subst e; rfl
      · subst e; simp
    have ef : (List.replicate k.toNat xs).flatten = xs := by
      rcases hk1 with e | e
      · subst e; simp
      · subst e; simp
    exact wpAny_binaryOp_repeat_ref (T := "tuple") (U := "int") (by decide) ⟨_, ho, rfl⟩ (fun s' => typeIs_int s' k t) noFill_tuple_mul F.fills_int_mul F.slot_int_rmul repeat_tuple F.slot_int_index.lookup
      (call_meets F.slot_int_rmul (typeIs_int s k t) F.entry_int_rmul (F.args_int_rmul_2 _ _) (int_rmul_tuple k t l its.toArray n dd sl)
        ⟨ho, rfl, ⟨_, ho, rfl⟩, call_meets F.slot_tuple_mul ⟨_, ho, rfl⟩ F.entry_tuple_mul (F.args_tuple_mul_2 _ _) (tuple_mul1 l its.toArray n dd sl k t c0 c1) ⟨ho, ⟨.ref l, H, I, rfl, q1 ef⟩⟩⟩)
  · have hxs : xs ≠ [] := fun e => hk1 (.inl e)
    have hk0 : k = 0 := by
      by_cases h : 2 ≤ k
      · exact absurd ⟨hxs, h⟩ hk
      · have : k ≠ 1 := fun e => hk1 (.inr e)
        omega
    subst hk0
    have hi : its.toArray.isEmpty = false := by
      rw [emp]
      cases xs with
      | nil => exact absurd rfl hxs
      | cons a b => rfl
    have c1 : (its.toArray.isEmpty || (0 : Int) == 1) = false := by rw [hi]; rfl
    have c2 : (decide ((0 : Int) ≤ 0) || its.toArray.isEmpty) = true := rfl
    refine wpAny_binaryOp_repeat_ref (T := "tuple") (U := "int") (by decide) ⟨_, ho, rfl⟩ (fun s' => typeIs_int s' 0 t) noFill_tuple_mul F.fills_int_mul F.slot_int_rmul repeat_tuple F.slot_int_index.lookup
      (call_meets F.slot_int_rmul (typeIs_int s 0 t) F.entry_int_rmul (F.args_int_rmul_2 _ _) (int_rmul_tuple 0 t l its.toArray n dd sl)
        ⟨ho, rfl, ⟨_, ho, rfl⟩, call_meets F.slot_tuple_mul ⟨_, ho, rfl⟩ F.entry_tuple_mul (F.args_tuple_mul_2 _ _) (tuple_mul0 l its.toArray n dd sl 0 t c0 c1 c2) ⟨ho, ?_⟩⟩)
    have e : (List.replicate (0 : Int).toNat xs).flatten = [] := by simp
    refine ⟨.ref s.heap.objs.size, _, I.laid (t' := s.toks) (o := .tup (List.replicate (0 : Int).toNat xs).flatten) (fun b ob q => Heap.get?_push_of_some _ q) (Nat.le_refl _) ?_, rfl, q2 _ (I.hok.fresh (Nat.le_refl _))⟩
    rw [e]
    exact ⟨Nat.zero_le _, [], .nil, IsTup.new _ _⟩
theorem RepL.rep {g : Gx} {m : List Addr} {H : Hp} {ds : List D} {vs : List V} (h : RepL g m H ds vs) : ∀ k : Nat, RepL g m H (List.replicate k ds).flatten (List.replicate k vs).flatten
  | 0 => by simpa using RepL.nil
  | k + 1 => by
    simp only [List.replicate_succ, List.flatten_cons]
    exact h.append (RepL.rep h k)
theorem mulX_log {i j : Int} (h : i.natAbs.log2 + j.natAbs.log2 < 100000000) : CMulX i j := by
  have b : ∀ x : Int, Builtin.Int.intBits x ≤ x.natAbs.log2 + 1 := fun x => by
    unfold Builtin.Int.intBits
    split <;> omega
  have h1 := b i
  have h2 := b j
  unfold CMulX
  omega
theorem ov_mul {X : Cx} {g : Gx} (hK : X.K = g.K) : OpR X (binaryOp .Mult) (r2D g pMul) := by
  rintro pins s σ H x y v u Q I rx ry ⟨W, m, st, d, e, S, r1, r2, P⟩
  cases d <;> cases e <;> try exact P.elim
  · cases rep_int r1
    cases rep_int r2
    simp only [pMul] at P
    split at P
    · rename_i h
      exact op_mulX pins s σ H _ _ v u Q I rx ry ⟨_, _, rfl, rfl, mulX_log h, P.now S mkInt⟩
    · exact P.elim
  · rename_i xs k
    obtain ⟨a, vs, rfl, q1, k1⟩ := rep_tup r1
    cases rep_int r2
    simp only [pMul] at P
    split at P
    · rename_i h
      obtain ⟨h1, h2, h3⟩ := h
      refine op_repA pins s σ H _ _ v u Q I rx ry ⟨a, k, vs, rfl, rfl, by rw [hK]; exact q1, h1, h2, by rw [← k1.length]; exact h3, fun e => ?_, fun p hp => post_tup S (k1.rep _) P p hp⟩
      have rr := k1.rep k.toNat
      rw [e] at rr
      exact P.now S (by simp only [Rep]; exact ⟨a, vs, rfl, q1, rr⟩)
    · exact P.elim
  · rename_i p k
    obtain ⟨a, ha, rfl⟩ := rep_loc r1
    cases rep_int r2
    simp only [pMul] at P
    cases h1 : lstAt st p with
    | none => rw [h1] at P; exact P.elim
    | some xs =>
      rw [h1] at P
      simp only at P
      split at P
      · rename_i h
        obtain ⟨h0, h2, h3⟩ := h
        obtain ⟨vs, q1, k1⟩ := lst_at S h1 ha
        exact op_rep pins s σ H _ _ v u Q I rx ry ⟨a, k, vs, rfl, rfl, q1, by omega, by omega, by rw [line_eq, ← k1.length]; exact h3, fun p hp => post_lst S (k1.rep _) P p hp⟩
      · exact P.elim
end TB

end

/-! ## TbIt -/
section
set_option linter.all false
set_option autoImplicit false
set_option maxRecDepth 100000
set_option maxHeartbeats 4000000
namespace TB
open PySem PySem.Spec PyProof.Rows L2

/-! ### enumerate(v) of what begins -/
theorem meets_enum1 {v : Value} {o : Obj} {H : Heap → Prop} (B : Begins v o H) :
    Meets (Builtin.«enumerate.__new__» ⟨[.type "enumerate", v], []⟩) (fun _ R s => H s.heap ∧
      R (.ok (.ret (.ref (s.heap.push o).objs.size))) { s with heap := (s.heap.push o).push { cls := .type "enumerate", data := .fields #[.none, .bool false, .ref s.heap.objs.size, rawInt 0, .none, .none] } }) :=
  .of_wp fun prog w A R s h => by
    obtain ⟨hp, g, d, tk, os⟩ := s; obtain ⟨h1, h⟩ := h
    have hsub := sub_enumerate
    have q1 : ∀ {A' : Around} {E : Value → Shared → Prop} {Q : Value → Shared → Prop}, Q (.ref hp.objs.size) ⟨hp.push o, g, d, tk, os⟩ → wpAny (model prog w) A' (pyIter v) Q E ⟨hp, g, d, tk, os⟩ :=
      fun q => B.iter prog w _ _ ⟨hp, g, d, tk, os⟩ _ h1 q
    wp_walk using q1
    refine wpAny_stack_any fun st => wpAny_pure ?_
    split
    · rename_i c _ _ _ _ _
      cases (c == Value.type "enumerate")
      · wp_walk using q1
        exact ⟨_, rfl, h⟩
      · wp_walk using q1
        exact ⟨_, rfl, h⟩
    · wp_walk using q1
      exact ⟨_, rfl, h⟩
theorem enum_begins1 {prog : Program} {w : World} {A : Around} {E : Value → Shared → Prop} {s : Shared} {v : Value} {o : Obj} {H : Heap → Prop} {Q : Value → Shared → Prop} (B : Begins v o H) (h1 : H s.heap)
    (h : ∀ h', IsEnum h' (s.heap.objs.size + 1) s.heap.objs.size 0 .none → h'.get? s.heap.objs.size = some o → h'.objs.size = s.heap.objs.size + 2 →
      (∀ b o, s.heap.get? b = some o → h'.get? b = some o) → Q (.ref (s.heap.objs.size + 1)) { s with heap := h' }) :
    wpAny (model prog w) A (call (.type "enumerate") [v]) Q E s := by
  refine callType_new F.called_enumerate (by decide) (F.typeCall_enumerate_1 _) (F.newCall_enumerate_1 _) (fun obj => F.args_object_init_2 obj _) F.entry_enumerate_new
    (meets_enum1 B) ⟨h1, ?_⟩
  have hz : (s.heap.push o).objs.size = s.heap.objs.size + 1 := Heap.size_push ..
  show _ ∧ _
  rw [hz]
  have he : IsEnum ((s.heap.push o).push { cls := .type "enumerate", data := .fields #[.none, .bool false, .ref s.heap.objs.size, rawInt 0, .none, .none] }) (s.heap.objs.size + 1) s.heap.objs.size 0 .none := by
    have := Heap.get?_push_size (s.heap.push o) (o := { cls := .type "enumerate", data := .fields #[.none, .bool false, .ref s.heap.objs.size, rawInt 0, .none, .none] }) rfl
    rw [hz] at this; exact this
  exact ⟨⟨_, he, rfl⟩, h _ he (Heap.get?_push_of_some _ (Heap.get?_push_size _ B.free)) (by rw [Heap.size_push, hz]) fun b o x => Heap.get?_push_of_some _ (Heap.get?_push_of_some _ x)⟩

/-! ### a list or a tuple -/
def SeqK (K : PySem.W.Frag) (H : Hp) (t : Bool) (a : Addr) (xs : List V) : Prop := if t = true then SqT K H a xs else SqL K H a xs
def SeqO (t : Bool) (h : Heap) (a : Addr) (its : Array Value) : Prop := if t = true then h.IsTuple a its else h.IsList a its
def ItO (t : Bool) (h : Heap) (it a : Addr) (i : Nat) : Prop := if t = true then h.IsTupleIter it a i else h.IsListIter it a i
def itObj (t : Bool) (a : Addr) : Obj := if t = true then { cls := .type "tuple_iterator", data := .fields #[.ref a, .int 0 0] } else { cls := .type "list_iterator", data := .fields #[.ref a, .int 0 0] }
section
variable {X : Cx} {pins : List (Addr × Obj)} {σ : L2.St} {H : Hp} {s : Shared}
theorem seq_inv (I : Inv X pins σ H s) {t : Bool} {a : Addr} {xs : List V} (h : SeqK X.K H t a xs) : ∃ its : List Value, Vals xs its ∧ SeqO t s.heap a its.toArray ∧ a < s.heap.objs.size := by
  cases t with
  | true =>
    obtain ⟨its, r, p, _⟩ := I.tuple (xs := xs) (a := a) h
    obtain ⟨o, ho, _⟩ := id p
    exact ⟨its, r, (show s.heap.IsTuple a its.toArray from p), Heap.lt_size ho⟩
  | false =>
    obtain ⟨its, r, p, _⟩ := I.list (xs := xs) (a := a) h
    exact ⟨its, r, p.isList, p.lt⟩
theorem seq_inj (I : Inv X pins σ H s) {t : Bool} {a : Addr} {xs ys : List V} (h : SeqK X.K H t a xs) (h' : SeqK X.K H t a ys) : xs = ys := by
  cases t with
  | true => exact I.tuple_inj (xs := xs) (ys := ys) (a := a) h h'
  | false => exact I.list_inj (xs := xs) (ys := ys) (a := a) h h'
theorem ItO.at {t : Bool} {h h' : Heap} {it a : Addr} {i : Nat} (x : ItO t h it a i) (k : ∀ o, h.get? it = some o → h'.get? it = some o) : ItO t h' it a i := by
  cases t with
  | true => exact Heap.IsTupleIter.at x k
  | false => exact Heap.IsListIter.at x k
theorem ItO.obj {t : Bool} {h : Heap} {it a : Addr} {i : Nat} (x : ItO t h it a i) : ∃ o, h.get? it = some o ∧ ∀ v, o.data ≠ .cell v := by
  cases t with
  | true =>
    obtain ⟨o, e, _, d⟩ : h.IsTupleIter it a i := x
    exact ⟨o, e, fun v q => by rw [d] at q; cases q⟩
  | false =>
    obtain ⟨o, e, _, d⟩ : h.IsListIter it a i := x
    exact ⟨o, e, fun v q => by rw [d] at q; cases q⟩
theorem draws_any {prog : Program} {w : World} {A : Around} (hh : A.handled = none) (t : Bool) (it a : Addr) (hne : a ≠ it) (items : Array Value) :
    Draws prog w A it [it, a] items.size (fun i v => items[i]? = some v) (fun i h => ItO t h it a i ∧ SeqO t h a items) := by
  cases t with
  | true => exact Draws.tuple hh it a hne items
  | false => exact Draws.list hh it a hne items
theorem begins_any (t : Bool) (a : Addr) (items : Array Value) : Begins (.ref a) (itObj t a) fun h => SeqO t h a items := by
  cases t with
  | true => exact begins_tuple a items
  | false => exact begins_list a items
theorem it_new {t : Bool} {h : Heap} {it a : Addr} (e : h.get? it = some (itObj t a)) : ItO t h it a 0 := by
  cases t with
  | true => exact ⟨_, e, rfl, rfl⟩
  | false => exact ⟨_, e, rfl, rfl⟩
end

/-! ### zip -/
def ItZ (K : PySem.W.Frag) (t1 t2 : Bool) (a b : Addr) : It :=
  ⟨fun i H => ∃ (xs ys : List V) (x y : V), SeqK K H t1 a xs ∧ SeqK K H t2 b ys ∧ xs[i]? = some x ∧ ys[i]? = some y,
   fun i H v H' => ∃ T x y, v = .ref T ∧ H T = none ∧ H' = upd H T (.tup [x, y]) ∧ (∀ l, SeqK K H t1 a l → l[i]? = some x) ∧ ∀ l, SeqK K H t2 b l → l[i]? = some y,
   fun i H => ∃ xs ys : List V, SeqK K H t1 a xs ∧ SeqK K H t2 b ys ∧ (xs.length = i ∧ i ≤ ys.length ∨ ys.length = i ∧ i ≤ xs.length)⟩
theorem turn_zipA {P : Program} {w : World} {K : PySem.W.Frag} {elts : List Expr} {kk : Nat} {tpos : Pos} {a b z TI TO i1 i2 : Addr} (t1 t2 : Bool) (D : ZipSep2 z TI TO i1 i2 [i1, a] [i2, b]) (ha : a ≠ i1) (hb : b ≠ i2) :
    Turn P w K (.Tuple elts kk tpos) (ItZ K t1 t2 a b) [z, TI, TO, i1, i2] z (fun i h => IsZip h z TI TO .none ∧ IsTupOf2 h TI (.ref i1) (.ref i2) ∧ (∃ x y, IsTupOf2 h TO x y) ∧ ItO t1 h i1 a i ∧ ItO t2 h i2 b i) where
  mem := by simp
  obj := fun i h st c hc => by
    obtain ⟨hz, hTI, ⟨x, y, hTO⟩, h1, h2⟩ := st
    have e' : c = z ∨ c = TI ∨ c = TO ∨ c = i1 ∨ c = i2 := by simpa using hc
    rcases e' with q | q | q | q | q
    · rw [q]; exact ⟨_, hz, fun v q => nomatch q⟩
    · rw [q]; exact ⟨_, hTI, fun v q => nomatch q⟩
    · rw [q]; exact ⟨_, hTO, fun v q => nomatch q⟩
    · rw [q]; exact h1.obj
    · rw [q]; exact h2.obj
  keep := fun i h h' st k => by
    obtain ⟨hz, hTI, ⟨x, y, hTO⟩, h1, h2⟩ := st
    exact ⟨k z (by simp) _ hz, k TI (by simp) _ hTI, ⟨x, y, k TO (by simp) _ hTO⟩, h1.at fun o q => k i1 (by simp) o q, h2.at fun o q => k i2 (by simp) o q⟩
  item := by
    intro X hP hw hK hc i pins s σ H E I hf st hg
    subst hP hw hK
    obtain ⟨hz, hTI, ⟨x0, y0, hTO⟩, h1, h2⟩ := st
    obtain ⟨xs, ys, x, y, hqx, hqy, hx, hy⟩ := hg
    obtain ⟨its, rv, p, _⟩ := seq_inv I hqx
    obtain ⟨its2, rv2, p2, _⟩ := seq_inv I hqy
    obtain ⟨u, hu, ru⟩ := rv.get hx
    obtain ⟨u2, hu2, ru2⟩ := rv2.get hy
    have lt1 : i < its.toArray.size := by simpa using (List.getElem?_eq_some_iff.mp hu).1
    have lt2 : i < its2.toArray.size := by simpa using (List.getElem?_eq_some_iff.mp hu2).1
    have W := WalksT.zipD2 (prog := X.prog) (w := X.w) (A := X.A) D (draws_any (prog := X.prog) (w := X.w) (A := X.A.in1) (show X.A.in1.handled = none from I.ok.hd hc) t1 i1 a ha its.toArray) (draws_any (prog := X.prog) (w := X.w) (A := X.A.in1) (show X.A.in1.handled = none from I.ok.hd hc) t2 i2 b hb its2.toArray)
    refine W.item i s _ E (Nat.lt_min.mpr ⟨lt1, lt2⟩) ⟨hz, hTI, ⟨x0, y0, hTO⟩, ⟨h1, p⟩, ⟨h2, p2⟩⟩ fun T vals h' tk hP hT hIs hM hk => ?_
    obtain ⟨w1, w2, e1, e2, rfl⟩ := hP
    have e1' : w1 = u := by
      have : its.toArray[i]? = some u := by simpa using hu
      rw [this] at e1; exact (Option.some.inj e1).symm
    have e2' : w2 = u2 := by
      have : its2.toArray[i]? = some u2 := by simpa using hu2
      rw [this] at e2; exact (Option.some.inj e2).symm
    subst e1' e2'
    have ap := W.apart i T h' hM
    refine ⟨_, rfl, W.go elts kk tpos i T { s with heap := h', toks := tk } _ E hM fun h'' st' hk2 => ?_⟩
    obtain ⟨z', TI', TO', ⟨g1, _⟩, ⟨g2, _⟩⟩ := st'
    have hIs2 : h''.IsTuple T #[w1, w2] := hIs.at fun o e => hk2 T o ap e
    have new : ObjOk X.prog X.w (upd H T (.tup [x, y])) h'' T (.tup [x, y]) :=
      ⟨by show 2 ≤ sizeLine; decide, [w1, w2], .cons ru (.cons ru2 .nil), hIs2⟩
    have wr : ∀ c, c ∈ [z, TO, i1, i2] → c ∈ [z, TI, TO, i1, i2] := fun c hc => by
      simp only [List.mem_cons, List.not_mem_nil, or_false] at hc ⊢
      rcases hc with q | q | q | q <;> simp [q]
    have I1 : Inv X pins σ (upd H T (.tup [x, y])) { s with heap := h'', toks := tk } :=
      I.turnedNew (ch := [z, TI, TO, i1, i2]) (fun c o hb q => hk2 c o (fun q' => hb (wr c q')) (hk c o (fun q' => hb (wr c q')) q)) hf hT new
    refine ⟨.ref T, _, I1, rfl, ⟨T, x, y, rfl, I.hok.fresh hT, rfl, fun l hl => by rw [seq_inj I hl hqx]; exact hx, fun l hl => by rw [seq_inj I hl hqy]; exact hy⟩, ⟨z', TI', TO', g1, g2⟩, fun c hcm => ?_⟩
    have hlt : c < s.heap.objs.size := by
      have e' : c = z ∨ c = TI ∨ c = TO ∨ c = i1 ∨ c = i2 := by simpa using hcm
      rcases e' with q | q | q | q | q
      · rw [q]; exact Heap.lt_size hz
      · rw [q]; exact Heap.lt_size hTI
      · rw [q]; exact Heap.lt_size hTO
      · rw [q]; obtain ⟨_, e1, _⟩ := h1.obj; exact Heap.lt_size e1
      · rw [q]; obtain ⟨_, e2, _⟩ := h2.obj; exact Heap.lt_size e2
    rw [upd_ne (Nat.ne_of_lt (Nat.lt_of_lt_of_le hlt hT))]
    exact (hf c hcm).1
  done := by
    intro X hP hw hK hc i pins s σ H E I hf st hg
    subst hP hw hK
    obtain ⟨hz, hTI, ⟨x0, y0, hTO⟩, h1, h2⟩ := st
    obtain ⟨xs, ys, hqx, hqy, hend⟩ := hg
    obtain ⟨its, rv, p, _⟩ := seq_inv I hqx
    obtain ⟨its2, rv2, p2, _⟩ := seq_inv I hqy
    have l1 := rv.length
    have l2 := rv2.length
    have W := WalksT.zipD2 (prog := X.prog) (w := X.w) (A := X.A) D (draws_any (prog := X.prog) (w := X.w) (A := X.A.in1) (show X.A.in1.handled = none from I.ok.hd hc) t1 i1 a ha its.toArray) (draws_any (prog := X.prog) (w := X.w) (A := X.A.in1) (show X.A.in1.handled = none from I.ok.hd hc) t2 i2 b hb its2.toArray)
    have hi : i = min its.toArray.size its2.toArray.size := by
      simp only [List.size_toArray]
      rcases hend with ⟨q1, q2⟩ | ⟨q1, q2⟩ <;> omega
    have wr : ∀ c, c ∈ [z, TO, i1, i2] → c ∈ [z, TI, TO, i1, i2] := fun c hc => by
      simp only [List.mem_cons, List.not_mem_nil, or_false] at hc ⊢
      rcases hc with q | q | q | q <;> simp [q]
    refine W.done s _ E ?_ fun h' tk hk => ⟨rfl, I.turnedL (t' := tk) (ch := [z, TI, TO, i1, i2]) (fun c o hb q => hk c o (fun q' => hb (wr c q')) q) hf⟩
    rw [← hi]
    exact ⟨hz, hTI, ⟨x0, y0, hTO⟩, ⟨h1, p⟩, ⟨h2, p2⟩⟩
  self := fun A i s Q E st h => wpAny_pyIter_zip st.1 h
def iZipG (K : PySem.W.Frag) (ta : TA) : TI := fun σ H R => ta σ H fun vs H1 => ∃ t1 t2 a b xs ys, vs = [.ref a, .ref b] ∧ SeqK K H1 t1 a xs ∧ SeqK K H1 t2 b ys ∧ R (ItZ K t1 t2 a b) H1
theorem pi_zipG {X : Cx} {e e2 : Expr} {ta : TA} {p pos tpos : Pos} {elts : List Expr} {kk : Nat} (hm : X.mg "zip" = none) (ha : PA X [e, e2] ta) (hg : Gl X "zip" := by rfl)
    (hs : starEach [e, e2] X.env = (false, eval e X.env) :: starEach [e2] X.env := by rfl) (hpl : (backTo pos (starEach [e2] X.env)).any (·.1) = false := by rfl) :
    PI X (.Tuple elts kk tpos) (.Call (.Name "zip" p) [e, e2] [] pos) (iZipG X.K ta) := by
  refine ⟨fun pins s σ H R I h => ?_⟩
  refine Call_ (ld_blt I hg hm PyProof.Rows.boot_zip (PyProof.Rows.callWith_type1 (thn (ha.run pos pins s σ H _ I h) fun us s1 ⟨vs, H1, I1, r1, q1⟩ => ?_) hs hpl))
  obtain ⟨t1, t2, a, b, xs, ys, ex, hqx, hqy, q⟩ := q1
  subst ex
  cases r1 with
  | cons r rr =>
    cases rr with
    | cons r' rr =>
      cases rr
      cases r
      cases r'
      have fresh5 : ∀ c, c ∈ [s1.heap.objs.size + 4, s1.heap.objs.size + 2, s1.heap.objs.size + 3, s1.heap.objs.size, s1.heap.objs.size + 1] → FpOk X pins H1 c := fun c hcm => by
        have e' : c = s1.heap.objs.size + 4 ∨ c = s1.heap.objs.size + 2 ∨ c = s1.heap.objs.size + 3 ∨ c = s1.heap.objs.size ∨ c = s1.heap.objs.size + 1 := by simpa using hcm
        have hle : s1.heap.objs.size ≤ c := by
          rcases e' with z | z | z | z | z
          · rw [z]; exact Nat.le_add_right _ _
          · rw [z]; exact Nat.le_add_right _ _
          · rw [z]; exact Nat.le_add_right _ _
          · rw [z]; exact Nat.le_refl _
          · rw [z]; exact Nat.le_add_right _ _
        exact I1.fpOk hle (I1.hok.fresh hle)
      obtain ⟨its, rv, p1, la⟩ := seq_inv I1 hqx
      obtain ⟨its2, rv2, p2, lb⟩ := seq_inv I1 hqy
      refine zip_begins2 (begins_any t1 a its.toArray) (begins_any t2 b its2.toArray) p1 p2 fun h' hz hTI hTO h1 h2 hsz hk => wpAny_pyIter_zip hz ?_
      have I2 : Inv X pins σ H1 { s1 with heap := h' } := I1.kept (t' := s1.toks) hk
      have sep : ZipSep2 (s1.heap.objs.size + 4) (s1.heap.objs.size + 2) (s1.heap.objs.size + 3) s1.heap.objs.size (s1.heap.objs.size + 1) [s1.heap.objs.size, a] [s1.heap.objs.size + 1, b] :=
        zip_sep2 (fun c hc => by rw [List.mem_singleton.mp hc]; exact la) (fun c hc => by rw [List.mem_singleton.mp hc]; exact lb)
      exact ⟨s1.heap.objs.size + 4, [s1.heap.objs.size + 4, s1.heap.objs.size + 2, s1.heap.objs.size + 3, s1.heap.objs.size, s1.heap.objs.size + 1], _, _, H1, rfl, I2,
        turn_zipA t1 t2 sep (Nat.ne_of_lt la) (Nat.ne_of_lt (Nat.lt_succ_of_lt lb)), ⟨hz, hTI, ⟨_, _, hTO⟩, it_new h1, it_new h2⟩, fresh5, q⟩

/-! ### enumerate -/
def ItE (K : PySem.W.Frag) (t : Bool) (a : Addr) : It :=
  ⟨fun i H => ∃ (xs : List V) (x : V), SeqK K H t a xs ∧ xs[i]? = some x, fun i H v H' => ∃ T x, v = .ref T ∧ H T = none ∧ H' = upd H T (.tup [.int (i : Nat), x]) ∧ ∀ xs, SeqK K H t a xs → xs[i]? = some x, fun i H => ∃ xs : List V, SeqK K H t a xs ∧ xs.length = i⟩
theorem turn_enumA {P : Program} {w : World} {K : PySem.W.Frag} {elts : List Expr} {kk : Nat} {tpos : Pos} (t : Bool) (a e it : Addr) (hai : a ≠ it) (hae : a ≠ e) (hei : e ≠ it) :
    Turn P w K (.Tuple elts kk tpos) (ItE K t a) [e, it] e (fun i h => (∃ old, IsEnum h e it (0 + (i : Int)) old) ∧ ItO t h it a i) where
  mem := by simp
  obj := fun i h st b hb => by
    obtain ⟨⟨old, he⟩, hi⟩ := st
    have e' : b = e ∨ b = it := by simpa using hb
    rcases e' with z | z
    · rw [z]; exact ⟨_, he, fun v q => nomatch q⟩
    · rw [z]; exact hi.obj
  keep := fun i h h' st k => let ⟨⟨old, he⟩, hi⟩ := st; ⟨⟨old, k e (by simp) _ he⟩, hi.at fun o q => k it (by simp) o q⟩
  item := by
    intro X hP hw hK hc i pins s σ H E I hf st hg
    subst hP hw hK
    obtain ⟨⟨old, he⟩, hit⟩ := st
    obtain ⟨xs, x, hq, hx⟩ := hg
    obtain ⟨its, rv, p, hz⟩ := seq_inv I hq
    obtain ⟨u, hu, ru⟩ := rv.get hx
    have lt1 : i < its.toArray.size := by simpa using (List.getElem?_eq_some_iff.mp hu).1
    have W := WalksT.enumFrom (prog := X.prog) (w := X.w) (A := X.A) 0 (draws_any (prog := X.prog) (w := X.w) (A := X.A.in1) (show X.A.in1.handled = none from I.ok.hd hc) t it a hai its.toArray) e hei (by simp [hei, Ne.symm hae]) (by simp)
    refine W.item i s _ E lt1 ⟨⟨old, he⟩, hit, p⟩ fun T vals h' tk hP hT hIs hM hk => ?_
    obtain ⟨t0, w1, e1, rfl⟩ := hP
    have e1' : w1 = u := by
      have : its.toArray[i]? = some u := by simpa using hu
      rw [this] at e1; exact (Option.some.inj e1).symm
    subst e1'
    have ap := W.apart i T h' hM
    refine ⟨_, rfl, W.go elts kk tpos i T { s with heap := h', toks := tk } _ E hM fun h'' st' hk2 => ?_⟩
    obtain ⟨g0, g1, _⟩ := st'
    have hIs2 : h''.IsTuple T #[.int (0 + (i : Int)) t0, w1] := hIs.at fun o e => hk2 T o ap e
    have new : ObjOk X.prog X.w (upd H T (.tup [.int (i : Nat), x])) h'' T (.tup [.int (i : Nat), x]) :=
      ⟨by show 2 ≤ sizeLine; decide, [.int (0 + (i : Int)) t0, w1], .cons ⟨t0, by rw [Int.zero_add]⟩ (.cons ru .nil), hIs2⟩
    have I1 : Inv X pins σ (upd H T (.tup [.int (i : Nat), x])) { s with heap := h'', toks := tk } :=
      I.turnedNew (ch := [e, it]) (fun c o hb q => hk2 c o hb (hk c o hb q)) hf hT new
    refine ⟨.ref T, _, I1, rfl, ⟨T, x, rfl, I.hok.fresh hT, rfl, fun l hl => by rw [seq_inj I hl hq]; exact hx⟩, ⟨g0, g1⟩, fun c hcm => ?_⟩
    have hlt : c < s.heap.objs.size := by
      have e' : c = e ∨ c = it := by simpa using hcm
      rcases e' with q | q
      · rw [q]; exact Heap.lt_size he
      · rw [q]; obtain ⟨_, e1, _⟩ := hit.obj; exact Heap.lt_size e1
    rw [upd_ne (Nat.ne_of_lt (Nat.lt_of_lt_of_le hlt hT))]
    exact (hf c hcm).1
  done := by
    intro X hP hw hK hc i pins s σ H E I hf st hg
    subst hP hw hK
    obtain ⟨⟨old, he⟩, hit⟩ := st
    obtain ⟨xs, hq, hx⟩ := hg
    obtain ⟨its, rv, p, hz⟩ := seq_inv I hq
    have l1 := rv.length
    have W := WalksT.enumFrom (prog := X.prog) (w := X.w) (A := X.A) 0 (draws_any (prog := X.prog) (w := X.w) (A := X.A.in1) (show X.A.in1.handled = none from I.ok.hd hc) t it a hai its.toArray) e hei (by simp [hei, Ne.symm hae]) (by simp)
    have hi : i = its.toArray.size := by
      simp only [List.size_toArray]
      omega
    refine W.done s _ E ?_ fun h' tk hk => ⟨rfl, I.turnedL (t' := tk) (ch := [e, it]) (fun c o hb q => hk c o hb q) hf⟩
    rw [← hi]
    exact ⟨⟨old, he⟩, hit, p⟩
  self := fun A i s Q E st h => let ⟨⟨_, he⟩, _⟩ := st; wpAny_pyIter_enum he h
def iEnumG (K : PySem.W.Frag) (ta : TA) : TI := fun σ H R => ta σ H fun vs H1 => ∃ t a xs, vs = [.ref a] ∧ SeqK K H1 t a xs ∧ R (ItE K t a) H1
theorem pi_enumG {X : Cx} {e : Expr} {ta : TA} {p pos tpos : Pos} {elts : List Expr} {kk : Nat} (hm : X.mg "enumerate" = none) (ha : PA X [e] ta) (hg : Gl X "enumerate" := by rfl) (hs : starEach [e] X.env = [(false, eval e X.env)] := by rfl) :
    PI X (.Tuple elts kk tpos) (.Call (.Name "enumerate" p) [e] [] pos) (iEnumG X.K ta) := by
  refine ⟨fun pins s σ H R I h => ?_⟩
  refine Call_ (ld_blt I hg hm boot_enumerate (PyProof.Rows.callWith_type1 (thn (ha.run pos pins s σ H _ I h) fun us s1 ⟨vs, H1, I1, r1, q1⟩ => ?_) hs rfl))
  obtain ⟨t, a, xs, ex, hq, q⟩ := q1
  subst ex
  cases r1 with
  | cons r rr =>
    cases rr
    cases r
    obtain ⟨its, rv, p', la⟩ := seq_inv I1 hq
    refine enum_begins1 (begins_any t a its.toArray) p' fun h' he h0 hsz hk => wpAny_pyIter_enum he ?_
    have I2 : Inv X pins σ H1 { s1 with heap := h' } := I1.kept (t' := s1.toks) hk
    refine ⟨s1.heap.objs.size + 1, [s1.heap.objs.size + 1, s1.heap.objs.size], _, _, H1, rfl, I2, turn_enumA t a (s1.heap.objs.size + 1) s1.heap.objs.size (Nat.ne_of_lt la) (Nat.ne_of_lt (Nat.lt_succ_of_lt la)) (Nat.succ_ne_self _), ⟨⟨.none, he⟩, it_new h0⟩, fun b hb => ?_, q⟩
    have e' : b = s1.heap.objs.size + 1 ∨ b = s1.heap.objs.size := by simpa using hb
    have hle : s1.heap.objs.size ≤ b := by
      rcases e' with z | z
      · rw [z]; exact Nat.le_add_right _ _
      · rw [z]; exact Nat.le_refl _
    exact I1.fpOk hle (I1.hok.fresh hle)
end TB

end

/-! ## TbWk -/
section
set_option linter.all false
set_option autoImplicit false
set_option maxRecDepth 100000
namespace TB
open PySem PySem.Spec PyProof.Rows L2

/-- what may be walked: its items, and the list of the store that must stay -/
def seqOf (st : Sto) : D → Option (List D × List (Nat × List D))
  | .tup xs => some (xs, [])
  | .lstv xs => some (xs, [])
  | .loc n => (lstAt st n).map fun xs => (xs, [(n, xs)])
  | _ => none
def enumD : Nat → List D → List D
  | _, [] => []
  | i, x :: xs => .tup [.int i, x] :: enumD (i + 1) xs
def zipD : List D → List D → List D
  | x :: xs, y :: ys => .tup [x, y] :: zipD xs ys
  | _, _ => []
def rangeD (a : Int) (n : Nat) : List D := (List.range n).map fun (i : Nat) => D.int (a + (i : Int))
def iSeq (d : D) (st : Sto) : Res Iter := match seqOf st d with
  | some (xs, hs) => .ok ⟨xs, hs⟩ st
  | none => .stuck
def iVal (a : EM) : IM := fun r st => (a r st).bind iSeq
def iEnumF (ds : List D) (st : Sto) : Res Iter := match ds with
  | [d] => (match seqOf st d with
    | some (xs, hs) => .ok ⟨enumD 0 xs, hs⟩ st
    | none => .stuck)
  | _ => .stuck
def iZipF (ds : List D) (st : Sto) : Res Iter := match ds with
  | [d, e] => (match seqOf st d, seqOf st e with
    | some (xs, hs), some (ys, ks) => .ok ⟨zipD xs ys, hs ++ ks⟩ st
    | _, _ => .stuck)
  | _ => .stuck
def iRange1 (ds : List D) (st : Sto) : Res Iter := match ds with
  | [.int j] => if -4611686018427387904 ≤ j ∧ j < 4611686018427387904 then .ok ⟨rangeD 0 j.toNat, []⟩ st else .stuck
  | _ => .stuck
def iRange2 (ds : List D) (st : Sto) : Res Iter := match ds with
  | [.int i, .int j] => if -4611686018427387904 ≤ i ∧ i < 4611686018427387904 ∧ -4611686018427387904 ≤ j ∧ j < 4611686018427387904 then .ok ⟨rangeD i (j - i).toNat, []⟩ st else .stuck
  | _ => .stuck
def iFn (f : List D → Sto → Res Iter) (as : AM) : IM := fun r st => (as r st).bind f
theorem enumD_get : ∀ (xs : List D) (i k : Nat), (enumD i xs)[k]? = xs[k]?.map fun x => .tup [.int ((i + k : Nat) : Int), x]
  | [], i, k => by simp [enumD]
  | x :: xs, i, 0 => by simp [enumD]
  | x :: xs, i, k + 1 => by
    simp only [enumD, List.getElem?_cons_succ]
    rw [enumD_get xs (i + 1) k]
    congr 3
    funext y
    congr 4
    omega
theorem enumD_length : ∀ (xs : List D) (i : Nat), (enumD i xs).length = xs.length
  | [], i => rfl
  | x :: xs, i => by simp [enumD, enumD_length xs (i + 1)]
theorem zipD_length : ∀ (xs ys : List D), (zipD xs ys).length = min xs.length ys.length
  | [], ys => by simp [zipD]
  | x :: xs, [] => by simp [zipD]
  | x :: xs, y :: ys => by simp [zipD, zipD_length xs ys]
theorem zipD_get : ∀ (xs ys : List D) (k : Nat) (d : D), (zipD xs ys)[k]? = some d → ∃ x y, xs[k]? = some x ∧ ys[k]? = some y ∧ d = .tup [x, y]
  | [], ys, k, d, h => by simp [zipD] at h
  | x :: xs, [], k, d, h => by simp [zipD] at h
  | x :: xs, y :: ys, 0, d, h => by
    simp [zipD] at h
    exact ⟨x, y, rfl, rfl, h.symm⟩
  | x :: xs, y :: ys, k + 1, d, h => by
    simp only [zipD, List.getElem?_cons_succ] at h
    simpa using zipD_get xs ys k d h
section
variable {g : Gx} {m m' : List Addr} {H H' : Hp} {st st' : Sto}
/-- a sequence as it lies, now and later -/
theorem seq_rep (S : Sim g m H st) {d : D} {v : V} {xs : List D} {hs : List (Nat × List D)} (r : Rep g m H d v) (e : seqOf st d = some (xs, hs)) :
    ∃ t a, v = .ref a ∧ ∀ m' H' st', Later m H m' H' → Sim g m' H' st' → heldOk hs st' = true → ∃ vs, SeqK g.K H' t a vs ∧ RepL g m' H' xs vs := by
  cases d with
  | tup ds =>
    simp only [seqOf, Option.some.injEq, Prod.mk.injEq] at e
    obtain ⟨rfl, rfl⟩ := e
    obtain ⟨a, vs, rfl, q, k⟩ := rep_tup r
    exact ⟨true, a, rfl, fun m' H' st' l _ _ => ⟨vs, l.sqT q, k.later l⟩⟩
  | lstv ds =>
    simp only [seqOf, Option.some.injEq, Prod.mk.injEq] at e
    obtain ⟨rfl, rfl⟩ := e
    obtain ⟨a, vs, rfl, q, k⟩ := rep_lstv r
    exact ⟨false, a, rfl, fun m' H' st' l _ _ => ⟨vs, (l.frz q).sq, k.later l⟩⟩
  | loc n =>
    simp only [seqOf] at e
    cases hl : lstAt st n with
    | none => rw [hl] at e; cases e
    | some ys =>
      rw [hl] at e
      simp only [Option.map_some, Option.some.injEq, Prod.mk.injEq] at e
      obtain ⟨rfl, rfl⟩ := e
      obtain ⟨a, ha, rfl⟩ := rep_loc r
      refine ⟨false, a, rfl, fun m' H' st' l S' hh => ?_⟩
      simp only [heldOk, List.all_cons, List.all_nil, Bool.and_true, decide_eq_true_eq] at hh
      obtain ⟨vs, q, k⟩ := lst_at S' hh (l.pre _ _ ha)
      exact ⟨vs, .of q, k⟩
  | _ => cases e
/-- the same list is read -/
def ItS (K : PySem.W.Frag) (t : Bool) (a : Addr) : It := if t = true then Itt K a else Itl K a
theorem wlk_seq {t : Bool} {a : Addr} {xs : List D} {hs : List (Nat × List D)} (h : ∀ m' H' st', Later m H m' H' → Sim g m' H' st' → heldOk hs st' = true → ∃ vs, SeqK g.K H' t a vs ∧ RepL g m' H' xs vs) : Wlk g (ItS g.K t a) ⟨xs, hs⟩ m H := by
  refine ⟨fun k d m' H' st' e l S hh => ?_, fun m' H' st' l S hh => ?_⟩
  · obtain ⟨vs, q, r⟩ := h m' H' st' l S hh
    obtain ⟨v, h1, h2⟩ := r.get e
    cases t with
    | true =>
      refine ⟨⟨vs, v, q, h1⟩, fun x H2 y => ?_⟩
      obtain ⟨rfl, y⟩ := y
      have e2 := y vs q
      rw [h1] at e2
      cases e2
      exact ⟨.refl, S, h2⟩
    | false =>
      refine ⟨⟨vs, v, q, h1⟩, fun x H2 y => ?_⟩
      obtain ⟨rfl, y⟩ := y
      have e2 := y vs q
      rw [h1] at e2
      cases e2
      exact ⟨.refl, S, h2⟩
  · obtain ⟨vs, q, r⟩ := h m' H' st' l S hh
    cases t with
    | true => exact ⟨vs, q, by rw [← r.length]; exact Nat.le_refl _⟩
    | false => exact ⟨vs, q, by rw [← r.length]; exact Nat.le_refl _⟩
theorem pair_rep (S : Sim g m H st) {T : Addr} {d e : D} {x y : V} (hT : H T = none) (h1 : Rep g m H d x) (h2 : Rep g m H e y) : Later m H m (upd H T (.tup [x, y])) ∧ Sim g m (upd H T (.tup [x, y])) st ∧ Rep g m (upd H T (.tup [x, y])) (.tup [d, e]) (.ref T) := by
  have l : Later m H m (upd H T (.tup [x, y])) := Later.new hT
  refine ⟨l, S.new hT, ?_⟩
  simp only [Rep]
  exact ⟨T, [x, y], rfl, .of upd_same, .cons (h1.later l) (.cons (h2.later l) .nil)⟩
theorem wlk_enum {t : Bool} {a : Addr} {xs : List D} {hs : List (Nat × List D)} (h : ∀ m' H' st', Later m H m' H' → Sim g m' H' st' → heldOk hs st' = true → ∃ vs, SeqK g.K H' t a vs ∧ RepL g m' H' xs vs) : Wlk g (ItE g.K t a) ⟨enumD 0 xs, hs⟩ m H := by
  refine ⟨fun k d m' H' st' e l S hh => ?_, fun m' H' st' l S hh => ?_⟩
  · obtain ⟨vs, q, r⟩ := h m' H' st' l S hh
    rw [enumD_get] at e
    obtain ⟨x, hx, rfl⟩ := Option.map_eq_some_iff.mp e
    obtain ⟨v, h1, h2⟩ := r.get hx
    refine ⟨⟨vs, v, q, h1⟩, fun x2 H2 y => ?_⟩
    obtain ⟨T, x3, rfl, hT, rfl, y⟩ := y
    have e2 := y vs q
    rw [h1] at e2
    cases e2
    rw [Nat.zero_add]
    exact pair_rep S hT mkInt h2
  · obtain ⟨vs, q, r⟩ := h m' H' st' l S hh
    exact ⟨vs, q, by rw [← r.length, enumD_length]⟩
theorem wlk_zip {t t2 : Bool} {a b : Addr} {xs ys : List D} {hs ks : List (Nat × List D)} (h : ∀ m' H' st', Later m H m' H' → Sim g m' H' st' → heldOk hs st' = true → ∃ vs, SeqK g.K H' t a vs ∧ RepL g m' H' xs vs)
    (h2 : ∀ m' H' st', Later m H m' H' → Sim g m' H' st' → heldOk ks st' = true → ∃ vs, SeqK g.K H' t2 b vs ∧ RepL g m' H' ys vs) : Wlk g (ItZ g.K t t2 a b) ⟨zipD xs ys, hs ++ ks⟩ m H := by
  have sp : ∀ {st' : Sto}, heldOk (hs ++ ks) st' = true → heldOk hs st' = true ∧ heldOk ks st' = true := fun {st'} hh => by
    simp only [heldOk, List.all_append, Bool.and_eq_true] at hh ⊢
    exact hh
  refine ⟨fun k d m' H' st' e l S hh => ?_, fun m' H' st' l S hh => ?_⟩
  · obtain ⟨vs, q, r⟩ := h m' H' st' l S (sp hh).1
    obtain ⟨us, q2, r2⟩ := h2 m' H' st' l S (sp hh).2
    obtain ⟨x, y, hx, hy, rfl⟩ := zipD_get _ _ _ _ e
    obtain ⟨v, e1, e2⟩ := r.get hx
    obtain ⟨u, f1, f2⟩ := r2.get hy
    refine ⟨⟨vs, us, v, u, q, q2, e1, f1⟩, fun x2 H2 yy => ?_⟩
    obtain ⟨T, x3, y3, rfl, hT, rfl, y1, y2⟩ := yy
    have z1 := y1 vs q
    rw [e1] at z1
    cases z1
    have z2 := y2 us q2
    rw [f1] at z2
    cases z2
    exact pair_rep S hT e2 f2
  · obtain ⟨vs, q, r⟩ := h m' H' st' l S (sp hh).1
    obtain ⟨us, q2, r2⟩ := h2 m' H' st' l S (sp hh).2
    refine ⟨vs, us, q, q2, ?_⟩
    show _ ∧ (zipD xs ys).length ≤ _ ∨ _ ∧ (zipD xs ys).length ≤ _
    rw [zipD_length, r.length, r2.length]
    omega
theorem wlk_range (a : Int) (n : Nat) : Wlk g (Itr a n) ⟨rangeD a n, []⟩ m H := by
  refine ⟨fun k d m' H' st' e l S hh => ?_, fun m' H' st' l S hh => ?_⟩
  · simp only [rangeD, List.getElem?_map] at e
    obtain ⟨i, hi, rfl⟩ := Option.map_eq_some_iff.mp e
    have hk : k < n := by
      by_cases hk : k < n
      · exact hk
      · rw [List.getElem?_eq_none (by simp; omega)] at hi
        cases hi
    rw [List.getElem?_range hk] at hi
    cases hi
    refine ⟨hk, fun x H2 y => ?_⟩
    obtain ⟨rfl, rfl⟩ := y
    exact ⟨.refl, S, mkInt⟩
  · show n ≤ (rangeD a n).length
    simp [rangeD]
end
section
variable {X : Cx} {g : Gx} {W : WX} {tg e : Expr} {es : List Expr} {ma : EM} {as : AM} {p pos tpos : Pos} {elts : List Expr} {kk : Nat}
theorem pi_seq {tl : TE} (hl : PE X e tl) : PI X tg e (fun σ H R => tl σ H fun x H1 => ∃ t a xs, x = .ref a ∧ SeqK X.K H1 t a xs ∧ R (ItS X.K t a) H1) := by
  refine ⟨fun pins s σ H R I h => ?_⟩
  refine thn (hl.run pins s σ H _ I h) fun v s1 ⟨x, H1, I1, r1, q1⟩ => ?_
  obtain ⟨t, a, xs, rfl, hq, q⟩ := q1
  cases r1
  cases t with
  | false =>
    obtain ⟨its, rv, p, hz⟩ := I1.list (xs := xs) (a := a) hq
    refine wpAny_pyIter_list p.isList ?_
    refine ⟨s1.heap.objs.size, [s1.heap.objs.size], _, _, H1, rfl, I1.kept (t' := s1.toks) fun b o e => Heap.get?_push_of_some _ e, turn_list a _, ⟨_, Heap.get?_push_size _ rfl, rfl, rfl⟩, fun b hb => ?_, q⟩
    have e : b = s1.heap.objs.size := by simpa using hb
    subst e
    exact I1.fpOk (Nat.le_refl _) (I1.hok.fresh (Nat.le_refl _))
  | true =>
    obtain ⟨its, rv, p, hz⟩ := I1.tuple (xs := xs) (a := a) hq
    refine wpAny_pyIter_tuple (show s1.heap.IsTuple a its.toArray from p) ?_
    refine ⟨s1.heap.objs.size, [s1.heap.objs.size], _, _, H1, rfl, I1.kept (t' := s1.toks) fun b o e => Heap.get?_push_of_some _ e, turn_tuple a _, ⟨_, Heap.get?_push_size _ rfl, rfl, rfl⟩, fun b hb => ?_, q⟩
    have e : b = s1.heap.objs.size := by simpa using hb
    subst e
    exact I1.fpOk (Nat.le_refl _) (I1.hok.fresh (Nat.le_refl _))
theorem heldOk_seq {st : Sto} {d : D} {xs : List D} {hs : List (Nat × List D)} (e : seqOf st d = some (xs, hs)) : heldOk hs st = true := by
  cases d with
  | tup ds => simp only [seqOf, Option.some.injEq, Prod.mk.injEq] at e; rw [← e.2]; rfl
  | lstv ds => simp only [seqOf, Option.some.injEq, Prod.mk.injEq] at e; rw [← e.2]; rfl
  | loc n =>
    simp only [seqOf] at e
    cases hl : lstAt st n with
    | none => rw [hl] at e; cases e
    | some ys =>
      rw [hl] at e
      simp only [Option.map_some, Option.some.injEq, Prod.mk.injEq] at e
      rw [← e.2]
      simp [heldOk, hl]
  | _ => cases e
theorem si_val (hK : X.K = g.K) (h : PE X e (rdE g W ma)) : PI X tg e (rdI g W (iVal ma)) :=
  (pi_seq h).imp fun s H R ⟨m, r, st, S, E, P⟩ => rdE_step (R := fun m H i J => Wlk g J i m H) (f := fun _ => iSeq) S E P fun m1 H1 d v st1 _ l1 S1 E1 r1 P1 => by
    unfold iSeq at P1
    cases hq : seqOf st1 d with
    | none => rw [hq] at P1; exact P1.elim
    | some z =>
      obtain ⟨xs, hs⟩ := z
      rw [hq] at P1
      obtain ⟨t, a, rfl, h⟩ := seq_rep S1 r1 hq
      obtain ⟨vs, q, _⟩ := h m1 H1 st1 .refl S1 (heldOk_seq hq)
      rw [hK]
      exact ⟨t, a, vs, rfl, q, PostR.now (R := fun m H i J => Wlk g J i m H) P1 S1 (wlk_seq h)⟩
theorem rdI_fn {f : List D → Sto → Res Iter} {s : L2.St} {H : Hp} {R : It → Hp → Prop} (h : rdI g W (iFn f as) s H R) : rdA g W as s H fun vs H1 => ∃ W' m st ds, Sim g m H1 st ∧ RepL g m H1 ds vs ∧ PostR g (fun m H i J => Wlk g J i m H) W' m H1 R (f ds st) := by
  obtain ⟨m, r, st, S, E, P⟩ := h
  refine ⟨m, r, st, S, E, (PostR.bind (R := RepL g) (f := f) P).imp fun m2 H2 xs ds st2 e l2 S2 rs ⟨m3, ds3, st3, e3, l3, S3, r3, P3⟩ => ?_⟩
  rw [e] at e3; cases e3
  exact ⟨_, m3, _, _, S3, r3, P3⟩
theorem rdA_imp {s : L2.St} {H : Hp} {Q Q' : List V → Hp → Prop} (h : rdA g W as s H Q) (i : ∀ vs H, Q vs H → Q' vs H) : rdA g W as s H Q' := by
  obtain ⟨m, r, st, S, E, P⟩ := h
  exact ⟨m, r, st, S, E, P.imp fun _ _ _ _ _ _ _ _ _ q => i _ _ q⟩
theorem si_enum (hK : X.K = g.K) {a : Expr} (hm : X.mg "enumerate" = none) (ha : PA X [a] (rdA g W as)) (hg : Gl X "enumerate" := by rfl) (hs : starEach [a] X.env = [(false, eval a X.env)] := by rfl) :
    PI X (.Tuple elts kk tpos) (.Call (.Name "enumerate" p) [a] [] pos) (rdI g W (iFn iEnumF as)) :=
  (pi_enumG hm ha hg hs).imp fun s H R q => rdA_imp (rdI_fn q) fun vs H1 ⟨W', m, st, ds, S, r, P⟩ => by
    unfold iEnumF at P
    split at P
    · rename_i d
      obtain ⟨v, rfl, r1⟩ := r.one
      cases hq : seqOf st d with
      | none => rw [hq] at P; exact P.elim
      | some z =>
        obtain ⟨xs, hs⟩ := z
        rw [hq] at P
        obtain ⟨t, a, rfl, h⟩ := seq_rep S r1 hq
        obtain ⟨vs, q, _⟩ := h m H1 st .refl S (heldOk_seq hq)
        rw [hK]
        exact ⟨t, a, vs, rfl, q, PostR.now (R := fun m H i J => Wlk g J i m H) P S (wlk_enum h)⟩
    · exact P.elim
theorem si_zip (hK : X.K = g.K) {a b : Expr} (hm : X.mg "zip" = none) (ha : PA X [a, b] (rdA g W as)) (hg : Gl X "zip" := by rfl) (hs : starEach [a, b] X.env = (false, eval a X.env) :: starEach [b] X.env := by rfl) (hpl : (backTo pos (starEach [b] X.env)).any (·.1) = false := by rfl) :
    PI X (.Tuple elts kk tpos) (.Call (.Name "zip" p) [a, b] [] pos) (rdI g W (iFn iZipF as)) :=
  (pi_zipG hm ha hg hs hpl).imp fun s H R q => rdA_imp (rdI_fn q) fun vs H1 ⟨W', m, st, ds, S, r, P⟩ => by
    unfold iZipF at P
    split at P
    · rename_i d e
      obtain ⟨v, u, rfl, r1, r2⟩ := r.two
      cases hq : seqOf st d with
      | none => rw [hq] at P; exact P.elim
      | some z =>
        cases hq2 : seqOf st e with
        | none => rw [hq, hq2] at P; exact P.elim
        | some z2 =>
          obtain ⟨xs, hs⟩ := z
          obtain ⟨ys, ks⟩ := z2
          rw [hq, hq2] at P
          obtain ⟨t, a, rfl, h⟩ := seq_rep S r1 hq
          obtain ⟨t2, b, rfl, h2⟩ := seq_rep S r2 hq2
          obtain ⟨vs, q, _⟩ := h m H1 st .refl S (heldOk_seq hq)
          obtain ⟨us, q2, _⟩ := h2 m H1 st .refl S (heldOk_seq hq2)
          rw [hK]
          exact ⟨t, t2, a, b, vs, us, rfl, q, q2, PostR.now (R := fun m H i J => Wlk g J i m H) P S (wlk_zip h h2)⟩
    · exact P.elim
theorem si_range1 {a : Expr} (hm : X.mg "range" = none) (ha : PA X [a] (rdA g W as)) (hg : Gl X "range" := by rfl) (hs : starEach [a] X.env = [(false, eval a X.env)] := by rfl) : PI X tg (.Call (.Name "range" p) [a] [] pos) (rdI g W (iFn iRange1 as)) :=
  (pi_range1 hg hm ha hs).imp fun s H R q => rdA_imp (rdI_fn q) fun vs H1 ⟨W', m, st, ds, S, r, P⟩ => by
    unfold iRange1 at P
    split at P
    · rename_i j
      obtain ⟨v, rfl, r1⟩ := r.one
      cases rep_int r1
      split at P
      · rename_i h
        have e62 : (2 : Int) ^ 62 = 4611686018427387904 := by decide
        exact ⟨j, rfl, by rw [e62]; exact h.1, by rw [e62]; exact h.2, PostR.now (R := fun m H i J => Wlk g J i m H) P S (wlk_range 0 _)⟩
      · exact P.elim
    · exact P.elim
theorem si_range2 {a b : Expr} (hm : X.mg "range" = none) (ha : PA X [a, b] (rdA g W as)) (hg : Gl X "range" := by rfl) (hs : starEach [a, b] X.env = [(false, eval a X.env), (false, eval b X.env)] := by rfl) (hs2 : starEach [b] X.env = [(false, eval b X.env)] := by rfl) :
    PI X tg (.Call (.Name "range" p) [a, b] [] pos) (rdI g W (iFn iRange2 as)) :=
  (pi_range2 hg hm ha hs hs2).imp fun s H R q => rdA_imp (rdI_fn q) fun vs H1 ⟨W', m, st, ds, S, r, P⟩ => by
    unfold iRange2 at P
    split at P
    · rename_i i j
      obtain ⟨v, u, rfl, r1, r2⟩ := r.two
      cases rep_int r1
      cases rep_int r2
      split at P
      · rename_i h
        have e62 : (2 : Int) ^ 62 = 4611686018427387904 := by decide
        exact ⟨i, j, rfl, by rw [e62]; exact h, PostR.now (R := fun m H i J => Wlk g J i m H) P S (wlk_range i _)⟩
      · exact P.elim
    · exact P.elim
end
end TB

end

/-! ## TbG -/
section
set_option linter.all false
set_option autoImplicit false
set_option maxRecDepth 100000
/-! Calls whose callers show nothing: no repr is under way (HandS's promises tell nothing of that). -/
namespace TB
open PySem PySem.Spec PyProof.Rows L2

/-- a promise over callers that show nothing -/
structure GnOk (P : Program) (w : World) (K : PySem.W.Frag) (mg : Str → Option Value) (base : Heap) (k : Nat) (f : Addr) (fd : FuncData) (ps : List Str) (sp : Sp) : Prop where
  ln : ∀ vs H Q E, sp vs H Q E → vs.length = ps.length
  go : ∀ (A : Around) (outer : List PySem.Env) (s : Shared) (H : Hp) (args : Args) (us : List Value) (vs : List V) (Q : VK) (E : XK),
    A.guards = some [] → Room k A → Env0 P w K mg base A outer s H → BindsTo s fd args (ps.zip us) → Vals vs us → sp vs H Q E →
      codeAny (model P w) A (.call (.ref f) args) (CR (L2.CX P w) outer P w H s Q E) s
theorem GnOk.up {P : Program} {w : World} {K : PySem.W.Frag} {mg : Str → Option Value} {base : Heap} {j k : Nat} {f : Addr} {fd : FuncData} {ps : List Str} {sp : Sp} (F : GnOk P w K mg base j f fd ps sp) (h : j ≤ k) : GnOk P w K mg base k f fd ps sp :=
  ⟨F.ln, fun A o s H a us vs Q E g r => F.go A o s H a us vs Q E g (r.mono h)⟩
theorem fin_of {X : Cx} {σ : L2.St} {H : Hp} {s : Shared} {Q : VK} {E : XK} {pins : List (Addr × Obj)} (I : Inv X pins σ H s) (hx : PassesAt (L2.CX X.prog X.w) X σ E) {r : Result} {s' : Shared} (hq : CR (L2.CX X.prog X.w) X.stack X.prog X.w H s Q E r s') :
    (match r with
      | .ok (.ret v) => EP X pins σ Q v s'
      | .ok _ => False
      | .error e => X.xe e s') := by
  cases r with
  | error e => exact hx pins H s e s' I hq
  | ok fl =>
    cases fl with
    | ret u => exact I.after hq
    | next => exact hq.elim
    | brk => exact hq.elim
    | cont => exact hq.elim
section
variable {X : Cx} {k : Nat} {f : Addr} {fd : FuncData} {ps : List Str} {sp : Sp} {E : L2.St → XK} {x : Str} {p pos : Pos} {e : Expr} {es : List Expr} {t : TA}
theorem run_gn {pins : List (Addr × Obj)} {σ : L2.St} {H : Hp} {s : Shared} {Q : VK} {us : List Value} {vs : List V} (F : GnOk X.prog X.w X.K X.mg X.base k f fd ps sp) (hg : X.A.guards = some []) (hr : Room k X.A) (hb : Binds X.K fd ps [])
    (hx : PassesAt (L2.CX X.prog X.w) X σ (E σ)) (I : Inv X pins σ H s) (r : Vals vs us) (h : sp vs H Q (E σ)) : wpAny (model X.prog X.w) X.A (call (.ref f) us) (EP X pins σ Q) X.xe s := by
  have b := hb s us I.kIn (by rw [List.append_nil, ← r.length]; exact F.ln _ _ _ _ h)
  simp only [List.append_nil] at b
  refine wpAny_call (codeAny_mono (F.go X.A X.stack s H ⟨us, []⟩ us vs Q (E σ) hg hr I.env0 b r h) fun r s' hq => ?_)
  have := fin_of I hx hq
  cases r with
  | error e => exact this
  | ok fl => cases fl <;> first | exact this | exact this.elim
theorem pe_callG (F : GnOk X.prog X.w X.K X.mg X.base k f fd ps sp) (hgd : X.A.guards = some []) (hr : Room k X.A) (hg : Gl X x) (hm : X.mg x = some (.ref f)) (hk : PySem.W.keepIn X.K (.ref f) = true) (hb : Binds X.K fd ps []) (hx : ∀ σ, PassesAt (L2.CX X.prog X.w) X σ (E σ))
    (ha : PA X (e :: es) t) (hdb : (x == ("__debug__" : Str)) = false := by decide) (he : starEach (e :: es) X.env = (false, eval e X.env) :: starEach es X.env := by rfl) (hpl : (backTo pos (starEach es X.env)).any (·.1) = false := by rfl) :
    PE X (.Call (.Name x p) (e :: es) [] pos) (tCallS sp E t) :=
  ⟨fun pins s σ H Q I h => wpAny_Call_Name_kw (ld_glob I hg hm (PySem.W.callWith_K (h₀ := X.base) I.ok.mod.kin hk
    (thn (ha.run pos pins s σ H _ I h) fun us s1 ⟨vs, H1, I1, r, q⟩ => ⟨I1.kIn, run_gn F hgd hr hb (hx σ) I1 r q⟩) he hpl) hdb)⟩
end
section
variable {X : Cx} {g : Gx} {W : WX} {pos : Pos} {a : Expr} {es : List Expr}
/-- a def of the module, by its name -/
theorem so_callG {x : Str} {p : Pos} {n k : Nat} {F : List D → Sto → Res D} {as : AM} {f : Addr} {fd : FuncData} {ps : List Str} (Fn : GnOk X.prog X.w X.K X.mg X.base k f fd ps (spOf g n F)) (ar : Arity n F) (hgd : X.A.guards = some []) (hr : Room k X.A) (hm : X.mg x = some (.ref f))
    (hk : PySem.W.keepIn X.K (.ref f) = true) (hb : Binds X.K fd ps []) (tk : Takes X W) (ha : PA X (a :: es) (rdA g W as)) (hg : Gl X x := by rfl) (hdb : (x == ("__debug__" : Str)) = false := by decide)
    (he : starEach (a :: es) X.env = (false, eval a X.env) :: starEach es X.env := by rfl) (hpl : (backTo pos (starEach es X.env)).any (·.1) = false := by rfl) : PE X (.Call (.Name x p) (a :: es) [] pos) (rdE g W (eN F as)) :=
  (pe_callG Fn hgd hr hg hm hk hb (fun σ => passAt tk σ) ha hdb he hpl).imp fun s H Q q => rdA_call (fun m H r st ds st1 vs _ _ ⟨_, _, P⟩ => by
    by_cases h : ds.length = n
    · exact h
    · rw [ar ds st1 h] at P
      exact P.elim) q
end

/-- a def's promise by its body -/
theorem gn_of {P : Program} {w : World} {K : PySem.W.Frag} {mg : Str → Option Value} {base : Heap} {x qual : Str} {params : Arguments} {body : List Stmt} {scope : Scope} {f : Addr} {fd : FuncData} {N ps : List Str} {k : Nat} {sp : Sp}
    (F : FunD K x qual params body scope [] [] f fd) (S : FnScope N ps scope) (ln : ∀ vs H Q E, sp vs H Q E → vs.length = ps.length)
    (hb : ∀ (cdv : Value) (A : Around) (outer : List PySem.Env) (s : Shared) (H : Hp) (vs : List V) (Q : VK) (E : XK), A.guards = some [] → Room k (A.deeper (envOfC qual scope s.heap.objs.size f cdv)) → sp vs H Q E →
      ∃ t, PSs (cxOf (L2.CX P w) P w K mg base N qual scope f cdv A outer s H E) body t ∧ t { nx := fun _ H' => Q .non H', rt := Q } (start N vs) H) : GnOk P w K mg base (k + 1) f fd ps sp := by
  obtain ⟨oc, od, dV, kV, doc, pm, an, cdv, ct, osl, hfd, lk, hcd, _, _⟩ := F.ex
  subst hfd
  refine ⟨ln, fun A outer s H args us vs Q E hgd hr e0 hbi rv hsp => ?_⟩
  obtain ⟨t, ht, hq⟩ := hb cdv A outer s H vs Q E hgd (hr.deeper _) hsp
  have up : ∀ b o, base.get? b = some o → s.heap.get? b = some o := fun b o e => (e0.bs b o e).1
  have inK : K.In s.heap := e0.mod.kin.keeps up
  refine codeAny_call_function hr.depth (inK _ _ lk) rfl S.co S.gen rfl (PySem.W.codeRec_of inK hcd) (hbi _ _ _ _ (wpAny_newFunctionEnv_cells S.kind (fun y hy => ?_) fun env he s1 ic => ?_))
  · rcases S.par y.1 (List.of_mem_zip (show (y.1, y.2) ∈ ps.zip us from hy)).1 with q | q
    · exact Or.inl q
    · exact Or.inr ⟨q, PySem.W.cellsFrom_some _ _ _ (Or.inl q)⟩
  · subst he
    have I := inv_start (CX := L2.CX P w) (E := E) (cd := cdv) (qual := qual) (f := f) S hr.hd e0 (ln _ _ _ _ hsp) rv ic
    refine ⟨(e0.mod.nolimit.keeps up).keeps ic.toInCall.keep, codeAny_func (wpAny_mono (ht.run [] s1 (start N vs) H _ I hq) (fun fl s' hs => ?_) fun _ _ z => z)⟩
    cases fl with
    | next => obtain ⟨σ', H', J, q⟩ := hs; exact ⟨.non, H', J.os, J.bare, J.base, J.hok, rfl, q⟩
    | ret u => obtain ⟨v, σ', H', J, rr, q⟩ := hs; exact ⟨v, H', J.os, J.bare, J.base, J.hok, rr, q⟩
    | brk => obtain ⟨_, _, _, q⟩ := hs; exact q.elim
    | cont => obtain ⟨_, _, _, q⟩ := hs; exact q.elim
theorem fn_okG {P : Program} {w : World} {K : PySem.W.Frag} {mg : Str → Option Value} {base : Heap} {g : Gx} {x qual : Str} {params : Arguments} {body : List Stmt} {scope : Scope} {f : Addr} {fd : FuncData} {N ps : List Str} {k n q : Nat} {b : SM}
    (F : FunD K x qual params body scope [] [] f fd) (S : FnScope N ps scope) (hn : ps.length = q) (hN : N.length = n)
    (hbody : ∀ (cdv : Value) (A : Around) (outer : List PySem.Env) (s : Shared) (H : Hp) (E : XK), A.guards = some [] → Room k (A.deeper (envOfC qual scope s.heap.objs.size f cdv)) →
      PSs (cxOf (L2.CX P w) P w K mg base N qual scope f cdv A outer s H E) body (rdS g (fun c d _ H => E c d H) b)) : GnOk P w K mg base (k + 1) f fd ps (spOf g q (runF q n b)) := by
  refine gn_of F S (fun vs H Q E h => by rw [hn]; exact h.1) fun cdv A outer s H vs Q E hgd hr h => ⟨_, hbody cdv A outer s H E hgd hr, ?_⟩
  obtain ⟨_, m, st, ds, S0, R, P0⟩ := h
  refine ⟨m, startE n ds, st, S0, .start n N hN R, ?_⟩
  unfold runF at P0
  split at P0
  · have P1 := PostR.tidy S0 P0
    cases hb : b (startE n ds) st with
    | nx r1 st1 =>
      rw [hb] at P1
      exact fun m' H' s l S1 E1 => P1 m' H' .non l S1 (by simp only [Rep])
    | ret d st1 =>
      rw [hb] at P1
      exact fun m' H' v l S1 E1 => P1 m' H' v l S1 E1
    | exc c fs r1 st1 =>
      rw [hb] at P1
      exact fun m' H' s d l S1 E1 F1 => P1 m' H' d l S1 F1
    | stuck =>
      rw [hb] at P1
      exact P1.elim
  · exact P0.elim
end TB

end

/-! ## TbEnd -/
section
set_option linter.all false
set_option autoImplicit false
set_option maxRecDepth 100000
/-! The end of a law whose promise is told over callers that show nothing. -/
namespace TB
open PySem PySem.Spec PyProof.Rows L2

/-- nothing flies out where nothing may -/
theorem cx_no {P : Program} {w : World} {o : List PySem.Env} {H : Hp} {s s' : Shared} {e : Value} (h : L2.CX P w o H s (fun _ _ _ => False) e s') : False := by
  obtain ⟨_, _, _, _, _, _, _, _, _, _, _, _, q⟩ := h
  exact q
/-- the abstract heap at the law's door: the script, unless it is the module's own -/
def doorH (K : PySem.W.Frag) (a : Addr) (vs : List Value) (ns : List Int) : Hp := fun b =>
  if b = a ∧ K.lookup a = none then some (.frz { cls := .type "list", data := .seq vs.toArray } (.lst (ns.map V.int))) else none
theorem door_some {K : PySem.W.Frag} {a b : Addr} {vs : List Value} {ns : List Int} {u : HO} (h : doorH K a vs ns b = some u) :
    b = a ∧ K.lookup a = none ∧ u = .frz { cls := .type "list", data := .seq vs.toArray } (.lst (ns.map V.int)) := by
  unfold doorH at h
  split at h
  · rename_i c
    cases h
    exact ⟨c.1, c.2, rfl⟩
  · cases h
section
variable {P : Program} {w : World} {K : PySem.W.Frag} {mg mb : Str → Option Value} {k : Nat} {fa a : Addr} {fd : FuncData} {x : Str} {sp : Sp} {s₁ : Shared} {vs : List Value} {ns : List Int}
theorem law_callG (KX : K.In s₁.heap) (hns : s₁.heap.Ns mainGlobals mg) (hb : s₁.heap.Ns builtinsNs mb) (hbb : ∀ x : Str, x ≠ "__name__" → mb x = bootBuiltins x) (hlim : s₁.heap.NoLimit) (hg : s₁.gens = #[])
    (ha : s₁.heap.get? a = some { cls := .type "list", data := .seq vs.toArray }) (hi : IntsAre vs ns) (hl : ns.length ≤ sizeLine) (hr : Room k callerA)
    (F : ∀ base : Heap, K.In base → base.Ns mainGlobals mg → GnOk P w K mg base k fa fd [x] sp) (hbind : ∀ (s : Shared) (u : Value), BindsTo s fd ⟨[u], []⟩ [(x, u)])
    (hsp : ∀ H : Hp, Only H → SqL K H a (ns.map V.int) → sp [.ref a] H (fun v _ => v = .bl true) fun _ _ _ => False) :
    codeAny (model P w) callerA (.call (.ref fa) ⟨[.ref a], []⟩) (fun r s' => r = .ok (.ret (.bool true)) ∧ OldK s₁.heap s'.heap ∧ s'.os = s₁.os ∧ AllBare s'.gens) s₁ := by
  have hO : Only (doorH K a vs ns) := fun b => by
    cases q : doorH K a vs ns b with
    | none => exact .inl rfl
    | some u =>
      obtain ⟨_, _, e⟩ := door_some q
      subst e
      exact .inr ⟨_, _, rfl⟩
  have hS : SqL K (doorH K a vs ns) a (ns.map V.int) := by
    cases q : K.lookup a with
    | some o =>
      have e := KX a o q
      rw [ha] at e
      cases e
      refine .inr ⟨_, vs.toArray, _, q, rfl, rfl, rfl, ?_, by simpa using vals_ints hi⟩
      rw [List.size_toArray, hi.length]
      exact hl
    | none => exact .inl (.inr ⟨_, by unfold doorH; rw [if_pos ⟨rfl, q⟩]⟩)
  have hok : HOk P w (doorH K a vs ns) s₁.heap := fun b u q => by
    obtain ⟨e1, _, e2⟩ := door_some q
    subst e1 e2
    exact ⟨ha, by rw [List.length_map]; exact hl, vs, _, vals_ints hi, ha⟩
  -- what is no list of the script's is seen by the base
  have see : ∀ {b : Addr} {o : Obj}, s₁.heap.get? b = some o → doorH K a vs ns b = none → (hidT s₁.heap (doorH K a vs ns)).get? b = some o := fun e n => hidT_get e n
  have far : ∀ {b : Addr} {o : Obj} {es : Array DictEntry} {ep : Nat}, s₁.heap.get? b = some o → o.data = .dict es ep → doorH K a vs ns b = none := fun {b o es ep} e d => by
    cases q : doorH K a vs ns b with
    | none => rfl
    | some u =>
      obtain ⟨e1, _, _⟩ := door_some q
      rw [e1, ha] at e
      cases e
      cases d
  have nsB : ∀ {b : Addr} {m : Str → Option Value}, s₁.heap.Ns b m → (hidT s₁.heap (doorH K a vs ns)).Ns b m := fun ⟨o, es, ep, e, d, r⟩ => ⟨o, es, ep, see e (far e d), d, r⟩
  have kB : K.In (hidT s₁.heap (doorH K a vs ns)) := fun b o e => see (KX b o e) (by
    cases q : doorH K a vs ns b with
    | none => rfl
    | some u =>
      obtain ⟨e1, e2, _⟩ := door_some q
      rw [e1, e2] at e
      cases e)
  obtain ⟨mc, hm1, hm2⟩ := hlim
  have e0 : Env0 P w K mg (hidT s₁.heap (doorH K a vs ns)) callerA [] s₁ (doorH K a vs ns) :=
    { frames := rfl, mod := ⟨kB, nsB hns, ⟨mb, nsB hb, hbb⟩, mc, nsB hm1, hm2⟩, bs := fun b o e => of_hidT e, bsz := Nat.le_of_eq (hidT_size _ _), funs := trivial, frf := fun b hb => (List.not_mem_nil hb).elim, hok := hok, bare := .of_eq hg }
  refine codeAny_mono ((F _ kB (nsB hns)).go callerA [] s₁ _ ⟨[.ref a], []⟩ [.ref a] [.ref a] _ _ rfl hr e0 (hbind s₁ (.ref a)) (.cons rfl .nil) (hsp _ hO hS)) fun r s' h => ?_
  cases r with
  | error e => exact (cx_no h).elim
  | ok fl =>
    cases fl with
    | ret u =>
      obtain ⟨v, H', os, bare, un, hok', rv, q⟩ := h
      obtain rfl : v = V.bl true := q
      obtain rfl : u = Value.bool true := rv
      refine ⟨rfl, OldK.of_keep fun b o e => ?_, os, bare⟩
      cases q : doorH K a vs ns b with
      | none => exact un.keep b o e q (fun z => (List.not_mem_nil z).elim) (List.not_mem_nil)
      | some u =>
        obtain ⟨e1, _, e2⟩ := door_some q
        subst e2
        have z2 := un.frzs b _ _ q
        obtain ⟨g1, _⟩ := hok b _ q
        obtain ⟨g2, _⟩ := hok' b _ z2
        rw [e] at g1
        cases g1
        exact g2
    | next => exact h.elim
    | brk => exact h.elim
    | cont => exact h.elim
end
/-- the end of a law, its script's bits told -/
theorem law_end {l : PySem.W.OpenLaw} {n k : Nat} {q : Program} {loose : List Str} {XP : (Str → Option Value) → Heap → Prop} {YP : World → Heap → Prop} {d : DefRec} {x : Str} (hn : l.most = some n) (hn2 : n ≤ sizeLine) (hdf : d.params.defaults = []) (hr : Room k callerA)
    (F : ∀ (w : World) (mg : Str → Option Value) (fa : Addr) (h : Heap), YP w h → h.Ns mainGlobals mg → mg d.name = some (.ref fa) →
      ∃ (K : PySem.W.Frag) (fd : FuncData) (g : Gx) (f : List D → Sto → Res D), g.K = K ∧ K.In h ∧ (∀ (s : Shared) (u : Value), BindsTo s fd ⟨[u], []⟩ [(x, u)]) ∧
        (∀ ns : List Int, ns.length ≤ n → (∀ z ∈ ns, Builtin.Int.intBits z ≤ 1048576) → ∃ st, f [.lstv (ns.map D.int)] [] = .ok (.bl true) st) ∧
        ∀ base : Heap, K.In base → base.Ns mainGlobals mg → GnOk l.prog w K mg base k fa fd [x] (spOf g 1 f)) :
    PySem.W.WalkO q loose XP YP l.row.toRowW d [] (fun f vs => PySem.call f vs) := by
  refine Att.attach_callB hn hdf fun w s₀ s₁ mg mb fa o pm cd doc a vs ns G Y ho hd hcd hmg hobj hints hlen hbits hg => ?_
  obtain ⟨K, fd, g, f, rfl, KX, hb, hf, hF⟩ := F w mg fa _ Y G.T.g hmg
  refine law_callG KX G.T.g G.T.b G.T.builtins G.T.nolimit hg hobj hints (Nat.le_trans hlen hn2) hr hF hb fun H hO hS => ?_
  obtain ⟨st, e⟩ := hf ns hlen hbits
  refine ⟨rfl, [], [], [.lstv (ns.map D.int)], ⟨rfl, List.nodup_nil, fun i c b h => by cases h⟩, .cons ?_ .nil, ?_⟩
  · simp only [Rep]
    refine ⟨a, ns.map V.int, rfl, ?_, ?_⟩
    · rcases hS with (h | ⟨o, h⟩) | h
      · rcases hO a with z | ⟨o, xs, z⟩
        · rw [h] at z; cases z
        · rw [h] at z; cases z
      · exact .inl ⟨o, h⟩
      · exact .inr h
    · clear e hf hlen hbits hS hints
      induction ns with
      | nil => exact .nil
      | cons n ns ih => exact .cons (by simp only [Rep]) ih
  · rw [e]
    intro m' H' v l S r
    simpa only [Rep] using r
end TB

end

/-! ## TbOp3 -/
section
set_option linter.all false
set_option autoImplicit false
set_option maxRecDepth 100000
set_option maxHeartbeats 2000000
namespace TB
open PySem PySem.Spec PyProof.Rows L2

/-! ### in -/
theorem pyL_any (a : PyData) : ∀ xs : List D, ((D.pyL xs).any fun z => PyData.eqv z a) = xs.any fun z => PyData.eqv z.py a
  | [] => rfl
  | x :: xs => by simp only [D.pyL, List.any_cons, pyL_any a xs]
def pInG (f : Bool → Bool) (a b : D) (st : Sto) : Res D := match datum st a, datum st b with
  | some x, some (.tup ys) => if D.okD 60 x && D.okD 60 (.tup ys) then .ok (.bl (f (ys.any fun z => z.eqv x))) st else .stuck
  | some x, some (.lstv ys) => if D.okD 60 x && D.okD 60 (.lstv ys) then .ok (.bl (f (ys.any fun z => z.eqv x))) st else .stuck
  | _, _ => .stuck
def dctOf (st : Sto) : D → Option (List (D × D))
  | .loc p => (match st[p]? with
    | some (.dct kvs) => some kvs
    | _ => none)
  | _ => none
def pInF (f : Bool → Bool) (a b : D) (st : Sto) : Res D := match dctOf st b with
  | some kvs => if keyD a then .ok (.bl (f (dctGet kvs a).isSome)) st else .stuck
  | none => (match a, b with
    | .str x, .str y => .ok (.bl (f (!(Builtin.Str.occurrences y x 0 y.length 1).isEmpty))) st
    | _, _ => pInG f a b st)
def pIn : D → D → Sto → Res D := pInF id
def pNotIn : D → D → Sto → Res D := pInF not
section
variable {X : Cx} {g : Gx}
theorem in_gen {f : Bool → Bool} {a b : D} {st : Sto} {W : WK} {m : List Addr} {H : Hp} {Q : VK} {x y : V} {v u : Value} {s : Shared} {pins : List (Addr × Obj)} {σ : L2.St} (hK : X.K = g.K) (I : Inv X pins σ H s) (S : Sim g m H st) (r1 : Rep g m H a x) (r2 : Rep g m H b y) (rx : RelV x v) (ry : RelV y u)
    (P : PostR g (Rep g) W m H Q (pInG f a b st)) : ∃ (d : PyData) (ds : List PyData) (as bs : List Addr), Reads s.heap v d bs ∧ (Reads s.heap u (.list ds) as ∨ Reads s.heap u (.tuple ds) as) ∧ PyData.canLayAll0 ds = true ∧ d.canLay0 = true ∧ d.depth ≤ 60 ∧
      Q (.bl (f (ds.any fun z => PyData.eqv z d))) H := by
  unfold pInG at P
  split at P
  · rename_i x' ys h1 h2
    split at P
    · rename_i ho
      rw [Bool.and_eq_true] at ho
      have e1 := dp_datum S r1 h1 ho.1
      have e2 := dp_datum S r2 h2 ho.2
      rw [← hK] at e1 e2
      obtain ⟨bs, q1⟩ := Dp.reads I _ x v e1 rx
      obtain ⟨as, q2⟩ := Dp.reads I _ y u e2 ry
      simp only [D.py] at q2
      have ho2 := ho.2
      simp only [D.okD] at ho2
      refine ⟨_, _, as, bs, q1, .inr q2, canLayL_ok _ _ ho2, canLay_ok _ _ ho.1, depth_ok _ _ ho.1, ?_⟩
      rw [pyL_any]
      exact P.now S mkBl
    · exact P.elim
  · rename_i x' ys h1 h2
    split at P
    · rename_i ho
      rw [Bool.and_eq_true] at ho
      have e1 := dp_datum S r1 h1 ho.1
      have e2 := dp_datum S r2 h2 ho.2
      rw [← hK] at e1 e2
      obtain ⟨bs, q1⟩ := Dp.reads I _ x v e1 rx
      obtain ⟨as, q2⟩ := Dp.reads I _ y u e2 ry
      simp only [D.py] at q2
      have ho2 := ho.2
      simp only [D.okD] at ho2
      refine ⟨_, _, as, bs, q1, .inl q2, canLayL_ok _ _ ho2, canLay_ok _ _ ho.1, depth_ok _ _ ho.1, ?_⟩
      rw [pyL_any]
      exact P.now S mkBl
    · exact P.elim
  · exact P.elim
theorem in_dct {a b : D} {st : Sto} {m : List Addr} {H : Hp} {x y : V} {kvs : List (D × D)} (S : Sim g m H st) (r1 : Rep g m H a x) (r2 : Rep g m H b y) (e : dctOf st b = some kvs) (hk : keyD a = true) :
    ∃ p o, y = .ref p ∧ DGet H p x o ∧ o.isSome = (dctGet kvs a).isSome := by
  unfold dctOf at e
  split at e
  · rename_i p
    split at e
    · rename_i kvs' hc
      cases e
      obtain ⟨q, hq, rfl⟩ := rep_loc r2
      obtain ⟨ws, h1, h2⟩ := S.at_ _ _ _ hc hq
      refine ⟨q, valV ws (dK a), rfl, ?_, ?_⟩
      · rw [rep_key hk r1]
        exact DGet.k h1
      · rcases dctGet_rep hk h2 with ⟨z1, z2⟩ | ⟨d, v, z1, z2, _⟩
        · rw [z1, z2]; rfl
        · rw [z1, z2]; rfl
    · cases e
  · cases e
theorem ov_in (hK : X.K = g.K) (hu : X.A.units + 65 < cLine) : OpR X (compareOp .In) (r2D g pIn) := by
  rintro pins s σ H x y v u Q I rx ry ⟨W, m, st, d, e, S, r1, r2, P⟩
  have gen : PostR g (Rep g) W m H Q (pInG id d e st) → wpAny (model X.prog X.w) X.A (compareOp .In v u) (EP X pins σ Q) X.xe s := fun P => by
    obtain ⟨p, ps, as, bs, q1, q2, c1, c2, c3, q⟩ := in_gen hK I S r1 r2 rx ry P
    have hz : X.A.units + 1 + min (PyData.depthAll ps) p.depth < cLine := by omega
    rcases q2 with q2 | q2
    · exact SeqAt.in_list_reads q2 q1 c1 c2 hz ⟨.bl _, H, I, rfl, q⟩
    · exact SeqAt.in_tuple_reads q2 q1 c1 c2 hz ⟨.bl _, H, I, rfl, q⟩
  unfold pIn pInF at P
  split at P
  · rename_i kvs hd
    split at P
    · rename_i hk
      obtain ⟨p, o, rfl, hg, ho⟩ := in_dct S r1 r2 hd hk
      cases ry
      exact d_in (by omega) I hg rx fun s' I' => ⟨.bl _, H, I', rfl, by rw [ho]; exact P.now S mkBl⟩
    · exact P.elim
  · split at P
    · rename_i a b
      cases rep_str r1
      cases rep_str r2
      exact op_in_str pins s σ H _ _ v u Q I rx ry ⟨_, _, rfl, rfl, P.now S mkBl⟩
    · exact gen P
theorem ov_notIn (hK : X.K = g.K) (hu : X.A.units + 65 < cLine) : OpR X (compareOp .NotIn) (r2D g pNotIn) := by
  rintro pins s σ H x y v u Q I rx ry ⟨W, m, st, d, e, S, r1, r2, P⟩
  have gen : PostR g (Rep g) W m H Q (pInG not d e st) → wpAny (model X.prog X.w) X.A (compareOp .NotIn v u) (EP X pins σ Q) X.xe s := fun P => by
    obtain ⟨p, ps, as, bs, q1, q2, c1, c2, c3, q⟩ := in_gen hK I S r1 r2 rx ry P
    have hz : X.A.units + 1 + min (PyData.depthAll ps) p.depth < cLine := by omega
    rcases q2 with q2 | q2
    · exact SeqAt.notIn_list_reads q2 q1 c1 c2 hz ⟨.bl _, H, I, rfl, q⟩
    · exact SeqAt.notIn_tuple_reads q2 q1 c1 c2 hz ⟨.bl _, H, I, rfl, q⟩
  unfold pNotIn pInF at P
  split at P
  · rename_i kvs hd
    split at P
    · rename_i hk
      obtain ⟨p, o, rfl, hg, ho⟩ := in_dct S r1 r2 hd hk
      cases ry
      exact d_notIn (by omega) I hg rx fun s' I' => ⟨.bl _, H, I', rfl, by rw [ho]; exact P.now S mkBl⟩
    · exact P.elim
  · split at P
    · rename_i a b
      cases rep_str r1
      cases rep_str r2
      exact op_notIn_str pins s σ H _ _ v u Q I rx ry ⟨_, _, rfl, rfl, P.now S mkBl⟩
    · exact gen P
end

/-! ### built-in functions -/
theorem rep_seq {g : Gx} {m : List Addr} {H : Hp} {st : Sto} {d : D} {v : V} {xs : List D} (S : Sim g m H st) (r : Rep g m H d v) (e : ((d = .tup xs ∨ d = .lstv xs) ∨ ∃ p, d = .loc p ∧ lstAt st p = some xs)) :
    ∃ a vs, v = .ref a ∧ (SqL g.K H a vs ∨ SqT g.K H a vs) ∧ RepL g m H xs vs := by
  rcases e with (rfl | rfl) | ⟨p, rfl, e⟩
  · obtain ⟨a, vs, rfl, q, k⟩ := rep_tup r
    exact ⟨a, vs, rfl, .inr q, k⟩
  · obtain ⟨a, vs, rfl, q, k⟩ := rep_lstv r
    exact ⟨a, vs, rfl, .inl q.sq, k⟩
  · obtain ⟨a, h, rfl⟩ := rep_loc r
    obtain ⟨vs, q, k⟩ := lst_at S e h
    exact ⟨a, vs, rfl, .inl (.of q), k⟩
def seqVal (st : Sto) : D → Option (List D)
  | .tup xs => some xs
  | .lstv xs => some xs
  | .loc p => lstAt st p
  | _ => none
theorem seqVal_rep {g : Gx} {m : List Addr} {H : Hp} {st : Sto} {d : D} {v : V} {xs : List D} (S : Sim g m H st) (r : Rep g m H d v) (e : seqVal st d = some xs) :
    ∃ a vs, v = .ref a ∧ (SqL g.K H a vs ∨ SqT g.K H a vs) ∧ RepL g m H xs vs := by
  refine rep_seq S r ?_
  unfold seqVal at e
  split at e
  · cases e; exact .inl (.inl rfl)
  · cases e; exact .inl (.inr rfl)
  · exact .inr ⟨_, rfl, e⟩
  · cases e
def bLen (ds : List D) (st : Sto) : Res D := match ds with
  | [d] => (match d with
    | .str y => if y.length ≤ LINE then .ok (.int y.length) st else .stuck
    | _ => (match seqVal st d with
      | some xs => .ok (.int xs.length) st
      | none => (match dctOf st d with
        | some kvs => .ok (.int kvs.length) st
        | none => .stuck)))
  | _ => .stuck
theorem repKV_len {g : Gx} {m : List Addr} {H : Hp} {kvs : List (D × D)} {ws : List (Key × V)} (h : RepKV g m H kvs ws) : kvs.length = ws.length := by
  induction h with
  | nil => rfl
  | cons _ _ ih => rw [List.length_cons, List.length_cons, ih]
theorem RepL.one' {g : Gx} {m : List Addr} {H : Hp} {d : D} {vs : List V} (h : RepL g m H [d] vs) : ∃ v, vs = [v] ∧ Rep g m H d v := h.one
section
variable {X : Cx} {g : Gx}
theorem cv_len (hK : X.K = g.K) : CallR X (.builtin "len") (rND g bLen) := by
  rintro pins s σ H xs us Q I r ⟨W, m, st, ds, S, rr, P⟩
  unfold bLen at P
  split at P
  · rename_i d
    obtain ⟨v, rfl, rv⟩ := rr.one
    split at P
    · rename_i y
      cases rep_str rv
      split at P
      · rename_i hl
        exact call_len pins s σ H _ us Q I r ⟨_, _, rfl, ⟨by rw [line_eq]; exact hl, rfl⟩, P.now S mkInt⟩
      · exact P.elim
    · split at P
      · rename_i xs hx
        obtain ⟨a, vs, rfl, q, k⟩ := seqVal_rep S rv hx
        rw [← hK] at q
        exact call_len_seq pins s σ H _ us Q I r ⟨a, vs, rfl, q, by rw [← k.length]; exact P.now S mkInt⟩
      · split at P
        · rename_i kvs hd
          unfold dctOf at hd
          split at hd
          · rename_i p
            split at hd
            · rename_i kvs' hc
              cases hd
              obtain ⟨q, hq, rfl⟩ := rep_loc rv
              obtain ⟨ws, h1, h2⟩ := S.at_ _ _ _ hc hq
              obtain ⟨u, rfl, ru⟩ := vals1 r
              cases ru
              have hl : kvs.length = ws.length := repKV_len h2
              exact d_len I (.inl h1) fun t s' I' => ⟨.int _, H, I', ⟨t, rfl⟩, by rw [← hl]; exact P.now S mkInt⟩
            · cases hd
          · cases hd
        · exact P.elim
  · exact P.elim
end
def blsOf : List D → Option (List Bool)
  | [] => some []
  | .bl b :: r => (blsOf r).map (b :: ·)
  | _ :: _ => none
def intsOf : List D → Option (List Int)
  | [] => some []
  | .int b :: r => (intsOf r).map (b :: ·)
  | _ :: _ => none
theorem bls_rep {g : Gx} {m : List Addr} {H : Hp} : ∀ {ds : List D} {vs : List V} {bs : List Bool}, RepL g m H ds vs → blsOf ds = some bs → vs = bs.map V.bl
  | [], _, _, r, e => by cases e; rw [r.nil_inv]; rfl
  | d :: ds, _, bs, r, e => by
    obtain ⟨v, rest, rfl, rv, rr⟩ := r.cons_inv
    cases d with
    | bl b =>
      simp only [blsOf] at e
      obtain ⟨cs, h1, rfl⟩ := Option.map_eq_some_iff.mp e
      rw [rep_bl rv, bls_rep rr h1]
      rfl
    | _ => cases e
theorem ints_rep {g : Gx} {m : List Addr} {H : Hp} : ∀ {ds : List D} {vs : List V} {bs : List Int}, RepL g m H ds vs → intsOf ds = some bs → vs = bs.map V.int
  | [], _, _, r, e => by cases e; rw [r.nil_inv]; rfl
  | d :: ds, _, bs, r, e => by
    obtain ⟨v, rest, rfl, rv, rr⟩ := r.cons_inv
    cases d with
    | int b =>
      simp only [intsOf] at e
      obtain ⟨cs, h1, rfl⟩ := Option.map_eq_some_iff.mp e
      rw [rep_int rv, ints_rep rr h1]
      rfl
    | _ => cases e
def lstVal (st : Sto) : D → Option (List D)
  | .lstv xs => some xs
  | .loc p => lstAt st p
  | _ => none
theorem lstVal_rep {g : Gx} {m : List Addr} {H : Hp} {st : Sto} {d : D} {v : V} {xs : List D} (S : Sim g m H st) (r : Rep g m H d v) (e : lstVal st d = some xs) :
    ∃ a vs, v = .ref a ∧ SqL g.K H a vs ∧ RepL g m H xs vs := by
  unfold lstVal at e
  split at e
  · cases e
    obtain ⟨a, vs, rfl, q, k⟩ := rep_lstv r
    exact ⟨a, vs, rfl, q.sq, k⟩
  · obtain ⟨a, h, rfl⟩ := rep_loc r
    obtain ⟨vs, q, k⟩ := lst_at S e h
    exact ⟨a, vs, rfl, .of q, k⟩
  · cases e
def bAll (ds : List D) (st : Sto) : Res D := match ds with
  | [d] => (match (lstVal st d).bind blsOf with
    | some bs => .ok (.bl (bs.all id)) st
    | none => .stuck)
  | _ => .stuck
def bAny (ds : List D) (st : Sto) : Res D := match ds with
  | [d] => (match (lstVal st d).bind blsOf with
    | some bs => .ok (.bl (bs.any id)) st
    | none => .stuck)
  | _ => .stuck
def bSum (ds : List D) (st : Sto) : Res D := match ds with
  | [d] => (match (lstVal st d).bind intsOf with
    | some bs => .ok (.int bs.sum) st
    | none => .stuck)
  | _ => .stuck
def maxI : List Int → Int
  | [] => 0
  | [x] => x
  | x :: xs => if maxI xs < x then x else maxI xs
def minI : List Int → Int
  | [] => 0
  | [x] => x
  | x :: xs => if x < minI xs then x else minI xs
def bMax (ds : List D) (st : Sto) : Res D := match ds with
  | [.int i, .int j] => .ok (.int (if j > i then j else i)) st
  | [d] => (match (lstVal st d).bind intsOf with
    | some (b :: bs) => .ok (.int (maxI (b :: bs))) st
    | _ => .stuck)
  | _ => .stuck
def bMin (ds : List D) (st : Sto) : Res D := match ds with
  | [.int i, .int j] => .ok (.int (if j < i then j else i)) st
  | [d] => (match (lstVal st d).bind intsOf with
    | some (b :: bs) => .ok (.int (minI (b :: bs))) st
    | _ => .stuck)
  | _ => .stuck
theorem maxI_ge : ∀ (l : List Int) (y : Int), y ∈ l → y ≤ maxI l
  | [], y, h => by cases h
  | [x], y, h => by simp at h; subst h; simp [maxI]
  | x :: z :: l, y, h => by
    have ih := maxI_ge (z :: l)
    unfold maxI
    rcases List.mem_cons.mp h with e | h
    · subst e; split <;> omega
    · have := ih y h; split <;> omega
theorem minI_le : ∀ (l : List Int) (y : Int), y ∈ l → minI l ≤ y
  | [], y, h => by cases h
  | [x], y, h => by simp at h; subst h; simp [minI]
  | x :: z :: l, y, h => by
    have ih := minI_le (z :: l)
    unfold minI
    rcases List.mem_cons.mp h with e | h
    · subst e; split <;> omega
    · have := ih y h; split <;> omega
theorem maxI_mem : ∀ (l : List Int), l ≠ [] → maxI l ∈ l
  | [], h => absurd rfl h
  | [x], _ => by simp [maxI]
  | x :: z :: l, _ => by
    have ih := maxI_mem (z :: l) (by simp)
    unfold maxI
    split
    · exact List.mem_cons_self ..
    · exact List.mem_cons_of_mem _ ih
theorem minI_mem : ∀ (l : List Int), l ≠ [] → minI l ∈ l
  | [], h => absurd rfl h
  | [x], _ => by simp [minI]
  | x :: z :: l, _ => by
    have ih := minI_mem (z :: l) (by simp)
    unfold minI
    split
    · exact List.mem_cons_self ..
    · exact List.mem_cons_of_mem _ ih
section
variable {X : Cx} {g : Gx}
theorem lsts_rep {m : List Addr} {H : Hp} {st : Sto} {d : D} {v : V} {ns : List Int} (S : Sim g m H st) (r : Rep g m H d v) (e : (lstVal st d).bind intsOf = some ns) : ∃ a, v = .ref a ∧ SqL g.K H a (ns.map V.int) := by
  obtain ⟨xs, h1, h2⟩ := Option.bind_eq_some_iff.mp e
  obtain ⟨a, vs, rfl, q, k⟩ := lstVal_rep S r h1
  rw [ints_rep k h2] at q
  exact ⟨a, rfl, q⟩
theorem lstb_rep {m : List Addr} {H : Hp} {st : Sto} {d : D} {v : V} {ns : List Bool} (S : Sim g m H st) (r : Rep g m H d v) (e : (lstVal st d).bind blsOf = some ns) : ∃ a, v = .ref a ∧ SqL g.K H a (ns.map V.bl) := by
  obtain ⟨xs, h1, h2⟩ := Option.bind_eq_some_iff.mp e
  obtain ⟨a, vs, rfl, q, k⟩ := lstVal_rep S r h1
  rw [bls_rep k h2] at q
  exact ⟨a, rfl, q⟩
theorem cv_all (hK : X.K = g.K) (hc : X.calm = true) : CallR X (.builtin "all") (rND g bAll) := by
  rintro pins s σ H xs us Q I r ⟨W, m, st, ds, S, rr, P⟩
  unfold bAll at P
  split at P
  · obtain ⟨v, rfl, rv⟩ := rr.one
    split at P
    · rename_i bs he
      obtain ⟨a, rfl, q⟩ := lstb_rep S rv he
      rw [← hK] at q
      exact cr_all hc pins s σ H _ us Q I r ⟨a, bs, rfl, q, P.now S mkBl⟩
    · exact P.elim
  · exact P.elim
theorem cv_any (hK : X.K = g.K) (hc : X.calm = true) : CallR X (.builtin "any") (rND g bAny) := by
  rintro pins s σ H xs us Q I r ⟨W, m, st, ds, S, rr, P⟩
  unfold bAny at P
  split at P
  · obtain ⟨v, rfl, rv⟩ := rr.one
    split at P
    · rename_i bs he
      obtain ⟨a, rfl, q⟩ := lstb_rep S rv he
      rw [← hK] at q
      exact cr_any hc pins s σ H _ us Q I r ⟨a, bs, rfl, q, P.now S mkBl⟩
    · exact P.elim
  · exact P.elim
theorem cv_sum (hK : X.K = g.K) (hc : X.calm = true) : CallR X (.builtin "sum") (rND g bSum) := by
  rintro pins s σ H xs us Q I r ⟨W, m, st, ds, S, rr, P⟩
  unfold bSum at P
  split at P
  · obtain ⟨v, rfl, rv⟩ := rr.one
    split at P
    · rename_i bs he
      obtain ⟨a, rfl, q⟩ := lsts_rep S rv he
      rw [← hK] at q
      exact cr_sum hc pins s σ H _ us Q I r ⟨a, bs, rfl, q, P.now S mkInt⟩
    · exact P.elim
  · exact P.elim
theorem cv_max (hK : X.K = g.K) (hc : X.calm = true) : CallR X (.builtin "max") (rND g bMax) := by
  rintro pins s σ H xs us Q I r ⟨W, m, st, ds, S, rr, P⟩
  unfold bMax at P
  split at P
  · obtain ⟨v, u, rfl, r1, r2⟩ := rr.two
    cases rep_int r1
    cases rep_int r2
    exact call_max2 hc pins s σ H _ us Q I r ⟨_, _, rfl, P.now S mkInt⟩
  · obtain ⟨v, rfl, rv⟩ := rr.one
    split at P
    · rename_i b bs he
      obtain ⟨a, rfl, q⟩ := lsts_rep S rv he
      rw [← hK] at q
      refine cr_max hc pins s σ H _ us Q I r ⟨a, b :: bs, rfl, q, by simp, fun mx h1 h2 => ?_⟩
      have e : mx = maxI (b :: bs) := Int.le_antisymm (maxI_ge _ _ h1) (h2 _ (maxI_mem _ (by simp)))
      rw [e]
      exact P.now S mkInt
    · exact P.elim
  · exact P.elim
theorem cv_min (hK : X.K = g.K) (hc : X.calm = true) : CallR X (.builtin "min") (rND g bMin) := by
  rintro pins s σ H xs us Q I r ⟨W, m, st, ds, S, rr, P⟩
  unfold bMin at P
  split at P
  · obtain ⟨v, u, rfl, r1, r2⟩ := rr.two
    cases rep_int r1
    cases rep_int r2
    exact call_min2 hc pins s σ H _ us Q I r ⟨_, _, rfl, P.now S mkInt⟩
  · obtain ⟨v, rfl, rv⟩ := rr.one
    split at P
    · rename_i b bs he
      obtain ⟨a, rfl, q⟩ := lsts_rep S rv he
      rw [← hK] at q
      refine cr_min hc pins s σ H _ us Q I r ⟨a, b :: bs, rfl, q, by simp, fun mx h1 h2 => ?_⟩
      have e : mx = minI (b :: bs) := Int.le_antisymm (h2 _ (minI_mem _ (by simp))) (minI_le _ _ h1)
      rw [e]
      exact P.now S mkInt
    · exact P.elim
  · exact P.elim
end
end TB

end

/-! ## TbOp4 -/
section
set_option linter.all false
set_option autoImplicit false
set_option maxRecDepth 100000
set_option maxHeartbeats 2000000
namespace TB
open PySem PySem.Spec PyProof.Rows L2

/-! ### tuple, list, int, str, repr -/
def bTuple (ds : List D) (st : Sto) : Res D := match ds with
  | [.tup xs] => .ok (.tup xs) st
  | [d] => (match lstVal st d with
    | some xs => .ok (.tup xs) st
    | none => .stuck)
  | _ => .stuck
def bTupleP (ds : List D) (st : Sto) : Res D := match ds with
  | [d] => (match lstVal st d with
    | some xs => .ok (.ptup xs) st
    | none => .stuck)
  | _ => .stuck
def bList (ds : List D) (st : Sto) : Res D := match ds with
  | [d] => (match seqVal st d with
    | some xs => .ok (.loc st.length) (st ++ [.lst xs])
    | none => .stuck)
  | _ => .stuck
def bInt (ds : List D) (st : Sto) : Res D := match ds with
  | [.int i] => .ok (.int i) st
  | [.bl b] => .ok (.int (if b then 1 else 0)) st
  | _ => .stuck
def bRepr (ds : List D) (st : Sto) : Res D := match ds with
  | [d] => (match datum st d with
    | some x => if D.okD 60 x = true ∧ x.py.showable = true ∧ x.py.hasDict = false ∧ x.py.shown.length ≤ LINE then .ok (.str x.py.shown) st else .stuck
    | none => .stuck)
  | _ => .stuck
section
variable {X : Cx} {g : Gx}
theorem cv_tuple (hK : X.K = g.K) : CallR X (.type "tuple") (rND g bTuple) := by
  rintro pins s σ H xs us Q I r ⟨W, m, st, ds, S, rr, P⟩
  unfold bTuple at P
  split at P
  · obtain ⟨v, rfl, rv⟩ := rr.one
    obtain ⟨a, vs, rfl, q, k⟩ := rep_tup rv
    exact call_tuple_of pins s σ H _ us Q I r ⟨a, vs, rfl, .inr ⟨by rw [hK]; exact q, P.now S (by simp only [Rep]; exact ⟨a, vs, rfl, q, k⟩)⟩⟩
  · obtain ⟨v, rfl, rv⟩ := rr.one
    split at P
    · rename_i xs he
      obtain ⟨a, vs, rfl, q, k⟩ := lstVal_rep S rv he
      exact call_tuple_of pins s σ H _ us Q I r ⟨a, vs, rfl, .inl ⟨by rw [hK]; exact q, fun p hp => post_tup S k P p hp⟩⟩
    · exact P.elim
  · exact P.elim
/-- the tuple's object is told -/
theorem cv_tupleP (hK : X.K = g.K) : CallR X (.type "tuple") (rND g bTupleP) := by
  rintro pins s σ H xs us Q I r ⟨W, m, st, ds, S, rr, P⟩
  unfold bTupleP at P
  split at P
  · obtain ⟨v, rfl, rv⟩ := rr.one
    split at P
    · rename_i xs he
      obtain ⟨a, vs, rfl, q, k⟩ := lstVal_rep S rv he
      rw [← hK] at q
      obtain ⟨u, rfl, rx⟩ := vals1 r
      cases rx
      obtain ⟨its, rv, pl, hz⟩ := I.list q
      refine call_tuple_list pl.isList (fun h' kp => ?_) (by rw [List.size_toArray, ← rv.length]; exact hz)
      have I1 : Inv X pins σ H { s with heap := h' } := I.kept (t' := s.toks) kp
      have hf := I1.hok.fresh (Nat.le_refl h'.objs.size)
      have I2 : Inv X pins σ (upd H h'.objs.size (.frz { cls := .type "tuple", data := .seq its.toArray } (.tup vs))) { s with heap := h'.push { cls := .type "tuple", data := .seq its.toArray } } :=
        I1.laid (t' := s.toks) (fun b o e => Heap.get?_push_of_some _ e) (Nat.le_refl _)
          (show ObjOk X.prog X.w _ _ _ (.frz _ (.tup vs)) from ⟨Heap.get?_push_size _ rfl, hz, its, rv, IsTup.new _ _⟩)
      refine ⟨.ref h'.objs.size, _, I2, rfl, P m _ _ (Later.new hf) (S.new hf) ?_⟩
      simp only [Rep]
      exact ⟨_, vs, _, rfl, ⟨upd_same, rfl⟩, k.later (Later.new hf)⟩
    · exact P.elim
  · exact P.elim
theorem cv_list (hK : X.K = g.K) : CallR X (.type "list") (rND g bList) := by
  rintro pins s σ H xs us Q I r ⟨W, m, st, ds, S, rr, P⟩
  unfold bList at P
  split at P
  · obtain ⟨v, rfl, rv⟩ := rr.one
    split at P
    · rename_i xs he
      obtain ⟨a, vs, rfl, q, k⟩ := seqVal_rep S rv he
      exact call_list_of pins s σ H _ us Q I r ⟨a, vs, rfl, by rw [hK]; exact q, fun p hp => post_lst S k P p hp⟩
    · exact P.elim
  · exact P.elim
theorem cv_int : CallR X (.type "int") (rND g bInt) := by
  rintro pins s σ H xs us Q I r ⟨W, m, st, ds, S, rr, P⟩
  unfold bInt at P
  split at P
  · obtain ⟨v, rfl, rv⟩ := rr.one
    cases rep_int rv
    exact call_int1 pins s σ H _ us Q I r (.inl ⟨_, rfl, P.now S mkInt⟩)
  · obtain ⟨v, rfl, rv⟩ := rr.one
    cases rep_bl rv
    exact call_int1 pins s σ H _ us Q I r (.inr ⟨_, rfl, P.now S mkInt⟩)
  · exact P.elim
/-- repr, where no repr is under way -/
theorem cv_repr (hK : X.K = g.K) (hgd : X.A.guards = some []) (hu : X.A.units + 64 < cLine) : CallR X (.builtin "repr") (rND g bRepr) := by
  rintro pins s σ H xs us Q I r ⟨W, m, st, ds, S, rr, P⟩
  unfold bRepr at P
  split at P
  · obtain ⟨v, rfl, rv⟩ := rr.one
    split at P
    · rename_i x hd
      split at P
      · rename_i hh
        obtain ⟨ho, h1, h2, h3⟩ := hh
        obtain ⟨u, rfl, rx⟩ := vals1 r
        have dp := dp_datum S rv hd ho
        rw [← hK] at dp
        obtain ⟨as, rd⟩ := Dp.reads I _ v u dp rx
        have hdep := depth_ok 60 x ho
        have hz : x.py.shown.length ≤ sizeLine := by rw [line_eq]; exact h3
        have fin : ∀ (s' : Shared) (t : Tok), Inv X pins σ H s' → EP X pins σ Q (.str x.py.shown t) s' := fun s' t I' => ⟨.str x.py.shown, H, I', ⟨t, rfl⟩, P.now S mkStr⟩
        generalize x.py = p at *
        cases rd with
        | none => exact PySem.P.repr_of_none (fin _ _ (I.tok _))
        | bool b => exact PySem.P.repr_of_bool (fin _ _ (I.tok _))
        | int i t =>
          simp only [PyData.showable, decide_eq_true_eq] at h1
          exact PySem.P.repr_of_int h1 (fin _ _ (I.tok _))
        | str y t => exact PySem.P.repr_of_str (fin _ _ (I.tok _)) (by simpa only [PyData.shown] using hz)
        | list q1 q2 q3 q4 => exact repr_of_reads' (.list q1 q2 q3 q4) h1 (fun e => by rw [h2] at e; cases e) hgd (by omega) (fun _ _ e => e) (fun h' w tk hk => fin _ _ (I.kept hk)) hz
        | tuple q1 q2 q3 q4 => exact repr_of_reads' (.tuple q1 q2 q3 q4) h1 (fun e => by rw [h2] at e; cases e) hgd (by omega) (fun _ _ e => e) (fun h' w tk hk => fin _ _ (I.kept hk)) hz
        | dict q1 q2 q3 q4 q5 => simp [PyData.hasDict] at h2
      · exact P.elim
    · exact P.elim
  · exact P.elim
variable {W : WX} {pos p : Pos} {a : Expr} {ma : EM}
def bListRg (d : D) (st : Sto) : Res D := match d with
  | .int n => if n ≤ LINE ∧ -LINE ≤ n then .ok (.loc st.length) (st ++ [.lst (rangeD 0 n.toNat)]) else .stuck
  | _ => .stuck
theorem rangeD_rep {m : List Addr} {H : Hp} (a : Int) : ∀ n : Nat, RepL g m H (rangeD a n) ((List.range n).map fun i => V.int (a + (i : Nat)))
  | 0 => .nil
  | n + 1 => by
    unfold rangeD
    rw [List.range_succ, List.map_append, List.map_append]
    exact (rangeD_rep a n).append (.cons (by simp only [Rep]) .nil)
/-- list(range(n)) -/
theorem so_listRg {p1 p2 pos1 : Pos} (hc : X.calm = true) (hm : X.mg "list" = none) (hm2 : X.mg "range" = none) (ha : PE X a (rdE g W ma)) (hg : Gl X "list" := by rfl) (hg2 : Gl X "range" := by rfl)
    (na : starEach [a] X.env = (false, eval a X.env) :: starEach [] X.env := by rfl) (na2 : starEach [.Call (.Name "range" p2) [a] [] pos1] X.env = (false, eval (.Call (.Name "range" p2) [a] [] pos1) X.env) :: starEach [] X.env := by rfl) :
    PE X (.Call (.Name "list" p1) [.Call (.Name "range" p2) [a] [] pos1] [] pos) (rdE g W (e1 bListRg ma)) :=
  (pe_listRg hc hg hm (prg_1 hg2 hm2 ha na) na2).imp fun s H Q ⟨m, r, st, S, E, P⟩ => rdE_step (f := fun _ => bListRg) S E P fun m1 H1 d x st1 _ l1 S1 E1 r1 P1 => by
    cases d <;> try exact P1.elim
    rename_i n _
    simp only [bListRg] at P1
    split at P1
    · rename_i h
      unfold LINE at h
      refine ⟨n, rep_int r1, ⟨by omega, by omega, by omega, by omega, by omega⟩, fun q hq => post_lst S1 ?_ P1 q hq⟩
      have := rangeD_rep (g := g) (m := m1) (H := H1) 0 n.toNat
      unfold rgV
      simpa using this
    · exact P1.elim
/-- xs[::-1] of a list -/
def pRev (d : D) (st : Sto) : Res D := match lstVal st d with
  | some xs => .ok (.loc st.length) (st ++ [.lst xs.reverse])
  | none => .stuck
theorem so_revL {k : Nat} {p1 p2 p3 : Pos} (hK : X.K = g.K) (ha : PE X a (rdE g W ma)) : PE X (.Subscript a (.Slice none none (some (.UnaryOp .USub (.Constant (.int 1) k p1) p2)) p3) pos) (rdE g W (e1 pRev ma)) :=
  (pe_revL ha).imp fun s H Q ⟨m, r, st, S, E, P⟩ => rdE_step (f := fun _ => pRev) S E P fun m1 H1 d x st1 _ l1 S1 E1 r1 P1 => by
    unfold pRev at P1
    split at P1
    · rename_i xs he
      obtain ⟨a, vs, rfl, q, k⟩ := lstVal_rep S1 r1 he
      exact ⟨a, vs, rfl, by rw [hK]; exact q, fun p hp => post_lst S1 k.reverse P1 p hp⟩
    · exact P1.elim
end

/-! ### isinstance of data -/
def tyN (st : Sto) : D → Option String
  | .non => some "NoneType"
  | .bl _ => some "bool"
  | .int _ => some "int"
  | .str _ => some "str"
  | .tup _ => some "tuple"
  | .lstv _ => some "list"
  | .loc p => (match st[p]? with
    | some (.lst _) => some "list"
    | some (.dct _) => some "dict"
    | _ => none)
  | _ => none
def bIsi (ds : List D) (st : Sto) : Res D := match ds with
  | [d, .ty u] => (match tyN st d with
    | some t => (match kitB t u with
      | some b => .ok (.bl b) st
      | none => .stuck)
    | none => .stuck)
  | _ => .stuck
section
variable {X : Cx} {g : Gx}
theorem tyN_rep {m : List Addr} {H : Hp} {st : Sto} {d : D} {v : V} {t : String} (S : Sim g m H st) (r : Rep g m H d v) (e : tyN st d = some t) : TyX g.K H v (.type t) := by
  unfold tyN at e
  split at e
  · cases e; rw [rep_non r]; exact .base .non
  · cases e; rw [rep_bl r]; exact .base (.bl _)
  · cases e; rw [rep_int r]; exact .base (.int _)
  · cases e; rw [rep_str r]; exact .base (.str _)
  · cases e
    obtain ⟨a, vs, rfl, q, _⟩ := rep_tup r
    rcases q with (q | ⟨o, q⟩) | ⟨o, its, n, h1, h2, _⟩
    · exact .base (.tup q)
    · exact .fTuple q
    · exact .kTuple h1 h2
  · cases e
    obtain ⟨a, vs, rfl, q, _⟩ := rep_lstv r
    rcases q with ⟨o, q⟩ | ⟨o, its, n, h1, h2, _⟩
    · exact .base (.frz q)
    · exact .kList h1 h2
  · rename_i p
    obtain ⟨a, h, rfl⟩ := rep_loc r
    split at e
    · rename_i xs hc
      cases e
      obtain ⟨vs, q, _⟩ := S.at_ _ _ _ hc h
      exact .base (.lst q)
    · rename_i xs hc
      cases e
      obtain ⟨vs, q, _⟩ := S.at_ _ _ _ hc h
      exact .base (.dK q)
    · cases e
  · cases e
theorem cv_isi (hK : X.K = g.K) : CallR X (.builtin "isinstance") (rND g bIsi) := by
  rintro pins s σ H xs us Q I r ⟨W, m, st, ds, S, rr, P⟩
  unfold bIsi at P
  split at P
  · obtain ⟨v, u, rfl, r1, r2⟩ := rr.two
    split at P
    · rename_i t ht
      split at P
      · rename_i b hb
        have := tyN_rep S r1 ht
        rw [← hK] at this
        refine call_isi pins s σ H _ us Q I r ⟨v, u, .type t, _, b, rfl, ?_, this, kit_ty hb, P.now S mkBl⟩
        rw [rep_ty r2]
        exact .ty _
      · exact P.elim
    · exact P.elim
  · exact P.elim
end

/-! ### methods of built-in types -/
abbrev FD := D → List D → Sto → Res D
def eMt (ty : D → Sto → Bool) (f : FD) (o : EM) (as : AM) : EM := fun r st => (o r st).bind fun x s1 => if ty x s1 = true then (as r s1).bind fun ys s2 => f x ys s2 else .stuck
def isLstD (d : D) (st : Sto) : Bool := match d with
  | .loc p => (lstAt st p).isSome
  | _ => false
def isDctD (d : D) (st : Sto) : Bool := (dctOf st d).isSome
def isStrD (d : D) (st : Sto) : Bool := match d with
  | .str _ => true
  | _ => false
theorem isLst_ty {g : Gx} {m : List Addr} {H : Hp} {st : Sto} {d : D} {v : V} (S : Sim g m H st) (r : Rep g m H d v) (e : isLstD d st = true) : tyV g.K "list" v H := by
  unfold isLstD at e
  split at e
  · rename_i p
    obtain ⟨a, h, rfl⟩ := rep_loc r
    obtain ⟨xs, e⟩ := Option.isSome_iff_exists.mp e
    obtain ⟨vs, q, _⟩ := lst_at S e h
    exact .inl ⟨rfl, vs, .of q⟩
  · cases e
theorem dct_at {g : Gx} {m : List Addr} {H : Hp} {st : Sto} {d : D} {v : V} {kvs : List (D × D)} (S : Sim g m H st) (r : Rep g m H d v) (e : dctOf st d = some kvs) : ∃ p a ws, d = .loc p ∧ st[p]? = some (.dct kvs) ∧ m[p]? = some a ∧ v = .ref a ∧ H a = some (.dK ws) ∧ RepKV g m H kvs ws := by
  unfold dctOf at e
  split at e
  · rename_i p
    split at e
    · rename_i k hc
      cases e
      obtain ⟨a, h, rfl⟩ := rep_loc r
      obtain ⟨ws, q, k⟩ := S.at_ _ _ _ hc h
      exact ⟨p, a, ws, rfl, hc, h, rfl, q, k⟩
    · cases e
  · cases e
theorem isDct_ty {g : Gx} {m : List Addr} {H : Hp} {st : Sto} {d : D} {v : V} (S : Sim g m H st) (r : Rep g m H d v) (e : isDctD d st = true) : tyV g.K "dict" v H := by
  obtain ⟨kvs, e⟩ := Option.isSome_iff_exists.mp e
  obtain ⟨p, a, ws, _, _, _, rfl, q, _⟩ := dct_at S r e
  exact .inr (.inr (.inl ⟨rfl, .inl ⟨ws, q⟩⟩))
theorem isStr_ty {g : Gx} {m : List Addr} {H : Hp} {st : Sto} {d : D} {v : V} (S : Sim g m H st) (r : Rep g m H d v) (e : isStrD d st = true) : tyV g.K "str" v H := by
  unfold isStrD at e
  split at e
  · rw [rep_str r]; rfl
  · cases e
section
variable {X : Cx} {g : Gx} {W : WX} {pos : Pos} {o e : Expr} {es : List Expr} {mo : EM} {as : AM}
theorem rdE_bm {ty : D → Sto → Bool} {f : FD} {T : String} (hT : ∀ {m : List Addr} {H : Hp} {st : Sto} {d : D} {v : V}, Sim g m H st → Rep g m H d v → ty d st = true → tyV g.K T v H) {s : L2.St} {H : Hp} {Q : VK} (h : rdE g W (eMt ty f mo as) s H Q) :
    tBM g.K T (rMD g f) (rdE g W mo) (rdA g W as) s H Q := by
  obtain ⟨m, r, st, S, E, P⟩ := h
  refine rdE_step (f := fun r x s1 => if ty x s1 = true then (as r s1).bind fun ys s2 => f x ys s2 else .stuck) S E P fun m1 H1 d x st1 _ l1 S1 E1 r1 P1 => ?_
  split at P1
  · rename_i ht
    refine ⟨hT S1 r1 ht, m1, r, st1, S1, E1, (P1.bind (R := RepL g)).imp fun m2 H2 xs ds st2 _ l2 S2 rs ⟨m3, ds3, st3, _, l3, S3, r3, P3⟩ => ?_⟩
    exact ⟨_, m3, st3, d, ds3, S3, r1.later l3, r3, P3⟩
  · exact P1.elim
theorem so_bm {ty : D → Sto → Bool} {f : FD} {T id : String} {name : Str} {apos cpos : Pos} (hK : X.K = g.K) (hT : ∀ {m : List Addr} {H : Hp} {st : Sto} {d : D} {v : V}, Sim g m H st → Rep g m H d v → ty d st = true → tyV g.K T v H)
    (pa : PlainAttrs T) (slot : Slot T name id) (hty : typeOf (.builtin id) = pure (.type "method_descriptor")) (hm : MtR X id (rMD g f)) (ho : PE X o (rdE g W mo)) (ha : PA X (e :: es) (rdA g W as))
    (hbase : attributeBase o name X.env (eval o X.env) = eval o X.env := by rfl)
    (hfew : ((backTo cpos (starEach (e :: es) X.env)).all (fun x => !x.1) && (backToKw cpos (keywordEach [] X.env)).all (fun x => x.1.isSome)
      && decide ((e :: es).length + ([] : List Keyword).length + (if ([] : List Keyword).isEmpty then 0 else 1) < 30)) = true := by rfl)
    (hline : (apos.endLine == cpos.line) = true := by rfl) (hs : starEach (e :: es) X.env = (false, eval e X.env) :: starEach es X.env := by rfl) (hplain : (backTo cpos (starEach es X.env)).any (·.1) = false := by rfl) :
    PE X (.Call (.Attribute o name apos) (e :: es) [] cpos) (rdE g W (eMt ty f mo as)) :=
  (pe_bm pa slot hty hm ho ha hbase hfew hline hs hplain).imp fun s H Q h => by
    have := rdE_bm hT h
    rw [← hK] at this
    exact this
theorem rdE_bm0 {ty : D → Sto → Bool} {f : FD} {T : String} (hT : ∀ {m : List Addr} {H : Hp} {st : Sto} {d : D} {v : V}, Sim g m H st → Rep g m H d v → ty d st = true → tyV g.K T v H) {s : L2.St} {H : Hp} {Q : VK} (h : rdE g W (eMt ty f mo aNil) s H Q) :
    tBM0 g.K T (rMD g f) (rdE g W mo) s H Q := by
  obtain ⟨m, r, st, S, E, P⟩ := h
  refine rdE_step (f := fun r x s1 => if ty x s1 = true then (aNil r s1).bind fun ys s2 => f x ys s2 else .stuck) S E P fun m1 H1 d x st1 _ l1 S1 E1 r1 P1 => ?_
  split at P1
  · rename_i ht
    exact ⟨hT S1 r1 ht, _, m1, st1, d, [], S1, r1, .nil, P1⟩
  · exact P1.elim
theorem so_bm0 {ty : D → Sto → Bool} {f : FD} {T id : String} {name : Str} {apos cpos : Pos} (hK : X.K = g.K) (hT : ∀ {m : List Addr} {H : Hp} {st : Sto} {d : D} {v : V}, Sim g m H st → Rep g m H d v → ty d st = true → tyV g.K T v H)
    (pa : PlainAttrs T) (slot : Slot T name id) (hty : typeOf (.builtin id) = pure (.type "method_descriptor")) (hm : MtR X id (rMD g f)) (ho : PE X o (rdE g W mo))
    (hbase : attributeBase o name X.env (eval o X.env) = eval o X.env := by rfl) (hline : (apos.endLine == cpos.line) = true := by rfl) : PE X (.Call (.Attribute o name apos) [] [] cpos) (rdE g W (eMt ty f mo aNil)) :=
  (pe_bm0 pa slot hty hm ho hbase hline).imp fun s H Q h => by
    have := rdE_bm0 hT h
    rw [← hK] at this
    exact this
end
def mAppend : FD := fun o ds st => match o, ds with
  | .loc p, [y] => (match lstAt st p with
    | some xs => if xs.length < LINE then .ok .non (st.set p (.lst (xs ++ [y]))) else .stuck
    | none => .stuck)
  | _, _ => .stuck
def mExtend : FD := fun o ds st => match o, ds with
  | .loc p, [.loc q] => (match lstAt st p, lstAt st q with
    | some xs, some ys => if xs.length + ys.length ≤ LINE then .ok .non (st.set p (.lst (xs ++ ys))) else .stuck
    | _, _ => .stuck)
  | _, _ => .stuck
def mPop : FD := fun o ds st => match o, ds with
  | .loc p, [] => (match lstAt st p with
    | some xs => (match xs[xs.length - 1]? with
      | some y => .ok y (st.set p (.lst xs.dropLast))
      | none => .stuck)
    | none => .stuck)
  | .loc p, [.int i] => (match lstAt st p with
    | some xs => if -4611686018427387904 ≤ i ∧ i < 4611686018427387904 then (match seqIndex? i xs.length with
      | some k => (match xs[k]? with
        | some y => .ok y (st.set p (.lst (xs.eraseIdx k)))
        | none => .stuck)
      | none => .stuck) else .stuck
    | none => .stuck)
  | _, _ => .stuck
section
variable {X : Cx} {g : Gx}
theorem wr_lst {m : List Addr} {H : Hp} {st : Sto} {p : Nat} {a : Addr} {xs ys : List D} {vs us : List V} {W : WK} {Q : VK} {d : D} {v : V} (S : Sim g m H st) (e : m[p]? = some a) (ha : H a = some (.lst vs)) (r : RepL g m H ys us) (rd : Rep g m H d v)
    (P : PostR g (Rep g) W m H Q (.ok d (st.set p (.lst ys)))) : Q v (upd H a (.lst us)) := by
  have l := Later.write (m := m) (o := .lst us) ha noImm_lst
  exact P m _ v l (S.write (c := .lst ys) e ⟨_, upd_same, r.later l⟩) (rd.later l)
theorem mv_append : MtR X "list.append" (rMD g mAppend) := by
  rintro pins s σ H x vs v us Q I rx rv ⟨W, m, st, d, ds, S, r1, r2, P⟩
  unfold mAppend at P
  split at P
  · obtain ⟨y, rfl, ry⟩ := r2.one
    split at P
    · rename_i xs hx
      split at P
      · rename_i hl
        obtain ⟨a, ha, rfl⟩ := rep_loc r1
        obtain ⟨ws, q, k⟩ := lst_at S hx ha
        exact mt_append pins s σ H _ _ v us Q I rx rv ⟨a, ws, y, rfl, rfl, q, by rw [line_eq, ← k.length]; exact hl, wr_lst (xs := xs) S ha q (k.append (.cons ry .nil)) mkNon P⟩
      · exact P.elim
    · exact P.elim
  · exact P.elim
theorem mv_extend : MtR X "list.extend" (rMD g mExtend) := by
  rintro pins s σ H x vs v us Q I rx rv ⟨W, m, st, d, ds, S, r1, r2, P⟩
  unfold mExtend at P
  split at P
  · obtain ⟨y, rfl, ry⟩ := r2.one
    split at P
    · rename_i xs ys hx hy
      split at P
      · rename_i hl
        obtain ⟨a, ha, rfl⟩ := rep_loc r1
        obtain ⟨b, hb, rfl⟩ := rep_loc ry
        obtain ⟨ws, q, k⟩ := lst_at S hx ha
        obtain ⟨zs, q2, k2⟩ := lst_at S hy hb
        exact mt_extend pins s σ H _ _ v us Q I rx rv ⟨a, b, ws, zs, rfl, rfl, q, q2, by rw [line_eq, ← k.length, ← k2.length]; exact hl, wr_lst (xs := xs) S ha q (k.append k2) mkNon P⟩
      · exact P.elim
    · exact P.elim
  · exact P.elim
theorem RepL.dropLast {m : List Addr} {H : Hp} {ds : List D} {vs : List V} (h : RepL g m H ds vs) : RepL g m H ds.dropLast vs.dropLast := by
  rw [List.dropLast_eq_take, List.dropLast_eq_take, h.length]
  exact h.take _
theorem mv_pop : MtR X "list.pop" (rMD g mPop) := by
  rintro pins s σ H x vs v us Q I rx rv ⟨W, m, st, d, ds, S, r1, r2, P⟩
  unfold mPop at P
  split at P
  · cases r2.nil_inv
    split at P
    · rename_i xs hx
      split at P
      · rename_i y hy
        obtain ⟨a, ha, rfl⟩ := rep_loc r1
        obtain ⟨ws, q, k⟩ := lst_at S hx ha
        obtain ⟨z, hz, rz⟩ := k.get hy
        exact mt_pop pins s σ H _ _ v us Q I rx rv ⟨a, ws, z, rfl, rfl, q, by rw [← k.length]; exact hz, wr_lst (xs := xs) S ha q (RepL.dropLast k) rz P⟩
      · exact P.elim
    · exact P.elim
  · obtain ⟨y, rfl, ry⟩ := r2.one
    cases rep_int ry
    split at P
    · rename_i xs hx
      split at P
      · rename_i hi
        split at P
        · rename_i k hk
          split at P
          · rename_i y hy
            obtain ⟨a, ha, rfl⟩ := rep_loc r1
            obtain ⟨ws, q, kk⟩ := lst_at S hx ha
            obtain ⟨z, hz, rz⟩ := kk.get hy
            exact mt_popAt pins s σ H _ _ v us Q I rx rv ⟨a, ws, _, k, z, rfl, rfl, q, by omega, by omega, by rw [← kk.length]; exact hk, hz, wr_lst (xs := xs) S ha q (kk.eraseIdx k) rz P⟩
          · exact P.elim
        · exact P.elim
      · exact P.elim
    · exact P.elim
  · exact P.elim
end
end TB

end

/-! ## TbOp5 -/
section
set_option linter.all false
set_option autoImplicit false
set_option maxRecDepth 100000
set_option maxHeartbeats 2000000
namespace TB
open PySem PySem.Spec PyProof.Rows L2

/-! ### a tuple that is known to be plain, as a tuple -/
def D.weak : D → D
  | .ptup xs => .tup xs
  | d => d
def eW (a : EM) : EM := fun r st => (a r st).bind fun d s1 => .ok d.weak s1
section
variable {X : Cx} {g : Gx} {W : WX} {pos : Pos} {a b o e : Expr} {es : List Expr} {ma mb mo : EM} {as : AM}
theorem rep_weak {m : List Addr} {H : Hp} {d : D} {v : V} (r : Rep g m H d v) : Rep g m H d.weak v := by
  cases d with
  | ptup xs =>
    simp only [Rep] at r
    obtain ⟨a, vs, o, rfl, q, k⟩ := r
    simp only [D.weak, Rep]
    exact ⟨a, vs, rfl, .inl (.inr ⟨o, q.1⟩), k⟩
  | _ => exact r
theorem so_W (h : PE X a (rdE g W ma)) : PE X a (rdE g W (eW ma)) := h.imp fun s H Q ⟨m, r, st, S, E, P⟩ =>
  rdE_step (f := fun _ d s1 => .ok d.weak s1) S E P fun m1 H1 d x st1 _ l1 S1 E1 r1 P1 => P1.now S1 (rep_weak r1)

/-! ### t.index(x) -/
def isPtD (d : D) (st : Sto) : Bool := match d with
  | .ptup _ => true
  | _ => false
def mPIndex : FD := fun o ds st => match o, ds with
  | .ptup xs, [.int i] => (match intsOf xs with
    | some ns => if i ∈ ns then .ok (.int (ns.idxOf i : Nat)) st else .stuck
    | none => .stuck)
  | _, _ => .stuck
theorem ints_are : ∀ {ns : List Int} {us : List Value}, Vals (ns.map V.int) us → IntsAre us ns
  | [], us, r => by rw [List.map_nil] at r; cases r; exact .nil
  | n :: ns, us, r => by
    rw [List.map_cons] at r
    cases r with
    | cons h t =>
      obtain ⟨k, rfl⟩ := h
      exact .cons n k (ints_are t)
theorem so_pindex {apos cpos : Pos} (ho : PE X o (rdE g W mo)) (ha : PA X [e] (rdA g W as)) (hbase : attributeBase o "index" X.env (eval o X.env) = eval o X.env := by rfl)
    (hfew : ((backTo cpos (starEach [e] X.env)).all (fun x => !x.1) && (backToKw cpos (keywordEach [] X.env)).all (fun x => x.1.isSome)
      && decide ([e].length + ([] : List Keyword).length + (if ([] : List Keyword).isEmpty then 0 else 1) < 30)) = true := by rfl)
    (hline : (apos.endLine == cpos.line) = true := by rfl) (hs : starEach [e] X.env = (false, eval e X.env) :: starEach [] X.env := by rfl) (hplain : (backTo cpos (starEach [] X.env)).any (·.1) = false := by rfl) :
    PE X (.Call (.Attribute o "index" apos) [e] [] cpos) (rdE g W (eMt isPtD mPIndex mo as)) := by
  refine ⟨fun pins s σ H Q I h => ?_⟩
  obtain ⟨m, r, st, S, E, P⟩ := h
  have q0 := rdE_step (K := fun v H1 => ∃ m1 st1 xs, v ∈ ([v] : List V) ∧ Sim g m1 H1 st1 ∧ RepE g m1 H1 r σ ∧ Rep g m1 H1 (.ptup xs) v ∧ PostR g (Rep g) (wAt W σ) m1 H1 Q ((as r st1).bind fun ys s2 => mPIndex (.ptup xs) ys s2))
    (f := fun r x s1 => if isPtD x s1 = true then (as r s1).bind fun ys s2 => mPIndex x ys s2 else .stuck) S E P fun m1 H1 d x st1 _ l1 S1 E1 r1 P1 => by
      split at P1
      · rename_i hp
        cases d <;> first | exact ⟨m1, st1, _, List.mem_singleton_self _, S1, E1, r1, P1⟩ | (simp [isPtD] at hp)
      · exact P1.elim
  refine wpAny_Call_method_late hbase hfew hline rfl (thn (ho.run pins s σ H _ I q0) fun v s1 ⟨x, H1, I1, rx, m1, st1, xs, _, S1, E1, r1, P1⟩ => ?_)
  simp only [Rep] at r1
  obtain ⟨p, vs, ob, rfl, ⟨hf, hd⟩, k1⟩ := r1
  cases rx
  have rv : Rep g m1 H1 (.ptup xs) (.ref p) := by simp only [Rep]; exact ⟨p, vs, ob, rfl, ⟨hf, hd⟩, k1⟩
  obtain ⟨hg, hz, its, ri, tt⟩ := (show ObjOk X.prog X.w H1 s1.heap p (.frz ob (.tup vs)) from I1.hok p _ hf)
  refine ⟨"tuple", "tuple.index", PySem.F.plainAttrs_tuple, PySem.F.slot_tuple_index, PySem.F.type_tuple_index, tt.typeIs, fun a e => by cases e; exact ⟨ob, hg, hd⟩, ?_⟩
  have hA := ha.run cpos pins s1 σ H1 (fun ys H2 => ∃ m2 st2 ds, Sim g m2 H2 st2 ∧ Rep g m2 H2 (.ptup xs) (.ref p) ∧ RepL g m2 H2 ds ys ∧ PostR g (Rep g) (wAt W σ) m2 H2 Q (mPIndex (.ptup xs) ds st2)) I1
    ⟨m1, r, st1, S1, E1, (P1.bind (R := RepL g)).imp fun m2 H2 ys ds st2 e2 l2 S2 r2 ⟨m3, ds3, st3, e3, l3, S3, r3, P3⟩ => ⟨m3, st3, ds3, S3, rv.later l3, r3, P3⟩⟩
  rw [hs] at hA ⊢
  refine Calls.callWith_builtin (by show (false || (backTo cpos (starEach [] X.env)).any (·.1)) = false; rw [hplain] <;> rfl) (Calls.evalArgs_plain ?_)
  refine thn hA fun us s2 ⟨ys, H2, I2, ru, m2, st2, ds, S2, rv2, r2, P2⟩ => ?_
  unfold mPIndex at P2
  split at P2
  · rename_i zs i e1
    cases e1
    split at P2
    · rename_i ns hn
      split at P2
      · rename_i hi
        obtain ⟨y, rfl, ry⟩ := r2.one
        cases rep_int ry
        obtain ⟨u, rfl, tk, rfl⟩ := vals1 ru
        simp only [Rep] at rv2
        obtain ⟨p2, vs2, ob2, ep, ⟨hf2, _⟩, k2⟩ := rv2
        cases ep
        obtain ⟨_, _, its2, ri2, tt2⟩ := (show ObjOk X.prog X.w H2 s2.heap p (.frz ob2 (.tup vs2)) from I2.hok p _ hf2)
        rw [ints_rep k2 hn] at ri2
        exact SeqAt.tuple_index_ints (vs := its2) tt2 (ints_are ri2) hi ⟨.int _, H2, I2.tok _, ⟨_, rfl⟩, P2.now S2 mkInt⟩
      · exact P2.elim
    · exact P2.elim
  · exact P2.elim
end
/-- l.index(x), numbers -/
def mIndex : FD := fun o ds st => match ds with
  | [.int i] => (match (lstVal st o).bind intsOf with
    | some ns => if i ∈ ns ∧ ns.length ≤ LINE then .ok (.int (ns.idxOf i : Nat)) st else .stuck
    | none => .stuck)
  | _ => .stuck
theorem mv_index {X : Cx} {g : Gx} (hK : X.K = g.K) : MtR X "list.index" (rMD g mIndex) := by
  rintro pins s σ H x vs v us Q I rx rv ⟨W, m, st, d, ds, S, r1, r2, P⟩
  unfold mIndex at P
  split at P
  · obtain ⟨y, rfl, ry⟩ := r2.one
    cases rep_int ry
    split at P
    · rename_i ns hn
      split at P
      · rename_i hi
        obtain ⟨a, rfl, q⟩ := lsts_rep S r1 hn
        rw [← hK] at q
        cases rx
        obtain ⟨u, rfl, tk, rfl⟩ := vals1 rv
        obtain ⟨its, ri, pl, hz⟩ := I.list q
        exact SeqAt.list_index_ints (vs := its) pl.isList (ints_are ri) (by rw [line_eq]; exact hi.2) hi.1 ⟨.int _, H, I.tok _, ⟨_, rfl⟩, P.now S mkInt⟩
      · exact P.elim
    · exact P.elim
  · exact P.elim

/-! ### dicts -/
def putD (kvs : List (D × D)) (k v : D) : List (D × D) := if (kvs.any fun kv => decide (kv.1 = k)) = true then kvs.map (fun kv => if kv.1 = k then (kv.1, v) else kv) else kvs ++ [(k, v)]
def mergeD (kvs more : List (D × D)) : List (D × D) := more.foldl (fun acc kv => putD acc kv.1 kv.2) kvs
theorem keyD_of {k : D} {q : Key} (h : RepK k q) : keyD k = true := (repK_of h).1
theorem repKV_any {g : Gx} {m : List Addr} {H : Hp} {k : D} (hk : keyD k = true) {kvs : List (D × D)} {ws : List (Key × V)} (r : RepKV g m H kvs ws) : (kvs.any fun kv => decide (kv.1 = k)) = (ws.any fun kv => decide (kv.1 = dK k)) := by
  induction r with
  | nil => rfl
  | @cons p q l l' z _ ih =>
    obtain ⟨h1, h2⟩ := repK_of z.1
    rw [List.any_cons, List.any_cons, ih, h2]
    congr 1
    by_cases e : p.1 = k
    · rw [e]; simp
    · rw [decide_eq_false e, decide_eq_false fun h => e (dK_inj h1 hk h)]
theorem repKV_append {g : Gx} {m : List Addr} {H : Hp} {kvs : List (D × D)} {ws : List (Key × V)} {p : D × D} {q : Key × V} (r : RepKV g m H kvs ws) (z : RepK p.1 q.1 ∧ Rep g m H p.2 q.2) : RepKV g m H (kvs ++ [p]) (ws ++ [q]) := by
  induction r with
  | nil => exact .cons z .nil
  | cons z' _ ih => exact .cons z' ih
theorem repKV_put {g : Gx} {m : List Addr} {H : Hp} {k d : D} {v : V} (hk : keyD k = true) (rd : Rep g m H d v) {kvs : List (D × D)} {ws : List (Key × V)} (r : RepKV g m H kvs ws) : RepKV g m H (putD kvs k d) (putK ws (dK k) v) := by
  unfold putD putK
  rw [repKV_any hk r]
  split
  · have key : ∀ {kvs : List (D × D)} {ws : List (Key × V)}, RepKV g m H kvs ws → RepKV g m H (kvs.map fun kv => if kv.1 = k then (kv.1, d) else kv) (ws.map fun kv => if kv.1 = dK k then (kv.1, v) else kv) := by
      intro kvs ws r
      induction r with
      | nil => exact .nil
      | @cons p q l l' z _ ih =>
        obtain ⟨h1, h2⟩ := repK_of z.1
        rw [List.map_cons, List.map_cons]
        refine .cons ?_ ih
        by_cases e : p.1 = k
        · rw [if_pos e, if_pos (by rw [h2, e])]
          exact ⟨z.1, rd⟩
        · rw [if_neg e, if_neg (by rw [h2]; exact fun h => e (dK_inj h1 hk h))]
          exact z
    exact key r
  · refine repKV_append r ⟨?_, rd⟩
    cases k <;> first | rfl | cases hk
theorem repKV_merge {g : Gx} {m : List Addr} {H : Hp} : ∀ {more kvs : List (D × D)} {ws vs : List (Key × V)}, RepKV g m H more ws → RepKV g m H kvs vs → RepKV g m H (mergeD kvs more) (mergeK vs ws)
  | [], _, _, _, .nil, r => r
  | _ :: _, _, _, _, .cons z r', r => by
    obtain ⟨h1, h2⟩ := repK_of z.1
    unfold mergeD mergeK
    rw [List.foldl_cons, List.foldl_cons, h2]
    exact repKV_merge r' (repKV_put h1 z.2 r)
/-- {k: v, ..}: the keys are written texts and numbers -/
def eDisp (ks : List D) (as : AM) : EM := fun r st => (as r (st ++ [.dct []])).bind fun vs s1 => if s1[st.length]? = some (.dct []) ∧ vs.length = ks.length ∧ ks.length ≤ 15 ∧ ks.all keyD = true then .ok (.loc st.length) (s1.set st.length (.dct (mergeD [] (ks.zip vs)))) else .stuck
section
variable {X : Cx} {g : Gx} {W : WX} {pos : Pos}
/-- the values of a display, the keys written -/
structure PDs (X : Cx) (g : Gx) (W : WX) (pos : Pos) (keys : List (Option Expr)) (values : List Expr) (ks : List D) (as : AM) : Prop where
  run : ∃ trs, PPs X pos keys values trs ∧ ∀ (s : L2.St) (H : Hp) (Q : List (V × V) → Hp → Prop), rdA g W as s H (fun vs H1 => vs.length = ks.length ∧ Q ((ks.map fun k => kV (dK k)).zip vs) H1) → tPairs trs s H Q
theorem pd_nil : PDs X g W pos [] [] [] aNil := ⟨[], pps_nil, fun s H Q ⟨m, r, st, S, E, P⟩ => (P.now S .nil : _ ∧ _).2⟩
theorem pd_str {x : Str} {j : Nat} {p : Pos} {v : Expr} {keys : List (Option Expr)} {values : List Expr} {ks : List D} {as : AM} {mv : EM} (hv : PE X v (rdE g W mv)) (h : PDs X g W pos keys values ks as) :
    PDs X g W pos (some (.Constant (.str x) j p) :: keys) (v :: values) (.str x :: ks) (aCons mv as) := by
  obtain ⟨trs, h1, h2⟩ := h.run
  refine ⟨_, pps_cons pe_str hv h1, fun s H Q ⟨m, r, st, S, E, P⟩ => ?_⟩
  show rdE g W mv s H fun y H2 => tPairs trs s H2 fun ps H3 => Q ((V.str x, y) :: ps) H3
  refine rdE_step (f := fun r x s1 => (as r s1).bind fun xs s2 => .ok (x :: xs) s2) S E P fun m1 H1 d y st1 _ l1 S1 E1 r1 P1 => h2 s H1 _ ⟨m1, r, st1, S1, E1, (P1.bind (R := RepL g)).imp fun m2 H2 xs ds st2 e l2 S2 rs ⟨m3, ds3, st3, e3, l3, S3, r3, P3⟩ => ?_⟩
  have := P3.now S3 (.cons (r1.later l3) r3)
  exact ⟨by simpa using this.1, this.2⟩
theorem zip_map {ks : List D} : ∀ {vs : List V}, (ks.map fun k => kV (dK k)).zip vs = ((ks.map dK).zip vs).map fun kv => (kV kv.1, kv.2) := by
  induction ks with
  | nil => intro vs; rfl
  | cons k ks ih =>
    intro vs
    cases vs with
    | nil => rfl
    | cons v vs => simp only [List.map_cons, List.zip_cons_cons, ih]
theorem repKV_zip {m : List Addr} {H : Hp} : ∀ {ks : List D} {ds : List D} {vs : List V}, ks.all keyD = true → RepL g m H ds vs → RepKV g m H (ks.zip ds) ((ks.map dK).zip vs)
  | [], _, _, _, _ => .nil
  | k :: ks, [], _, _, r => by rw [r.nil_inv]; exact .nil
  | k :: ks, d :: ds, _, h, r => by
    obtain ⟨v, rest, rfl, rv, rr⟩ := r.cons_inv
    rw [List.all_cons, Bool.and_eq_true] at h
    refine .cons ⟨?_, rv⟩ (repKV_zip h.2 rr)
    cases k <;> first | rfl | cases h.1
theorem so_disp {keys : List (Option Expr)} {values : List Expr} {ks : List D} {as : AM} (h : PDs X g W pos keys values ks as) (hall : keys.all (·.isSome) = true := by rfl) (hl : keys.length = values.length := by rfl) (h0 : keys ≠ [] := by simp) (h15 : keys.length ≤ 15 := by decide) :
    PE X (.Dict keys values pos) (rdE g W (eDisp ks as)) := by
  obtain ⟨trs, h1, h2⟩ := h.run
  refine (pe_disp h1 hall hl h0 h15).imp fun s H Q ⟨m, r, st, S, E, P⟩ p hp => ?_
  have l0 : Later m H (m ++ [p]) (upd H p (.dK [])) := Later.alloc hp
  have S0 : Sim g (m ++ [p]) (upd H p (.dK [])) (st ++ [.dct []]) := S.alloc hp ⟨[], upd_same, .nil⟩
  have hpm : (m ++ [p])[st.length]? = some p := by rw [← S.len]; simp
  refine h2 s _ _ ⟨m ++ [p], r, _, S0, E.later l0, ((PostR.later l0 P).bind (R := RepL g)).imp fun m2 H2 xs ds st2 e l2 S2 rs ⟨m3, ds3, st3, e3, l3, S3, r3, P3⟩ => ?_⟩
  split at P3
  · rename_i hh
    obtain ⟨e1, e2, e4, e5⟩ := hh
    have hp3 : m3[st.length]? = some p := l3.pre _ _ hpm
    obtain ⟨ws, q, k⟩ := S3.at_ _ _ _ e1 hp3
    cases k
    refine ⟨by rw [← r3.length, e2], q, (ks.map dK).zip xs, zip_map, ?_, ?_⟩
    · rw [List.length_zip, List.length_map]
      omega
    · have lw : Later m3 H2 m3 (upd H2 p (.dK (mergeK [] ((ks.map dK).zip xs)))) := Later.write q noImm_dK
      refine P3 m3 _ (.ref p) lw (S3.write (c := .dct (mergeD [] (ks.zip ds3))) hp3 ⟨_, upd_same, ?_⟩) (by simp only [Rep]; exact ⟨p, hp3, rfl⟩)
      exact repKV_merge (repKV_zip e5 (r3.later lw)) .nil
  · exact P3.elim
/-- d.update(e), another dict -/
def mUpdate : FD := fun o ds st => match o, ds with
  | .loc p, [.loc q] => if p = q then .stuck else (match dctOf st (.loc p), dctOf st (.loc q) with
    | some xs, some ys => if xs.length + ys.length ≤ LINE then .ok .non (st.set p (.dct (mergeD xs ys))) else .stuck
    | _, _ => .stuck)
  | _, _ => .stuck
theorem mv_update : MtR X "dict.update" (rMD g mUpdate) := by
  rintro pins s σ H x vs v us Q I rx rv ⟨W, m, st, d, ds, S, r1, r2, P⟩
  unfold mUpdate at P
  split at P
  · rename_i p q
    split at P
    · exact P.elim
    · rename_i hne
      split at P
      · rename_i xs ys hx hy
        split at P
        · rename_i hl
          obtain ⟨y, rfl, ry⟩ := r2.one
          obtain ⟨p', a, ws, ep, hc, ha, rfl, qa, ka⟩ := dct_at S r1 hx
          obtain ⟨q', b, zs, eq, hc2, hb, rfl, qb, kb⟩ := dct_at S ry hy
          cases ep
          cases eq
          cases rx
          obtain ⟨u, rfl, ru⟩ := vals1 rv
          cases ru
          have hab : a ≠ b := fun e => hne (nodup_get S.nd (e ▸ ha) hb)
          obtain ⟨z1, n1, as, rel1, dd1⟩ := dk_of I.hok qa
          obtain ⟨z2, n2, bs, rel2, dd2⟩ := dk_of I.hok qb
          have hz : as.length + bs.length ≤ sizeLine := by rw [← rel1.length, ← rel2.length, line_eq, ← repKV_len ka, ← repKV_len kb]; exact hl
          have lw : Later m H m (upd H a (.dK (mergeK ws zs))) := Later.write qa noImm_dK
          refine call_meetsIn PySem.F.slot_dict_update dd1.typeIs PySem.F.entry_dict_update (PySem.F.args_dict_update_2 _ _) (meets_dict_update (mixKind X.prog X.w) a b hab n2)
            ⟨as, bs, dd1, dd2, hz, fun h' hmm _ hs => ⟨.non, upd H a (.dK (mergeK ws zs)), ?_, rfl, P m _ _ lw (S.write (c := .dct (mergeD xs ys)) ha ⟨_, upd_same, repKV_merge (paired_imp kb fun _ _ _ z => ⟨z.1, z.2.later lw⟩) (paired_imp ka fun _ _ _ z => ⟨z.1, z.2.later lw⟩)⟩) mkNon⟩⟩
          have he : ∃ q, h'.get? a = some q := let ⟨q, _, _, hq, _⟩ := hmm; ⟨q, hq⟩
          refine d_write (t' := s.toks) I (by rw [qa]; exact True.intro) hs he (dk_new ?_ n1 (rel2.merge rel1) hmm)
          have h3 := length_mergeK zs ws
          have h4 := rel1.length
          have h5 := rel2.length
          omega
        · exact P.elim
      · exact P.elim
  · exact P.elim
end

/-! ### stores -/
def fStore (o i v : D) (st : Sto) : Res Unit := match o with
  | .loc p => (match st[p]? with
    | some (.lst xs) => (match i with
      | .int k => (match ixN xs.length k with
        | some j => .ok () (st.set p (.lst (xs.set j v)))
        | none => .stuck)
      | _ => .stuck)
    | some (.dct kvs) => if keyD i = true ∧ kvs.length < LINE then .ok () (st.set p (.dct (putD kvs i v))) else .stuck
    | _ => .stuck)
  | _ => .stuck
theorem st_all {X : Cx} {g : Gx} (hu : X.A.units + 1 < cLine) : PSet X (rSD g fStore) := by
  rintro pins s σ H o i v ov iv u Q I ro ri rv ⟨W, m, st, d, e, w, S, r1, r2, r3, P⟩
  unfold fStore at P
  split at P
  · rename_i p
    obtain ⟨a, ha, rfl⟩ := rep_loc r1
    split at P
    · rename_i xs hc
      obtain ⟨vs, q, k⟩ := S.at_ _ _ _ hc ha
      split at P
      · rename_i j
        cases rep_int r2
        split at P
        · rename_i n hj
          refine set_list pins s σ H _ _ v ov iv u Q I ro ri rv ⟨a, vs, j, n, rfl, rfl, q, by rw [← k.length]; exact hj, ?_⟩
          have lw : Later m H m (upd H a (.lst (vs.set n v))) := Later.write q noImm_lst
          exact P m _ () lw (S.write (c := .lst (xs.set n w)) ha ⟨_, upd_same, RepL.set (r3.later lw) n (k.later lw)⟩) trivial
        · exact P.elim
      · exact P.elim
    · rename_i kvs hc
      obtain ⟨ws, q, k⟩ := S.at_ _ _ _ hc ha
      split at P
      · rename_i hh
        have hk := rep_key hh.1 r2
        have lw : Later m H m (upd H a (.dK (putK ws (dK e) v))) := Later.write q noImm_dK
        refine set_dict hu pins s σ H _ _ v ov iv u Q I ro ri rv ⟨a, upd H a (.dK (putK ws (dK e) v)), rfl, ?_, P m _ () lw (S.write (c := .dct (putD kvs e w)) ha ⟨_, upd_same, repKV_put hh.1 (r3.later lw) (paired_imp k fun _ _ _ z => ⟨z.1, z.2.later lw⟩)⟩) trivial⟩
        rw [hk]
        exact DPut.k q (by rw [line_eq, ← repKV_len k]; exact hh.2)
      · exact P.elim
    · exact P.elim
  · exact P.elim
end TB

end

/-! ## TbEx -/
section
set_option linter.all false
set_option autoImplicit false
set_option maxRecDepth 100000
/-! Errors of the program's own classes: raised, caught and kept, asked. -/
namespace TB
open PySem PySem.Spec PyProof.Rows L2

/-! ### what the written part says of the classes -/
def excB (K : PySem.W.Frag) (C : Addr) : Bool :=
  decide (PySem.W.findIn K (.ref C) "__getattribute__" = some (some (.builtin "BaseException.__getattribute__"))) && decide (PySem.W.findIn K (.ref C) "__getattr__" = some none) &&
  decide (PySem.W.subIn K (.ref C) (.type "BaseException") = some true) && PySem.W.hasDictIn K C && decide (PySem.W.findIn K (.ref C) "__class__" = some (some (.builtin "object.__class__"))) &&
  decide (PySem.W.specialIn K (.builtin "object.__class__") "__get__" = some (some (.builtin "getset_descriptor.__get__"))) && decide (PySem.W.takesIn K (.builtin "object.__class__") = some true) && decide (PySem.W.mroIn K C (.type "object") = some true)
theorem excB_ok {K : PySem.W.Frag} {C : Addr} (h : excB K C = true) : ExcC K C := by
  unfold excB at h
  simp only [Bool.and_eq_true, decide_eq_true_eq] at h
  obtain ⟨⟨⟨⟨⟨⟨⟨h1, h2⟩, h3⟩, h4⟩, h5⟩, h6⟩, h7⟩, h8⟩ := h
  exact ⟨h1, h2, h3, h4, h5, h6, h7, h8⟩
structure ExAll (g : Gx) (cs : List Str) : Prop where
  ex : ∀ c ∈ cs, ExcC g.K (g.ga c)
  xf : ∀ c ∈ cs, XfC g.K (g.ga c)
  no : ∀ c ∈ cs, ∀ f ∈ excFld c, PySem.W.findIn g.K (.ref (g.ga c)) f = some none
  kit : ∀ c ∈ cs, ∀ x ∈ ("WebError" : Str) :: cs, PySem.W.kitOne g.K (.ref (g.ga c)) (.ref (g.ga x)) = some (decide (x = "WebError") || decide (x = c))
  kitV : ∀ c ∈ cs, PySem.W.kitOne g.K (.ref (g.ga c)) (.type "ValueError") = some true
  exm : ∀ c ∈ cs, ∀ x ∈ ("WebError" : Str) :: cs, PySem.W.exmOne g.K (.ref (g.ga c)) (.ref (g.ga x)) = some (decide (x = "WebError") || decide (x = c))
def exAllB (g : Gx) (cs : List Str) : Bool :=
  cs.all fun c => excB g.K (g.ga c) && xfB g.K (g.ga c) && ((excFld c).all fun f => decide (PySem.W.findIn g.K (.ref (g.ga c)) f = some none)) &&
    ((("WebError" : Str) :: cs).all fun x => decide (PySem.W.kitOne g.K (.ref (g.ga c)) (.ref (g.ga x)) = some (decide (x = "WebError") || decide (x = c))) &&
      decide (PySem.W.exmOne g.K (.ref (g.ga c)) (.ref (g.ga x)) = some (decide (x = "WebError") || decide (x = c)))) &&
    decide (PySem.W.kitOne g.K (.ref (g.ga c)) (.type "ValueError") = some true)
theorem exAllB_ok {g : Gx} {cs : List Str} (h : exAllB g cs = true) : ExAll g cs := by
  unfold exAllB at h
  rw [List.all_eq_true] at h
  have k : ∀ c ∈ cs, _ := fun c hc => h c hc
  simp only [Bool.and_eq_true, List.all_eq_true, decide_eq_true_eq] at k
  exact ⟨fun c hc => excB_ok (k c hc).1.1.1.1, fun c hc => xfB_ok (k c hc).1.1.1.2, fun c hc => (k c hc).1.1.2, fun c hc x hx => ((k c hc).1.2 x hx).1, fun c hc => (k c hc).2, fun c hc x hx => ((k c hc).1.2 x hx).2⟩

/-! ### a caught error as a value -/
theorem rep_exc {g : Gx} {m : List Addr} {H : Hp} {c : Str} {fs : List D} {v : V} (r : Rep g m H (.exc c fs) v) :
    ∃ a d vs, v = .ref a ∧ H a = some (excH a (g.ga c) d) ∧ RepL g m H fs vs ∧ ((fs = [] ∧ d = none) ∨ ∃ dx, d = some dx ∧ H dx = some (.xd ((excFld c).zip vs))) := by
  simpa only [Rep] using r
theorem excH_ok {P : Program} {w : World} {H : Hp} {h : Heap} {a C : Addr} {d : Option Addr} {o : Obj} {vs : Array Value} (e : h.get? a = some o) (e1 : o.cls = .ref C) (e2 : o.dict = d) (e3 : o.data = .fields vs) : ObjOk P w H h a (excH a C d) :=
  ⟨⟨o, vs, e, e1, e2, e3⟩, ⟨_, e⟩, fun h1 h2 z k => by
    obtain ⟨o, vs, q, q1, q2, q3⟩ := z
    exact ⟨o, vs, k _ q, q1, q2, q3⟩⟩
theorem excH_at {P : Program} {w : World} {H : Hp} {h : Heap} {a C : Addr} {d : Option Addr} (hok : HOk P w H h) (he : H a = some (excH a C d)) : ∃ (o : Obj) (vs : Array Value), h.get? a = some o ∧ o.cls = .ref C ∧ o.dict = d ∧ o.data = .fields vs := by
  have x : ObjOk P w H h a (.ext fun h => ∃ (o : Obj) (vs : Array Value), h.get? a = some o ∧ o.cls = .ref C ∧ o.dict = d ∧ o.data = .fields vs) := hok a _ he
  exact x.1
theorem exc_inst {X : Cx} {pins : List (Addr × Obj)} {σ : L2.St} {g : Gx} {m : List Addr} {H : Hp} {s : Shared} {c : Str} {fs : List D} {v : V} (I : Inv X pins σ H s) (r : Rep g m H (.exc c fs) v) :
    ∃ a ox od, v = .ref a ∧ PySem.W.InstAt s.heap a ox (g.ga c) od := by
  obtain ⟨a, d, vs, rfl, ha, _, k⟩ := rep_exc r
  obtain ⟨o, fv, h1, h2, h3, h4⟩ := excH_at I.hok ha
  have hn : PySem.W.notCls o = true := by unfold PySem.W.notCls; rw [h4]
  rcases k with ⟨_, rfl⟩ | ⟨dx, rfl, hx⟩
  · exact ⟨a, o, none, rfl, h1, h2, hn, by rw [h3]; trivial⟩
  · have hx' : ObjOk X.prog X.w H s.heap dx (.xd _) := I.hok dx _ hx
    obtain ⟨mA, hns, _⟩ := hx'
    obtain ⟨od, ho, _⟩ := lookIn_ns hns
    exact ⟨a, o, some od, rfl, h1, h2, hn, by rw [h3]; exact ho⟩
def bIsiX (cs : List Str) (ds : List D) (st : Sto) : Res D := match ds with
  | [.exc c fs, x] => (match excSub cs x c with
    | some b => .ok (.bl b) st
    | none => .stuck)
  | _ => bIsi ds st
section
variable {X : Cx} {g : Gx} {cs : List Str}
/-- the class that an x names, as a value -/
inductive ClsD (g : Gx) : D → Value → Prop
  | gl (x : Str) : ClsD g (.gl x) (.ref (g.ga x))
  | ty (t : String) : ClsD g (.ty t) (.type t)
theorem ClsD.val {m : List Addr} {H : Hp} {x : D} {cv u : Value} {v : V} (k : ClsD g x cv) (r : Rep g m H x v) (ru : RelV v u) : u = cv := by
  cases k with
  | gl x => simp only [Rep] at r; subst r; exact ru
  | ty t => simp only [Rep] at r; subst r; exact ru
theorem sub_kit (T : ExAll g cs) {x : D} {c : Str} {b : Bool} (e : excSub cs x c = some b) (h : ∀ xs, x ≠ .tup xs) : ∃ cv, ClsD g x cv ∧ PySem.W.kitOne g.K (.ref (g.ga c)) cv = some b ∧ c ∈ cs := by
  cases x with
  | gl x =>
    simp only [excSub] at e
    split at e
    · rename_i h1
      cases e
      have hc : c ∈ cs := by simpa using h1.1
      refine ⟨_, .gl x, T.kit c hc x ?_, hc⟩
      rcases h1.2 with z | z
      · rw [z]; exact List.mem_cons_self
      · exact List.mem_cons_of_mem _ (by simpa using z)
    · cases e
  | ty t =>
    simp only [excSub] at e
    split at e
    · rename_i h1
      cases e
      have hc : c ∈ cs := by simpa using h1.1
      refine ⟨_, .ty t, ?_, hc⟩
      rw [h1.2]
      exact T.kitV c hc
    · cases e
  | tup xs => exact absurd rfl (h xs)
  | _ => simp only [excSub] at e <;> cases e
theorem subL_kit (T : ExAll g cs) {c : Str} : ∀ {xs : List D} {b : Bool}, excSubL cs xs c = some b → ∃ cvs, Paired (ClsD g) xs cvs ∧ PySem.W.kitAny g.K (.ref (g.ga c)) cvs = some b
  | [], b, e => ⟨[], .nil, by simp only [excSubL] at e; exact e⟩
  | x :: xs, b, e => by
    have key : (∀ ys, x ≠ .tup ys) ∧ (excSub cs x c).bind (fun b => (excSubL cs xs c).bind fun k => some (b || k)) = some b := by
      cases x with
      | gl y => exact ⟨fun _ z => by (cases z), by simpa only [excSubL] using e⟩
      | ty y => exact ⟨fun _ z => by (cases z), by simpa only [excSubL] using e⟩
      | _ => simp only [excSubL] at e <;> cases e
    obtain ⟨hx, e⟩ := key
    cases h1 : excSub cs x c with
    | none => rw [h1] at e; cases e
    | some b1 =>
      rw [h1, Option.bind_some] at e
      cases h2 : excSubL cs xs c with
      | none => rw [h2] at e; cases e
      | some b2 =>
        rw [h2, Option.bind_some] at e
        cases e
        obtain ⟨cv, k, q, _⟩ := sub_kit T h1 hx
        obtain ⟨cvs, ks, qs⟩ := subL_kit T h2
        refine ⟨cv :: cvs, .cons k ks, ?_⟩
        unfold PySem.W.kitAny
        rw [q]
        cases b1 with
        | true => rfl
        | false => simpa using qs
theorem clsD_vals {m : List Addr} {H : Hp} : ∀ {xs : List D} {cvs us : List Value} {vs : List V}, Paired (ClsD g) xs cvs → RepL g m H xs vs → Vals vs us → us = cvs
  | [], _, _, _, .nil, r, ru => by
    rw [r.nil_inv] at ru
    cases ru
    rfl
  | _ :: _, _, _, _, .cons k ks, r, ru => by
    obtain ⟨v, rest, rfl, rv, rr⟩ := r.cons_inv
    cases ru with
    | cons ra rb => rw [k.val rv ra, clsD_vals ks rr rb]
theorem sqT_get {H : Hp} {s : Shared} {pins : List (Addr × Obj)} {σ : L2.St} {a : Addr} {vs : List V} (I : Inv X pins σ H s) (q : SqT X.K H a vs) : ∃ (dd : Option Addr) (its : List Value) (n : Nat) (sl : Array (Option Value)), s.heap.get? a = some ⟨.type "tuple", dd, .seq its.toArray n, sl⟩ ∧ Vals vs its := by
  rcases q with (q | ⟨o, q⟩) | ⟨o, its, n, h1, h2, h3⟩
  · obtain ⟨_, its, rv, o, h1, h2, n, h3⟩ := (show ObjOk X.prog X.w H s.heap a (.tup vs) from I.hok a _ q)
    obtain ⟨oc, od, dt, sl⟩ := o
    simp only at h2 h3
    subst h2 h3
    exact ⟨_, its, n, sl, h1, rv⟩
  · obtain ⟨_, _, its, rv, o, h1, h2, n, h3⟩ := (show ObjOk X.prog X.w H s.heap a (.frz o (.tup vs)) from I.hok a _ q)
    obtain ⟨oc, od, dt, sl⟩ := o
    simp only at h2 h3
    subst h2 h3
    exact ⟨_, its, n, sl, h1, rv⟩
  · obtain ⟨h3, _, h4⟩ := h3
    obtain ⟨oc, od, dt, sl⟩ := o
    simp only at h2 h3
    subst h2 h3
    exact ⟨od, its.toList, n, sl, by simpa using I.kIn _ _ h1, h4⟩
theorem cv_isiX (hK : X.K = g.K) (T : ExAll g cs) : CallR X (.builtin "isinstance") (rND g (bIsiX cs)) := by
  rintro pins s σ H xs us Q I r ⟨W, m, st, ds, S, rr, P⟩
  unfold bIsiX at P
  split at P
  · rename_i c fs x
    obtain ⟨v, u, rfl, r1, r2⟩ := rr.two
    split at P
    · rename_i b hb
      obtain ⟨a, ox, od, rfl, J⟩ := exc_inst I r1
      cases r with
      | cons ra rr2 =>
        cases rr2 with
        | cons rb rr3 =>
          cases rr3
          cases ra
          have fin : ∀ tk, EP X pins σ Q (.bool b) { s with toks := tk } := fun tk => ⟨.bl b, H, I.tok tk, rfl, P.now S mkBl⟩
          have Z : ∀ (hc : c ∈ cs), PySem.W.KitX X.K (.ref a) (.ref (g.ga c)) (fun h => PySem.W.InstAt h a ox (g.ga c) od) := fun hc => by
            have E := T.ex c hc
            rw [hK]
            exact PySem.W.kitx_exc (by obtain ⟨cd, hcd, _⟩ := PySem.W.any_some E.hd; rw [hcd]; rfl) E.hg E.hk E.hs E.ha E.hn E.ht E.hm
          by_cases ht : ∃ ys, x = .tup ys
          · obtain ⟨ys, rfl⟩ := ht
            obtain ⟨tp, vs, rfl, q, k⟩ := rep_tup r2
            rw [← hK] at q
            obtain ⟨dd, its, n, sl, h1, rv⟩ := sqT_get I q
            cases rb
            simp only [excSub] at hb
            split at hb
            · rename_i hc
              have hc : c ∈ cs := by simpa using hc
              obtain ⟨cvs, pk, qk⟩ := subL_kit T hb
              have e := clsD_vals pk k rv
              subst e
              exact PySem.W.kia_tup (Z hc) I.kIn J h1 (by rw [hK]; exact qk) (fun z => nomatch z) fin
            · cases hb
          · obtain ⟨cv, k, q, hc⟩ := sub_kit T hb fun ys z => ht ⟨ys, z⟩
            have e := k.val r2 rb
            subst e
            exact PySem.W.kia_one (Z hc) I.kIn J (by rw [hK]; exact q) (fun z => nomatch z) fin
    · exact P.elim
  · exact cv_isi hK pins s σ H xs us Q I r ⟨W, m, st, ds, S, rr, P⟩
end

/-! ### a field of a caught error -/
def aFld (cs : List Str) (f : Str) (d : D) (st : Sto) : Res D := match d with
  | .exc c fs => (match ((excFld c).zip fs).lookup f with
    | some v => if cs.contains c = true then .ok v st else .stuck
    | none => .stuck)
  | _ => .stuck
theorem look_put {α : Type} (f g : Str) (y : α) (fs : List (Str × α)) : ((f, y) :: fs).lookup g = if g = f then some y else fs.lookup g := by
  by_cases h : g = f
  · subst h
    simp [List.lookup]
  · have e : (g == f) = false := by simpa using h
    rw [if_neg h]
    simp [List.lookup, e]
theorem zip_look {g : Gx} {m : List Addr} {H : Hp} {f : Str} {d : D} : ∀ {ns : List Str} {fs : List D} {vs : List V}, RepL g m H fs vs → (ns.zip fs).lookup f = some d → ∃ v, (ns.zip vs).lookup f = some v ∧ Rep g m H d v ∧ f ∈ ns
  | [], _, _, _, e => by simp at e
  | n :: ns, [], _, _, e => by simp at e
  | n :: ns, x :: fs, _, r, e => by
    obtain ⟨v, rest, rfl, rv, rr⟩ := r.cons_inv
    rw [List.zip_cons_cons, look_put] at e
    rw [List.zip_cons_cons, look_put]
    by_cases h : f = n
    · rw [if_pos h] at e ⊢
      cases e
      exact ⟨v, rfl, rv, by rw [h]; exact List.mem_cons_self⟩
    · rw [if_neg h] at e ⊢
      obtain ⟨u, h1, h2, h3⟩ := zip_look rr e
      exact ⟨u, h1, h2, List.mem_cons_of_mem _ h3⟩
section
variable {X : Cx} {g : Gx} {W : WX} {cs : List Str}
theorem so_fldX {o : Expr} {mo : EM} {f : Str} {pos : Pos} (hK : X.K = g.K) (T : ExAll g cs) (ho : PE X o (rdE g W mo)) (hb : attributeBase o f X.env (eval o X.env) = eval o X.env := by rfl) :
    PE X (.Attribute o f pos) (rdE g W (e1 (aFld cs f) mo)) := by
  refine ⟨fun pins s σ H Q I ⟨m, r, st, S, E, P⟩ => ?_⟩
  have h := rdE_step (W := W) (f := fun _ => aFld cs f) S E P (K := fun x H1 => ∃ m1 d st1, Sim g m1 H1 st1 ∧ Rep g m1 H1 d x ∧ PostR g (Rep g) (wAt W σ) m1 H1 Q (aFld cs f d st1)) fun m1 H1 d x st1 _ l1 S1 E1 r1 P1 => ⟨m1, d, st1, S1, r1, P1⟩
  refine attr_of hb (thn (ho.run pins s σ H _ I h) fun u s1 ⟨x, H1, I1, rx, m1, d, st1, S1, r1, P1⟩ => ?_)
  unfold aFld at P1
  split at P1
  · rename_i c fs
    split at P1
    · rename_i y hy
      obtain ⟨a, dd, vs, rfl, ha, rl, k⟩ := rep_exc r1
      obtain ⟨v, hv, rv, hf⟩ := zip_look rl hy
      obtain rfl : u = Value.ref a := rx
      split at P1
      rotate_left
      · exact P1.elim
      rename_i hcs
      have hcs : c ∈ cs := by simpa using hcs
      have T1 := T.xf c hcs
      have hno := T.no c hcs f hf
      rw [← hK] at T1 hno
      rcases k with ⟨rfl, _⟩ | ⟨dx, rfl, hx⟩
      · simp at hy
      obtain ⟨oe, fv, h1, h2, h3, h4⟩ := excH_at I1.hok ha
      have hx' : ObjOk X.prog X.w H1 s1.heap dx (.xd _) := I1.hok dx _ hx
      obtain ⟨mA, hns, hr⟩ := hx'
      obtain ⟨od, ho, hl⟩ := lookIn_ns hns
      obtain ⟨u, hu, ru⟩ := RelO.some_of (v := v) (o := mA f) (by rw [← hv]; exact hr f)
      have J : PySem.W.InstAt s1.heap a oe (g.ga c) (some od) := ⟨h1, h2, by unfold PySem.W.notCls; rw [h4], by rw [h3]; exact ho⟩
      exact HandSPX.exc_get I1.kIn J T1.ga T1.gg T1.exC (PySem.W.findObj_own T1.hdC hno rfl (by rw [hl f, hu])) (handed_of ru) ⟨v, H1, I1.tok _, ru, P1.now S1 rv⟩
    · exact P1.elim
  · exact P1.elim

/-! ### making and raising -/
theorem pe_weinit {pl : Sem Bool} {x : Str} {B : Addr} {e : Expr} {es : List Expr} {ta : TA} {p1 p2 pos : Pos} (hg : Gl X x) (hm : X.mg x = some (.ref B)) (rd : PySem.W.readsIn X.K B (.type "type") = true) (ga : PySem.W.specialIn X.K (.ref B) "__getattribute__" = some (some (.builtin "type.__getattribute__")))
    (vi : PySem.W.findCls X.K (.ref B) (.type "type") "__init__" = some (.val (.builtin "ValueError.__init__"))) (ha : PA X (e :: es) ta) (hdb : (x == ("__debug__" : Str)) = false := by decide)
    (hc : eval (.Call (.Attribute (.Name x p1) "__init__" p2) (e :: es) [] pos) X.env = (do
      let ov ← eval (.Name x p1) X.env
      standAt p2.atName
      let (f, first) ← holding [ov] (getMethod ov "__init__" pl)
      callWith pos f first (backTo pos (starEach (e :: es) X.env)) (backToKw pos (keywordEach [] X.env))) := by rfl)
    (he : starEach (e :: es) X.env = (false, eval e X.env) :: starEach es X.env := by rfl) (hpl : (backTo pos (starEach es X.env)).any (·.1) = false := by rfl) :
    PE X (.Call (.Attribute (.Name x p1) "__init__" p2) (e :: es) [] pos) (tVeI X.K ta) := by
  refine ⟨fun pins s σ H Q I h => ?_⟩
  refine PySem.W.methodCall_KW (ld_glob I hg hm ?_ hdb) hc
  refine PySem.W.method_cls I.kIn ga (PySem.W.cls_value I.kIn rd vi rfl ?_)
  show wpAny _ _ (callWith pos (Value.builtin "ValueError.__init__") [] (backTo pos (starEach (e :: es) X.env)) []) _ _ _
  refine PyProof.Rows.callWith_method1 (thn (ha.run pos pins _ σ H _ (I.tok _) h) fun us s1 ⟨vs, H1, I1, r1, a, C, ws, ev, hl, T, ea, q⟩ => ?_) he hpl
  subst ev
  cases r1 with
  | @cons _ u0 _ ur ra rw' =>
    obtain rfl : u0 = Value.ref a := ra
    have hlen : ur.length ≤ sizeLine := by
      rw [← Paired.length rw', sizeLine_eq]
      omega
    exact oinit_ok T I1 ea hlen fun s' J => ⟨.non, H1, J, rfl, q⟩
end
/-- what __init__(self, y) of such a class does -/
def spInit (K : PySem.W.Frag) (f : Str) : Sp := fun vs H Q _ => ∃ (a C : Addr) (y : V), vs = [.ref a, y] ∧ OexC K C ∧ PySem.W.findIn K (.ref C) f = some none ∧ H a = some (exo a C none) ∧
  ∀ dx, H dx = none → dx ≠ a → Q .non (upd (upd H dx (exd dx [(f, y)])) a (exo a C (some dx)))
def tInit (K : PySem.W.Frag) (f : Str) : TS := fun D σ H => ∃ (a C : Addr) (y : V), σ[0]? = some (some (.ref a)) ∧ σ[1]? = some (some y) ∧ OexC K C ∧ PySem.W.findIn K (.ref C) f = some none ∧ H a = some (exo a C none) ∧
  ∀ dx, H dx = none → dx ≠ a → D.nx σ (upd (upd H dx (exd dx [(f, y)])) a (exo a C (some dx)))
theorem pss_init {X : Cx} {x f sf yf msg : Str} {B : Addr} {j : Nat} {p1 p2 p3 p4 p5 p6 p7 p8 p9 p10 : Pos} (hm : X.mg x = some (.ref B)) (rd : PySem.W.readsIn X.K B (.type "type") = true) (ga : PySem.W.specialIn X.K (.ref B) "__getattribute__" = some (some (.builtin "type.__getattribute__")))
    (vi : PySem.W.findCls X.K (.ref B) (.type "type") "__init__" = some (.val (.builtin "ValueError.__init__"))) (hw : PE X (.Call (.Attribute (.Name x p1) "__init__" p2) [.Name sf p3, .Constant (.str msg) j p4] [] p5) (tVeI X.K (tCons (tVar 0) (tCons (tC (.str msg)) tNil))))
    (h1 : PE X (.Name sf p7) (tVar 0)) (h2 : PE X (.Name yf p9) (tVar 1))
    (hs1 : swapsWith (.Call (.Attribute (.Name x p1) "__init__" p2) [.Name sf p3, .Constant (.str msg) j p4] [] p5) none p6.line X.env = pure false := by rfl) (hs2 : swapsWith (.Name yf p9) (some (.Attribute (.Name sf p7) f p8)) p10.line X.env = pure false := by rfl) :
    PSs X [.Expr (.Call (.Attribute (.Name x p1) "__init__" p2) [.Name sf p3, .Constant (.str msg) j p4] [] p5) p6, .Assign [.Attribute (.Name sf p7) f p8] (.Name yf p9) p10] (tInit X.K f) :=
  (pss_cons (ps_expr hw hs1) (pss_one (ps_ost h1 h2 hs2))).imp fun D σ H ⟨a, C, y, e0, e1, T, hno, ha, q⟩ => by
    refine ⟨.ref a, e0, ?_⟩
    refine ⟨a, C, [.str msg], rfl, by simp, T, ha, ?_⟩
    refine ⟨y, e1, .ref a, e0, a, C, rfl, T, hno, .inl ⟨ha, q⟩⟩
theorem fn_init {P : Program} {w : World} {K : PySem.W.Frag} {mg : Str → Option Value} {base : Heap} {x qual fl : Str} {params : Arguments} {body : List Stmt} {scope : Scope} {f : Addr} {fd : FuncData} {N ps : List Str} {k : Nat}
    (F : FunD K x qual params body scope [] [] f fd) (S : FnScope N ps scope) (hn : ps.length = 2) (hN : N.length = 2)
    (hbody : ∀ (cdv : Value) (A : Around) (outer : List PySem.Env) (s : Shared) (H : Hp) (E : XK), PSs (cxOf (L2.CX P w) P w K mg base N qual scope f cdv A outer s H E) body (tInit K fl)) : FnOk P w K mg base (L2.CX P w) (k + 1) f fd ps (spInit K fl) := by
  refine FunD.ok F S (fun vs H Q E h => ?_) fun cdv A outer s H vs Q E hr h => ⟨_, hbody cdv A outer s H E, ?_⟩
  · obtain ⟨a, C, y, rfl, _⟩ := h
    rw [hn]; rfl
  · obtain ⟨a, C, y, rfl, T, hno, ha, q⟩ := h
    match N, hN with
    | [n1, n2], _ => exact ⟨a, C, y, rfl, rfl, T, hno, ha, q⟩
section
variable {X : Cx} {g : Gx} {W : WX} {cs : List Str} {pos pos2 p : Pos} {e : Expr} {me : EM}
theorem del_upd {H : Hp} {a dx : Addr} {o1 o2 o3 o4 : HO} (ha : H a = none) (hd : dx ≠ a) : upd (del (upd (upd (upd H a o1) dx o2) a o3) a) dx o4 = upd H dx o4 := by
  funext b
  by_cases h : b = dx
  · rw [h, upd_same, upd_same]
  · rw [upd_ne h, upd_ne h]
    by_cases h2 : b = a
    · rw [h2, del_same, ha]
    · rw [del_ne h2, upd_ne h2, upd_ne h, upd_ne h2]
/-- raise x(e), x's own __init__ setting its one field -/
theorem ss_raiseX {x fl : Str} {fI : Addr} {k : Nat} {fd : FuncData} {ps : List Str} (hc : X.calm = true) (hK : X.K = g.K) (tk : Takes X W) (T : OexC X.K (g.ga x)) (hno : PySem.W.findIn X.K (.ref (g.ga x)) fl = some none) (hfl : excFld x = [fl])
    (iC : PySem.W.findIn X.K (.ref (g.ga x)) "__init__" = some (some (.ref fI))) (tI : PySem.W.typeIn X.K (.ref fI) = some (.type "function"))
    (F1 : FnOk X.prog X.w X.K X.mg X.base (L2.CX X.prog X.w) k fI fd ps (spInit X.K fl)) (hr : Room (k + 1) X.A) (hb : Binds X.K fd ps []) (hm : X.mg x = some (.ref (g.ga x))) (ha : PE X e (rdE g W me)) (hg : Gl X x := by rfl)
    (hdb : (x == ("__debug__" : Str)) = false := by decide) (he : starEach [e] X.env = (false, eval e X.env) :: starEach [] X.env := by rfl) (hpl : (backTo pos (starEach [] X.env)).any (·.1) = false := by rfl) :
    PS X (.Raise (some (.Call (.Name x p) [e] [] pos)) none pos2) (rdS g W (sRaise x 1 (aCons me aNil))) :=
  (ps_raise hc tk (pmk_oex (CX := L2.CX X.prog X.w) T iC tI F1 hr hb .nil (fun _ _ _ _ _ _ _ z => (cx_no z).elim) hg hm (so_cons ha so_nil he) hdb he hpl)).imp fun D s H ⟨m, r, st, S, E, P⟩ => by
    refine ⟨m, r, st, S, E, (PostS.ofE (R := RepL g) E P).imp fun m1 H1 vs ds st1 e1 l1 S1 rs ⟨m2, ds2, st2, e2, l2, S2, rs2, P2⟩ => ?_⟩
    rw [e1] at e2
    cases e2
    have hd : ∃ d, ds = [d] := by
      unfold aCons aNil at e1
      cases hme : me r st with
      | ok d s1 => rw [hme] at e1; simp at e1; exact ⟨d, e1.1.symm⟩
      | exc c fs s1 => rw [hme] at e1; simp at e1
      | stuck => rw [hme] at e1; simp at e1
    obtain ⟨d, rfl⟩ := hd
    obtain ⟨v, rfl, rv⟩ := rs2.one
    refine ⟨by simp, fun a hna => ⟨a, _, v, rfl, T, hno, upd_same, fun dx hdx hne => ⟨rfl, dx, [(fl, v)], upd_same, by rw [upd_ne hne, upd_same], by rw [upd_ne hne] at hdx; exact hdx, ?_⟩⟩⟩
    rw [upd_ne hne] at hdx
    rw [del_upd hna hne]
    refine P2 m2 _ s (some dx) (Later.new hdx) (S2.new hdx) ((E.later l2).later (Later.new hdx)) ⟨[v], ?_, .inr ⟨dx, rfl, ?_⟩⟩
    · exact (rs2.take 1).later (Later.new hdx)
    · rw [upd_same, hfl]
      rfl
/-- raise x('m'), x without own __init__ -/
theorem ss_raise0 {x m : Str} {j : Nat} {p2 : Pos} (hc : X.calm = true) (tk : Takes X W) (q : PySem.W.excIn X.K (g.ga x) HandSPX.veTail "ValueError.__new__" = true) (kC : PySem.W.keepIn X.K (.ref (g.ga x)) = true) (r : Raises X (.ref (g.ga x))) (hm : X.mg x = some (.ref (g.ga x))) (hg : Gl X x := by rfl)
    (hdb : (x == ("__debug__" : Str)) = false := by decide) : PS X (.Raise (some (.Call (.Name x p) [.Constant (.str m) j p2] [] pos)) none pos2) (rdS g W (sRaise x 0 (aCons (eC (.str m)) aNil))) :=
  (ps_raise hc tk (pmk_own PySem.F.excBase_ValueError q hm kC r hg hdb)).imp fun D s H ⟨m, r, st, S, E, P⟩ => P m H s none .refl S E ⟨[], .nil, .inl ⟨rfl, rfl⟩⟩
end

/-! ### try: body / except x as n: m = n -/
section
variable {X : Cx} {g : Gx} {W : WX} {cs : List Str}
/-- an error that was caught, and is no longer looked at by the machine, is tracked -/
theorem track {pins : List (Addr × Obj)} {σ : L2.St} {H : Hp} {s : Shared} {a C : Addr} {d : Option Addr} {oe : Obj} {vs : Array Value} (I : Inv X ((a, oe) :: pins) σ H s) (h1 : oe.cls = .ref C) (h2 : oe.dict = d) (h3 : oe.data = .fields vs)
    (h0 : X.s_0.heap.get? a = none) (hp : ∀ p ∈ X.pn ++ pins, p.1 ≠ a) (hc : ∀ x c, X.env.cells.lookup x = some c → c ≠ a) : Inv X pins σ (upd H a (excH a C d)) s := by
  obtain ⟨ha, hn, hL, hF, _⟩ := I.pin (a, oe) (List.mem_append_right _ List.mem_cons_self)
  have ne : ∀ {b : Addr} {o : Obj}, X.s_0.heap.get? b = some o → b ≠ a := fun {b o} e z => by rw [z, h0] at e; cases e
  refine ⟨I.ok, I.os, I.bare, ⟨I.base.keep, I.base.slot, fun b o e n hx => ?_, I.base.there, fun b xs e => ?_, fun b o u e => ?_, fun b ps e => ?_⟩, I.loc, I.cell, ?_, fun x c e => ?_, fun p hq => ?_, fun b o e => ?_, I.len⟩
  · rw [upd_ne (ne e)]; exact I.base.free b o e n hx
  · have := I.base.tups b xs e
    rw [upd_ne (ne_of_none this hn)]; exact this
  · have := I.base.frzs b o u e
    rw [upd_ne (ne_of_none this hn)]; exact this
  · obtain ⟨more, this⟩ := I.base.tbls b ps e
    exact ⟨more, by rw [upd_ne (ne_of_none this hn)]; exact this⟩
  · rw [upd_ne (Ne.symm hL)]; exact I.free
  · rw [upd_ne (hc x c e)]; exact I.freeC x c e
  · have hq' : p ∈ X.pn ++ (a, oe) :: pins := by
      rcases List.mem_append.mp hq with z | z
      · exact List.mem_append_left _ z
      · exact List.mem_append_right _ (List.mem_cons_of_mem _ z)
    obtain ⟨e1, e2, e3, e4, e5⟩ := I.pin p hq'
    exact ⟨e1, by rw [upd_ne (hp p hq)]; exact e2, e3, e4, e5⟩
  · by_cases hb : b = a
    · subst hb
      rw [upd_same] at e
      cases e
      exact excH_ok ha h1 h2 h3
    · rw [upd_ne hb] at e
      exact (I.hok b o e).stay (fun _ _ _ z => z) (fun c hc => by rw [upd_ne (ne_of_none hc hn)]; exact hc) (fun c xs hc => by rw [upd_ne (ne_of_none hc hn)]; exact hc)
/-- what is wished of an error within the body -/
def wTryAs (g : Gx) (Wout : WX) (D : Ends) (sub : Str → Option Bool) (i j : Nat) : WX := fun cls d σ H =>
  ∃ c fs m r st, cls = .ref (g.ga c) ∧ Sim g m H st ∧ RepE g m H r σ ∧ ExcF g m H c fs d ∧ PostS g Wout m H D (match sub c with
    | some true => if i < r.length ∧ j < r.length then .nx (((r.set i (some (.exc c fs))).set j (some (.exc c fs))).set i none) st else .stuck
    | some false => .exc c fs r st
    | none => .stuck)
theorem ss_tryAs {x n y : Str} {i j : Nat} {body : List Stmt} {mb : SM} {np p1 p2 p3 pos pos' : Pos} {Wout : WX} (hs : X.stack = X.env :: X.outer) (hf : X.env.frame = some X.env.locals) (hex : X.ex = []) (hN : X.N.Nodup) (T : ExAll g cs) (hK : X.K = g.K)
    (hx : x ∈ ("WebError" : Str) :: cs) (hm : X.mg x = some (.ref (g.ga x))) (tk : Takes X Wout)
    (hb : ∀ (W : WX) (pn : List (Addr × Obj)) (xe : Value → Shared → Prop), Takes (X.tr pn xe) W → PSs (X.tr pn xe) body (rdS g W mb))
    (hi : X.N[i]? = some n := by rfl) (hln : X.env.kindOf n = some .local := by rfl) (hj : X.N[j]? = some y := by rfl) (hly : X.env.kindOf y = some .local := by rfl) (hg : Gl X x := by rfl) (hdb : (x == ("__debug__" : Str)) = false := by decide)
    (hd1 : (n == ("__debug__" : Str)) = false := by decide) (hd2 : (n == ("__classdict__" : Str)) = false := by decide)
    (hsw : swapsWith (.Name n p2) (some (.Name y p1)) p3.line X.env = pure false := by rfl) :
    PS X (.Try body [.ExceptHandler (some (.Name x np)) (some n) [.Assign [.Name y p1] (.Name n p2) p3] pos'] [] [] pos) (rdS g Wout (sTryAs (excSub cs (.gl x)) mb i j)) := by
  refine ⟨fun pins s σ H D I h => ?_⟩
  have ok := I.ok
  have hfr : X.A.frames = some (X.env :: X.outer) := by rw [ok.frames, hs]
  refine wpAny_Try_except ?_
  have hbody : rdS g (wTryAs g Wout D (excSub cs (.gl x)) i j) mb D σ H := by
    obtain ⟨m, r, st, S, E, P⟩ := h
    refine ⟨m, r, st, S, E, ?_⟩
    unfold sTryAs at P
    cases hmb : mb r st with
    | nx r1 st1 => rw [hmb] at P; exact P
    | ret d st1 => rw [hmb] at P; exact P
    | stuck => rw [hmb] at P; exact P
    | exc c fs r1 st1 =>
      rw [hmb] at P
      exact fun m' H' s' d l S' E' F' => ⟨c, fs, m', r1, st1, rfl, S', E', F', PostS.later l P⟩
  refine wpAny_mono ((hb (wTryAs g Wout D (excSub cs (.gl x)) i j) (X.pn ++ pins) (fun e s₁ => wpAny (model X.prog X.w) X.A (noteFrame e X.env) (fun _ s₂ => wpAny (model X.prog X.w) X.A (setFlight e none) (fun _ s₃ =>
    wpAny (model X.prog X.w) X.A (handleBy e X.env [.ExceptHandler (some (.Name x np)) (some n) [.Assign [.Name y p1] (.Name n p2) p3] pos']) (SP X pins D) X.xe s₃) X.xe s₂) X.xe s₁) (fun u s' xx => ?_)).run [] s σ H D (I.toTry _) hbody) (fun f s1 hsp => ?_) (fun e s1 he => he)
  · -- the catch
    obtain ⟨a, B, sI, pins', σ', H', cls, d, rfl, J', nb, up, sky, na, os, ag, c, fs, m, r, st, rfl, S, E, F, P⟩ := xx
    have J : Inv X pins σ' H' sI := J'.ofTry ok
    have sky' : Sky B (X.env :: X.outer) a (Zc (.ref (g.ga c)) d) X.env.locals s'.heap := by rw [← hs]; exact sky
    show wpAny (model X.prog X.w) X.A (noteFrame (.ref a) X.env) _ _ _
    refine Sky.land Zc.steady hfr hf sky' fun h3 fl3 up3 => ?_
    have J3 : Inv X pins σ' H' { s' with heap := h3 } := J.landed nb fl3.1 (up.trans up3) os ag
    obtain ⟨oe3, vs3, he3, hz3, hd3⟩ := fl3.there
    have notFr : ∀ {h : Heap} {o : Obj} {vs : Array Value}, h.FunFrames B (X.env :: X.outer) → h.get? a = some o → o.data = .fields vs → a ∉ frs (X.env :: X.outer) := fun {h o vs} ff e dd hm => by
      obtain ⟨_, o', e', hnf⟩ := ff.mem hm
      rw [e] at e'; cases e'
      exact hnf _ dd
    have nfr := notFr fl3.2.2.1 he3 hd3
    have nL : a ≠ X.env.locals := fun z => nfr (List.mem_filterMap.mpr ⟨X.env, List.mem_cons_self, by rw [hf, z]⟩)
    have nF : a ∉ X.fs := fun hm => by
      obtain ⟨e, he, q⟩ := List.mem_filterMap.mp hm
      exact nfr (List.mem_filterMap.mpr ⟨e, List.mem_cons_of_mem _ he, q⟩)
    -- it is new
    have nI : sI.heap.get? a = none := by
      cases q : sI.heap.get? a with
      | none => rfl
      | some o =>
        have z := nb a o q (by rw [hs]; exact nfr)
        rw [fl3.2.1] at z
        cases z
    have n0 : X.s_0.heap.get? a = none := by
      cases q : X.s_0.heap.get? a with
      | none => rfl
      | some o =>
        obtain ⟨o', z⟩ := J.base.there a o q (by rw [hex]; exact List.not_mem_nil)
        rw [nI] at z
        cases z
    have np_ : ∀ p ∈ X.pn ++ pins, p.1 ≠ a := fun p hp z => by
      have := (J.pin p hp).1
      rw [z, nI] at this
      cases this
    have nc : ∀ x c, X.env.cells.lookup x = some c → c ≠ a := fun x c e z => by
      obtain ⟨v, hv⟩ := J.cell x c e
      obtain ⟨o, q, _⟩ := hv
      rw [z, nI] at q
      cases q
    have S3 := J3.suite he3 hd3 na nL nF
    have hxs : ∃ b, excSub cs (.gl x) c = some b ∧ PySem.W.exmOne X.K (.ref (g.ga c)) (.ref (g.ga x)) = some b := by
      cases hq : excSub cs (.gl x) c with
      | none => rw [hq] at P; exact P.elim
      | some b =>
        simp only [excSub] at hq
        split at hq
        · rename_i h1
          cases hq
          exact ⟨_, rfl, by rw [hK]; exact T.exm c (by simpa using h1.1) x hx⟩
        · cases hq
    obtain ⟨b, hb0, hb1⟩ := hxs
    rw [hb0] at P
    refine wpAny_handleBy_cons (codeAny_handlers_test ?_) (by intro q; cases q)
    have LT : PySem.W.Looks (model X.prog X.w) h3 (typeOf (.ref a)) (.ref (g.ga c)) := fun A Q E s k q => wpAny_typeOf_ref (k _ _ he3) (by rw [hz3.1]; exact q)
    have LM := PySem.W.exm_one (M := model X.prog X.w) (J3.kIn) LT hb1
    refine ld_glob (X := X.suite a ((a, oe3) :: (X.pn ++ pins))) S3 hg hm (LM.here ?_) hdb
    cases b with
    | true =>
      refine codeAny_handlers_suite_as ?_
      refine HandSPX.lands_againZ fl3 fun h4 fl4 up4 => ?_
      have J4 : Inv X pins σ' H' { s' with heap := h4 } := J.landed nb fl4.1 ((up.trans up3).trans up4) os ag
      obtain ⟨oe4, vs4, he4, hz4, hd4⟩ := fl4.there
      have S4 := J4.suite he4 hd4 na nL nF
      have hlN : X.N.length = r.length := by rw [← J.len, E.len]
      refine store_ok (X := X.suite a ((a, oe4) :: (X.pn ++ pins))) (v := .ref a) S4 hN hi (.inl hln) rfl (fun s5 S5 => ?_) (.inr hln)
      have hilt : i < (X.suite a ((a, oe4) :: (X.pn ++ pins))).N.length := (List.getElem?_eq_some_iff.mp hi).1
      have hv : (σ'.set i (some (V.ref a)))[i]? = some (some (.ref a)) := List.getElem?_set_self (by rw [J.len]; exact hilt)
      have hsuite := pss_one (ps_set (X := X.suite a ((a, oe4) :: (X.pn ++ pins))) (pos' := p1) (pos := p3) hN hj (.inl hly) (pe_var (pos := p2) hi (.inl hln) hd1 hd2) hsw (.inr hly))
      refine wpAny_mono (hsuite.run [] s5 _ H' { nx := fun σ1 H1 => σ1 = (σ'.set i (some (V.ref a))).set j (some (.ref a)) ∧ H1 = H', rt := fun _ _ => False } S5 ⟨.ref a, hv, rfl, rfl⟩) (fun f s6 hsp => ?_) (fun _ _ z => False.elim z)
      cases f with
      | next =>
        obtain ⟨σ6, H6, S6, rfl, rfl⟩ := hsp
        have J6 : Inv X ((a, oe4) :: pins) ((σ'.set i (some (V.ref a))).set j (some (.ref a))) H6 s6 := ⟨ok, S6.os, S6.bare, S6.base, S6.loc, S6.cell, S6.free, S6.freeC, fun p hp => S6.pin p (List.mem_append_left _ (by
          rcases List.mem_append.mp hp with z | z
          · exact List.mem_cons_of_mem _ (List.mem_append_left _ z)
          · rcases List.mem_cons.mp z with z | z
            · rw [z]; exact List.mem_cons_self
            · exact List.mem_cons_of_mem _ (List.mem_append_right _ z))), S6.hok, S6.len⟩
        refine gone_ok J6 hN hi hln fun s7 J7 => ?_
        have J8 := track J7 hz4.1 hz4.2 hd4 n0 np_ nc
        refine ⟨_, _, J8, ?_⟩
        simp only at P
        have hl : i < r.length ∧ j < r.length := by
          by_cases z : i < r.length ∧ j < r.length
          · exact z
          · rw [if_neg z] at P; exact P.elim
        rw [if_pos hl] at P
        have LL : Later m H6 m (upd H6 a (excH a (g.ga c) d)) := Later.new na
        obtain ⟨vs, rv, k⟩ := F
        have rr : Rep g m (upd H6 a (excH a (g.ga c) d)) (.exc c fs) (.ref a) := by
          simp only [Rep]
          refine ⟨a, d, vs, rfl, upd_same, rv.later LL, ?_⟩
          rcases k with k | ⟨dx, k1, k2⟩
          · exact .inl k
          · exact .inr ⟨dx, k1, LL.imm _ _ k2 (.xd _ _)⟩
        exact P m _ _ LL (S.new na) ((((E.later LL).set i rr).set j rr).unset i)
      | brk =>
        obtain ⟨_, _, _, z⟩ := hsp
        exact z.elim
      | cont =>
        obtain ⟨_, _, _, z⟩ := hsp
        exact z.elim
      | ret u =>
        obtain ⟨_, _, _, _, _, z⟩ := hsp
        exact z.elim
    | false =>
      show wpAny _ X.A (handleBy (.ref a) X.env []) _ _ _
      refine wpAny_handleBy_nil ?_
      obtain ⟨k1, k2, k3, oe, vs, T', oT, ts', he, hz, hd, h1, hr⟩ := id fl3
      unfold PySem.passOn
      refine wpAny_bind (wpAny_field he hd h1 ?_)
      rw [if_neg (show ¬ ((Value.ref T' == Value.none) = true) from by simp)]
      have fin : wpAny (model X.prog X.w) X.A (setFlight (.ref a) X.env.frame) (fun _ s4 => wpAny (model X.prog X.w) X.A (throw (.ref a) : Sem Flow) (SP X pins D) X.xe s4) X.xe { s' with heap := h3 } := by
        rw [hf]
        refine HandSPX.setFlight_upZ fl3 fun h4 hh4 up4 => wpAny_throw (tk _ _ ?_)
        exact ⟨a, B, sI, pins, σ', H', .ref (g.ga c), d, rfl, J, nb, (up.trans up3).trans up4, .inr (.inr (by rw [hs]; exact hh4)), na, os, ag, P m H' σ' d .refl S E F⟩
      first
        | exact wpAny_bind (wpAny_pure (wpAny_bind fin))
        | exact wpAny_bind fin
  · cases f with
    | next =>
      obtain ⟨σ', H', J', q⟩ := hsp
      exact wpAny_execs_nil ⟨σ', H', J'.ofTry ok, q⟩
    | brk =>
      obtain ⟨σ', H', J', q⟩ := hsp
      exact ⟨σ', H', J'.ofTry ok, q⟩
    | cont =>
      obtain ⟨σ', H', J', q⟩ := hsp
      exact ⟨σ', H', J'.ofTry ok, q⟩
    | ret u =>
      obtain ⟨v, σ', H', J', r, q⟩ := hsp
      exact ⟨v, σ', H', J'.ofTry ok, r, q⟩
end

/-! ### a def that a local name holds -/
theorem mem_of_look {α : Type} {y : Str} {F : α} : ∀ {l : List (Str × α)}, l.lookup y = some F → (y, F) ∈ l
  | [], h => by cases h
  | (q1, q2) :: l, h => by
    rw [look_put] at h
    by_cases e : y = q1
    · rw [if_pos e] at h
      cases h
      rw [e]
      exact List.mem_cons_self
    · rw [if_neg e] at h
      exact List.mem_cons_of_mem _ (mem_of_look h)
abbrev Tbl := List (Str × (List D → Sto → Res D))
def eCallL (i : Nat) (tbl : Tbl) (as : AM) : EM := fun r st => match r[i]? with
  | some (some (.gl x)) => (match tbl.lookup x with
    | some F => (as r st).bind F
    | none => .stuck)
  | _ => .stuck
section
variable {X : Cx} {g : Gx} {W : WX} {pos p : Pos} {a : Expr} {es : List Expr} {as : AM}
/-- what is known of a def that may stand there -/
structure HeldG (X : Cx) (g : Gx) (x : Str) (F : List D → Sto → Res D) : Prop where
  ex : ∃ (n k : Nat) (fd : FuncData) (ps : List Str), GnOk X.prog X.w X.K X.mg X.base k (g.ga x) fd ps (spOf g n F) ∧ Arity n F ∧ Room k X.A ∧ PySem.W.keepIn X.K (.ref (g.ga x)) = true ∧ Binds X.K fd ps []
theorem so_callL {i : Nat} {x : Str} {tbl : Tbl} (hT : ∀ x F, (x, F) ∈ tbl → HeldG X g x F) (hgd : X.A.guards = some []) (tk : Takes X W) (ha : PA X (a :: es) (rdA g W as)) (hN : X.N[i]? = some x := by rfl) (hv : Vis X.env.scope x := by first | exact Or.inl rfl | exact Or.inr (Or.inl rfl) | exact Or.inr (Or.inr rfl))
    (hd : (x == ("__debug__" : Str)) = false := by decide) (hcd : (x == ("__classdict__" : Str)) = false := by decide)
    (he : starEach (a :: es) X.env = (false, eval a X.env) :: starEach es X.env := by rfl) (hpl : (backTo pos (starEach es X.env)).any (·.1) = false := by rfl) : PE X (.Call (.Name x p) (a :: es) [] pos) (rdE g W (eCallL i tbl as)) := by
  refine ⟨fun pins s σ H Q I ⟨m, r, st, S, E, P⟩ => ?_⟩
  unfold eCallL at P
  split at P
  · rename_i y hy
    split at P
    · rename_i F hF
      obtain ⟨v, hv1, hv2⟩ := E.at_ i _ hy
      simp only [Rep] at hv2
      subst hv2
      have mem : (y, F) ∈ tbl := mem_of_look hF
      obtain ⟨n, k, fd, ps, Fn, ar, hr, hk, hb⟩ := (hT y F mem).ex
      refine wpAny_Call_Name_kw (thn ((pe_var (pos := p) hN hv hd hcd).run pins s σ H (fun v H1 => v = .ref (g.ga y) ∧ H1 = H) I ⟨.ref (g.ga y), hv1, rfl, rfl⟩) fun u s1 ⟨v, H1, I1, r1, q1⟩ => ?_)
      obtain ⟨rfl, rfl⟩ := q1
      cases r1
      have q : rdA g W as σ H1 fun vs H2 => spOf g n F vs H2 Q (WE W σ) := rdA_call (fun m H r st ds st1 vs _ _ ⟨_, _, P⟩ => by
        by_cases h : ds.length = n
        · exact h
        · rw [ar ds st1 h] at P
          exact P.elim) ⟨m, r, st, S, E, P⟩
      exact PySem.W.callWith_K (h₀ := X.base) I.ok.mod.kin hk (thn (ha.run pos pins s1 σ _ _ I1 q) fun us s2 ⟨vs, H2, I2, r2, q2⟩ => ⟨I2.kIn, run_gn (E := WE W) Fn hgd hr hb (passAt tk σ) I2 r2 q2⟩) he hpl
    · exact P.elim
  · exact P.elim
end
end TB

end

/-! ## TbHead -/
section
set_option linter.all false
set_option autoImplicit false
set_option maxRecDepth 100000
/-! What the head hands to the walk: defs by names, facts, and one more truth about the written part. -/
namespace TB
open PySem PySem.Spec PyProof.Rows L2

abbrev AlP : Type := He.AlD × Bool
def obsP (n : Nat) (fa : List He.Fa) (fn : List He.DefD) (ex : PySem.W.Frag → Bool) (g : Addr → Option Obj) : AlP := (He.obsD fa fn (He.frG g (cStatics :: He.asD g n)), ex (He.frG g (cStatics :: He.asD g n)))
structure SaysP (fa : List He.Fa) (fn : List He.DefD) (ex : PySem.W.Frag → Bool) (K : PySem.W.Frag) : Prop where
  d : He.SaysD fa fn K
  x : ex K = true
def hookP (n : Nat) (fa : List He.Fa) (fn : List He.DefD) (ex : PySem.W.Frag → Bool) : PySem.W.Hook where
  α := AlP
  obs := fun s => obsP n fa fn ex s.heap.get?
  val := fun _ => (He.valD fn, true)
  says := fun _ h => ∃ K : PySem.W.Frag, K.In h ∧ SaysP fa fn ex K
  of := fun _ _ e => ⟨_, He.frG_in, congrArg (fun z : AlP => z.1) e, congrArg (fun z : AlP => z.2) e⟩
  keeps := fun _ _ _ ⟨K, hK, c⟩ k => ⟨K, PySem.W.Frag.In.keeps hK k, c⟩
theorem obsP_eq {n : Nat} {fa : List He.Fa} {fn : List He.DefD} {ex : PySem.W.Frag → Bool} {g : Addr → Option Obj} {s : Shared} (h : ∀ a, g a = s.heap.get? a) : obsP n fa fn ex g = (hookP n fa fn ex).obs s := by
  have e : g = s.heap.get? := funext h
  rw [e] <;> rfl
/-- a class's own __init__ over another own class's, and what is asked of it -/
structure InitC (K : PySem.W.Frag) (B C fI : Addr) (f : Str) : Prop where
  rd : PySem.W.readsIn K B (.type "type") = true
  ga : PySem.W.specialIn K (.ref B) "__getattribute__" = some (some (.builtin "type.__getattribute__"))
  vi : PySem.W.findCls K (.ref B) (.type "type") "__init__" = some (.val (.builtin "ValueError.__init__"))
  ox : OexC K C
  no : PySem.W.findIn K (.ref C) f = some none
  ic : PySem.W.findIn K (.ref C) "__init__" = some (some (.ref fI))
  ti : PySem.W.typeIn K (.ref fI) = some (.type "function")
def oexB (K : PySem.W.Frag) (C : Addr) : Bool := (match K.lookup C with
  | some ⟨.type t, _, .cls cd, sl⟩ => decide (t = "type") && decide (cd.mro.head? = some (.ref C)) && PySem.HandSPX.refsVE cd.mro.tail && cd.hasDict && !cd.hasDel && (match sl.toList with
    | [_, _, _, _, some (.builtin n), _] => decide (n = "ValueError.__new__")
    | _ => false)
  | _ => false) &&
  decide (PySem.W.findIn K (.ref C) "__setattr__" = some (some (.builtin "object.__setattr__"))) && decide (PySem.W.subIn K (.ref C) (.type "BaseException") = some true) &&
  decide (PySem.W.typeIn K (.ref C) = some (.type "type")) && PySem.W.keepIn K (.ref C)
theorem oexB_ok {K : PySem.W.Frag} {C : Addr} (h : oexB K C = true) : OexC K C := by
  unfold oexB at h
  simp only [Bool.and_eq_true, decide_eq_true_eq] at h
  obtain ⟨⟨⟨⟨h1, h2⟩, h3⟩, h4⟩, h5⟩ := h
  refine ⟨?_, h2, h3, h4, h5⟩
  split at h1
  · rename_i t dd cd sl hl
    simp only [Bool.and_eq_true, decide_eq_true_eq, Bool.not_eq_true'] at h1
    obtain ⟨⟨⟨⟨⟨rfl, a2⟩, a3⟩, a4⟩, a5⟩, a6⟩ := h1
    split at a6
    · rename_i k0 k1 k2 k3 n k5 hs
      have a6 := of_decide_eq_true a6
      subst a6
      obtain ⟨nm, bs, mro, ns, qn, hd, sn, sb, ab, col, del⟩ := cd
      dsimp only at a2 a3 a4 a5
      subst a4 a5
      obtain ⟨l⟩ := sl
      simp only at hs
      subst hs
      cases mro with
      | nil => cases a2
      | cons m0 mr =>
        cases a2
        exact ⟨nm, qn, ns, bs, mr, sn, sb, ab, col, dd, k0, k1, k2, k3, k5, hl, a3⟩
    · cases a6
  · cases h1
def initB (K : PySem.W.Frag) (B C fI : Addr) (f : Str) : Bool :=
  PySem.W.readsIn K B (.type "type") && decide (PySem.W.specialIn K (.ref B) "__getattribute__" = some (some (.builtin "type.__getattribute__"))) &&
  (match PySem.W.findCls K (.ref B) (.type "type") "__init__" with
    | some (.val v) => decide (v = .builtin "ValueError.__init__")
    | _ => false) && oexB K C && decide (PySem.W.findIn K (.ref C) f = some none) &&
  decide (PySem.W.findIn K (.ref C) "__init__" = some (some (.ref fI))) && decide (PySem.W.typeIn K (.ref fI) = some (.type "function"))
theorem initB_ok {K : PySem.W.Frag} {B C fI : Addr} {f : Str} (h : initB K B C fI f = true) : InitC K B C fI f := by
  unfold initB at h
  simp only [Bool.and_eq_true, decide_eq_true_eq] at h
  obtain ⟨⟨⟨⟨⟨⟨h1, h2⟩, h3⟩, h4⟩, h5⟩, h6⟩, h7⟩ := h
  refine ⟨h1, h2, ?_, oexB_ok h4, h5, h6, h7⟩
  split at h3
  · rename_i v hv
    rw [hv, of_decide_eq_true h3]
  · cases h3
end TB

end

/-! ## TbLaw -/
section
set_option linter.all false
set_option autoImplicit false
set_option maxRecDepth 100000
/-! What a law's text leans on: facts by number, defs by name. -/
namespace TB
open PySem PySem.Spec PyProof.Rows L2

abbrev gx (K : PySem.W.Frag) : Gx := ⟨K, He.ga K⟩
theorem u1 {k : Nat} {A : Around} (r : Room k A) : A.units + 1 < cLine := by have := r.un; omega
theorem u64 {k : Nat} {A : Around} (r : Room k A) : A.units + 64 < cLine := by have := r.un; omega
theorem u65 {k : Nat} {A : Around} (r : Room k A) : A.units + 65 < cLine := by have := r.un; omega
theorem takes0 {X : Cx} : Takes X W0 := fun u s' ⟨_, _, _, _, _, _, _, _, _, _, _, _, _, _, _, _, z⟩ => z.elim
theorem calm_nil : ∀ a ∈ ([] : List GM), Calm a := fun _ h => by cases h
theorem calm_cons {a : GM} {as : List GM} (h : Calm a) (k : ∀ b ∈ as, Calm b) : ∀ b ∈ a :: as, Calm b := fun b hb => by
  rcases List.mem_cons.mp hb with e | e
  · rw [e]; exact h
  · exact k b e
/-- targets of a comprehension, as HandS has them -/
theorem lg_V {X : Cx} {i : Nat} {x : Str} {pos : Pos} (hN : X.N.Nodup) (hi : X.N[i]? = some x := by rfl) (hx : Loc X.env.scope x := by first | exact Or.inl rfl | exact Or.inr rfl)
    (hf : X.fn x = true ∨ X.env.scope.names.lookup x = some .local := by first | exact .inl rfl | exact .inr rfl) : PG X (.Name x pos) (gName i) := pg_name hN hi hx hf
theorem lg_nil {X : Cx} : PGs X [] gNil := pgs_nil
theorem lg_cons {X : Cx} {e : Expr} {es : List Expr} {t : TG} {u : TGs} (h1 : PG X e t) (h2 : PGs X es u) (hs : (assignEach (e :: es) X.env).map (·.2) = assign e X.env :: (assignEach es X.env).map (·.2) := by rfl) : PGs X (e :: es) (gCons t u) := pgs_cons h1 h2 hs
theorem lg_tup {X : Cx} {es : List Expr} {k : Nat} {pos : Pos} {t : TGs} {n : Nat} (hc : X.calm = true) (h : PGs X es t)
    (hn : (assignEach es X.env).length = n := by rfl) (hst : (assignEach es X.env).findIdx? (·.1) = none := by rfl) : PG X (.Tuple es k pos) (L2.gTup X.K n t) := pg_tup hc h hn hst
structure Cs (fa : List He.Fa) (fn : List He.DefD) (ex : PySem.W.Frag → Bool) (K : PySem.W.Frag) (mg : Str → Option Value) : Prop where
  s : SaysP fa fn ex K
  m : ∃ h, K.In h ∧ h.Ns mainGlobals mg
section
variable {fa : List He.Fa} {fn : List He.DefD} {ex : PySem.W.Frag → Bool} {K : PySem.W.Frag} {mg : Str → Option Value}
theorem Cs.glo (c : Cs fa fn ex K mg) (i : Nat) {x : Str} (h : fa[i]? = some (.glo x) := by rfl) : mg x = some (.ref (He.ga K x)) := by
  obtain ⟨hp, h1, h2⟩ := c.m
  exact He.glo_ok h1 h2 (c.s.d.fact i h)
theorem Cs.free (c : Cs fa fn ex K mg) (i : Nat) {x : Str} (h : fa[i]? = some (.free x) := by rfl) : mg x = none := by
  obtain ⟨hp, h1, h2⟩ := c.m
  exact He.free_ok h1 h2 (c.s.d.fact i h)
theorem Cs.int (c : Cs fa fn ex K mg) (i : Nat) {x : Str} {z : Int} (h : fa[i]? = some (.int x z) := by rfl) : ∃ t, mg x = some (.int z t) := by
  obtain ⟨hp, h1, h2⟩ := c.m
  exact He.int_ok h1 h2 (c.s.d.fact i h)
theorem Cs.str (c : Cs fa fn ex K mg) (i : Nat) {x z : Str} (h : fa[i]? = some (.str x z) := by rfl) : ∃ t, mg x = some (.str z t) := by
  obtain ⟨hp, h1, h2⟩ := c.m
  exact He.str_ok h1 h2 (c.s.d.fact i h)
theorem Cs.exq (c : Cs fa fn ex K mg) (i : Nat) {x : Str} (h : fa[i]? = some (.exc x) := by rfl) : PySem.W.excIn K (He.ga K x) HandSPX.veTail "ValueError.__new__" = true ∧ PySem.W.keepIn K (.ref (He.ga K x)) = true := by
  have := He.exc_ok (c.s.d.fact i h)
  exact ⟨this.1, this.2.1⟩
theorem Cs.exr (c : Cs fa fn ex K mg) (i : Nat) {x : Str} {X : Cx} (hK : X.K = K := by rfl) (h : fa[i]? = some (.exc x) := by rfl) : Raises X (.ref (He.ga K x)) := by
  have := He.exc_ok (c.s.d.fact i h)
  exact raises_own (by rw [hK]; exact this.2.2.1) (by rw [hK]; exact this.2.2.2)
theorem Cs.def_ (c : Cs fa fn ex K mg) (i : Nat) {d : He.DefD} (h : fn[i]? = some d := by rfl) : ∃ fd, FunD K d.name d.qual d.params d.body d.scope (d.dvs K) (d.kws K) (He.fAd K d.at_) fd := c.s.d.def_ i h
end
/-- a def keeps what its function says -/
structure Fok (P : Program) (w : World) (K : PySem.W.Frag) (mg : Str → Option Value) (base : Heap) (x : Str) (k q : Nat) (F : List D → Sto → Res D) : Prop where
  ex : ∃ (fd : FuncData) (ps : List Str), GnOk P w K mg base k (He.ga K x) fd ps (spOf (gx K) q F) ∧ L2.Binds K fd ps [] ∧ PySem.W.keepIn K (.ref (He.ga K x)) = true
  ar : Arity q F
theorem gok {P : Program} {w : World} {K : PySem.W.Frag} {mg : Str → Option Value} {base : Heap} {x x' qual : Str} {params : Arguments} {body : List Stmt} {scope : Scope} {fd : FuncData} {N ps : List Str} {k n q : Nat} {b : SM}
    (F : FunD K x' qual params body scope [] [] (He.ga K x) fd) (S : FnScope N ps scope) (hn : ps.length = q) (hN : N.length = n)
    (hbody : ∀ (cdv : Value) (A : Around) (outer : List PySem.Env) (s : Shared) (H : Hp) (E : XK), A.guards = some [] → Room k (A.deeper (envOfC qual scope s.heap.objs.size (He.ga K x) cdv)) →
      Takes (cxOf (L2.CX P w) P w K mg base N qual scope (He.ga K x) cdv A outer s H E) (fun c d _ H => E c d H) →
      PassesOwn (model P w) (A.deeper (envOfC qual scope s.heap.objs.size (He.ga K x) cdv)) (envOfC qual scope s.heap.objs.size (He.ga K x) cdv) (cxOf (L2.CX P w) P w K mg base N qual scope (He.ga K x) cdv A outer s H E).xe →
      PSs (cxOf (L2.CX P w) P w K mg base N qual scope (He.ga K x) cdv A outer s H E) body (rdS (gx K) (fun c d _ H => E c d H) b)) : GnOk P w K mg base (k + 1) (He.ga K x) fd ps (spOf (gx K) q (runF q n b)) :=
  fn_okG F S hn hN fun cdv A outer s H E hgd hr => hbody cdv A outer s H E hgd hr (takes_of (X := cxOf (L2.CX P w) P w K mg base N qual scope (He.ga K x) cdv A outer s H E) rfl rfl rfl rfl) (passes_of (X := cxOf (L2.CX P w) P w K mg base N qual scope (He.ga K x) cdv A outer s H E) (K := fun e s'' => L2.CX P w outer H s E e s'') rfl)
theorem fok {P : Program} {w : World} {K : PySem.W.Frag} {mg : Str → Option Value} {base : Heap} {x x' qual : Str} {params : Arguments} {body : List Stmt} {scope : Scope} {fd : FuncData} {N ps : List Str} {k n q : Nat} {b : SM}
    (F : FunD K x' qual params body scope [] [] (He.ga K x) fd) (S : FnScope N ps scope) (hn : ps.length = q) (hN : N.length = n) (hb : L2.Binds K fd ps [])
    (hbody : ∀ (cdv : Value) (A : Around) (outer : List PySem.Env) (s : Shared) (H : Hp) (E : XK), A.guards = some [] → Room k (A.deeper (envOfC qual scope s.heap.objs.size (He.ga K x) cdv)) →
      Takes (cxOf (L2.CX P w) P w K mg base N qual scope (He.ga K x) cdv A outer s H E) (fun c d _ H => E c d H) →
      PassesOwn (model P w) (A.deeper (envOfC qual scope s.heap.objs.size (He.ga K x) cdv)) (envOfC qual scope s.heap.objs.size (He.ga K x) cdv) (cxOf (L2.CX P w) P w K mg base N qual scope (He.ga K x) cdv A outer s H E).xe →
      PSs (cxOf (L2.CX P w) P w K mg base N qual scope (He.ga K x) cdv A outer s H E) body (rdS (gx K) (fun c d _ H => E c d H) b)) : Fok P w K mg base x (k + 1) q (runF q n b) :=
  ⟨⟨fd, ps, gok F S hn hN hbody, hb, F.kp⟩, runF_arity _ _ _⟩
section
variable {X : Cx} {W : WX} {pos p : Pos} {a : Expr} {es : List Expr} {as : AM}
theorem so_callF {x : Str} {k q : Nat} {F : List D → Sto → Res D} (Fn : Fok X.prog X.w X.K X.mg X.base x k q F) (hgd : X.A.guards = some []) (hr : Room k X.A) (hm : X.mg x = some (.ref (He.ga X.K x))) (tk : Takes X W) (ha : PA X (a :: es) (rdA (gx X.K) W as)) (hg : Gl X x := by rfl)
    (hdb : (x == ("__debug__" : Str)) = false := by decide) (he : starEach (a :: es) X.env = (false, eval a X.env) :: starEach es X.env := by rfl) (hpl : (backTo pos (starEach es X.env)).any (·.1) = false := by rfl) :
    PE X (.Call (.Name x p) (a :: es) [] pos) (rdE (gx X.K) W (eN F as)) := by
  obtain ⟨fd, ps, h1, h2, h3⟩ := Fn.ex
  exact so_callG h1 Fn.ar hgd hr hm h3 h2 tk ha hg hdb he hpl
theorem held_nil : ∀ x F, (x, F) ∈ ([] : Tbl) → HeldG X (gx X.K) x F := fun _ _ h => by cases h
theorem held_cons {x : Str} {k q : Nat} {F : List D → Sto → Res D} {t : Tbl} (Fn : Fok X.prog X.w X.K X.mg X.base x k q F) (hr : Room k X.A) (h : ∀ x F, (x, F) ∈ t → HeldG X (gx X.K) x F) : ∀ y G, (y, G) ∈ (x, F) :: t → HeldG X (gx X.K) y G := fun y G m => by
  rcases List.mem_cons.mp m with e | e
  · cases e
    obtain ⟨fd, ps, h1, h2, h3⟩ := Fn.ex
    exact ⟨q, k, fd, ps, h1, Fn.ar, hr, h3, h2⟩
  · exact h y G e
/-- a class whose own __init__ sets one field -/
structure Rok (P : Program) (w : World) (K : PySem.W.Frag) (mg : Str → Option Value) (base : Heap) (x fl : Str) : Prop where
  ex : ∃ (fI : Addr) (fd : FuncData) (ps : List Str), FnOk P w K mg base (L2.CX P w) 1 fI fd ps (spInit K fl) ∧ L2.Binds K fd ps [] ∧ InitC K (He.ga K "WebError") (He.ga K x) fI fl
  fl : excFld x = [fl]
theorem ss_raiseF {x fl : Str} {e : Expr} {me : EM} {pos2 : Pos} (R : Rok X.prog X.w X.K X.mg X.base x fl) (hc : X.calm = true) (tk : Takes X W) (hr : Room 2 X.A) (hm : X.mg x = some (.ref (He.ga X.K x))) (ha : PE X e (rdE (gx X.K) W me)) (hg : Gl X x := by rfl)
    (hdb : (x == ("__debug__" : Str)) = false := by decide) (he : starEach [e] X.env = (false, eval e X.env) :: starEach [] X.env := by rfl) (hpl : (backTo pos (starEach [] X.env)).any (·.1) = false := by rfl) :
    PS X (.Raise (some (.Call (.Name x p) [e] [] pos)) none pos2) (rdS (gx X.K) W (sRaise x 1 (aCons me aNil))) := by
  obtain ⟨fI, fd, ps, h1, h2, h3⟩ := R.ex
  exact ss_raiseX (g := gx X.K) hc rfl tk h3.ox h3.no R.fl h3.ic h3.ti h1 hr h2 hm ha hg hdb he hpl
end
end TB

end

/-! ## TbPl -/
section
set_option linter.all false
set_option autoImplicit false
set_option maxRecDepth 100000
/-! Reckoning with the combinators, no program in sight. -/
namespace TB
open PySem

/-! ### applied combinators -/
section
variable (r : Env) (st : Sto)
@[simp] theorem eV_ap (i : Nat) : eV i r st = match r[i]? with | some (some d) => .ok d st | _ => .stuck := rfl
@[simp] theorem eC_ap (d : D) : eC d r st = .ok d st := rfl
@[simp] theorem e1_ap (f : D → Sto → Res D) (a : EM) : e1 f a r st = (a r st).bind f := rfl
@[simp] theorem e2_ap (f : D → D → Sto → Res D) (a b : EM) : e2 f a b r st = (a r st).bind fun x s1 => (b r s1).bind fun y s2 => f x y s2 := rfl
@[simp] theorem eN_ap (f : List D → Sto → Res D) (as : AM) : eN f as r st = (as r st).bind f := rfl
@[simp] theorem eIf_ap (c : TM) (a b : EM) : eIf c a b r st = (c r st).bind fun k s1 => if k = true then a r s1 else b r s1 := rfl
@[simp] theorem aNil_ap : aNil r st = .ok [] st := rfl
@[simp] theorem aCons_ap (a : EM) (as : AM) : aCons a as r st = (a r st).bind fun x s1 => (as r s1).bind fun xs s2 => .ok (x :: xs) s2 := rfl
@[simp] theorem tB_ap (a : EM) : tB a r st = (a r st).bind isBl := rfl
@[simp] theorem tTr_ap (a : EM) : tTr a r st = (a r st).bind truth := rfl
@[simp] theorem tNot_ap (a : TM) : tNot a r st = (a r st).bind fun k s1 => .ok (!k) s1 := rfl
@[simp] theorem tAnd_ap (a b : TM) : tAnd a b r st = (a r st).bind fun k s1 => if k = true then b r s1 else .ok false s1 := rfl
@[simp] theorem tOr_ap (a b : TM) : tOr a b r st = (a r st).bind fun k s1 => if k = true then .ok true s1 else b r s1 := rfl
@[simp] theorem tYes_ap : tYes r st = .ok true st := rfl
@[simp] theorem eAnd_ap (a b : EM) : eAnd a b r st = (a r st).bind fun x s1 => (isBl x s1).bind fun k s2 => if k = true then b r s2 else .ok (.bl false) s2 := rfl
@[simp] theorem eOr_ap (a b : EM) : eOr a b r st = (a r st).bind fun x s1 => (isBl x s1).bind fun k s2 => if k = true then .ok (.bl true) s2 else b r s2 := rfl
@[simp] theorem eNot_ap (a : EM) : eNot a r st = (a r st).bind fun x s1 => (isBl x s1).bind fun k s2 => .ok (.bl (!k)) s2 := rfl
@[simp] theorem eChain_ap (f g : D → D → Sto → Res D) (a b c : EM) : eChain f g a b c r st = (a r st).bind fun x s1 => (b r s1).bind fun y s2 => (f x y s2).bind fun z s3 =>
  (isBl z s3).bind fun k s4 => if k = true then (c r s4).bind fun w s5 => g y w s5 else .ok (.bl false) s4 := rfl
@[simp] theorem eW_ap (a : EM) : eW a r st = (a r st).bind fun d s1 => .ok d.weak s1 := rfl
@[simp] theorem oN_ap : oN r st = .ok none st := rfl
@[simp] theorem oS_ap (a : EM) : oS a r st = (a r st).bind fun d s1 => match d with
  | .int i => .ok (some i) s1
  | _ => .stuck := rfl
@[simp] theorem eSl_ap (a : EM) (lo hi : OM) : eSl a lo hi r st = (a r st).bind fun d s1 => (lo r s1).bind fun l s2 => (hi r s2).bind fun h s3 => pSl d l h s3 := rfl
@[simp] theorem eMt_ap (ty : D → Sto → Bool) (f : FD) (o : EM) (as : AM) : eMt ty f o as r st = (o r st).bind fun x s1 => if ty x s1 = true then (as r s1).bind fun ys s2 => f x ys s2 else .stuck := rfl
@[simp] theorem gV_ap (i : Nat) (d : D) : gV i d r st = if i < r.length then .ok (r.set i (some d)) st else .stuck := rfl
@[simp] theorem gTup_ap (gs : List GM) (ds : List D) : gTup gs (.tup ds) r st = if ds.length = gs.length then gTupL gs ds r st else .stuck := rfl
@[simp] theorem gTupL_nil : gTupL [] [] r st = .ok r st := rfl
@[simp] theorem gTupL_cons (g : GM) (gs : List GM) (d : D) (ds : List D) : gTupL (g :: gs) (d :: ds) r st = (g d r st).bind fun r1 s1 => gTupL gs ds r1 s1 := rfl
@[simp] theorem gSub_ap (f : D → D → D → Sto → Res Unit) (o i : EM) (d : D) : gSub f o i d r st = (o r st).bind fun x s1 => (i r s1).bind fun y s2 => (f x y d s2).bind fun _ s3 => .ok r s3 := rfl
@[simp] theorem sSkip_ap : sSkip r st = .nx r st := rfl
@[simp] theorem sSeq_ap (a b : SM) : sSeq a b r st = (a r st).thenS b := rfl
@[simp] theorem sExp_ap (a : EM) : sExp a r st = (tidy st (a r st)).thenS r fun _ s1 => .nx r s1 := rfl
@[simp] theorem sSet_ap (i : Nat) (a : EM) : sSet i a r st = (tidy st (a r st)).thenS r fun d s1 => if i < r.length then .nx (r.set i (some d)) s1 else .stuck := rfl
@[simp] theorem sAsg_ap (g : GM) (a : EM) : sAsg g a r st = (tidy st (a r st)).thenS r fun d s1 => (g d r s1).thenS r fun r1 s2 => .nx r1 s2 := rfl
@[simp] theorem sRet_ap (a : EM) : sRet a r st = (a r st).thenS r fun d s1 => .ret d s1 := rfl
@[simp] theorem sIf_ap (c : TM) (a b : SM) : sIf c a b r st = (c r st).thenS r fun k s1 => if k = true then a r s1 else b r s1 := rfl
@[simp] theorem sRaise_ap (c : Str) (k : Nat) (as : AM) : sRaise c k as r st = (as r st).thenS r fun ds s1 => .exc c (ds.take k) r s1 := rfl
theorem sWhile_ap (n : Nat) (c : TM) (b : SM) : sWhile n c b r st = whileL c b n r st := rfl
theorem sFor_ap (g : GM) (it : IM) (b : SM) : sFor g it b r st = (it r st).thenS r fun i s1 => forL i.holds g b i.items r s1 := rfl
theorem eLc_ap (own : List Nat) (g : GM) (it : IM) (t : TM) (e : EM) : eLc own g it t e r st = (it r st).bind fun i s1 => noExc (lcL i.holds g t e (wipeE r own) s1.length i.items (s1 ++ [.lst []])) := rfl
@[simp] theorem iFn_ap (f : List D → Sto → Res Iter) (as : AM) : iFn f as r st = (as r st).bind f := rfl
@[simp] theorem iVal_ap (a : EM) : iVal a r st = (a r st).bind iSeq := rfl
end
@[simp] theorem end_nx (r : Env) (st : Sto) : (SRes.nx r st).end = .ok .non st := rfl
@[simp] theorem end_ret (d : D) (st : Sto) : (SRes.ret d st).end = .ok d st := rfl
@[simp] theorem end_exc (c : Str) (fs : List D) (r : Env) (st : Sto) : (SRes.exc c fs r st).end = .exc c fs st := rfl
@[simp] theorem isBl_bl (b : Bool) (st : Sto) : isBl (.bl b) st = .ok b st := rfl
@[simp] theorem truth_bl (b : Bool) (st : Sto) : truth (.bl b) st = .ok b st := rfl
@[simp] theorem mkTup_ap (ds : List D) (st : Sto) (h : ds.length ≤ LINE) : mkTup ds st = .ok (.tup ds) st := if_pos h
theorem mkLst_ap (ds : List D) (st : Sto) (h : ds.length ≤ LINE) : mkLst ds st = .ok (.loc st.length) (st ++ [.lst ds]) := if_pos h
theorem LINE_eq : LINE = 16777216 := rfl

/-! ### junk -/
section
variable (st js : Sto) (d : D) (c : Str) (fs : List D)
@[simp] theorem tidy_ok : tidy st (.ok d st) = .ok d st := if_pos (Nat.le_refl _)
@[simp] theorem tidy_stuck : tidy st .stuck = .stuck := rfl
@[simp] theorem tidy_exc : tidy st (.exc c fs st) = .exc c fs st := by
  unfold tidy
  simp only [List.take_length, ite_self]
theorem tidy_len {st' : Sto} (h : st'.length ≤ st.length) : tidy st (.ok d st') = .ok d st' := if_pos h
theorem tidy_def (st' : Sto) : tidy st (.ok d st') = if st'.length ≤ st.length then .ok d st'
    else if prefOk st st' then
      if d.under st.length then .ok d (st'.take st.length)
      else match d with
        | .loc m => (match st'[m]? with
          | some c => if st.length ≤ m ∧ c.under st.length = true then .ok (.loc st.length) (st'.take st.length ++ [c]) else .ok d st'
          | none => .ok d st')
        | _ => .ok d st'
    else .ok d st' := rfl
theorem prefOk_same : prefOk st (st ++ js) = true := by
  unfold prefOk
  simp
@[simp] theorem tidy_junk (h : d.under st.length = true) : tidy st (.ok d (st ++ js)) = .ok d st := by
  rw [tidy_def]
  split
  · rename_i hl
    rw [List.length_append] at hl
    have : js = [] := List.eq_nil_of_length_eq_zero (by omega)
    subst this
    simp
  · simp only [prefOk_same, if_true, h, List.take_left]
/-- a new cell is handed up -/
theorem tidy_new {cl : Cell} (h : js = [] ∨ cl.under st.length = true) : tidy st (.ok (.loc st.length) (st ++ cl :: js)) = .ok (.loc st.length) (st ++ [cl]) := by
  have e : (st ++ cl :: js)[st.length]? = some cl := by simp
  have e2 : (st ++ cl :: js).take st.length = st := by simp
  simp only [tidy, prefOk_same, if_true, e, e2, Nat.le_refl, true_and, D.under, Nat.lt_irrefl, decide_false, Bool.false_eq_true, if_false]
  rw [if_neg (by simp)]
  rcases h with rfl | h
  · split <;> rfl
  · rw [if_pos h]
@[simp] theorem tidy_new0 (cl : Cell) : tidy st (.ok (.loc st.length) (st ++ [cl])) = .ok (.loc st.length) (st ++ [cl]) := tidy_new st [] (.inl rfl)
/-- cells written, junk dropped -/
theorem tidy_mod {st' : Sto} (hl : st'.length = st.length) (hu : st'.all (Cell.under st.length) = true) (h : d.under st.length = true) : tidy st (.ok d (st' ++ js)) = .ok d st' := by
  have e2 : (st' ++ js).take st.length = st' := by rw [← hl]; simp
  rw [tidy_def]
  split
  · rename_i hz
    rw [List.length_append] at hz
    have : js = [] := List.eq_nil_of_length_eq_zero (by omega)
    subst this
    simp
  · have hp : prefOk st (st' ++ js) = true := by unfold prefOk; rw [e2, hu, Bool.or_true]
    simp only [hp, if_true, h, e2]
theorem runF_ap {ps n : Nat} {b : SM} {ds : List D} (h : ds.length = ps) : runF ps n b ds st = tidy st (b (startE n ds) st).end := if_pos h
end

/-! ### plain data -/
mutual
/-- none, bools, ints, texts, tuples of such, at most n deep -/
def D.sm : Nat → D → Bool
  | _, .non | _, .bl _ | _, .int _ => true
  | _, .str x => PyData.strOk x
  | n + 1, .tup xs => D.smL n xs
  | 0, .tup _ => false
  | _, .lstv _ | _, .loc _ | _, .ptup _ | _, .gl _ | _, .ty _ | _, .exc _ _ => false
def D.smL : Nat → List D → Bool
  | _, [] => true
  | n, x :: xs => D.sm n x && D.smL n xs
end
@[simp] theorem sm_non (n : Nat) : D.sm n .non = true := by cases n <;> rfl
@[simp] theorem sm_bl (n : Nat) (b : Bool) : D.sm n (.bl b) = true := by cases n <;> rfl
@[simp] theorem sm_int (n : Nat) (i : Int) : D.sm n (.int i) = true := by cases n <;> rfl
@[simp] theorem sm_str (n : Nat) (x : Str) : D.sm n (.str x) = PyData.strOk x := by cases n <;> rfl
@[simp] theorem sm_tup (n : Nat) (xs : List D) : D.sm (n + 1) (.tup xs) = D.smL n xs := rfl
@[simp] theorem smL_nil (n : Nat) : D.smL n [] = true := by cases n <;> rfl
@[simp] theorem smL_cons (n : Nat) (x : D) (xs : List D) : D.smL n (x :: xs) = (D.sm n x && D.smL n xs) := by cases n <;> rfl
theorem smL_iff {n : Nat} : ∀ {xs : List D}, D.smL n xs = true ↔ ∀ x ∈ xs, D.sm n x = true
  | [] => by simp
  | x :: xs => by simp [smL_iff (xs := xs)]
mutual
theorem sm_mono : ∀ {n k : Nat} (d : D), n ≤ k → D.sm n d = true → D.sm k d = true
  | n, k, .non, _, _ => by simp
  | n, k, .bl _, _, _ => by simp
  | n, k, .int _, _, _ => by simp
  | n, k, .str _, _, h => by simpa using h
  | 0, k, .tup xs, _, h => by simp [D.sm] at h
  | n + 1, k, .tup xs, hk, h => by
    obtain ⟨k, rfl⟩ : ∃ j, k = j + 1 := ⟨k - 1, by omega⟩
    rw [sm_tup] at h ⊢
    exact smL_mono xs (by omega) h
  | n, k, .lstv _, _, h => by simp [D.sm] at h
  | n, k, .loc _, _, h => by simp [D.sm] at h
  | n, k, .ptup _, _, h => by simp [D.sm] at h
  | n, k, .gl _, _, h => by simp [D.sm] at h
  | n, k, .ty _, _, h => by simp [D.sm] at h
  | n, k, .exc _ _, _, h => by simp [D.sm] at h
theorem smL_mono : ∀ {n k : Nat} (ds : List D), n ≤ k → D.smL n ds = true → D.smL k ds = true
  | n, k, [], _, _ => by simp
  | n, k, d :: ds, hk, h => by
    rw [smL_cons, Bool.and_eq_true] at h ⊢
    exact ⟨sm_mono d hk h.1, smL_mono ds hk h.2⟩
end
mutual
theorem sm_under (m : Nat) : ∀ {n : Nat} (d : D), D.sm n d = true → d.under m = true
  | n, .non, _ => by simp [D.under]
  | n, .bl _, _ => by simp [D.under]
  | n, .int _, _ => by simp [D.under]
  | n, .str _, _ => by simp [D.under]
  | 0, .tup xs, h => by simp [D.sm] at h
  | n + 1, .tup xs, h => by rw [D.under]; exact smL_under m xs h
  | n, .lstv _, h => by simp [D.sm] at h
  | n, .loc _, h => by simp [D.sm] at h
  | n, .ptup _, h => by simp [D.sm] at h
  | n, .gl _, h => by simp [D.sm] at h
  | n, .ty _, h => by simp [D.sm] at h
  | n, .exc _ _, h => by simp [D.sm] at h
theorem smL_under (m : Nat) : ∀ {n : Nat} (ds : List D), D.smL n ds = true → D.underL m ds = true
  | n, [], _ => by simp [D.underL]
  | n, d :: ds, h => by
    rw [smL_cons, Bool.and_eq_true] at h
    rw [D.underL, sm_under m d h.1, smL_under m ds h.2]; rfl
end
mutual
theorem sm_deep (f : Nat → Option D) : ∀ {n : Nat} (d : D), D.sm n d = true → deepW f d = some d
  | n, .non, _ => by simp [deepW]
  | n, .bl _, _ => by simp [deepW]
  | n, .int _, _ => by simp [deepW]
  | n, .str _, _ => by simp [deepW]
  | 0, .tup xs, h => by simp [D.sm] at h
  | n + 1, .tup xs, h => by rw [deepW, smL_deep f xs h]; rfl
  | n, .lstv _, h => by simp [D.sm] at h
  | n, .loc _, h => by simp [D.sm] at h
  | n, .ptup _, h => by simp [D.sm] at h
  | n, .gl _, h => by simp [D.sm] at h
  | n, .ty _, h => by simp [D.sm] at h
  | n, .exc _ _, h => by simp [D.sm] at h
theorem smL_deep (f : Nat → Option D) : ∀ {n : Nat} (ds : List D), D.smL n ds = true → deepWL f ds = some ds
  | n, [], _ => by simp [deepWL]
  | n, d :: ds, h => by
    rw [smL_cons, Bool.and_eq_true] at h
    rw [deepWL, sm_deep f d h.1, smL_deep f ds h.2]
end
mutual
theorem sm_okD : ∀ {n : Nat} (d : D), D.sm n d = true → D.okD n d = true
  | n, .non, _ => by cases n <;> rfl
  | n, .bl _, _ => by cases n <;> rfl
  | n, .int _, _ => by cases n <;> rfl
  | n, .str _, h => by cases n <;> simpa [D.okD] using h
  | 0, .tup xs, h => by simp [D.sm] at h
  | n + 1, .tup xs, h => by rw [D.okD]; exact smL_okD xs h
  | n, .lstv _, h => by simp [D.sm] at h
  | n, .loc _, h => by simp [D.sm] at h
  | n, .ptup _, h => by simp [D.sm] at h
  | n, .gl _, h => by simp [D.sm] at h
  | n, .ty _, h => by simp [D.sm] at h
  | n, .exc _ _, h => by simp [D.sm] at h
theorem smL_okD : ∀ {n : Nat} (ds : List D), D.smL n ds = true → D.okL n ds = true
  | n, [], _ => by simp [D.okL]
  | n, d :: ds, h => by
    rw [smL_cons, Bool.and_eq_true] at h
    rw [D.okL, sm_okD d h.1, smL_okD ds h.2]; rfl
end
theorem datum_sm {n : Nat} {d : D} (st : Sto) (h : D.sm n d = true) : datum st d = some d := sm_deep _ d h
/-- a list of the store, of plain data -/
theorem datum_lst {n : Nat} {p : Nat} {xs : List D} {st : Sto} (h : lstAt st p = some xs) (hs : D.smL n xs = true) : datum st (.loc p) = some (.lstv xs) := by
  simp only [datum, deep, deepW, h]
  rw [smL_deep _ xs hs]
  rfl
theorem sm60 {n : Nat} (h : n ≤ 60) {d : D} (k : D.sm n d = true) : D.okD 60 d = true := sm_okD d (sm_mono d h k)
theorem sm60L {n : Nat} (h : n ≤ 59) {xs : List D} (k : D.smL n xs = true) : D.okD 60 (.lstv xs) = true := by
  rw [D.okD]
  exact smL_okD xs (smL_mono xs h k)

/-! ### comparing plain data -/
mutual
theorem eqv_self : ∀ {n : Nat} (d : D), D.okD n d = true → PyData.eqv d.py d.py = true
  | n, .non, _ => by simp [D.py, PyData.eqv]
  | n, .bl _, _ => by simp [D.py, PyData.eqv]
  | n, .int _, _ => by simp [D.py, PyData.eqv]
  | n, .str _, _ => by simp [D.py, PyData.eqv]
  | 0, .tup xs, h => by simp [D.okD] at h
  | n + 1, .tup xs, h => by rw [D.okD] at h; rw [D.py, PyData.eqv]; exact eqvL_self xs h
  | 0, .lstv xs, h => by simp [D.okD] at h
  | n + 1, .lstv xs, h => by rw [D.okD] at h; rw [D.py, PyData.eqv]; exact eqvL_self xs h
  | n, .loc _, h => by cases n <;> simp [D.okD] at h
  | n, .ptup _, h => by cases n <;> simp [D.okD] at h
  | n, .gl _, h => by cases n <;> simp [D.okD] at h
  | n, .ty _, h => by cases n <;> simp [D.okD] at h
  | n, .exc _ _, h => by cases n <;> simp [D.okD] at h
theorem eqvL_self : ∀ {n : Nat} (ds : List D), D.okL n ds = true → PyData.eqvAll (D.pyL ds) (D.pyL ds) = true
  | n, [], _ => by simp [D.pyL, PyData.eqvAll]
  | n, d :: ds, h => by
    rw [D.okL, Bool.and_eq_true] at h
    rw [D.pyL, PyData.eqvAll, eqv_self d h.1, eqvL_self ds h.2]; rfl
end
theorem eqvAll_nil (xs : List D) : PyData.eqvAll (D.pyL xs) [] = xs.isEmpty := by
  cases xs <;> simp [D.pyL, PyData.eqvAll]
theorem eqv_tup_nil (xs : List D) : D.eqv (.tup xs) (.tup []) = xs.isEmpty := by
  unfold D.eqv
  rw [D.py, D.py, PyData.eqv, D.pyL]
  exact eqvAll_nil xs
theorem eqv_lst_nil (xs : List D) : D.eqv (.lstv xs) (.lstv []) = xs.isEmpty := by
  unfold D.eqv
  rw [D.py, D.py, PyData.eqv, D.pyL]
  exact eqvAll_nil xs
@[simp] theorem eqv_int (i j : Int) : D.eqv (.int i) (.int j) = (i == j) := by simp [D.eqv, D.py, PyData.eqv]
theorem eqv_str (x y : Str) : D.eqv (.str x) (.str y) = decide (x = y) := by
  simp only [D.eqv, D.py, PyData.eqv]
  by_cases h : x = y <;> simp [h]
theorem pEq_sm {n k : Nat} {a b : D} {st : Sto} (ha : D.sm n a = true) (hb : D.sm k b = true) (hn : n ≤ 60) (hk : k ≤ 60) : pEq a b st = .ok (.bl (a.eqv b)) st := by
  have gen : (match datum st a, datum st b with
    | some x, some y => if D.okD 60 x && D.okD 60 y then Res.ok (D.bl (x.eqv y)) st else Res.stuck
    | _, _ => Res.stuck) = .ok (.bl (a.eqv b)) st := by
    rw [datum_sm st ha, datum_sm st hb]
    simp only
    rw [sm60 hn ha, sm60 hk hb]
    rfl
  cases a <;> cases b <;> first | exact gen | skip
  unfold pEq
  rw [eqv_str]
theorem pNe_sm {n k : Nat} {a b : D} {st : Sto} (ha : D.sm n a = true) (hb : D.sm k b = true) (hn : n ≤ 60) (hk : k ≤ 60) : pNe a b st = .ok (.bl (!a.eqv b)) st := by
  have gen : (match datum st a, datum st b with
    | some x, some y => if D.okD 60 x && D.okD 60 y then Res.ok (D.bl (!x.eqv y)) st else Res.stuck
    | _, _ => Res.stuck) = .ok (.bl (!a.eqv b)) st := by
    rw [datum_sm st ha, datum_sm st hb]
    simp only
    rw [sm60 hn ha, sm60 hk hb]
    rfl
  cases a <;> cases b <;> first | exact gen | skip
  unfold pNe
  rw [eqv_str]
@[simp] theorem pEq_int (i j : Int) (st : Sto) : pEq (.int i) (.int j) st = .ok (.bl (i == j)) st := by rw [pEq_sm (n := 0) (k := 0) (by simp) (by simp) (by omega) (by omega), eqv_int]
@[simp] theorem pNe_int (i j : Int) (st : Sto) : pNe (.int i) (.int j) st = .ok (.bl (!(i == j))) st := by rw [pNe_sm (n := 0) (k := 0) (by simp) (by simp) (by omega) (by omega), eqv_int]
@[simp] theorem pEq_str (i j : Str) (st : Sto) : pEq (.str i) (.str j) st = .ok (.bl (decide (i = j))) st := rfl
@[simp] theorem pNe_str (i j : Str) (st : Sto) : pNe (.str i) (.str j) st = .ok (.bl (!decide (i = j))) st := rfl
@[simp] theorem pLt_int (i j : Int) (st : Sto) : pLt (.int i) (.int j) st = .ok (.bl (decide (i < j))) st := rfl
@[simp] theorem pLe_int (i j : Int) (st : Sto) : pLe (.int i) (.int j) st = .ok (.bl (decide (i ≤ j))) st := rfl
@[simp] theorem pGt_int (i j : Int) (st : Sto) : pGt (.int i) (.int j) st = .ok (.bl (decide (j < i))) st := rfl
@[simp] theorem pGe_int (i j : Int) (st : Sto) : pGe (.int i) (.int j) st = .ok (.bl (decide (j ≤ i))) st := rfl
@[simp] theorem pSub_int (i j : Int) (st : Sto) : pSub (.int i) (.int j) st = .ok (.int (i - j)) st := rfl
@[simp] theorem pAdd_int (i j : Int) (st : Sto) : pAdd (.int i) (.int j) st = .ok (.int (i + j)) st := rfl
@[simp] theorem pNeg_int (i : Int) (st : Sto) : pNeg (.int i) st = .ok (.int (-i)) st := rfl
@[simp] theorem pIsN_non (a : D) (st : Sto) : pIsN a .non st = .ok (.bl (isNonD a)) st := rfl
@[simp] theorem pNotN_non (a : D) (st : Sto) : pNotN a .non st = .ok (.bl (!isNonD a)) st := rfl
theorem pAdd_tup {xs ys : List D} {st : Sto} (h : xs.length + ys.length ≤ LINE) : pAdd (.tup xs) (.tup ys) st = .ok (.tup (xs ++ ys)) st := if_pos h
@[simp] theorem bLen_tup (xs : List D) (st : Sto) : bLen [.tup xs] st = .ok (.int xs.length) st := rfl
theorem bLen_loc {p : Nat} {xs : List D} {st : Sto} (h : lstAt st p = some xs) : bLen [.loc p] st = .ok (.int xs.length) st := by
  unfold bLen
  simp only [seqVal, h]
@[simp] theorem bLen_lstv (xs : List D) (st : Sto) : bLen [.lstv xs] st = .ok (.int xs.length) st := rfl

/-! ### what stands where -/
theorem atI_nat {α : Type} {xs : List α} {i : Nat} {x : α} (h : xs[i]? = some x) : L2.atI xs (i : Int) = some x := by
  have hi := (List.getElem?_eq_some_iff.mp h).1
  unfold L2.atI L2.ixN
  rw [if_pos (Int.natCast_nonneg i), if_pos (by omega)]
  simpa using h
theorem atI_zero {α : Type} (x : α) (xs : List α) : L2.atI (x :: xs) 0 = some x := atI_nat (i := 0) rfl
theorem atI_last {α : Type} (xs : List α) (x : α) : L2.atI (xs ++ [x]) (-1) = some x := by
  unfold L2.atI L2.ixN
  rw [if_neg (by omega), if_pos (by simp; omega)]
  have e : (-1 + ((xs ++ [x]).length : Int)).toNat = xs.length := by simp; omega
  simp only [Option.bind_some, e]
  simp
theorem pIx_tup {xs : List D} {i : Int} {d : D} {st : Sto} (h : L2.atI xs i = some d) : pIx (.tup xs) (.int i) st = .ok d st := by
  simp only [pIx, h]
theorem pIx_tupN {xs : List D} {i : Nat} {d : D} {st : Sto} (h : xs[i]? = some d) : pIx (.tup xs) (.int i) st = .ok d st := pIx_tup (atI_nat h)
theorem pIx_lst {p : Nat} {xs : List D} {i : Int} {d : D} {st : Sto} (h0 : lstAt st p = some xs) (h : L2.atI xs i = some d) : pIx (.loc p) (.int i) st = .ok d st := by
  simp only [pIx, lstAt_some h0, h]
theorem pIx_dct {p : Nat} {kvs : List (D × D)} {k : D} {d : D} {st : Sto} (h0 : st[p]? = some (.dct kvs)) (hk : keyD k = true) (h : dctGet kvs k = some d) : pIx (.loc p) k st = .ok d st := by
  cases k <;> simp_all [pIx, keyD]
theorem cut_take (xs : List D) (n : Nat) : cutD xs none (some (n : Int)) = xs.take n := by
  unfold cutD
  rw [HT.sIx_none, HT.sIx_nat]
  simp
theorem cut_drop (xs : List D) (n : Nat) : cutD xs (some (n : Int)) none = xs.drop n := by
  unfold cutD
  rw [HT.sIx_none, HT.sIx_nat]
  by_cases h : n ≤ xs.length
  · rw [Nat.min_eq_left h, ← List.length_drop, List.take_length]
  · rw [Nat.min_eq_right (by omega), List.drop_eq_nil_of_le (by omega), List.drop_eq_nil_of_le (by omega)]
    simp
theorem cut_last (xs : List D) : cutD xs none (some (-1)) = xs.dropLast := by
  unfold cutD
  rw [HT.sIx_none]
  have e : HT.sIx xs.length xs.length (some (-1)) = (-1 + (xs.length : Int)).toNat := by
    show (if (-1 : Int) < 0 then (-1 + (xs.length : Int)).toNat else min (-1 : Int).toNat xs.length) = _
    rw [if_pos (by omega)]
  rw [e, List.drop_zero, List.dropLast_eq_take]
  congr 1
  omega
@[simp] theorem pSl_tup (xs : List D) (lo hi : Option Int) (st : Sto) : pSl (.tup xs) lo hi st = .ok (.tup (cutD xs lo hi)) st := rfl

/-! ### loops -/
theorem forL_inv {hs : List (Nat × List D)} {g : GM} {b : SM} {xs : List D} (I : Nat → Env → Sto → Prop) {r : Env} {st : Sto} (h0 : I 0 r st) (hh : ∀ k r st, k ≤ xs.length → I k r st → heldOk hs st = true)
    (step : ∀ k r st x, xs[k]? = some x → I k r st → ∃ r1 s1 r2 s2, g x r st = .ok r1 s1 ∧ b r1 s1 = .nx r2 s2 ∧ I (k + 1) r2 s2) : ∃ r' st', forL hs g b xs r st = .nx r' st' ∧ I xs.length r' st' := by
  have key : ∀ (ys : List D) (k : Nat) (r : Env) (st : Sto), xs.drop k = ys → k ≤ xs.length → I k r st → ∃ r' st', forL hs g b ys r st = .nx r' st' ∧ I xs.length r' st' := by
    intro ys
    induction ys with
    | nil =>
      intro k r st e hk i
      have : xs.length ≤ k := List.drop_eq_nil_iff.mp e
      have hk2 : k = xs.length := by omega
      subst hk2
      exact ⟨r, st, by rw [forL, if_pos (hh _ r st (Nat.le_refl _) i)], i⟩
    | cons y ys ih =>
      intro k r st e hk i
      have hx : xs[k]? = some y := by
        have := congrArg (·[0]?) e
        simpa using this
      have hk2 := (List.getElem?_eq_some_iff.mp hx).1
      obtain ⟨r1, s1, r2, s2, e1, e2, i2⟩ := step k r st y hx i
      obtain ⟨r', st', e3, i3⟩ := ih (k + 1) r2 s2 (by rw [← List.drop_drop, e]; rfl) hk2 i2
      refine ⟨r', st', ?_, i3⟩
      rw [forL, if_pos (hh k r st hk i), e1]
      simp only [thenS_ok, e2, thenS_nx, e3]
  exact key xs 0 r st rfl (Nat.zero_le _) h0
theorem whileL_inv {c : TM} {b : SM} (I : Env → Sto → Prop) (μ : Env → Sto → Nat) (step : ∀ r st, I r st → ∃ k s1, c r st = .ok k s1 ∧ (k = true → ∃ r2 s2, b r s1 = .nx r2 s2 ∧ I r2 s2 ∧ μ r2 s2 < μ r st)) :
    ∀ (n : Nat) (r : Env) (st : Sto), I r st → μ r st < n → ∃ r' st' s1, whileL c b n r st = .nx r' s1 ∧ I r' st' ∧ c r' st' = .ok false s1 := by
  intro n
  induction n with
  | zero => intro r st _ h; omega
  | succ n ih =>
    intro r st i h
    obtain ⟨k, s1, e1, hk⟩ := step r st i
    cases k with
    | false => exact ⟨r, st, s1, by rw [whileL, e1]; rfl, i, e1⟩
    | true =>
      obtain ⟨r2, s2, e2, i2, l2⟩ := hk rfl
      obtain ⟨r', st', s3, e3, i3, e4⟩ := ih r2 s2 i2 (by omega)
      exact ⟨r', st', s3, by rw [whileL, e1]; simp only [thenS_ok, if_true, e2, thenS_nx, e3], i3, e4⟩
/-- a comprehension whose elements change nothing -/
theorem lcL_map {hs : List (Nat × List D)} {g : GM} {e : EM} {r : Env} {F : D → D} {st : Sto} : ∀ {xs : List D} {acc : List D}, (∀ acc, heldOk hs (st ++ [.lst acc]) = true) →
    (∀ x ∈ xs, ∀ acc, ∃ r1, g x r (st ++ [.lst acc]) = .ok r1 (st ++ [.lst acc]) ∧ tidy (st ++ [.lst acc]) (e r1 (st ++ [.lst acc])) = .ok (F x) (st ++ [.lst acc])) →
    acc.length + xs.length ≤ 16777215 → lcL hs g tYes e r st.length xs (st ++ [.lst acc]) = .ok (.loc st.length) (st ++ [.lst (acc ++ xs.map F)])
  | [], acc, hh, _, _ => by rw [lcL, if_pos (hh acc)]; simp
  | x :: xs, acc, hh, hx, hl => by
    obtain ⟨r1, e1, e2⟩ := hx x (List.mem_cons_self) acc
    have e3 : (st ++ [Cell.lst acc])[st.length]? = some (.lst acc) := by simp
    have e4 : (st ++ [Cell.lst acc]).set st.length (.lst (acc ++ [F x])) = st ++ [.lst (acc ++ [F x])] := by simp
    rw [lcL, if_pos (hh acc), e1]
    simp only [Res.bind_ok, tYes_ap, if_true, e2, e3]
    rw [if_pos (by simp at hl; omega), e4, lcL_map hh (fun y hy => hx y (List.mem_cons_of_mem _ hy)) (by simp at hl ⊢; omega)]
    simp
theorem eLc_map {own : List Nat} {g : GM} {im : IM} {e : EM} {r : Env} {st : Sto} {i : Iter} (F : D → D) (hi : im r st = .ok i st) (hh : ∀ acc, heldOk i.holds (st ++ [.lst acc]) = true)
    (hx : ∀ x ∈ i.items, ∀ acc, ∃ r1, g x (wipeE r own) (st ++ [.lst acc]) = .ok r1 (st ++ [.lst acc]) ∧ tidy (st ++ [.lst acc]) (e r1 (st ++ [.lst acc])) = .ok (F x) (st ++ [.lst acc])) (hl : i.items.length ≤ 16777215) :
    eLc own g im tYes e r st = .ok (.loc st.length) (st ++ [.lst (i.items.map F)]) := by
  rw [eLc_ap, hi]
  simp only [Res.bind_ok]
  rw [lcL_map hh hx (by simpa using hl)]
  rfl
@[simp] theorem heldOk_nil (st : Sto) : heldOk [] st = true := rfl
@[simp] theorem iSeq_tup (xs : List D) (st : Sto) : iSeq (.tup xs) st = .ok ⟨xs, []⟩ st := rfl
@[simp] theorem iSeq_lstv (xs : List D) (st : Sto) : iSeq (.lstv xs) st = .ok ⟨xs, []⟩ st := rfl
@[simp] theorem lst_end (st : Sto) (xs : List D) : lstAt (st ++ [.lst xs]) st.length = some xs := by simp [lstAt]
theorem blsOf_map (l : List Bool) : blsOf (l.map D.bl) = some l := by
  induction l with
  | nil => rfl
  | cons b l ih => simp [blsOf, ih]
theorem intsOf_map (l : List Int) : intsOf (l.map D.int) = some l := by
  induction l with
  | nil => rfl
  | cons b l ih => simp [intsOf, ih]
theorem bAll_end (st : Sto) (l : List D) (F : D → Bool) : bAll [.loc st.length] (st ++ [.lst (l.map fun x => .bl (F x))]) = .ok (.bl (l.all F)) (st ++ [.lst (l.map fun x => .bl (F x))]) := by
  have e : l.map (fun x => D.bl (F x)) = (l.map F).map D.bl := by simp
  unfold bAll
  simp only [lstVal, lst_end, Option.bind_some]
  rw [e, blsOf_map]
  simp
end TB

end

/-! ## TbPl2 -/
section
set_option linter.all false
set_option autoImplicit false
set_option maxRecDepth 100000
namespace TB
open PySem

/-! ### kinds of data -/
def isI : D → Bool
  | .int _ => true
  | _ => false
def isB : D → Bool
  | .bl _ => true
  | _ => false
/-- an int, or a bool -/
def isIB : D → Bool
  | .int _ => true
  | .bl _ => true
  | _ => false
def isTup : D → Bool
  | .tup _ => true
  | _ => false
def amg (d : D) (a b : Int) : Bool := match d with
  | .int i => decide (a ≤ i) && decide (i ≤ b)
  | _ => false
theorem isi_ {cs : List Str} (u : String) {st : Sto} {d : D} {t : String} {b : Bool} (h : tyN st d = some t) (hb : L2.kitB t u = some b) : bIsiX cs [d, .ty u] st = .ok (.bl b) st := by
  have k : bIsi [d, .ty u] st = .ok (.bl b) st := by simp [bIsi, h, hb]
  cases d <;> first | exact k | (simp [tyN] at h)
theorem loc_ty {st : Sto} {p : Nat} (h : (tyN st (.loc p)).isSome = true) : tyN st (.loc p) = some "list" ∨ tyN st (.loc p) = some "dict" := by
  simp only [tyN] at h ⊢
  cases hc : st[p]? with
  | none => rw [hc] at h; cases h
  | some c =>
    rw [hc] at h
    cases c with
    | lst _ => exact .inl rfl
    | dct _ => exact .inr rfl
    | ins _ _ => cases h
section
variable {cs : List Str} {st : Sto} {d : D}
theorem isi_int (h : (tyN st d).isSome = true) : bIsiX cs [d, .ty "int"] st = .ok (.bl (isIB d)) st := by
  cases d with
  | loc p => rcases loc_ty h with e | e <;> exact isi_ "int" (b := false) e (by decide +kernel)
  | non => exact isi_ "int" (t := "NoneType") (b := false) rfl (by decide +kernel)
  | bl b => exact isi_ "int" (t := "bool") (b := true) rfl (by decide +kernel)
  | int i => exact isi_ "int" (t := "int") (b := true) rfl (by decide +kernel)
  | str x => exact isi_ "int" (t := "str") (b := false) rfl (by decide +kernel)
  | tup x => exact isi_ "int" (t := "tuple") (b := false) rfl (by decide +kernel)
  | lstv x => exact isi_ "int" (t := "list") (b := false) rfl (by decide +kernel)
  | _ => cases h
theorem isi_bool (h : (tyN st d).isSome = true) : bIsiX cs [d, .ty "bool"] st = .ok (.bl (isB d)) st := by
  cases d with
  | loc p => rcases loc_ty h with e | e <;> exact isi_ "bool" (b := false) e (by decide +kernel)
  | non => exact isi_ "bool" (t := "NoneType") (b := false) rfl (by decide +kernel)
  | bl b => exact isi_ "bool" (t := "bool") (b := true) rfl (by decide +kernel)
  | int i => exact isi_ "bool" (t := "int") (b := false) rfl (by decide +kernel)
  | str x => exact isi_ "bool" (t := "str") (b := false) rfl (by decide +kernel)
  | tup x => exact isi_ "bool" (t := "tuple") (b := false) rfl (by decide +kernel)
  | lstv x => exact isi_ "bool" (t := "list") (b := false) rfl (by decide +kernel)
  | _ => cases h
theorem isi_tup (h : (tyN st d).isSome = true) : bIsiX cs [d, .ty "tuple"] st = .ok (.bl (isTup d)) st := by
  cases d with
  | loc p => rcases loc_ty h with e | e <;> exact isi_ "tuple" (b := false) e (by decide +kernel)
  | non => exact isi_ "tuple" (t := "NoneType") (b := false) rfl (by decide +kernel)
  | bl b => exact isi_ "tuple" (t := "bool") (b := false) rfl (by decide +kernel)
  | int i => exact isi_ "tuple" (t := "int") (b := false) rfl (by decide +kernel)
  | str x => exact isi_ "tuple" (t := "str") (b := false) rfl (by decide +kernel)
  | tup x => exact isi_ "tuple" (t := "tuple") (b := true) rfl (by decide +kernel)
  | lstv x => exact isi_ "tuple" (t := "list") (b := false) rfl (by decide +kernel)
  | _ => cases h
end
theorem ty_sm {n : Nat} {d : D} {st : Sto} (h : D.sm n d = true) : (tyN st d).isSome = true := by
  cases d <;> first | rfl | (simp [D.sm] at h)
end TB
namespace TB
open PySem
def isRowD (n : Int) (d : D) : Bool := match d with
  | .tup ts => decide (ts.length ≤ 8) && ts.all fun t => isNonD t || amg t 0 (n - 1)
  | _ => false
def isWebD (d : D) : Bool := match d with
  | .tup rows => decide (1 ≤ rows.length) && decide (rows.length ≤ 60) && rows.all fun t => isRowD rows.length t
  | _ => false
end TB
namespace TB
section
variable (st : Sto) (cs : List PySem.Str)
@[simp] theorem isT_tup (xs : List D) : bIsiX cs [.tup xs, .ty "tuple"] st = .ok (.bl true) st := isi_tup (d := .tup xs) rfl
@[simp] theorem isT_non : bIsiX cs [.non, .ty "tuple"] st = .ok (.bl false) st := isi_tup (d := .non) rfl
@[simp] theorem isT_bl (b : Bool) : bIsiX cs [.bl b, .ty "tuple"] st = .ok (.bl false) st := isi_tup (d := .bl b) rfl
@[simp] theorem isT_int (i : Int) : bIsiX cs [.int i, .ty "tuple"] st = .ok (.bl false) st := isi_tup (d := .int i) rfl
@[simp] theorem isT_str (x : PySem.Str) : bIsiX cs [.str x, .ty "tuple"] st = .ok (.bl false) st := isi_tup (d := .str x) rfl
end
end TB
namespace TB
def areMarksD (n : Nat) (d : D) (m : Int) : Bool := match d with
  | .tup ts => decide (ts.length = n) && ts.all fun t => amg t 0 m
  | _ => false
def isSpotD (n : Int) (d : D) : Bool := amg d 0 (n - 1) || match d with
  | .tup [x, y] => amg x 0 (n - 1) && (isNonD y || amg y 0 (n - 1))
  | _ => false
def lenD : D → Int
  | .tup xs => xs.length
  | _ => 0
def cntD : D → Bool
  | .tup [c, r] => amg c 0 (lenD r)
  | _ => false
def areCountsD (ws : List D) (d : D) : Bool := match d with
  | .tup ts => decide (ts.length = ws.length) && (zipD ts ws).all cntD
  | _ => false
def itemsD : D → List D
  | .tup xs => xs
  | _ => []
def isStateD (d : D) : Bool := match d with
  | .tup [w, mk, ct, .tup hs] => isWebD w && (decide (1 ≤ hs.length) && decide (hs.length ≤ 6) && hs.all (isSpotD (itemsD w).length) && areMarksD (itemsD w).length mk hs.length && areCountsD (itemsD w) ct)
  | _ => false
end TB
namespace TB
section
variable (n : Nat)
@[simp] theorem und_non : D.under n .non = true := by simp [D.under]
@[simp] theorem und_bl (b : Bool) : D.under n (.bl b) = true := by simp [D.under]
@[simp] theorem und_int (b : Int) : D.under n (.int b) = true := by simp [D.under]
@[simp] theorem und_str (b : PySem.Str) : D.under n (.str b) = true := by simp [D.under]
@[simp] theorem und_tup (xs : List D) : D.under n (.tup xs) = D.underL n xs := by simp [D.under]
@[simp] theorem undL_nil : D.underL n [] = true := by simp [D.underL]
@[simp] theorem undL_cons (x : D) (xs : List D) : D.underL n (x :: xs) = (D.under n x && D.underL n xs) := by simp [D.underL]
end
end TB
namespace TB
/-! ### webs, stands -/
abbrev Tie := Option Nat
abbrev Web := List (List Tie)
abbrev Stand := List (Nat × Nat)
def eTie : Tie → D
  | none => .non
  | some n => .int n
def eRow (r : List Tie) : D := .tup (r.map eTie)
def eWeb (w : Web) : D := .tup (w.map eRow)
def eNs (m : List Nat) : D := .tup (m.map fun (i : Nat) => D.int i)
def eP (p : Nat × Nat) : D := .tup [.int p.1, .int p.2]
def eSt (s : Stand) : D := .tup (s.map eP)
def eKept (m : List Nat) (ss : List Stand) : D := .tup [eNs m, .tup (ss.map eSt)]
theorem sm_eTie (n : Nat) (t : Tie) : D.sm n (eTie t) = true := by cases t <;> simp [eTie]
theorem sm_eRow (r : List Tie) : D.sm 1 (eRow r) = true := by
  rw [eRow, sm_tup, smL_iff]
  intro x hx
  obtain ⟨t, _, rfl⟩ := List.mem_map.mp hx
  exact sm_eTie _ t
theorem sm_eWeb (w : Web) : D.sm 2 (eWeb w) = true := by
  rw [eWeb, sm_tup, smL_iff]
  intro x hx
  obtain ⟨t, _, rfl⟩ := List.mem_map.mp hx
  exact sm_eRow t
theorem sm_eNs (w : List Nat) : D.sm 1 (eNs w) = true := by
  rw [eNs, sm_tup, smL_iff]
  intro x hx
  obtain ⟨t, _, rfl⟩ := List.mem_map.mp hx
  simp
theorem sm_eSt (s : Stand) : D.sm 2 (eSt s) = true := by
  rw [eSt, sm_tup, smL_iff]
  intro x hx
  obtain ⟨t, _, rfl⟩ := List.mem_map.mp hx
  simp [eP, sm_tup 0]
theorem sm_eKept (m : List Nat) (ss : List Stand) : D.sm 4 (eKept m ss) = true := by
  rw [eKept, sm_tup, smL_iff]
  intro x hx
  simp at hx
  rcases hx with rfl | rfl
  · exact sm_mono _ (by omega) (sm_eNs m)
  · rw [sm_tup, smL_iff]
    intro x hx
    obtain ⟨t, _, rfl⟩ := List.mem_map.mp hx
    exact sm_eSt t
/-- where a walker is -/
inductive Here where
  | at_ (n : Nat)
  | on (n : Nat) (b : Tie)
def eH : Here → D
  | .at_ n => .int n
  | .on n b => .tup [.int n, eTie b]
structure State where
  ties : Web
  marks : List Nat
  counts : List Nat
  heres : List Here
def eS (s : State) : D := .tup [eWeb s.ties, eNs s.marks, eNs s.counts, .tup (s.heres.map eH)]
theorem sm_eH (h : Here) : D.sm 1 (eH h) = true := by cases h <;> simp [eH, sm_tup 0, sm_eTie]
theorem sm_eS (s : State) : D.sm 3 (eS s) = true := by
  rw [eS, sm_tup, smL_iff]
  intro x hx
  simp at hx
  rcases hx with rfl | rfl | rfl | rfl
  · exact sm_eWeb _
  · exact sm_mono _ (by omega) (sm_eNs _)
  · exact sm_mono _ (by omega) (sm_eNs _)
  · rw [sm_tup, smL_iff]
    intro x hx
    obtain ⟨t, _, rfl⟩ := List.mem_map.mp hx
    exact sm_eH t
section
variable (st : Sto)
theorem ix_eNs {m : List Nat} {i k : Nat} (h : m[i]? = some k) : pIx (eNs m) (.int i) st = .ok (.int k) st := pIx_tupN (by simp [h])
theorem ix_eWeb {w : Web} {i : Nat} {r : List Tie} (h : w[i]? = some r) : pIx (eWeb w) (.int i) st = .ok (eRow r) st := pIx_tupN (by simp [h])
theorem ix_eRow {r : List Tie} {i : Nat} {t : Tie} (h : r[i]? = some t) : pIx (eRow r) (.int i) st = .ok (eTie t) st := pIx_tupN (by simp [h])
theorem ix_eSt {s : Stand} {i : Nat} {p : Nat × Nat} (h : s[i]? = some p) : pIx (eSt s) (.int i) st = .ok (eP p) st := pIx_tupN (by simp [h])
theorem ix_tupM {α : Type} {f : α → D} {xs : List α} {i : Nat} {x : α} (h : xs[i]? = some x) : pIx (.tup (xs.map f)) (.int i) st = .ok (f x) st := pIx_tupN (by simp [h])
@[simp] theorem len_eRow (r : List Tie) : bLen [eRow r] st = .ok (.int r.length) st := by simp [eRow]
@[simp] theorem len_eWeb (r : Web) : bLen [eWeb r] st = .ok (.int r.length) st := by simp [eWeb]
@[simp] theorem len_eNs (r : List Nat) : bLen [eNs r] st = .ok (.int r.length) st := by simp [eNs]
@[simp] theorem len_eSt (r : Stand) : bLen [eSt r] st = .ok (.int r.length) st := by simp [eSt]
end
@[simp] theorem und_eTie (n : Nat) (t : Tie) : D.under n (eTie t) = true := sm_under n _ (sm_eTie 0 t)
@[simp] theorem und_eRow (n : Nat) (t : List Tie) : D.under n (eRow t) = true := sm_under n _ (sm_eRow t)
@[simp] theorem und_eWeb (n : Nat) (t : Web) : D.under n (eWeb t) = true := sm_under n _ (sm_eWeb t)
@[simp] theorem und_eNs (n : Nat) (t : List Nat) : D.under n (eNs t) = true := sm_under n _ (sm_eNs t)
@[simp] theorem und_eSt (n : Nat) (t : Stand) : D.under n (eSt t) = true := sm_under n _ (sm_eSt t)
@[simp] theorem und_eKept (n : Nat) (m : List Nat) (ss : List Stand) : D.under n (eKept m ss) = true := sm_under n _ (sm_eKept m ss)
@[simp] theorem und_eS (n : Nat) (t : State) : D.under n (eS t) = true := sm_under n _ (sm_eS t)
end TB
namespace TB
/-! ### lists of ints in the store -/
def iL (fs : List Nat) : List D := fs.map fun (i : Nat) => D.int i
theorem smL_iL (n : Nat) (fs : List Nat) : D.smL n (iL fs) = true := by
  rw [smL_iff]
  intro x hx
  obtain ⟨t, _, rfl⟩ := List.mem_map.mp hx
  simp
theorem eqv_iL (x : Int) (fs : List Nat) : ((iL fs).any fun z => z.eqv (.int x)) = fs.any fun (i : Nat) => (i : Int) == x := by
  induction fs with
  | nil => rfl
  | cons a l ih =>
    simp only [iL, List.map_cons, List.any_cons] at ih ⊢
    rw [ih, eqv_int]
theorem any_nat (n : Nat) (fs : List Nat) : (fs.any fun (i : Nat) => (i : Int) == (n : Int)) = decide (n ∈ fs) := by
  induction fs with
  | nil => simp
  | cons a l ih =>
    rw [List.any_cons, ih]
    by_cases h : n = a
    · subst h; simp
    · have h2 : ((a : Int) == (n : Int)) = false := by simp; omega
      rw [h2]
      simp [h]
theorem dctOf_lst {st : Sto} {p : Nat} {xs : List D} (h : lstAt st p = some xs) : dctOf st (.loc p) = none := by
  simp only [dctOf, lstAt_some h]
theorem pIn_lst {st : Sto} {p n : Nat} {fs : List Nat} (h : lstAt st p = some (iL fs)) : pIn (.int n) (.loc p) st = .ok (.bl (decide (n ∈ fs))) st := by
  simp only [pIn, pInF, dctOf_lst h, pInG]
  rw [datum_sm (n := 0) st (by simp), datum_lst h (smL_iL 0 fs)]
  have e1 : D.okD 60 (.int n) = true := rfl
  simp only [e1, sm60L (n := 0) (by omega) (smL_iL 0 fs), Bool.and_self, if_true, eqv_iL, any_nat, id]
theorem pEq_lst_nil {st : Sto} {p q : Nat} {xs : List D} {n : Nat} (hn : n ≤ 50) (h : lstAt st p = some xs) (hs : D.smL n xs = true) (hq : lstAt st q = some []) : pEq (.loc p) (.loc q) st = .ok (.bl xs.isEmpty) st := by
  simp only [pEq]
  rw [datum_lst h hs, datum_lst (n := 0) hq rfl]
  simp only [sm60L (n := n) (by omega) hs, sm60L (n := 0) (xs := []) (by omega) rfl, Bool.and_self, if_true, eqv_lst_nil]
theorem pNe_lst_nil {st : Sto} {p q : Nat} {xs : List D} {n : Nat} (hn : n ≤ 50) (h : lstAt st p = some xs) (hs : D.smL n xs = true) (hq : lstAt st q = some []) : pNe (.loc p) (.loc q) st = .ok (.bl (!xs.isEmpty)) st := by
  simp only [pNe]
  rw [datum_lst h hs, datum_lst (n := 0) hq rfl]
  simp only [sm60L (n := n) (by omega) hs, sm60L (n := 0) (xs := []) (by omega) rfl, Bool.and_self, if_true, eqv_lst_nil]
theorem lstAt_app {st js : Sto} {p : Nat} {xs : List D} (h : lstAt st p = some xs) : lstAt (st ++ js) p = some xs := by
  have h1 := lstAt_some h
  have := (List.getElem?_eq_some_iff.mp h1).1
  unfold lstAt
  rw [List.getElem?_append_left this, h1]
@[simp] theorem mkLst_nil (st : Sto) : mkLst [] st = .ok (.loc st.length) (st ++ [.lst []]) := mkLst_ap [] st (by simp [LINE_eq])
theorem mAppend_ap {st : Sto} {p : Nat} {xs : List D} {y : D} (h : lstAt st p = some xs) (hl : xs.length < LINE) : mAppend (.loc p) [y] st = .ok .non (st.set p (.lst (xs ++ [y]))) := by
  simp only [mAppend, h]
  rw [if_pos hl]
theorem isLst_ap {st : Sto} {p : Nat} {xs : List D} (h : lstAt st p = some xs) : isLstD (.loc p) st = true := by
  simp only [isLstD, h]; rfl
/-- the walk back from here ends, by the nodes of P -/
structure PathOk (s : State) (w n : Nat) (b : Tie) (P : List Nat) : Prop where
  hd : P[0]? = some n
  nx : P[1]? = b
  on : ∀ i m, 1 ≤ i → P[i]? = some m → ∃ c row, s.counts[m]? = some c ∧ s.ties[m]? = some row ∧ row[c]? = some (P[i + 1]?)
  nd : P.Nodup
  ms : ∀ m ∈ P, s.marks[m]? = some w
  sz : P.length ≤ 60
def BackOk (s : State) (w : Nat) (h : Here) (way : List Nat) : Prop := match h with
  | .at_ n => way = [] ∧ s.marks[n]? = some w
  | .on n b => PathOk s w n b way.reverse
end TB
namespace TB
@[simp] theorem eTie_some (n : Nat) : eTie (some n) = .int n := rfl
@[simp] theorem eTie_none : eTie none = .non := rfl
@[simp] theorem isNonD_eTie (t : Tie) : isNonD (eTie t) = t.isNone := by cases t <;> rfl
@[simp] theorem isNonD_int (i : Int) : isNonD (.int i) = false := rfl
@[simp] theorem isNonD_non : isNonD .non = true := rfl
end TB

end

/-! ## TbPl3 -/
section
set_option linter.all false
set_option autoImplicit false
set_option maxRecDepth 100000
namespace TB
open PySem

/-! ### rows that are changed, in the store -/
def rowsS (L : Nat) (w : Web) : Sto := .lst ((List.range w.length).map fun i => D.loc (L + 1 + i)) :: w.map fun r => Cell.lst (r.map eTie)
def set2 (w : Web) (n j : Nat) (t : Tie) : Web := w.set n ((w.getD n []).set j t)
theorem set2_len (w : Web) (n j : Nat) (t : Tie) : (set2 w n j t).length = w.length := by simp [set2]
theorem lcL_new {g : GM} {e : EM} {r : Env} {G : D → List D} {st : Sto} : ∀ {xs acc : List D} {cells : Sto}, (∀ x ∈ xs, ∀ s : Sto, ∃ r1, g x r s = .ok r1 s ∧ e r1 s = .ok (.loc s.length) (s ++ [.lst (G x)])) →
    acc.length + xs.length ≤ 16777215 → lcL [] g tYes e r st.length xs (st ++ .lst acc :: cells) =
      .ok (.loc st.length) (st ++ .lst (acc ++ (List.range xs.length).map fun i => D.loc (st.length + 1 + cells.length + i)) :: (cells ++ xs.map fun x => .lst (G x)))
  | [], acc, cells, _, _ => by rw [lcL, if_pos (heldOk_nil _)]; simp
  | x :: xs, acc, cells, hx, hl => by
    obtain ⟨r1, e1, e2⟩ := hx x List.mem_cons_self (st ++ .lst acc :: cells)
    have hlen : (st ++ Cell.lst acc :: cells).length = st.length + 1 + cells.length := by simp; omega
    have e3 : ((st ++ Cell.lst acc :: cells) ++ [Cell.lst (G x)])[st.length]? = some (.lst acc) := by simp
    have e4 : ((st ++ Cell.lst acc :: cells) ++ [Cell.lst (G x)]).set st.length (.lst (acc ++ [.loc (st.length + 1 + cells.length)])) = st ++ .lst (acc ++ [.loc (st.length + 1 + cells.length)]) :: (cells ++ [.lst (G x)]) := by simp
    rw [lcL, if_pos (heldOk_nil _), e1]
    simp only [Res.bind_ok, tYes_ap, if_true, e2, tidy_new0]
    rw [e3]
    simp only
    rw [if_pos (by simp at hl; omega), hlen, e4, lcL_new (fun y hy => hx y (List.mem_cons_of_mem _ hy)) (by simp at hl ⊢; omega)]
    congr 3
    · simp only [List.append_assoc, List.singleton_append, List.length_cons, List.range_succ_eq_map, List.map_cons, List.map_map, List.length_append, List.length_nil, Nat.add_zero]
      congr 3
      refine List.map_congr_left fun i _ => ?_
      simp
      omega
    · simp
theorem eLc_new {own : List Nat} {g : GM} {im : IM} {e : EM} {r : Env} {st : Sto} {i : Iter} (G : D → List D) (hi : im r st = .ok i st) (hh : i.holds = [])
    (hx : ∀ x ∈ i.items, ∀ s : Sto, ∃ r1, g x (wipeE r own) s = .ok r1 s ∧ e r1 s = .ok (.loc s.length) (s ++ [.lst (G x)])) (hl : i.items.length ≤ 16777215) :
    eLc own g im tYes e r st = .ok (.loc st.length) (st ++ .lst ((List.range i.items.length).map fun k => D.loc (st.length + 1 + k)) :: i.items.map fun x => .lst (G x)) := by
  rw [eLc_ap, hi]
  simp only [Res.bind_ok]
  rw [hh, lcL_new (cells := []) hx (by simpa using hl)]
  simp [noExc]
section
variable {st ex : Sto} {w : Web} {L : Nat}
theorem rows_at (h : st.length = L) (n : Nat) : (st ++ (rowsS L w ++ ex))[L + 1 + n]? = ((w.map fun r => Cell.lst (r.map eTie)) ++ ex)[n]? := by
  rw [List.getElem?_append_right (by omega)]
  have : L + 1 + n - st.length = n + 1 := by omega
  rw [this, rowsS, List.cons_append, List.getElem?_cons_succ]
theorem rows_hd (h : st.length = L) : lstAt (st ++ (rowsS L w ++ ex)) L = some ((List.range w.length).map fun i => D.loc (L + 1 + i)) := by
  subst h
  simp [lstAt, rowsS]
theorem rows_ix (h : st.length = L) {n : Nat} (hn : n < w.length) : pIx (.loc L) (.int n) (st ++ (rowsS L w ++ ex)) = .ok (.loc (L + 1 + n)) (st ++ (rowsS L w ++ ex)) :=
  pIx_lst (rows_hd h) (atI_nat (by simp [hn]))
theorem rows_row (h : st.length = L) {n : Nat} {row : List Tie} (hn : w[n]? = some row) : lstAt (st ++ (rowsS L w ++ ex)) (L + 1 + n) = some (row.map eTie) := by
  have hl := (List.getElem?_eq_some_iff.mp hn).1
  unfold lstAt
  rw [rows_at h, List.getElem?_append_left (by simpa using hl), List.getElem?_map, hn]
  rfl
theorem rows_st (h : st.length = L) {n c : Nat} {row : List Tie} {t : Tie} (hn : w[n]? = some row) (hc : c < row.length) :
    fStore (.loc (L + 1 + n)) (.int c) (eTie t) (st ++ (rowsS L w ++ ex)) = .ok () (st ++ (rowsS L (set2 w n c t) ++ ex)) := by
  have hl := (List.getElem?_eq_some_iff.mp hn).1
  have h1 := lstAt_some (rows_row (ex := ex) h hn)
  have h2 : L2.ixN (row.map eTie).length (c : Int) = some c := by
    unfold L2.ixN
    rw [if_pos (by omega), if_pos (by simp; omega)]
    simp
  simp only [fStore, h1, h2]
  have hg : w.getD n [] = row := by rw [List.getD_eq_getElem?_getD, hn]; rfl
  have : (st ++ (rowsS L w ++ ex)).set (L + 1 + n) (.lst ((row.map eTie).set c (eTie t))) = st ++ (rowsS L (set2 w n c t) ++ ex) := by
    rw [List.set_append_right _ _ (by omega)]
    have e : L + 1 + n - st.length = n + 1 := by omega
    rw [e, rowsS, List.cons_append, List.set_cons_succ, List.set_append_left _ _ (by simpa using hl)]
    simp only [rowsS, set2_len, List.cons_append]
    rw [set2, hg, List.map_set, List.map_set]
  rw [this]
end
/-! ### what stands in a web -/
def get2 (w : Web) (n j : Nat) : Option Tie := (w[n]?).bind (·[j]?)
theorem get2_set2 {w : Web} {n j n' j' : Nat} {t : Tie} : get2 (set2 w n j t) n' j' = if n = n' ∧ j = j' ∧ (get2 w n j).isSome = true then some t else get2 w n' j' := by
  unfold get2 set2
  by_cases hn : n = n'
  · subst hn
    by_cases hl : n < w.length
    · rw [List.getElem?_set_self hl]
      have hg : w.getD n [] = w[n] := by rw [List.getD_eq_getElem?_getD, List.getElem?_eq_getElem hl]; rfl
      rw [List.getElem?_eq_getElem hl, hg]
      simp only [Option.bind_some]
      by_cases hj : j = j'
      · subst hj
        by_cases hjl : j < w[n].length
        · rw [List.getElem?_set_self hjl]
          simp [hjl]
        · rw [List.getElem?_eq_none (by simpa using hjl)]
          simp [hjl]
      · rw [List.getElem?_set_ne hj]
        simp [hj]
    · rw [List.set_eq_of_length_le (by omega)]
      have : w[n]? = none := List.getElem?_eq_none (by omega)
      simp [this]
  · rw [List.getElem?_set_ne hn]
    simp [hn]
def shape (w : Web) : List Nat := w.map List.length
theorem shape_set2 (w : Web) (n j : Nat) (t : Tie) : shape (set2 w n j t) = shape w := by
  unfold shape set2
  rw [List.map_set, List.length_set]
  by_cases hl : n < w.length
  · rw [List.getD_eq_getElem?_getD, List.getElem?_eq_getElem hl]
    simp only [Option.getD_some]
    refine List.ext_getElem (by simp) fun i h1 h2 => ?_
    by_cases hi : n = i
    · subst hi; simp
    · simp [List.getElem_set_ne hi]
  · rw [List.set_eq_of_length_le (by simp; omega)]
theorem shape_row {w w' : Web} (h : shape w = shape w') {n : Nat} {r : List Tie} (hr : w[n]? = some r) : ∃ r', w'[n]? = some r' ∧ r'.length = r.length := by
  have h1 : (shape w)[n]? = some r.length := by simp [shape, hr]
  rw [h] at h1
  simp only [shape, List.getElem?_map, Option.map_eq_some_iff] at h1
  obtain ⟨r', e1, e2⟩ := h1
  exact ⟨r', e1, e2⟩
theorem web_ext {w w' : Web} (h : shape w = shape w') (hg : ∀ n j, get2 w n j = get2 w' n j) : w = w' := by
  have hl : w.length = w'.length := by simpa [shape] using congrArg List.length h
  refine List.ext_getElem hl fun n h1 h2 => ?_
  obtain ⟨r', e1, e2⟩ := shape_row h (List.getElem?_eq_getElem h1)
  rw [List.getElem?_eq_getElem h2] at e1
  cases e1
  refine List.ext_getElem e2.symm fun j k1 k2 => ?_
  have := hg n j
  unfold get2 at this
  rw [List.getElem?_eq_getElem h1, List.getElem?_eq_getElem h2] at this
  simp only [Option.bind_some, List.getElem?_eq_getElem k1, List.getElem?_eq_getElem k2] at this
  exact Option.some.inj this
/-! ### ties put back along ways -/
def pairs (way : List Nat) : List (Nat × Nat) := way.zip way.tail
def stepW (cs : List Nat) (w : Web) (p : Nat × Nat) : Web := set2 w p.1 (cs.getD p.1 0) (some p.2)
def wayW (cs : List Nat) (w : Web) (way : List Nat) : Web := (pairs way).foldl (stepW cs) w
def webBy (cs : List Nat) (w : Web) (ways : List (List Nat)) : Web := ways.foldl (wayW cs) w
theorem shape_stepW (cs : List Nat) (w : Web) (p : Nat × Nat) : shape (stepW cs w p) = shape w := shape_set2 _ _ _ _
theorem shape_foldl {α : Type} {f : Web → α → Web} (h : ∀ w x, shape (f w x) = shape w) : ∀ (xs : List α) (w : Web), shape (xs.foldl f w) = shape w
  | [], w => rfl
  | x :: xs, w => by rw [List.foldl_cons, shape_foldl h xs, h]
theorem shape_wayW (cs : List Nat) (w : Web) (way : List Nat) : shape (wayW cs w way) = shape w := shape_foldl (shape_stepW cs) _ _
theorem zip_pairs : ∀ (a b : List Nat), zipD (iL a) (iL b) = (a.zip b).map fun p => D.tup [.int p.1, .int p.2]
  | [], _ => by simp [iL, zipD]
  | x :: a, [] => by simp [iL, zipD]
  | x :: a, y :: b => by
    have := zip_pairs a b
    simp only [iL] at this ⊢
    simp [zipD, this]
theorem eNs_iL (xs : List Nat) : eNs xs = .tup (iL xs) := rfl
theorem iL_drop (xs : List Nat) (n : Nat) : (iL xs).drop n = iL (xs.drop n) := by simp [iL]
/-- each tie to be put stands in the web -/
def Fits (cs : List Nat) (w : Web) (way : List Nat) : Prop := ∀ p ∈ pairs way, ∃ c row, cs[p.1]? = some c ∧ w[p.1]? = some row ∧ c < row.length
theorem Fits.shape {cs : List Nat} {w w' : Web} {way : List Nat} (h : Fits cs w way) (e : shape w = shape w') : Fits cs w' way := fun p hp => by
  obtain ⟨c, row, h1, h2, h3⟩ := h p hp
  obtain ⟨r', e1, e2⟩ := shape_row e h2
  exact ⟨c, r', h1, e1, by omega⟩
end TB
namespace TB
theorem iRange2_ok {a b : Int} {st : Sto} (h1 : -1000000 ≤ a) (h2 : a ≤ 1000000) (h3 : -1000000 ≤ b) (h4 : b ≤ 1000000) : iRange2 [.int a, .int b] st = .ok ⟨rangeD a (b - a).toNat, []⟩ st := by
  simp only [iRange2]
  rw [if_pos ⟨by omega, by omega, by omega, by omega⟩]
theorem iRange1_ok {b : Int} {st : Sto} (h3 : -1000000 ≤ b) (h4 : b ≤ 1000000) : iRange1 [.int b] st = .ok ⟨rangeD 0 b.toNat, []⟩ st := by
  simp only [iRange1]
  rw [if_pos ⟨by omega, by omega⟩]
end TB
namespace TB
theorem iFn_r2 {as : AM} {r : Env} {st st' : Sto} {a b : Int} (h : as r st = .ok [.int a, .int b] st') (h1 : -1000000 ≤ a) (h2 : a ≤ 1000000) (h3 : -1000000 ≤ b) (h4 : b ≤ 1000000) : iFn iRange2 as r st = .ok ⟨rangeD a (b - a).toNat, []⟩ st' := by
  rw [iFn_ap, h, Res.bind_ok]
  exact iRange2_ok h1 h2 h3 h4
theorem iFn_r1 {as : AM} {r : Env} {st st' : Sto} {b : Int} (h : as r st = .ok [.int b] st') (h3 : -1000000 ≤ b) (h4 : b ≤ 1000000) : iFn iRange1 as r st = .ok ⟨rangeD 0 b.toNat, []⟩ st' := by
  rw [iFn_ap, h, Res.bind_ok]
  exact iRange1_ok h3 h4
theorem rangeD_ex {a : Int} {n : Nat} {x : D} (h : x ∈ rangeD a n) : ∃ i : Nat, i < n ∧ x = .int (a + i) := by
  simp only [rangeD, List.mem_map, List.mem_range] at h
  obtain ⟨i, hi, rfl⟩ := h
  exact ⟨i, hi, rfl⟩
theorem rangeD_len (a : Int) (n : Nat) : (rangeD a n).length = n := by simp [rangeD]
end TB
namespace TB
theorem under_rows {L : Nat} {w : Web} (h : w ≠ []) : Cell.under L (.lst ((List.range w.length).map fun i => D.loc (L + 1 + i))) = false := by
  cases w with
  | nil => exact absurd rfl h
  | cons r w =>
    simp [Cell.under, List.range_succ_eq_map, D.underL, D.under]
    intro h
    omega
theorem tidy_rows (st : Sto) (w : Web) : tidy st (.ok (.loc st.length) (st ++ rowsS st.length w)) = .ok (.loc st.length) (st ++ rowsS st.length w) := by
  by_cases h : w = []
  · subst h
    exact tidy_new0 st _
  · rw [tidy_def, if_neg (by simp [rowsS])]
    have e : (st ++ rowsS st.length w)[st.length]? = some (.lst ((List.range w.length).map fun i => D.loc (st.length + 1 + i))) := by simp [rowsS]
    simp only [prefOk_same, if_true, D.under, Nat.lt_irrefl, decide_false, Bool.false_eq_true, if_false, e, under_rows h, and_false]
theorem rowsS_of (L : Nat) (w : Web) : (Cell.lst ((List.range (w.map eRow).length).map fun k => D.loc (L + 1 + k)) :: (w.map eRow).map fun x => Cell.lst (itemsD x)) = rowsS L w := by
  simp [rowsS, eRow, itemsD, Function.comp_def]
theorem zip_iter {st : Sto} (way : List Nat) : iZipF [eNs way, .tup ((iL way).drop 1)] st = .ok ⟨(pairs way).map fun p => D.tup [.int p.1, .int p.2], []⟩ st := by
  have : zipD (iL way) (iL (way.drop 1)) = (pairs way).map fun p => D.tup [.int p.1, .int p.2] := by rw [zip_pairs, pairs, List.drop_one]
  simp only [iZipF, eNs_iL, seqOf, iL_drop, this]
  rfl
theorem lstAt_pre {st js : Sto} {p : Nat} {xs : List D} (h : lstAt st p = some xs) : heldOk [(p, xs)] (st ++ js) = true := by
  simp [heldOk, lstAt_app h]
theorem take_fold {α β : Type} (f : β → α → β) (xs : List α) (b : β) {k : Nat} {x : α} (h : xs[k]? = some x) : (xs.take (k + 1)).foldl f b = f ((xs.take k).foldl f b) x := by
  rw [List.take_add_one, h]
  simp
/-- tuple([tuple(row) for row in rows]) -/
theorem rows_back {st ex : Sto} {w : Web} {r : Env} {j v : Nat} (hj : r[j]? = some (some (.loc st.length))) (hv : v < r.length) (hjv : j ≠ v) (hl : w.length ≤ 60) :
    eLc [v] (gV v) (iVal (eV j)) tYes (eN bTuple (aCons (eV v) aNil)) r (st ++ (rowsS st.length w ++ ex)) = .ok (.loc (st ++ (rowsS st.length w ++ ex)).length) ((st ++ (rowsS st.length w ++ ex)) ++ [.lst (w.map eRow)]) := by
  have hd := rows_hd (ex := ex) (w := w) (rfl : st.length = st.length)
  rw [eLc_map (i := ⟨(List.range w.length).map fun i => D.loc (st.length + 1 + i), [(st.length, (List.range w.length).map fun i => D.loc (st.length + 1 + i))]⟩) (fun d => match d with
    | .loc p => eRow (w.getD (p - (st.length + 1)) [])
    | _ => .non)]
  · congr 3
    refine congrArg Cell.lst ?_
    refine List.ext_getElem (by simp) fun i h1 h2 => ?_
    simp at h2
    simp [List.getD_eq_getElem?_getD, h2]
  · simp only [iVal_ap, eV_ap, hj, Res.bind_ok, iSeq, seqOf, hd]
    rfl
  · intro acc
    exact lstAt_pre hd
  · intro x hx acc
    obtain ⟨i, hi, rfl⟩ := List.mem_map.mp hx
    rw [List.mem_range] at hi
    have hw : w[i]? = some w[i] := List.getElem?_eq_getElem hi
    refine ⟨_, if_pos (by simp [wipeE]; exact hv), ?_⟩
    have hr : lstAt ((st ++ (rowsS st.length w ++ ex)) ++ [.lst acc]) (st.length + 1 + i) = some (w[i].map eTie) := lstAt_app (rows_row rfl hw)
    have hg : (((wipeE r [v]).set v (some (.loc (st.length + 1 + i))))[v]?) = some (some (.loc (st.length + 1 + i))) := List.getElem?_set_self (by simp [wipeE]; exact hv)
    simp only [eN_ap, aCons_ap, aNil_ap, eV_ap, hg, Res.bind_ok, bTuple, lstVal, hr, tidy_ok]
    have : st.length + 1 + i - (st.length + 1) = i := by omega
    simp only [this, List.getD_eq_getElem?_getD, hw, Option.getD_some]
    rfl
  · simp; omega
end TB
namespace TB
/-- ways of all walkers -/
def WaysOk (s : State) (ways : List (List Nat)) : Prop := ways.length = s.heres.length ∧ ∀ i h way, s.heres[i]? = some h → ways[i]? = some way → BackOk s (i + 1) h way
/-- what is asked of a state that its ways go back -/
structure MomentOk (s : State) (ways : List (List Nat)) (roots : List Nat) : Prop where
  st : isStateD (eS s) = true
  wy : WaysOk s ways
  ft : ∀ way ∈ ways, Fits s.counts s.ties way ∧ way.length ≤ 60
  hl : s.heres.length ≤ 6
  tl : s.ties.length ≤ 60
  rl : roots.length = s.heres.length
  rt : ∀ (i : Nat) (h : Here) (way : List Nat) (root : Nat), s.heres[i]? = some h → ways[i]? = some way → roots[i]? = some root → (way = [] → h = Here.at_ root) ∧ (way ≠ [] → way[0]? = some root)
end TB

end

/-! ## TbPl4 -/
section
set_option linter.all false
set_option autoImplicit false
set_option maxRecDepth 100000
namespace TB
open PySem

/-! ### the draws' own dict -/
def mD (sc : List Int) (k b w : Int) : List (D × D) := [(.str "script", .lstv (sc.map .int)), (.str "at", .int k), (.str "rest", .loc 1), (.str "burst", .int b), (.str "walker", .int w)]
def mS (sc : List Int) (k : Int) (rs : List Int) (b w : Int) : Sto := [.dct (mD sc k b w), .lst (rs.map .int)]
section
variable (sc : List Int) (k : Int) (rs : List Int) (b w : Int) (ex : Sto)
theorem mD_script : dctGet (mD sc k b w) (.str "script") = some (.lstv (sc.map .int)) := rfl
theorem mD_at : dctGet (mD sc k b w) (.str "at") = some (.int k) := rfl
theorem mD_rest : dctGet (mD sc k b w) (.str "rest") = some (.loc 1) := rfl
theorem mD_burst : dctGet (mD sc k b w) (.str "burst") = some (.int b) := rfl
theorem mD_walker : dctGet (mD sc k b w) (.str "walker") = some (.int w) := rfl
theorem mS_0 : (mS sc k rs b w ++ ex)[0]? = some (.dct (mD sc k b w)) := rfl
theorem mS_1 : lstAt (mS sc k rs b w ++ ex) 1 = some (rs.map .int) := rfl
theorem m_script : pIx (.loc 0) (.str "script") (mS sc k rs b w ++ ex) = .ok (.lstv (sc.map .int)) (mS sc k rs b w ++ ex) := pIx_dct (mS_0 ..) rfl (mD_script ..)
theorem m_at : pIx (.loc 0) (.str "at") (mS sc k rs b w ++ ex) = .ok (.int k) (mS sc k rs b w ++ ex) := pIx_dct (mS_0 ..) rfl (mD_at ..)
theorem m_rest : pIx (.loc 0) (.str "rest") (mS sc k rs b w ++ ex) = .ok (.loc 1) (mS sc k rs b w ++ ex) := pIx_dct (mS_0 ..) rfl (mD_rest ..)
theorem m_burst : pIx (.loc 0) (.str "burst") (mS sc k rs b w ++ ex) = .ok (.int b) (mS sc k rs b w ++ ex) := pIx_dct (mS_0 ..) rfl (mD_burst ..)
theorem m_walker : pIx (.loc 0) (.str "walker") (mS sc k rs b w ++ ex) = .ok (.int w) (mS sc k rs b w ++ ex) := pIx_dct (mS_0 ..) rfl (mD_walker ..)
theorem s_at (z : Int) : fStore (.loc 0) (.str "at") (.int z) (mS sc k rs b w ++ ex) = .ok () (mS sc z rs b w ++ ex) := by
  have e : putD (mD sc k b w) (.str "at") (.int z) = mD sc z b w := rfl
  simp only [fStore, mS_0]
  rw [if_pos ⟨rfl, by simp [mD, LINE_eq]⟩, e]
  rfl
theorem s_burst (z : Int) : fStore (.loc 0) (.str "burst") (.int z) (mS sc k rs b w ++ ex) = .ok () (mS sc k rs z w ++ ex) := by
  have e : putD (mD sc k b w) (.str "burst") (.int z) = mD sc k z w := rfl
  simp only [fStore, mS_0]
  rw [if_pos ⟨rfl, by simp [mD, LINE_eq]⟩, e]
  rfl
theorem s_walker (z : Int) : fStore (.loc 0) (.str "walker") (.int z) (mS sc k rs b w ++ ex) = .ok () (mS sc k rs b z ++ ex) := by
  have e : putD (mD sc k b w) (.str "walker") (.int z) = mD sc k b z := rfl
  simp only [fStore, mS_0]
  rw [if_pos ⟨rfl, by simp [mD, LINE_eq]⟩, e]
  rfl
end
theorem s_rest (sc : List Int) (k : Int) (rs : List Int) (b w : Int) (ex : Sto) {i : Nat} (z : Int) (hi : i < rs.length) : fStore (.loc 1) (.int i) (.int z) (mS sc k rs b w ++ ex) = .ok () (mS sc k (rs.set i z) b w ++ ex) := by
  have h2 : L2.ixN (rs.map D.int).length (i : Int) = some i := by
    unfold L2.ixN
    rw [if_pos (by omega), if_pos (by simp; omega)]
    simp
  have e : (mS sc k rs b w ++ ex)[1]? = some (.lst (rs.map .int)) := rfl
  simp only [fStore, e, h2]
  have : (mS sc k rs b w ++ ex).set 1 (.lst ((rs.map D.int).set i (.int z))) = mS sc k (rs.set i z) b w ++ ex := by
    simp [mS, List.map_set]
  rw [this]
theorem log2_small {i : Int} (h : -(10 ^ 60) < i) (h2 : i < 10 ^ 60) : i.natAbs.log2 < 1000 := by
  by_cases h0 : i.natAbs = 0
  · rw [h0]; decide
  · rw [Nat.log2_lt h0]
    have : i.natAbs < 10 ^ 60 := by omega
    exact Nat.lt_trans this (by decide)
theorem pMul_int {i j : Int} {st : Sto} (h1 : -(10 ^ 60) < i) (h2 : i < 10 ^ 60) (h3 : -(10 ^ 60) < j) (h4 : j < 10 ^ 60) : pMul (.int i) (.int j) st = .ok (.int (i * j)) st :=
  if_pos (by have := log2_small h1 h2; have := log2_small h3 h4; omega)
theorem pMod_int {i j : Int} {st : Sto} (h : 0 < j) : pMod (.int i) (.int j) st = .ok (.int (i % j)) st := if_pos h
theorem pFdiv_int {i j : Int} {st : Sto} (h : 0 < j) (h2 : j < 1073741824) : pFdiv (.int i) (.int j) st = .ok (.int (i / j)) st := if_pos ⟨h, h2⟩
theorem smL_ints (n : Nat) (l : List Int) : D.smL n (l.map .int) = true := by
  rw [smL_iff]
  intro x hx
  obtain ⟨t, _, rfl⟩ := List.mem_map.mp hx
  simp
theorem pNe_lstv_nil {st : Sto} {q : Nat} {l : List Int} (hq : lstAt st q = some []) : pNe (.lstv (l.map .int)) (.loc q) st = .ok (.bl (!l.isEmpty)) st := by
  have e1 : datum st (.lstv (l.map .int)) = some (.lstv (l.map .int)) := by
    simp only [datum, deep, deepW]
    rw [smL_deep _ _ (smL_ints 0 l)]; rfl
  simp only [pNe]
  rw [e1, datum_lst (n := 0) hq rfl]
  simp only [sm60L (n := 0) (by omega) (smL_ints 0 l), sm60L (n := 0) (xs := []) (by omega) rfl, Bool.and_self, if_true, eqv_lst_nil]
  cases l <;> rfl
theorem pIx_lstv {xs : List D} {i : Int} {d : D} {st : Sto} (h : L2.atI xs i = some d) : pIx (.lstv xs) (.int i) st = .ok d st := by
  simp only [pIx, h]
end TB
namespace TB
/-- an int expression that changes nothing, within bounds -/
def IE (e : EM) (r : Env) (st : Sto) (hi : Int) : Prop := ∃ z, e r st = .ok (.int z) st ∧ 0 ≤ z ∧ z ≤ hi
section
variable {a b : EM} {r : Env} {st : Sto} {x y : Int}
theorem IE.c (z : Int) (h : 0 ≤ z) : IE (eC (.int z)) r st z := ⟨z, rfl, h, Int.le_refl _⟩
theorem IE.v {i : Nat} {z : Int} (e : r[i]? = some (some (.int z))) (h : 0 ≤ z) (h2 : z ≤ x) : IE (eV i) r st x := ⟨z, by simp [e], h, h2⟩
theorem IE.add (ha : IE a r st x) (hb : IE b r st y) : IE (e2 pAdd a b) r st (x + y) := by
  obtain ⟨u, e1, h1, h2⟩ := ha
  obtain ⟨v, e2, h3, h4⟩ := hb
  exact ⟨u + v, by simp [e1, e2], by omega, by omega⟩
theorem IE.mul (ha : IE a r st x) (hb : IE b r st y) (hx : x < 10 ^ 60) (hy : y < 10 ^ 60) : IE (e2 pMul a b) r st (x * y) := by
  obtain ⟨u, e1, h1, h2⟩ := ha
  obtain ⟨v, e2, h3, h4⟩ := hb
  refine ⟨u * v, ?_, Int.mul_nonneg h1 h3, Int.mul_le_mul h2 h4 h3 (by omega)⟩
  simp only [e2_ap, e1, e2, Res.bind_ok]
  exact pMul_int (by omega) (by omega) (by omega) (by omega)
theorem IE.mod {z : Int} (ha : ∃ u, a r st = .ok (.int u) st) (hb : b r st = .ok (.int z) st) (h : 0 < z) : IE (e2 pMod a b) r st (z - 1) := by
  obtain ⟨u, e1⟩ := ha
  refine ⟨u % z, ?_, Int.emod_nonneg u (by omega), by have := Int.emod_lt_of_pos u h; omega⟩
  simp only [e2_ap, e1, hb, Res.bind_ok]
  exact pMod_int h
theorem IE.div {z : Int} (ha : IE a r st x) (h : 0 < z) (h2 : z < 1073741824) : IE (e2 pFdiv a (eC (.int z))) r st x := by
  obtain ⟨u, e1, h1, h3⟩ := ha
  refine ⟨u / z, ?_, Int.ediv_nonneg h1 (by omega), Int.le_trans (Int.ediv_le_self z h1) h3⟩
  simp only [e2_ap, e1, eC_ap, Res.bind_ok]
  exact pFdiv_int h h2
theorem IE.ex (ha : IE a r st x) : ∃ u, a r st = .ok (.int u) st := let ⟨u, e, _⟩ := ha; ⟨u, e⟩
end
end TB
namespace TB
theorem at_mid {A B : Sto} {xs : List D} {p : Nat} (hp : p = A.length) : lstAt (A ++ .lst xs :: B) p = some xs := by
  subst hp; simp [lstAt]
theorem ap_mid {A B : Sto} {xs : List D} {p : Nat} {y : D} (hp : p = A.length) (hl : xs.length < LINE) : mAppend (.loc p) [y] (A ++ .lst xs :: B) = .ok .non (A ++ .lst (xs ++ [y]) :: B) := by
  rw [mAppend_ap (at_mid hp) hl]
  subst hp; simp
theorem is_mid {A B : Sto} {xs : List D} {p : Nat} (hp : p = A.length) : isLstD (.loc p) (A ++ .lst xs :: B) = true := isLst_ap (at_mid hp)
theorem tup_mid {A B : Sto} {xs : List D} {p : Nat} (hp : p = A.length) : bTuple [.loc p] (A ++ .lst xs :: B) = .ok (.tup xs) (A ++ .lst xs :: B) := by
  simp only [bTuple, lstVal, at_mid hp]
@[simp] theorem mS_len (sc : List Int) (k : Int) (rs : List Int) (b w : Int) : (mS sc k rs b w).length = 2 := rfl
/-- what a draw does -/
def DrawOk (sc : List Int) (b w : Int) (f : List D → Sto → Res D) : Prop := ∀ (k : Int) (rs : List Int) (ex : Sto) (many : Int), rs.length = sc.length → 0 ≤ k → k ≤ 1000000000 → 0 < many → many < 1000000 →
  ∃ (j : Nat) (rs' : List Int), f [.loc 0, .int many] (mS sc k rs b w ++ ex) = .ok (.int j) (mS sc (k + 1) rs' b w ++ ex) ∧ (j : Int) < many ∧ rs'.length = sc.length
def RowOk (n t : Nat) (row : List Tie) : Prop := row.length ≤ t ∧ ∀ x ∈ row, ∀ m, x = some m → m < n
end TB
namespace TB
theorem mS_app (sc : List Int) (k : Int) (rs : List Int) (b w : Int) (B : Sto) : (mS sc k rs b w ++ B).length = 2 + B.length := by rw [List.length_append, mS_len]
end TB
namespace TB
theorem undL_ints (n : Nat) (l : List Int) : D.underL n (l.map .int) = true := smL_under n _ (smL_ints 0 l)
theorem mS_under (sc : List Int) (k : Int) (rs : List Int) (b w : Int) (n : Nat) : (mS sc k rs b w).all (Cell.under (2 + n)) = true := by
  simp only [mS, mD, List.all_cons, List.all_nil, Cell.under, und_str, und_int, D.under, undL_ints, Bool.and_self, Bool.and_true]
  simp
  omega
/-- a call's end: draws, junk -/
theorem tidy_mS {sc : List Int} {k k' : Int} {rs rs' : List Int} {b b' w w' : Int} {ex js : Sto} {d : D} (hex : ex.all (Cell.under (2 + ex.length)) = true) (hd : d.under (2 + ex.length) = true) :
    tidy (mS sc k rs b w ++ ex) (.ok d (mS sc k' rs' b' w' ++ (ex ++ js))) = .ok d (mS sc k' rs' b' w' ++ ex) := by
  rw [← List.append_assoc]
  refine tidy_mod _ _ _ (by rw [mS_app, mS_app]) ?_ (by rw [mS_app]; exact hd)
  rw [mS_app, List.all_append, mS_under, hex]
  rfl
end TB
namespace TB
/-- a comprehension whose elements change the store -/
theorem lcL_inv {hs : List (Nat × List D)} {g : GM} {e : EM} {r : Env} {p : Nat} {xs : List D} (I : Nat → List D → Sto → Prop) {st : Sto} (h0 : I 0 [] st) (hh : ∀ k acc s, k ≤ xs.length → I k acc s → heldOk hs s = true)
    (step : ∀ k acc s x, xs[k]? = some x → I k acc s → ∃ r1 s1 d s2, g x r s = .ok r1 s1 ∧ tidy s1 (e r1 s1) = .ok d s2 ∧ s2[p]? = some (.lst acc) ∧ acc.length < 16777216 ∧ I (k + 1) (acc ++ [d]) (s2.set p (.lst (acc ++ [d])))) :
    ∃ acc s, lcL hs g tYes e r p xs st = .ok (.loc p) s ∧ I xs.length acc s := by
  have key : ∀ (ys : List D) (k : Nat) (acc : List D) (s : Sto), xs.drop k = ys → k ≤ xs.length → I k acc s → ∃ acc' s', lcL hs g tYes e r p ys s = .ok (.loc p) s' ∧ I xs.length acc' s' := by
    intro ys
    induction ys with
    | nil =>
      intro k acc s e hk i
      have : xs.length ≤ k := List.drop_eq_nil_iff.mp e
      have hk2 : k = xs.length := by omega
      subst hk2
      exact ⟨acc, s, by rw [lcL, if_pos (hh _ acc s (Nat.le_refl _) i)], i⟩
    | cons y ys ih =>
      intro k acc s e hk i
      have hx : xs[k]? = some y := by
        have := congrArg (·[0]?) e
        simpa using this
      have hk2 := (List.getElem?_eq_some_iff.mp hx).1
      obtain ⟨r1, s1, d, s2, e1, e2, e3, e4, i2⟩ := step k acc s y hx i
      obtain ⟨acc', s', e5, i3⟩ := ih (k + 1) _ _ (by rw [← List.drop_drop, e]; rfl) hk2 i2
      refine ⟨acc', s', ?_, i3⟩
      rw [lcL, if_pos (hh k acc s hk i), e1]
      simp only [Res.bind_ok, tYes_ap, if_true, e2, e3]
      rw [if_pos e4, e5]
  exact key xs 0 [] st rfl (Nat.zero_le _) h0
theorem mPop_at {st : Sto} {p : Nat} {xs : List D} {j : Nat} {y : D} (h : lstAt st p = some xs) (hj : xs[j]? = some y) (hl : xs.length ≤ 1000000) : mPop (.loc p) [.int j] st = .ok y (st.set p (.lst (xs.eraseIdx j))) := by
  have hjl := (List.getElem?_eq_some_iff.mp hj).1
  have e : PySem.seqIndex? (j : Int) xs.length = some j := by
    unfold PySem.seqIndex?
    have h1 : ¬ (j : Int) < 0 := by omega
    simp [h1]
    omega
  simp only [mPop, h]
  rw [if_pos ⟨by omega, by omega⟩]
  simp only [e, hj]
end TB
namespace TB
theorem iL_erase : ∀ (l : List Nat) (j : Nat), (iL l).eraseIdx j = iL (l.eraseIdx j)
  | [], j => by simp [iL]
  | x :: l, 0 => rfl
  | x :: l, j + 1 => by
    have := iL_erase l j
    simp only [iL] at this ⊢
    simp [this]
end TB
namespace TB
theorem get_end {A : Sto} {c : Cell} {p : Nat} (hp : p = A.length) : (A ++ [c])[p]? = some c := by subst hp; simp
theorem set_end {A : Sto} {c d : Cell} {p : Nat} (hp : p = A.length) : (A ++ [c]).set p d = A ++ [d] := by subst hp; simp
theorem erase_perm {α : Type} : ∀ (l : List α) (j : Nat) (h : j < l.length), (l[j] :: l.eraseIdx j).Perm l
  | [], j, h => by simp at h
  | x :: l, 0, h => by simp
  | x :: l, j + 1, h => by
    have := erase_perm l j (by simpa using h)
    simp only [List.getElem_cons_succ, List.eraseIdx_cons_succ]
    have hj : j < l.length := by simpa using h
    exact (List.Perm.swap x (l[j]'hj) _).trans (this.cons x)
end TB

end

/-! ## TbPl5 -/
section
set_option linter.all false
set_option autoImplicit false
set_option maxRecDepth 100000
namespace TB
open PySem
theorem dctOf_tup (st : Sto) (xs : List D) : dctOf st (.tup xs) = none := rfl
theorem pIn_tup {st : Sto} {n : Nat} {fs : List Nat} : pIn (.int n) (.tup (iL fs)) st = .ok (.bl (decide (n ∈ fs))) st := by
  have hs : D.sm 1 (.tup (iL fs)) = true := by rw [sm_tup]; exact smL_iL 0 fs
  simp only [pIn, pInF, dctOf_tup, pInG]
  rw [datum_sm (n := 0) st (by simp), datum_sm st hs]
  have e1 : D.okD 60 (.int n) = true := rfl
  simp only [e1, sm60 (by omega) hs, Bool.and_self, if_true, eqv_iL, any_nat, id]
theorem intsOf_iL (fs : List Nat) : intsOf (iL fs) = some (fs.map fun (i : Nat) => (i : Int)) := by
  induction fs with
  | nil => rfl
  | cons a l ih =>
    simp only [iL, List.map_cons] at ih ⊢
    simp [intsOf, ih]
theorem idxOf_cast (n : Nat) : ∀ fs : List Nat, (fs.map fun (i : Nat) => (i : Int)).idxOf (n : Int) = fs.idxOf n
  | [] => rfl
  | a :: l => by
    simp only [List.map_cons, List.idxOf_cons, idxOf_cast n l]
    by_cases h : a = n
    · subst h; simp
    · have h2 : ((a : Int) == (n : Int)) = false := by simp; omega
      have h3 : (a == n) = false := by simpa using h
      rw [h2, h3]
theorem mPIndex_iL {st : Sto} {n : Nat} {fs : List Nat} (h : n ∈ fs) : mPIndex (.ptup (iL fs)) [.int n] st = .ok (.int (fs.idxOf n : Nat)) st := by
  simp only [mPIndex, intsOf_iL]
  rw [if_pos (List.mem_map.mpr ⟨n, h, rfl⟩), idxOf_cast]
def marks0 (n : Nat) (roots : List Nat) : List Nat := (List.range n).map fun v => if v ∈ roots then roots.idxOf v + 1 else 0
def stands0 (roots : List Nat) : List Stand := roots.map fun r => [(r, 0)]
theorem take_set_drop {α : Type} {xs : List α} {i : Nat} {y : α} (h : i < xs.length) : xs.take i ++ [y] ++ xs.drop (i + 1) = xs.set i y := by
  rw [List.set_eq_take_append_cons_drop, if_pos h]
  simp
/-- one turn of the walker i, whose stand isn't empty -/
def nextK (web : Web) (marks : List Nat) (stands : List Stand) (i : Nat) (ahead : Stand) (node count : Nat) : List Nat × List Stand :=
  match (web.getD node [])[count]? with
  | none => (marks, stands.set i (match ahead.getLast? with
    | none => []
    | some p => ahead.dropLast ++ [(p.1, p.2 + 1)]))
  | some none => (marks, stands.set i (ahead ++ [(node, count + 1)]))
  | some (some tie) => if 0 < marks.getD tie 0 then (marks, stands.set i (ahead ++ [(node, count + 1)])) else (marks.set tie (i + 1), stands.set i (ahead ++ [(node, count)] ++ [(tie, 0)]))
theorem eSt_append (a b : Stand) : (a ++ b).map eP = a.map eP ++ b.map eP := List.map_append
theorem eqv_eSt (s : Stand) (st : Sto) : pEq (eSt s) (.tup []) st = .ok (.bl s.isEmpty) st := by
  rw [pEq_sm (n := 2) (k := 1) (sm_eSt s) (by simp [sm_tup 0]) (by omega) (by omega), eSt, eqv_tup_nil]
  cases s <;> rfl
theorem nev_eSt (s : Stand) (st : Sto) : pNe (eSt s) (.tup []) st = .ok (.bl (!s.isEmpty)) st := by
  rw [pNe_sm (n := 2) (k := 1) (sm_eSt s) (by simp [sm_tup 0]) (by omega) (by omega), eSt, eqv_tup_nil]
  cases s <;> rfl
end TB
namespace TB
section
variable (st : Sto) (a b c d : D)
@[simp] theorem mkT0 : mkTup [] st = .ok (.tup []) st := if_pos (by decide)
@[simp] theorem mkT1 : mkTup [a] st = .ok (.tup [a]) st := if_pos (by simp [LINE])
@[simp] theorem mkT2 : mkTup [a, b] st = .ok (.tup [a, b]) st := if_pos (by simp [LINE])
@[simp] theorem mkT3 : mkTup [a, b, c] st = .ok (.tup [a, b, c]) st := if_pos (by simp [LINE])
@[simp] theorem mkT4 : mkTup [a, b, c, d] st = .ok (.tup [a, b, c, d]) st := if_pos (by simp [LINE])
@[simp] theorem weak_ptup (xs : List D) : D.weak (.ptup xs) = .tup xs := rfl
@[simp] theorem isPt_ptup (xs : List D) : isPtD (.ptup xs) st = true := rfl
end
end TB
namespace TB
/-- a new cell is handed up from among junk -/
theorem tidy_loc {st js : Sto} {m : Nat} {c : Cell} (h : (st ++ js)[m]? = some c) (hm : st.length ≤ m) (hc : c.under st.length = true) : tidy st (.ok (.loc m) (st ++ js)) = .ok (.loc st.length) (st ++ [c]) := by
  have hl := (List.getElem?_eq_some_iff.mp h).1
  have hu : D.under st.length (.loc m) = false := by simp [D.under]; omega
  rw [tidy_def, if_neg (by omega)]
  simp only [prefOk_same, if_true, hu, Bool.false_eq_true, if_false, h, hm, hc, and_self, List.take_left]
theorem fStore_ints {A B : Sto} {xs : List Nat} {p i : Nat} {z : Nat} (hp : p = A.length) (hi : i < xs.length) : fStore (.loc p) (.int i) (.int z) (A ++ .lst (iL xs) :: B) = .ok () (A ++ .lst (iL (xs.set i z)) :: B) := by
  have h2 : L2.ixN (iL xs).length (i : Int) = some i := by
    unfold L2.ixN
    rw [if_pos (by omega), if_pos (by simp [iL]; omega)]
    simp
  have h1 := lstAt_some (at_mid (B := B) (xs := iL xs) hp)
  simp only [fStore, h1, h2]
  subst hp
  simp [iL, List.map_set]
/-- a stand is put down: ties, counts, the node behind -/
def putS : Stand → (Web × List Nat × Tie) → (Web × List Nat × Tie)
  | [], a => a
  | (m, c) :: rest, (t, cs, b) => if rest = [] then putS rest (t, cs.set m c, b) else putS rest (set2 t m c b, cs.set m c, some m)
def hereOf (r : Nat) (s : Stand) (b : Tie) : Here := match s.getLast? with
  | none => .at_ r
  | some p => .on p.1 b
def putAll : List (Nat × Stand) → (Web × List Nat × List Here) → (Web × List Nat × List Here)
  | [], a => a
  | (r, s) :: rest, (t, cs, hs) => putAll rest ((putS s (t, cs, none)).1, (putS s (t, cs, none)).2.1, hs ++ [hereOf r s (putS s (t, cs, none)).2.2])
def stateOf (web : Web) (roots marks : List Nat) (stands : List Stand) : State :=
  let q := putAll (roots.zip stands) (web, List.replicate web.length 0, [])
  ⟨q.1, marks, q.2.1, q.2.2⟩
/-- a stand's places stand in the web -/
def StandIn (web : Web) (s : Stand) : Prop := s.length ≤ 60 ∧ ∀ (j m c : Nat), s[j]? = some (m, c) → ∃ row, web[m]? = some row ∧ (j + 1 < s.length → c < row.length)
theorem putS_shape : ∀ (s : Stand) (t : Web) (cs : List Nat) (b : Tie), shape (putS s (t, cs, b)).1 = shape t ∧ (putS s (t, cs, b)).2.1.length = cs.length
  | [], t, cs, b => ⟨rfl, rfl⟩
  | (m, c) :: rest, t, cs, b => by
    rw [putS]
    split
    · have := putS_shape rest t (cs.set m c) b
      simpa using this
    · have := putS_shape rest (set2 t m c b) (cs.set m c) (some m)
      rw [shape_set2] at this
      simpa using this
theorem putAll_shape : ∀ (l : List (Nat × Stand)) (t : Web) (cs : List Nat) (hs : List Here), shape (putAll l (t, cs, hs)).1 = shape t ∧ (putAll l (t, cs, hs)).2.1.length = cs.length ∧ (putAll l (t, cs, hs)).2.2.length = hs.length + l.length
  | [], t, cs, hs => ⟨rfl, rfl, rfl⟩
  | (r, s) :: rest, t, cs, hs => by
    rw [putAll]
    have h1 := putS_shape s t cs none
    have h2 := putAll_shape rest (putS s (t, cs, none)).1 (putS s (t, cs, none)).2.1 (hs ++ [hereOf r s (putS s (t, cs, none)).2.2])
    exact ⟨h2.1.trans h1.1, h2.2.1.trans h1.2, by rw [h2.2.2]; simp; omega⟩
theorem zip_eSt : ∀ (a : List Nat) (b : List Stand), zipD (iL a) (b.map eSt) = (a.zip b).map fun p => D.tup [.int p.1, eSt p.2]
  | [], _ => by simp [iL, zipD]
  | x :: a, [] => by simp [iL, zipD]
  | x :: a, y :: b => by
    have := zip_eSt a b
    simp only [iL] at this ⊢
    simp [zipD, this]
end TB
namespace TB
/-- a comprehension with a test, that changes nothing -/
theorem lcL_mapF {hs : List (Nat × List D)} {g : GM} {t : TM} {e : EM} {r : Env} {F : D → D} {K : D → Bool} {st : Sto} : ∀ {xs : List D} {acc : List D}, (∀ acc, heldOk hs (st ++ [.lst acc]) = true) →
    (∀ x ∈ xs, ∀ acc, ∃ r1, g x r (st ++ [.lst acc]) = .ok r1 (st ++ [.lst acc]) ∧ t r1 (st ++ [.lst acc]) = .ok (K x) (st ++ [.lst acc]) ∧ tidy (st ++ [.lst acc]) (e r1 (st ++ [.lst acc])) = .ok (F x) (st ++ [.lst acc])) →
    acc.length + xs.length ≤ 16777215 → lcL hs g t e r st.length xs (st ++ [.lst acc]) = .ok (.loc st.length) (st ++ [.lst (acc ++ (xs.filter K).map F)])
  | [], acc, hh, _, _ => by rw [lcL, if_pos (hh acc)]; simp
  | x :: xs, acc, hh, hx, hl => by
    obtain ⟨r1, e1, et, e2⟩ := hx x (List.mem_cons_self) acc
    have e3 : (st ++ [Cell.lst acc])[st.length]? = some (.lst acc) := by simp
    have e4 : (st ++ [Cell.lst acc]).set st.length (.lst (acc ++ [F x])) = st ++ [.lst (acc ++ [F x])] := by simp
    rw [lcL, if_pos (hh acc), e1]
    simp only [Res.bind_ok, et]
    cases hk : K x with
    | true =>
      simp only [if_true, e2, Res.bind_ok, e3]
      rw [if_pos (by simp at hl; omega), e4, lcL_mapF hh (fun y hy => hx y (List.mem_cons_of_mem _ hy)) (by simp at hl ⊢; omega)]
      simp [hk]
    | false =>
      simp only [Bool.false_eq_true, if_false]
      rw [lcL_mapF hh (fun y hy => hx y (List.mem_cons_of_mem _ hy)) (by simp at hl ⊢; omega)]
      simp [hk]
theorem eLc_mapF {own : List Nat} {g : GM} {im : IM} {t : TM} {e : EM} {r : Env} {st : Sto} {i : Iter} (F : D → D) (K : D → Bool) (hi : im r st = .ok i st) (hh : ∀ acc, heldOk i.holds (st ++ [.lst acc]) = true)
    (hx : ∀ x ∈ i.items, ∀ acc, ∃ r1, g x (wipeE r own) (st ++ [.lst acc]) = .ok r1 (st ++ [.lst acc]) ∧ t r1 (st ++ [.lst acc]) = .ok (K x) (st ++ [.lst acc]) ∧ tidy (st ++ [.lst acc]) (e r1 (st ++ [.lst acc])) = .ok (F x) (st ++ [.lst acc])) (hl : i.items.length ≤ 16777215) :
    eLc own g im t e r st = .ok (.loc st.length) (st ++ [.lst ((i.items.filter K).map F)]) := by
  rw [eLc_ap, hi]
  simp only [Res.bind_ok]
  rw [lcL_mapF hh hx (by simpa using hl)]
  rfl
/-- what a draw from a list does -/
def OfOk (sc : List Int) (f : List D → Sto → Res D) : Prop := ∀ (b w k : Int) (rs : List Int) (ex : Sto) (p : Nat) (xs : List D), rs.length = sc.length → 0 ≤ k → k ≤ 1000000000 → xs ≠ [] → xs.length < 1000000 → (∀ k rs, lstAt (mS sc k rs b w ++ ex) p = some xs) →
  ∃ (j : Nat) (rs' : List Int) (d : D), f [.loc 0, .loc p] (mS sc k rs b w ++ ex) = .ok d (mS sc (k + 1) rs' b w ++ ex) ∧ xs[j]? = some d ∧ rs'.length = sc.length
end TB

end

/-! ## TbPl6 -/
section
set_option linter.all false
set_option autoImplicit false
set_option maxRecDepth 100000
namespace TB
open PySem

/-! ### what is written when stands are put down -/
abbrev Wr := Nat × Nat × Option Tie
def flatS : Stand → Tie → List Wr
  | [], _ => []
  | (m, c) :: rest, b => if rest = [] then [(m, c, none)] else (m, c, some b) :: flatS rest (some m)
def behS : Stand → Tie → Tie
  | [], b => b
  | (m, c) :: rest, b => if rest = [] then b else behS rest (some m)
def writeT (t : Web) (x : Wr) : Web := match x.2.2 with
  | none => t
  | some b => set2 t x.1 x.2.1 b
def writeC (cs : List Nat) (x : Wr) : List Nat := cs.set x.1 x.2.1
theorem putS_flat : ∀ (s : Stand) (t : Web) (cs : List Nat) (b : Tie), putS s (t, cs, b) = ((flatS s b).foldl writeT t, (flatS s b).foldl writeC cs, behS s b)
  | [], t, cs, b => rfl
  | (m, c) :: rest, t, cs, b => by
    rw [putS, flatS, behS]
    by_cases h : rest = []
    · subst h; simp [putS, writeT, writeC]
    · rw [if_neg h, if_neg h, if_neg h, putS_flat rest]
      simp [writeT, writeC]
theorem putAll_flat : ∀ (l : List (Nat × Stand)) (t : Web) (cs : List Nat) (hs : List Here), putAll l (t, cs, hs) =
    ((l.flatMap fun p => flatS p.2 none).foldl writeT t, (l.flatMap fun p => flatS p.2 none).foldl writeC cs, hs ++ l.map fun p => hereOf p.1 p.2 (behS p.2 none))
  | [], t, cs, hs => by simp [putAll]
  | (r, s) :: rest, t, cs, hs => by
    rw [putAll, putS_flat, putAll_flat rest]
    simp
theorem flatS_get : ∀ (s : Stand) (b : Tie) (j : Nat), (flatS s b)[j]? = (s[j]?).map fun p => (p.1, p.2, if j + 1 < s.length then some (if j = 0 then b else (s[j - 1]?).map Prod.fst) else none)
  | [], b, j => by simp [flatS]
  | (m, c) :: rest, b, j => by
    rw [flatS]
    by_cases h : rest = []
    · subst h
      cases j <;> simp
    · rw [if_neg h]
      have hp : 0 < rest.length := List.length_pos_iff.mpr h
      cases j with
      | zero => simp [hp]
      | succ j =>
        rw [List.getElem?_cons_succ, flatS_get rest (some m) j, List.getElem?_cons_succ]
        cases hj : rest[j]? with
        | none => rfl
        | some p =>
          simp only [Option.map_some, List.length_cons, Nat.succ_ne_zero, if_false, Nat.add_sub_cancel]
          congr 3
          have : (j + 1 < rest.length) = (j + 1 + 1 < rest.length + 1) := by simp
          simp only [this]
          cases j with
          | zero => simp
          | succ j => simp
theorem behS_eq : ∀ (s : Stand) (b : Tie), s ≠ [] → behS s b = if s.length = 1 then b else (s[s.length - 2]?).map Prod.fst
  | [], b, h => absurd rfl h
  | (m, c) :: rest, b, _ => by
    rw [behS]
    by_cases h : rest = []
    · subst h; simp
    · rw [if_neg h, behS_eq rest (some m) h]
      have hp : 0 < rest.length := List.length_pos_iff.mpr h
      rw [if_neg (show ¬ ((m, c) :: rest).length = 1 by simp; omega)]
      by_cases h1 : rest.length = 1
      · rw [if_pos h1]
        simp [h1]
      · rw [if_neg h1]
        obtain ⟨z, hz⟩ : ∃ z, rest.length = z + 2 := ⟨rest.length - 2, by omega⟩
        simp [hz]
/-! ### what stands behind writes -/
theorem foldC_len : ∀ (W : List Wr) (cs : List Nat), (W.foldl writeC cs).length = cs.length
  | [], cs => rfl
  | x :: W, cs => by rw [List.foldl_cons, foldC_len W]; simp [writeC]
theorem foldC_miss : ∀ (W : List Wr) (cs : List Nat) (n : Nat), (∀ x ∈ W, x.1 ≠ n) → (W.foldl writeC cs)[n]? = cs[n]?
  | [], cs, n, _ => rfl
  | x :: W, cs, n, h => by
    rw [List.foldl_cons, foldC_miss W _ n fun y hy => h y (List.mem_cons_of_mem _ hy), writeC, List.getElem?_set_ne (h x List.mem_cons_self)]
theorem foldC_hit : ∀ (W : List Wr) (cs : List Nat) (n v : Nat), (∃ x ∈ W, x.1 = n) → (∀ x ∈ W, x.1 = n → x.2.1 = v) → n < cs.length → (W.foldl writeC cs)[n]? = some v
  | [], cs, n, v, ⟨x, hx, _⟩, _, _ => by cases hx
  | x :: W, cs, n, v, hex, hv, hl => by
    rw [List.foldl_cons]
    by_cases h : ∃ y ∈ W, y.1 = n
    · exact foldC_hit W _ n v h (fun y hy => hv y (List.mem_cons_of_mem _ hy)) (by simpa [writeC] using hl)
    · have hno : ∀ y ∈ W, y.1 ≠ n := fun y hy e => h ⟨y, hy, e⟩
      rw [foldC_miss W _ n hno]
      obtain ⟨y, hy, hyn⟩ := hex
      have hxn : x.1 = n := by
        rcases List.mem_cons.mp hy with e | e
        · rw [← e]; exact hyn
        · exact absurd hyn (hno y e)
      rw [writeC, hxn, hv x List.mem_cons_self hxn, List.getElem?_set_self hl]
theorem shape_writeT (t : Web) (x : Wr) : shape (writeT t x) = shape t := by
  unfold writeT
  split
  · rfl
  · exact shape_set2 _ _ _ _
theorem foldT_shape (W : List Wr) (t : Web) : shape (W.foldl writeT t) = shape t := shape_foldl shape_writeT W t
theorem some_set2 {w : Web} {n j n' j' : Nat} {t : Tie} : (get2 (set2 w n j t) n' j').isSome = (get2 w n' j').isSome := by
  rw [get2_set2]
  split
  · rename_i h
    obtain ⟨rfl, rfl, h⟩ := h
    rw [h]; rfl
  · rfl
theorem some_writeT {w : Web} {x : Wr} {n j : Nat} : (get2 (writeT w x) n j).isSome = (get2 w n j).isSome := by
  unfold writeT
  split
  · rfl
  · exact some_set2
theorem foldT_miss : ∀ (W : List Wr) (t : Web) (n j : Nat), (∀ x ∈ W, x.1 = n → x.2.1 = j → x.2.2 = none) → get2 (W.foldl writeT t) n j = get2 t n j
  | [], t, n, j, _ => rfl
  | x :: W, t, n, j, h => by
    rw [List.foldl_cons, foldT_miss W _ n j fun y hy => h y (List.mem_cons_of_mem _ hy)]
    have hx := h x List.mem_cons_self
    unfold writeT
    split
    · rfl
    · rename_i b hb
      rw [get2_set2, if_neg]
      rintro ⟨h1, h2, _⟩
      rw [hx h1 h2] at hb
      cases hb
theorem foldT_hit : ∀ (W : List Wr) (t : Web) (n j : Nat) (v : Tie), (∃ x ∈ W, x.1 = n ∧ x.2.1 = j ∧ x.2.2.isSome = true) → (∀ x ∈ W, x.1 = n → x.2.1 = j → ∀ b, x.2.2 = some b → b = v) → (get2 t n j).isSome = true → get2 (W.foldl writeT t) n j = some v
  | [], t, n, j, v, ⟨x, hx, _⟩, _, _ => by cases hx
  | x :: W, t, n, j, v, hex, hv, hl => by
    rw [List.foldl_cons]
    by_cases h : ∃ y ∈ W, y.1 = n ∧ y.2.1 = j ∧ y.2.2.isSome = true
    · exact foldT_hit W _ n j v h (fun y hy => hv y (List.mem_cons_of_mem _ hy)) (by rw [some_writeT]; exact hl)
    · have hno : ∀ y ∈ W, y.1 = n → y.2.1 = j → y.2.2 = none := fun y hy e1 e2 => by
        cases hb : y.2.2 with
        | none => rfl
        | some b => exact absurd ⟨y, hy, e1, e2, by rw [hb]; rfl⟩ h
      rw [foldT_miss W _ n j hno]
      obtain ⟨y, hy, h1, h2, h3⟩ := hex
      have hxy : x.1 = n ∧ x.2.1 = j ∧ x.2.2.isSome = true := by
        rcases List.mem_cons.mp hy with e | e
        · rw [← e]; exact ⟨h1, h2, h3⟩
        · rw [hno y e h1 h2] at h3; cases h3
      obtain ⟨b, hb⟩ := Option.isSome_iff_exists.mp hxy.2.2
      have := hv x List.mem_cons_self hxy.1 hxy.2.1 b hb
      subst this
      unfold writeT
      rw [hb]
      simp only
      rw [get2_set2, if_pos]
      rw [hxy.1, hxy.2.1]
      exact ⟨rfl, rfl, hl⟩
theorem get2_some {w : Web} {n j : Nat} {t : Tie} (h : get2 w n j = some t) : ∃ row, w[n]? = some row ∧ row[j]? = some t := by
  unfold get2 at h
  cases hr : w[n]? with
  | none => rw [hr] at h; cases h
  | some row => rw [hr] at h; exact ⟨row, rfl, h⟩
theorem get2_of {w : Web} {n j : Nat} {t : Tie} {row : List Tie} (h : w[n]? = some row) (h2 : row[j]? = some t) : get2 w n j = some t := by
  unfold get2; rw [h]; exact h2
/-! ### a walk's kept -/
structure Good (web : Web) (roots marks : List Nat) (stands : List Stand) : Prop where
  n1 : 1 ≤ web.length
  n2 : web.length ≤ 60
  rw_ : ∀ row ∈ web, row.length ≤ 8 ∧ ∀ t ∈ row, ∀ m, t = some m → m < web.length
  rl : stands.length = roots.length
  r1 : 1 ≤ roots.length
  r6 : roots.length ≤ 6
  rlt : ∀ r ∈ roots, r < web.length
  ml : marks.length = web.length
  mx : ∀ m ∈ marks, m ≤ roots.length
  rm : ∀ (i r : Nat), roots[i]? = some r → marks[r]? = some (i + 1)
  sm : ∀ (i : Nat) (s : Stand), stands[i]? = some s → ∀ p ∈ s, marks[p.1]? = some (i + 1)
  sn : ∀ s ∈ stands, (s.map Prod.fst).Nodup
  sc : ∀ s ∈ stands, ∀ p ∈ s, ∃ row, web[p.1]? = some row ∧ p.2 ≤ row.length
  sl : ∀ s ∈ stands, ∀ (j m c m' c' : Nat), s[j]? = some (m, c) → s[j + 1]? = some (m', c') → get2 web m c = some (some m')
  sh : ∀ (i : Nat) (s : Stand) (p : Nat × Nat), stands[i]? = some s → s[0]? = some p → roots[i]? = some p.1
theorem len_nodup : ∀ (n : Nat) (l : List Nat), l.Nodup → (∀ x ∈ l, x < n) → l.length ≤ n
  | 0, l, _, h => by
    cases l with
    | nil => simp
    | cons a l => exact absurd (h a List.mem_cons_self) (by omega)
  | n + 1, l, hn, h => by
    by_cases hm : n ∈ l
    · have h1 : (l.erase n).length ≤ n := len_nodup n _ (hn.erase n) fun x hx => by
        have := (hn.mem_erase_iff).mp hx
        have := h x this.2
        omega
      rw [List.length_erase_of_mem hm] at h1
      omega
    · have := len_nodup n l hn fun x hx => by
        have := h x hx
        have : x ≠ n := fun e => hm (e ▸ hx)
        omega
      omega
def waysOf (stands : List Stand) : List (List Nat) := stands.map fun s => s.map Prod.fst
def writes (roots : List Nat) (stands : List Stand) : List Wr := (roots.zip stands).flatMap fun p => flatS p.2 none
section
variable {web : Web} {roots marks : List Nat} {stands : List Stand}
theorem Good.standLen (G : Good web roots marks stands) {s : Stand} (hs : s ∈ stands) : s.length ≤ 60 := by
  have h := len_nodup web.length (s.map Prod.fst) (G.sn s hs) fun x hx => by
    obtain ⟨p, hp, rfl⟩ := List.mem_map.mp hx
    obtain ⟨row, h1, _⟩ := G.sc s hs p hp
    exact (List.getElem?_eq_some_iff.mp h1).1
  have := G.n2
  simp at h
  omega
theorem Good.standIn (G : Good web roots marks stands) : ∀ s ∈ stands, StandIn web s := fun s hs => by
  refine ⟨G.standLen hs, fun j m c hj => ?_⟩
  obtain ⟨row, h1, h2⟩ := G.sc s hs (m, c) (List.mem_of_getElem? hj)
  refine ⟨row, h1, fun hlt => ?_⟩
  obtain ⟨p, hp⟩ : ∃ p, s[j + 1]? = some p := ⟨_, List.getElem?_eq_getElem hlt⟩
  have := G.sl s hs j m c p.1 p.2 hj hp
  obtain ⟨row', k1, k2⟩ := get2_some this
  rw [h1] at k1
  cases k1
  exact (List.getElem?_eq_some_iff.mp k2).1
theorem Good.stateEq (G : Good web roots marks stands) : stateOf web roots marks stands = ⟨(writes roots stands).foldl writeT web, marks, (writes roots stands).foldl writeC (List.replicate web.length 0), (roots.zip stands).map fun p => hereOf p.1 p.2 (behS p.2 none)⟩ := by
  unfold stateOf
  rw [putAll_flat]
  rfl
theorem Good.mem_writes (G : Good web roots marks stands) {x : Wr} : x ∈ writes roots stands ↔ ∃ (i : Nat) (s : Stand) (j : Nat) (p : Nat × Nat), stands[i]? = some s ∧ s[j]? = some p ∧ x = (p.1, p.2, if j + 1 < s.length then some (if j = 0 then none else (s[j - 1]?).map Prod.fst) else none) := by
  unfold writes
  rw [List.mem_flatMap]
  constructor
  · rintro ⟨q, hq, hx⟩
    obtain ⟨i, hi⟩ := List.getElem?_of_mem hq
    obtain ⟨j, hj⟩ := List.getElem?_of_mem hx
    rw [flatS_get, Option.map_eq_some_iff] at hj
    obtain ⟨p, hp, rfl⟩ := hj
    rw [List.getElem?_zip_eq_some] at hi
    exact ⟨i, q.2, j, p, hi.2, hp, rfl⟩
  · rintro ⟨i, s, j, p, hs, hp, rfl⟩
    have hi := (List.getElem?_eq_some_iff.mp hs).1
    have hr : i < roots.length := by rw [← G.rl]; exact hi
    refine ⟨(roots[i], s), List.mem_of_getElem? (i := i) (by rw [List.getElem?_zip_eq_some]; exact ⟨List.getElem?_eq_getElem hr, hs⟩), ?_⟩
    exact List.mem_of_getElem? (i := j) (by rw [flatS_get, hp]; rfl)
theorem Good.uniq (G : Good web roots marks stands) {i i' j j' : Nat} {s s' : Stand} {p p' : Nat × Nat} (h1 : stands[i]? = some s) (h2 : s[j]? = some p) (h3 : stands[i']? = some s') (h4 : s'[j']? = some p') (e : p.1 = p'.1) : i = i' ∧ j = j' ∧ s = s' ∧ p = p' := by
  have a := G.sm i s h1 p (List.mem_of_getElem? h2)
  have b := G.sm i' s' h3 p' (List.mem_of_getElem? h4)
  rw [e, b] at a
  have hi : i = i' := by have := Option.some.inj a; omega
  subst hi
  rw [h1] at h3
  cases h3
  have nd := G.sn s (List.mem_of_getElem? h1)
  have k1 : (s.map Prod.fst)[j]? = some p.1 := by rw [List.getElem?_map, h2]; rfl
  have k2 : (s.map Prod.fst)[j']? = some p.1 := by rw [List.getElem?_map, h4, e]; rfl
  have hjl := (List.getElem?_eq_some_iff.mp k1).1
  have hj : j = j' := (List.getElem?_inj hjl nd).mp (k1.trans k2.symm)
  subst hj
  rw [h2] at h4
  cases h4
  exact ⟨rfl, rfl, rfl, rfl⟩
theorem Good.counts_at (G : Good web roots marks stands) {i j : Nat} {s : Stand} {p : Nat × Nat} (h1 : stands[i]? = some s) (h2 : s[j]? = some p) : ((writes roots stands).foldl writeC (List.replicate web.length 0))[p.1]? = some p.2 := by
  refine foldC_hit _ _ _ _ ⟨_, G.mem_writes.mpr ⟨i, s, j, p, h1, h2, rfl⟩, rfl⟩ (fun x hx e => ?_) ?_
  · obtain ⟨i', s', j', p', h3, h4, rfl⟩ := G.mem_writes.mp hx
    obtain ⟨_, _, _, rfl⟩ := G.uniq h1 h2 h3 h4 e.symm
    rfl
  · obtain ⟨row, k, _⟩ := G.sc s (List.mem_of_getElem? h1) p (List.mem_of_getElem? h2)
    rw [List.length_replicate]
    exact (List.getElem?_eq_some_iff.mp k).1
theorem Good.ties_at (G : Good web roots marks stands) {i j : Nat} {s : Stand} {p : Nat × Nat} (h1 : stands[i]? = some s) (h2 : s[j]? = some p) (hj : j + 1 < s.length) : get2 ((writes roots stands).foldl writeT web) p.1 p.2 = some (if j = 0 then none else (s[j - 1]?).map Prod.fst) := by
  refine foldT_hit _ _ _ _ _ ⟨_, G.mem_writes.mpr ⟨i, s, j, p, h1, h2, rfl⟩, rfl, rfl, by rw [if_pos hj]; rfl⟩ (fun x hx e1 e2 b hb => ?_) ?_
  · obtain ⟨i', s', j', p', h3, h4, rfl⟩ := G.mem_writes.mp hx
    obtain ⟨rfl, rfl, rfl, rfl⟩ := G.uniq h1 h2 h3 h4 e1.symm
    rw [if_pos hj] at hb
    exact (Option.some.inj hb).symm
  · obtain ⟨q, hq⟩ : ∃ q, s[j + 1]? = some q := ⟨_, List.getElem?_eq_getElem hj⟩
    rw [G.sl s (List.mem_of_getElem? h1) j p.1 p.2 q.1 q.2 h2 hq]
    rfl
/-- what else stands in the ties -/
theorem Good.ties_or (G : Good web roots marks stands) (n j : Nat) : get2 ((writes roots stands).foldl writeT web) n j = get2 web n j ∨ ∃ (i : Nat) (s : Stand) (k : Nat) (p : Nat × Nat), stands[i]? = some s ∧ s[k]? = some p ∧ k + 1 < s.length ∧ p.1 = n ∧ p.2 = j := by
  by_cases h : ∃ x ∈ writes roots stands, x.1 = n ∧ x.2.1 = j ∧ x.2.2.isSome = true
  · obtain ⟨x, hx, e1, e2, e3⟩ := h
    obtain ⟨i, s, k, p, h1, h2, rfl⟩ := G.mem_writes.mp hx
    refine .inr ⟨i, s, k, p, h1, h2, ?_, e1, e2⟩
    by_cases hk : k + 1 < s.length
    · exact hk
    · rw [if_neg hk] at e3; cases e3
  · refine .inl (foldT_miss _ _ _ _ fun x hx e1 e2 => ?_)
    cases hb : x.2.2 with
    | none => rfl
    | some b => exact absurd ⟨x, hx, e1, e2, by rw [hb]; rfl⟩ h
end
end TB

end

/-! ## TbPl7 -/
section
set_option linter.all false
set_option autoImplicit false
set_option maxRecDepth 100000
namespace TB
open PySem
section
variable {web : Web} {roots marks : List Nat} {stands : List Stand}
theorem Good.here (G : Good web roots marks stands) {i : Nat} {h : Here} (hh : (stateOf web roots marks stands).heres[i]? = some h) : ∃ r s, roots[i]? = some r ∧ stands[i]? = some s ∧ h = hereOf r s (behS s none) := by
  rw [G.stateEq] at hh
  simp only [List.getElem?_map, Option.map_eq_some_iff] at hh
  obtain ⟨⟨r, s⟩, h1, rfl⟩ := hh
  rw [List.getElem?_zip_eq_some] at h1
  exact ⟨r, s, h1.1, h1.2, rfl⟩
theorem Good.heresLen (G : Good web roots marks stands) : (stateOf web roots marks stands).heres.length = roots.length := by
  rw [G.stateEq]
  simp [G.rl]
theorem Good.backOk (G : Good web roots marks stands) {i r : Nat} {s : Stand} (hr : roots[i]? = some r) (hs : stands[i]? = some s) : BackOk (stateOf web roots marks stands) (i + 1) (hereOf r s (behS s none)) (s.map Prod.fst) := by
  have hm := List.mem_of_getElem? hs
  rcases List.eq_nil_or_concat s with h0 | ⟨ah, p, hcc⟩
  · subst h0
    refine ⟨rfl, ?_⟩
    rw [G.stateEq]
    exact G.rm i r hr
  · try rw [List.concat_eq_append] at hcc
    have hne : s ≠ [] := by rw [hcc]; simp
    have hlen : s.length = ah.length + 1 := by rw [hcc]; simp
    have hho : hereOf r s (behS s none) = .on p.1 (behS s none) := by simp [hereOf, hcc]
    rw [hho]
    have hP : ∀ k, k < s.length → ((s.map Prod.fst).reverse)[k]? = (s[s.length - 1 - k]?).map Prod.fst := fun k hk => by
      rw [List.getElem?_reverse (by simpa using hk), List.getElem?_map]
      simp
    have hlast : s[s.length - 1]? = some p := by rw [hlen, hcc]; simp
    refine ⟨?_, ?_, ?_, ?_, ?_, ?_⟩
    · rw [hP 0 (by omega), Nat.sub_zero, hlast]; rfl
    · rw [behS_eq s none hne]
      by_cases h1 : s.length = 1
      · rw [if_pos h1]
        exact List.getElem?_eq_none (by simp; omega)
      · rw [if_neg h1, hP 1 (by omega)]
        have : s.length - 1 - 1 = s.length - 2 := by omega
        rw [this]
    · intro k m hk1 hk
      have hkl : k < s.length := by have := (List.getElem?_eq_some_iff.mp hk).1; simpa using this
      rw [hP k hkl, Option.map_eq_some_iff] at hk
      obtain ⟨q, hq, rfl⟩ := hk
      have hc := G.counts_at hs hq
      have ht := G.ties_at hs hq (by omega)
      obtain ⟨row, k1, k2⟩ := get2_some ht
      refine ⟨q.2, row, by rw [G.stateEq]; exact hc, by rw [G.stateEq]; exact k1, ?_⟩
      rw [k2]
      congr 1
      by_cases h0 : s.length - 1 - k = 0
      · rw [if_pos h0]
        exact (List.getElem?_eq_none (by simp; omega)).symm
      · rw [if_neg h0, hP (k + 1) (by omega)]
        have : s.length - 1 - k - 1 = s.length - 1 - (k + 1) := by omega
        rw [this]
    · exact (List.reverse_perm _).nodup_iff.mpr (G.sn s hm)
    · intro m hm2
      rw [List.mem_reverse, List.mem_map] at hm2
      obtain ⟨q, hq, rfl⟩ := hm2
      rw [G.stateEq]
      exact G.sm i s hs q hq
    · have := G.standLen hm
      simpa using this
theorem pairs_mem {way : List Nat} {p : Nat × Nat} (h : p ∈ pairs way) : ∃ j, way[j]? = some p.1 ∧ way[j + 1]? = some p.2 := by
  obtain ⟨j, hj⟩ := List.getElem?_of_mem h
  rw [pairs, List.getElem?_zip_eq_some] at hj
  exact ⟨j, hj.1, by rw [← List.getElem?_tail]; exact hj.2⟩
theorem Good.step (G : Good web roots marks stands) {s : Stand} (hs : s ∈ stands) {p : Nat × Nat} (hp : p ∈ pairs (s.map Prod.fst)) :
    ∃ (i j c c' : Nat), stands[i]? = some s ∧ s[j]? = some (p.1, c) ∧ s[j + 1]? = some (p.2, c') := by
  obtain ⟨i, hi⟩ := List.getElem?_of_mem hs
  obtain ⟨j, h1, h2⟩ := pairs_mem hp
  rw [List.getElem?_map, Option.map_eq_some_iff] at h1 h2
  obtain ⟨q, q1, q2⟩ := h1
  obtain ⟨u, u1, u2⟩ := h2
  exact ⟨i, j, q.2, u.2, hi, by rw [q1, ← q2], by rw [u1, ← u2]⟩
theorem Good.fits (G : Good web roots marks stands) {s : Stand} (hs : s ∈ stands) : Fits (stateOf web roots marks stands).counts (stateOf web roots marks stands).ties (s.map Prod.fst) := by
  intro p hp
  obtain ⟨i, j, c, c', hi, h1, h2⟩ := G.step hs hp
  have hc := G.counts_at hi h1
  have ht := G.ties_at hi h1 (List.getElem?_eq_some_iff.mp h2).1
  obtain ⟨row, k1, k2⟩ := get2_some ht
  exact ⟨c, row, by rw [G.stateEq]; exact hc, by rw [G.stateEq]; exact k1, (List.getElem?_eq_some_iff.mp k2).1⟩
theorem fold_back {cs : List Nat} {w0 : Web} : ∀ (ps : List (Nat × Nat)) (t : Web), shape t = shape w0 → (∀ p ∈ ps, get2 w0 p.1 (cs.getD p.1 0) = some (some p.2)) → ∀ n j, (get2 t n j = get2 w0 n j ∨ ∃ p ∈ ps, p.1 = n ∧ cs.getD p.1 0 = j) → get2 (ps.foldl (stepW cs) t) n j = get2 w0 n j
  | [], t, _, _, n, j, h => by
    rcases h with h | ⟨p, hp, _⟩
    · exact h
    · cases hp
  | q :: ps, t, hsh, hw, n, j, h => by
    rw [List.foldl_cons]
    have hq := hw q List.mem_cons_self
    have hsome : (get2 t q.1 (cs.getD q.1 0)).isSome = true := by
      obtain ⟨row, k1, k2⟩ := get2_some hq
      obtain ⟨row', e1, e2⟩ := shape_row hsh.symm k1
      have : cs.getD q.1 0 < row'.length := by rw [e2]; exact (List.getElem?_eq_some_iff.mp k2).1
      rw [get2_of e1 (List.getElem?_eq_getElem this)]; rfl
    refine fold_back ps _ ((shape_stepW _ _ _).trans hsh) (fun p hp => hw p (List.mem_cons_of_mem _ hp)) n j ?_
    by_cases hpos : q.1 = n ∧ cs.getD q.1 0 = j
    · left
      rw [stepW, get2_set2, if_pos ⟨hpos.1, hpos.2, hsome⟩, ← hpos.2, ← hpos.1, hq]
    · rcases h with h | ⟨p, hp, e1, e2⟩
      · left
        rw [stepW, get2_set2, if_neg fun z => hpos ⟨z.1, z.2.1⟩]
        exact h
      · rcases List.mem_cons.mp hp with e | e
        · subst e; exact absurd ⟨e1, e2⟩ hpos
        · exact .inr ⟨p, e, e1, e2⟩
theorem Good.webBack (G : Good web roots marks stands) : webBy (stateOf web roots marks stands).counts (stateOf web roots marks stands).ties (waysOf stands) = web := by
  have hflat : webBy (stateOf web roots marks stands).counts (stateOf web roots marks stands).ties (waysOf stands) = ((waysOf stands).flatMap pairs).foldl (stepW (stateOf web roots marks stands).counts) (stateOf web roots marks stands).ties := by
    rw [List.foldl_flatMap]
    rfl
  have hsh : shape (stateOf web roots marks stands).ties = shape web := by rw [G.stateEq]; exact foldT_shape _ _
  have hD : ∀ {i j : Nat} {s : Stand} {p : Nat × Nat}, stands[i]? = some s → s[j]? = some p → (stateOf web roots marks stands).counts.getD p.1 0 = p.2 := fun {i j s p} h1 h2 => by
    have hc := G.counts_at h1 h2
    rw [List.getD_eq_getElem?_getD, G.stateEq]
    simp only
    rw [hc]; rfl
  refine web_ext ?_ fun n j => ?_
  · rw [hflat, shape_foldl (shape_stepW _)]; exact hsh
  · rw [hflat]
    refine fold_back _ _ hsh (fun p hp => ?_) n j ?_
    · obtain ⟨way, hw, hp⟩ := List.mem_flatMap.mp hp
      obtain ⟨s, hs, rfl⟩ := List.mem_map.mp hw
      obtain ⟨i, k, c, c', hi, h1, h2⟩ := G.step hs hp
      rw [hD hi h1]
      exact G.sl s hs k p.1 c p.2 c' h1 h2
    · rcases G.ties_or n j with h | ⟨i, s, k, p, h1, h2, h3, e1, e2⟩
      · left
        rw [G.stateEq]
        exact h
      · right
        obtain ⟨q, hq⟩ : ∃ q, s[k + 1]? = some q := ⟨_, List.getElem?_eq_getElem h3⟩
        refine ⟨(p.1, q.1), List.mem_flatMap.mpr ⟨s.map Prod.fst, List.mem_map.mpr ⟨s, List.mem_of_getElem? h1, rfl⟩, ?_⟩, e1, ?_⟩
        · refine List.mem_of_getElem? (i := k) ?_
          rw [pairs, List.getElem?_zip_eq_some]
          exact ⟨by rw [List.getElem?_map, h2]; rfl, by rw [List.getElem?_tail, List.getElem?_map, hq]; rfl⟩
        · show (stateOf web roots marks stands).counts.getD p.1 0 = j
          rw [hD h1 h2, e2]
/-- what stands in the state's ties -/
theorem Good.tiesIn (G : Good web roots marks stands) {n j : Nat} {t : Tie} (h : get2 (stateOf web roots marks stands).ties n j = some t) : ∀ m, t = some m → m < web.length := by
  intro m hm
  subst hm
  rw [G.stateEq] at h
  simp only at h
  rcases G.ties_or n j with hz | ⟨i, s, k, p, h1, h2, h3, e1, e2⟩
  · rw [h] at hz
    obtain ⟨row, k1, k2⟩ := get2_some hz.symm
    exact (G.rw_ row (List.mem_of_getElem? k1)).2 _ (List.mem_of_getElem? k2) m rfl
  · rw [← e1, ← e2, G.ties_at h1 h2 h3] at h
    by_cases h0 : k = 0
    · rw [if_pos h0] at h; cases h
    · rw [if_neg h0] at h
      have := Option.some.inj h
      rw [Option.map_eq_some_iff] at this
      obtain ⟨q, q1, rfl⟩ := this
      obtain ⟨row, k1, _⟩ := G.sc s (List.mem_of_getElem? h1) q (List.mem_of_getElem? q1)
      exact (List.getElem?_eq_some_iff.mp k1).1
theorem amg_nat {n : Nat} {a b : Int} : amg (.int n) a b = (decide (a ≤ n) && decide ((n : Int) ≤ b)) := rfl
theorem Good.isState (G : Good web roots marks stands) : isStateD (eS (stateOf web roots marks stands)) = true := by
  have hsh : shape (stateOf web roots marks stands).ties = shape web := by rw [G.stateEq]; exact foldT_shape _ _
  have htl : (stateOf web roots marks stands).ties.length = web.length := by simpa [shape] using congrArg List.length hsh
  have hcl : (stateOf web roots marks stands).counts.length = web.length := by rw [G.stateEq]; simp [foldC_len]
  have h1 := G.n1
  have h2 := G.n2
  have hhl := G.heresLen
  have hr1 := G.r1
  have hr6 := G.r6
  have hmk : (stateOf web roots marks stands).marks = marks := by rw [G.stateEq]
  have rowLen : ∀ {n : Nat} {row : List Tie}, (stateOf web roots marks stands).ties[n]? = some row → row.length ≤ 8 := fun {n row} h => by
    obtain ⟨row', e1, e2⟩ := shape_row hsh h
    rw [← e2]
    exact (G.rw_ row' (List.mem_of_getElem? e1)).1
  have w1 : isWebD (eWeb (stateOf web roots marks stands).ties) = true := by
    simp only [isWebD, eWeb, List.length_map, htl, Bool.and_eq_true, decide_eq_true_eq, List.all_eq_true]
    refine ⟨⟨h1, h2⟩, fun x hx => ?_⟩
    obtain ⟨row, hrow, rfl⟩ := List.mem_map.mp hx
    obtain ⟨n, hn⟩ := List.getElem?_of_mem hrow
    simp only [isRowD, eRow, List.length_map, Bool.and_eq_true, decide_eq_true_eq, List.all_eq_true]
    refine ⟨rowLen hn, fun y hy => ?_⟩
    obtain ⟨t, ht, rfl⟩ := List.mem_map.mp hy
    obtain ⟨j, hj⟩ := List.getElem?_of_mem ht
    cases t with
    | none => rfl
    | some m =>
      have := G.tiesIn (get2_of hn hj) m rfl
      simp only [eTie_some, isNonD_int, Bool.false_or, amg_nat, Bool.and_eq_true, decide_eq_true_eq]
      omega
  have w2 : ((stateOf web roots marks stands).heres.map eH).all (isSpotD web.length) = true := by
    rw [List.all_eq_true]
    intro x hx
    obtain ⟨h, hh, rfl⟩ := List.mem_map.mp hx
    obtain ⟨i, hi⟩ := List.getElem?_of_mem hh
    obtain ⟨r, s, e1, e2, rfl⟩ := G.here hi
    rcases List.eq_nil_or_concat s with h0 | ⟨ah, p, hcc⟩
    · subst h0
      have := G.rlt r (List.mem_of_getElem? e1)
      show isSpotD web.length (.int r) = true
      simp only [isSpotD, amg_nat]
      have a1 : decide ((0 : Int) ≤ r) = true := by simp
      have a2 : decide ((r : Int) ≤ web.length - 1) = true := by simp; omega
      rw [a1, a2]; rfl
    · try rw [List.concat_eq_append] at hcc
      have hne : s ≠ [] := by rw [hcc]; simp
      have hho : hereOf r s (behS s none) = .on p.1 (behS s none) := by simp [hereOf, hcc]
      rw [hho]
      have hpm : p ∈ s := by rw [hcc]; simp
      obtain ⟨row, k1, _⟩ := G.sc s (List.mem_of_getElem? e2) p hpm
      have hpl := (List.getElem?_eq_some_iff.mp k1).1
      have a1 : decide ((0 : Int) ≤ p.1) = true := by simp
      have a2 : decide ((p.1 : Int) ≤ web.length - 1) = true := by simp; omega
      simp only [eH, isSpotD, amg_nat, a1, a2, Bool.and_self, Bool.true_and]
      have : (isNonD (eTie (behS s none)) || amg (eTie (behS s none)) 0 (web.length - 1)) = true := by
        cases hb : behS s none with
        | none => rfl
        | some m =>
          rw [behS_eq s none hne] at hb
          by_cases hl1 : s.length = 1
          · rw [if_pos hl1] at hb; cases hb
          · rw [if_neg hl1, Option.map_eq_some_iff] at hb
            obtain ⟨q, q1, rfl⟩ := hb
            obtain ⟨row, k1, _⟩ := G.sc s (List.mem_of_getElem? e2) q (List.mem_of_getElem? q1)
            have hql := (List.getElem?_eq_some_iff.mp k1).1
            have a1 : decide ((0 : Int) ≤ q.1) = true := by simp
            have a2 : decide ((q.1 : Int) ≤ web.length - 1) = true := by simp; omega
            simp only [eTie_some, amg_nat, a1, a2]
            simp
      rw [this]
      simp
  have w3 : areMarksD web.length (eNs marks) roots.length = true := by
    simp only [areMarksD, eNs, List.length_map, Bool.and_eq_true, decide_eq_true_eq, List.all_eq_true]
    refine ⟨G.ml, fun x hx => ?_⟩
    obtain ⟨m, hm, rfl⟩ := List.mem_map.mp hx
    have := G.mx m hm
    simp only [amg_nat, Bool.and_eq_true, decide_eq_true_eq]
    omega
  have w4 : areCountsD ((stateOf web roots marks stands).ties.map eRow) (eNs (stateOf web roots marks stands).counts) = true := by
    simp only [areCountsD, eNs, List.length_map, Bool.and_eq_true, decide_eq_true_eq, List.all_eq_true]
    refine ⟨by rw [hcl, htl], fun x hx => ?_⟩
    obtain ⟨n, hn⟩ := List.getElem?_of_mem hx
    obtain ⟨c, r, hc, hr, rfl⟩ := zipD_get _ _ n x hn
    rw [List.getElem?_map, Option.map_eq_some_iff] at hc hr
    obtain ⟨cv, hc, rfl⟩ := hc
    obtain ⟨row, hr, rfl⟩ := hr
    obtain ⟨row', e1, e2⟩ := shape_row hsh hr
    have hle : cv ≤ row.length := by
      by_cases hex : ∃ x ∈ writes roots stands, x.1 = n
      · obtain ⟨x, hx, hxn⟩ := hex
        obtain ⟨i, s, j, p, q1, q2, rfl⟩ := G.mem_writes.mp hx
        have hcc := G.counts_at q1 q2
        rw [G.stateEq] at hc
        simp only at hc hxn
        rw [hxn, hc] at hcc
        cases hcc
        obtain ⟨row2, z1, z2⟩ := G.sc s (List.mem_of_getElem? q1) p (List.mem_of_getElem? q2)
        rw [hxn, e1] at z1
        cases z1
        omega
      · rw [G.stateEq] at hc
        simp only at hc
        rw [foldC_miss _ _ n fun x hx e => hex ⟨x, hx, e⟩] at hc
        rw [List.getElem?_replicate] at hc
        split at hc
        · cases hc; omega
        · cases hc
    simp only [cntD, eRow, lenD, List.length_map, amg_nat, Bool.and_eq_true, decide_eq_true_eq]
    omega
  have e0 : eS (stateOf web roots marks stands) = .tup [eWeb (stateOf web roots marks stands).ties, eNs marks, eNs (stateOf web roots marks stands).counts, .tup ((stateOf web roots marks stands).heres.map eH)] := by rw [eS, hmk]
  rw [e0]
  have ht : (itemsD (eWeb (stateOf web roots marks stands).ties)) = (stateOf web roots marks stands).ties.map eRow := rfl
  have l1 : decide (1 ≤ ((stateOf web roots marks stands).heres.map eH).length) = true := by simp; omega
  have l2 : decide (((stateOf web roots marks stands).heres.map eH).length ≤ 6) = true := by simp; omega
  have l3 : ((stateOf web roots marks stands).ties.map eRow).length = web.length := by simp [htl]
  have l4 : ((((stateOf web roots marks stands).heres.map eH).length : Nat) : Int) = roots.length := by simp [hhl]
  simp only [isStateD, ht, l3, l4, w1, w2, w3, w4, l1, l2, Bool.and_self]
theorem Good.moment (G : Good web roots marks stands) : MomentOk (stateOf web roots marks stands) (waysOf stands) roots := by
  refine ⟨G.isState, ⟨?_, ?_⟩, ?_, ?_, ?_, ?_, ?_⟩
  · rw [G.heresLen, ← G.rl]; simp [waysOf]
  · intro i h way hh hw
    obtain ⟨r, s, e1, e2, rfl⟩ := G.here hh
    simp only [waysOf, List.getElem?_map, e2, Option.map_some, Option.some.injEq] at hw
    rw [← hw]
    exact G.backOk e1 e2
  · intro way hw
    obtain ⟨s, hs, rfl⟩ := List.mem_map.mp hw
    exact ⟨G.fits hs, by simpa using G.standLen hs⟩
  · rw [G.heresLen]; exact G.r6
  · have hsh : shape (stateOf web roots marks stands).ties = shape web := by rw [G.stateEq]; exact foldT_shape _ _
    have htl : (stateOf web roots marks stands).ties.length = web.length := by simpa [shape] using congrArg List.length hsh
    rw [htl]; exact G.n2
  · exact G.heresLen.symm
  · intro i h way root hh hw hr
    obtain ⟨r, s, e1, e2, rfl⟩ := G.here hh
    rw [e1] at hr
    cases hr
    simp only [waysOf, List.getElem?_map, e2, Option.map_some, Option.some.injEq] at hw
    subst hw
    constructor
    · intro h
      have : s = [] := by simpa using h
      subst this
      rfl
    · intro h
      cases s with
      | nil => simp at h
      | cons p s =>
        have := G.sh i _ p e2 rfl
        rw [e1] at this
        cases this
        rfl
end
end TB

end

/-! ## TbPl8 -/
section
set_option linter.all false
set_option autoImplicit false
set_option maxRecDepth 100000
namespace TB
open PySem
section
variable {web : Web} {roots marks : List Nat} {stands : List Stand}
theorem mem_set {α : Type} {xs : List α} {i : Nat} {y x : α} (h : x ∈ xs.set i y) : x = y ∨ x ∈ xs := by
  obtain ⟨j, hj⟩ := List.getElem?_of_mem h
  by_cases e : i = j
  · subst e
    have hl : i < xs.length := by have := (List.getElem?_eq_some_iff.mp hj).1; simpa using this
    rw [List.getElem?_set_self hl] at hj
    exact .inl (Option.some.inj hj).symm
  · rw [List.getElem?_set_ne e] at hj
    exact .inr (List.mem_of_getElem? hj)
theorem get_set {α : Type} {xs : List α} {i j : Nat} {y x : α} (h : (xs.set i y)[j]? = some x) : (j = i ∧ x = y ∧ i < xs.length) ∨ (j ≠ i ∧ xs[j]? = some x) := by
  by_cases e : i = j
  · subst e
    have hl : i < xs.length := by have := (List.getElem?_eq_some_iff.mp h).1; simpa using this
    rw [List.getElem?_set_self hl] at h
    exact .inl ⟨rfl, (Option.some.inj h).symm, hl⟩
  · rw [List.getElem?_set_ne e] at h
    exact .inr ⟨fun z => e z.symm, h⟩
/-- a stand is exchanged for one whose places fit -/
theorem Good.put (G : Good web roots marks stands) {i : Nat} {s' : Stand} (h1 : ∀ p ∈ s', marks[p.1]? = some (i + 1)) (h2 : (s'.map Prod.fst).Nodup) (h3 : ∀ p ∈ s', ∃ row, web[p.1]? = some row ∧ p.2 ≤ row.length)
    (h4 : ∀ (j m c m' c' : Nat), s'[j]? = some (m, c) → s'[j + 1]? = some (m', c') → get2 web m c = some (some m')) (h5 : ∀ p, s'[0]? = some p → roots[i]? = some p.1) : Good web roots marks (stands.set i s') := by
  refine ⟨G.n1, G.n2, G.rw_, by rw [List.length_set]; exact G.rl, G.r1, G.r6, G.rlt, G.ml, G.mx, G.rm, ?_, ?_, ?_, ?_, ?_⟩
  · intro k s hk p hp
    rcases get_set hk with ⟨rfl, rfl, _⟩ | ⟨_, hk⟩
    · exact h1 p hp
    · exact G.sm k s hk p hp
  · intro s hs
    rcases mem_set hs with rfl | hs
    · exact h2
    · exact G.sn s hs
  · intro s hs
    rcases mem_set hs with rfl | hs
    · exact h3
    · exact G.sc s hs
  · intro s hs
    rcases mem_set hs with rfl | hs
    · exact h4
    · exact G.sl s hs
  · intro k s p hk hp
    rcases get_set hk with ⟨rfl, rfl, _⟩ | ⟨_, hk⟩
    · exact h5 p hp
    · exact G.sh k s p hk hp
theorem Good.stop (G : Good web roots marks stands) (i : Nat) : Good web roots marks (stands.set i []) :=
  G.put (fun p hp => by cases hp) (by simp) (fun p hp => by cases hp) (fun j m c m' c' h => by simp at h) (fun p h => by simp at h)
theorem Good.adv (G : Good web roots marks stands) {i m c : Nat} {pre rest : Stand} {row : List Tie} (hs : stands[i]? = some (pre ++ (m, c) :: rest)) (hr : web[m]? = some row) (hc : c < row.length) : Good web roots marks (stands.set i (pre ++ [(m, c + 1)])) := by
  have hm := List.mem_of_getElem? hs
  refine G.put (fun p hp => ?_) ?_ (fun p hp => ?_) (fun j a b a' b' e1 e2 => ?_) (fun p hp => ?_)
  · rcases List.mem_append.mp hp with hp | hp
    · exact G.sm i _ hs p (List.mem_append_left _ hp)
    · simp at hp; subst hp
      exact G.sm i _ hs (m, c) (by simp)
  · have := G.sn _ hm
    rw [List.map_append, List.map_cons] at this ⊢
    have e : pre.map Prod.fst ++ m :: rest.map Prod.fst = (pre.map Prod.fst ++ [m]) ++ rest.map Prod.fst := by simp
    rw [e] at this
    exact (List.nodup_append.mp this).1
  · rcases List.mem_append.mp hp with hp | hp
    · exact G.sc _ hm p (List.mem_append_left _ hp)
    · simp at hp; subst hp
      exact ⟨row, hr, hc⟩
  · have hj : j < pre.length := by
      have := (List.getElem?_eq_some_iff.mp e2).1
      simp at this
      omega
    rw [List.getElem?_append_left hj] at e1
    have o1 : (pre ++ (m, c) :: rest)[j]? = some (a, b) := by rw [List.getElem?_append_left hj]; exact e1
    by_cases hj2 : j + 1 < pre.length
    · rw [List.getElem?_append_left hj2] at e2
      exact G.sl _ hm j a b a' b' o1 (by rw [List.getElem?_append_left hj2]; exact e2)
    · have hz : j + 1 = pre.length := by omega
      rw [List.getElem?_append_right (by omega), hz] at e2
      simp at e2
      obtain ⟨rfl, rfl⟩ := e2
      exact G.sl _ hm j a b m c o1 (by rw [List.getElem?_append_right (by omega), hz]; simp)
  · cases pre with
    | nil =>
      simp at hp
      subst hp
      exact G.sh i _ (m, c) hs rfl
    | cons q pre =>
      simp at hp
      subst hp
      exact G.sh i _ q hs rfl
theorem Good.down (G : Good web roots marks stands) {i m c tie : Nat} {pre : Stand} (hs : stands[i]? = some (pre ++ [(m, c)])) (ht : get2 web m c = some (some tie)) (hmk : marks[tie]? = some 0) : Good web roots (marks.set tie (i + 1)) (stands.set i (pre ++ [(m, c)] ++ [(tie, 0)])) := by
  have hm := List.mem_of_getElem? hs
  have hil : i < roots.length := by rw [← G.rl]; exact (List.getElem?_eq_some_iff.mp hs).1
  have htl : tie < web.length := by rw [← G.ml]; exact (List.getElem?_eq_some_iff.mp hmk).1
  have hne : ∀ {v k : Nat}, marks[v]? = some (k + 1) → (marks.set tie (i + 1))[v]? = some (k + 1) := fun {v k} h => by
    rw [List.getElem?_set_ne fun z => ?_]
    · exact h
    · subst z; rw [hmk] at h; cases h
  have G1 : Good web roots (marks.set tie (i + 1)) stands := by
    refine ⟨G.n1, G.n2, G.rw_, G.rl, G.r1, G.r6, G.rlt, by rw [List.length_set]; exact G.ml, fun z hz => ?_, fun k r h => hne (G.rm k r h), fun k s h p hp => hne (G.sm k s h p hp), G.sn, G.sc, G.sl, G.sh⟩
    rcases mem_set hz with rfl | hz
    · omega
    · exact G.mx z hz
  have hself : (marks.set tie (i + 1))[tie]? = some (i + 1) := List.getElem?_set_self (by rw [G.ml]; exact htl)
  refine G1.put (fun p hp => ?_) ?_ (fun p hp => ?_) (fun j a b a' b' e1 e2 => ?_) (fun p hp => ?_)
  · rcases List.mem_append.mp hp with hp | hp
    · exact G1.sm i _ hs p hp
    · simp at hp; subst hp; exact hself
  · have hnd := G.sn _ hm
    rw [List.map_append (l₁ := pre ++ [(m, c)])]
    refine List.nodup_append.mpr ⟨hnd, by simp, fun x hx y hy => ?_⟩
    simp at hy
    subst hy
    obtain ⟨p, hp, rfl⟩ := List.mem_map.mp hx
    intro z
    have := G.sm i _ hs p hp
    rw [z, hmk] at this
    cases this
  · rcases List.mem_append.mp hp with hp | hp
    · exact G.sc _ hm p hp
    · simp at hp; subst hp
      exact ⟨web[tie], List.getElem?_eq_getElem htl, Nat.zero_le _⟩
  · by_cases hj : j + 1 < (pre ++ [(m, c)]).length
    · rw [List.getElem?_append_left (by omega)] at e1
      rw [List.getElem?_append_left hj] at e2
      exact G.sl _ hm j a b a' b' e1 e2
    · have hz : j + 1 = (pre ++ [(m, c)]).length := by
        have := (List.getElem?_eq_some_iff.mp e2).1
        simp at this hj ⊢
        omega
      rw [List.getElem?_append_right (by omega), hz] at e2
      simp at e2
      obtain ⟨rfl, rfl⟩ := e2
      have hj' : j = pre.length := by simp at hz; omega
      rw [List.getElem?_append_left (by simp; omega), List.getElem?_append_right (by omega), hj'] at e1
      simp at e1
      obtain ⟨rfl, rfl⟩ := e1
      exact ht
  · have : (pre ++ [(m, c)])[0]? = some p := by
      rw [List.getElem?_append_left (by simp)] at hp
      exact hp
    exact G.sh i _ p hs this
/-! ### how much is left to do -/
def leftS (web : Web) (s : Stand) : Nat := (s.map fun p => (web.getD p.1 []).length + 1 - p.2).sum
def leftU (web : Web) (marks : List Nat) : Nat := ((web.zip marks).map fun p => if p.2 = 0 then p.1.length + 2 else 0).sum
def leftK (web : Web) (marks : List Nat) (stands : List Stand) : Nat := leftU web marks + (stands.map (leftS web)).sum
theorem sum_set {α : Type} (f : α → Nat) : ∀ (xs : List α) (i : Nat) (x y : α), xs[i]? = some x → ((xs.set i y).map f).sum + f x = (xs.map f).sum + f y
  | [], i, x, y, h => by simp at h
  | a :: xs, 0, x, y, h => by
    simp at h; subst h
    simp only [List.set_cons_zero, List.map_cons, List.sum_cons]
    omega
  | a :: xs, i + 1, x, y, h => by
    simp at h
    have := sum_set f xs i x y h
    simp only [List.set_cons_succ, List.map_cons, List.sum_cons]
    omega
theorem leftS_app (web : Web) (a b : Stand) : leftS web (a ++ b) = leftS web a + leftS web b := by simp [leftS]
theorem zip_set {α β : Type} : ∀ (a : List α) (b : List β) (i : Nat) (y : β) (x : α), a[i]? = some x → a.zip (b.set i y) = (a.zip b).set i (x, y)
  | [], b, i, y, x, h => by simp at h
  | c :: a, [], i, y, x, h => by simp
  | c :: a, d :: b, 0, y, x, h => by simp at h; subst h; rfl
  | c :: a, d :: b, i + 1, y, x, h => by
    simp at h
    simp [zip_set a b i y x h]
/-- one turn: what is good stays good, and less is left -/
theorem Good.next (G : Good web roots marks stands) {i node count : Nat} {ahead : Stand} (hs : stands[i]? = some (ahead ++ [(node, count)])) :
    Good web roots (nextK web marks stands i ahead node count).1 (nextK web marks stands i ahead node count).2 ∧
      leftK web (nextK web marks stands i ahead node count).1 (nextK web marks stands i ahead node count).2 < leftK web marks stands := by
  have hm := List.mem_of_getElem? hs
  obtain ⟨row, hrow, hcl⟩ := G.sc _ hm (node, count) (by simp)
  have hg : web.getD node [] = row := by rw [List.getD_eq_getElem?_getD, hrow]; rfl
  have hl1 : leftS web [(node, count)] = row.length + 1 - count := by simp [leftS, hrow]
  have hset := fun (y : Stand) => sum_set (leftS web) stands i _ y hs
  rw [leftS_app, hl1] at hset
  unfold nextK
  rw [hg]
  cases hn : row[count]? with
  | none =>
    have hce : count = row.length := by
      have := List.getElem?_eq_none_iff.mp hn
      simp only at hcl
      omega
    rcases List.eq_nil_or_concat ahead with h0 | ⟨ah, p, hcc⟩
    · subst h0
      refine ⟨G.stop i, ?_⟩
      have := hset []
      unfold leftK
      show leftU web marks + (List.map (leftS web) (stands.set i [])).sum < _
      have z0 : leftS web [] = 0 := rfl
      have z1 : leftS web ([] : Stand) = 0 := rfl
      rw [z0] at this
      omega
    · try rw [List.concat_eq_append] at hcc
      subst hcc
      obtain ⟨pm, pc⟩ := p
      have hsl := G.sl _ hm ah.length pm pc node count (by simp) (by simp)
      obtain ⟨prow, k1, k2⟩ := get2_some hsl
      have hpc := (List.getElem?_eq_some_iff.mp k2).1
      have e : (ah ++ [(pm, pc)]).getLast? = some (pm, pc) := by simp
      simp only [e, List.dropLast_concat]
      refine ⟨G.adv (rest := [(node, count)]) (by rw [hs]; simp) k1 hpc, ?_⟩
      have := hset (ah ++ [(pm, pc + 1)])
      have q1 : leftS web [(pm, pc)] = prow.length + 1 - pc := by simp [leftS, k1]
      have q2 : leftS web [(pm, pc + 1)] = prow.length + 1 - (pc + 1) := by simp [leftS, k1]
      rw [leftS_app, leftS_app, q1, q2] at this
      unfold leftK
      omega
  | some t =>
    have hcl2 := (List.getElem?_eq_some_iff.mp hn).1
    have skip : Good web roots marks (stands.set i (ahead ++ [(node, count + 1)])) ∧ leftK web marks (stands.set i (ahead ++ [(node, count + 1)])) < leftK web marks stands := by
      refine ⟨G.adv (rest := []) hs hrow hcl2, ?_⟩
      have := hset (ahead ++ [(node, count + 1)])
      have q2 : leftS web [(node, count + 1)] = row.length + 1 - (count + 1) := by simp [leftS, hrow]
      rw [leftS_app, q2] at this
      unfold leftK
      omega
    cases t with
    | none => exact skip
    | some tie =>
      simp only
      split
      · exact skip
      · rename_i hmk
        have htl : tie < web.length := (G.rw_ row (List.mem_of_getElem? hrow)).2 _ (List.mem_of_getElem? hn) tie rfl
        have htm : tie < marks.length := by rw [G.ml]; exact htl
        have hmk0 : marks[tie]? = some 0 := by
          rw [List.getD_eq_getElem?_getD, List.getElem?_eq_getElem htm] at hmk
          simp at hmk
          rw [List.getElem?_eq_getElem htm, hmk]
        refine ⟨G.down hs (get2_of hrow hn) hmk0, ?_⟩
        have := hset (ahead ++ [(node, count)] ++ [(tie, 0)])
        have q1 : leftS web [(tie, 0)] = web[tie].length + 1 := by simp [leftS, htl]
        rw [leftS_app, leftS_app, hl1, q1] at this
        have hz := zip_set web marks tie (i + 1) web[tie] (List.getElem?_eq_getElem htl)
        have hz2 : (web.zip marks)[tie]? = some (web[tie], 0) := by rw [List.getElem?_zip_eq_some]; exact ⟨List.getElem?_eq_getElem htl, hmk0⟩
        have hu := sum_set (fun p : List Tie × Nat => if p.2 = 0 then p.1.length + 2 else 0) (web.zip marks) tie _ (web[tie], i + 1) hz2
        change _ + (web[tie].length + 2) = _ + 0 at hu
        unfold leftK leftU
        rw [hz]
        simp only [leftS_app, hl1, q1]
        omega
/-- at the beginning -/
theorem good0 {web : Web} {roots : List Nat} (n1 : 1 ≤ web.length) (n2 : web.length ≤ 60) (hw : ∀ row ∈ web, row.length ≤ 8 ∧ ∀ t ∈ row, ∀ m, t = some m → m < web.length) (r1 : 1 ≤ roots.length) (r6 : roots.length ≤ 6) (hn : roots.Nodup) (hl : ∀ r ∈ roots, r < web.length) :
    Good web roots (marks0 web.length roots) (stands0 roots) := by
  have hmk : ∀ (i r : Nat), roots[i]? = some r → (marks0 web.length roots)[r]? = some (i + 1) := fun i r h => by
    have hm := List.mem_of_getElem? h
    have hlr := hl r hm
    have hil := (List.getElem?_eq_some_iff.mp h).1
    have hix : roots.idxOf r = i := by
      have h2 : roots[roots.idxOf r]? = some r := by
        have := List.idxOf_lt_length_of_mem hm
        rw [List.getElem?_eq_getElem this, List.getElem_idxOf]
      exact (List.getElem?_inj (List.idxOf_lt_length_of_mem hm) hn).mp (h2.trans h.symm)
    simp [marks0, hlr, hm, hix]
  refine ⟨n1, n2, hw, by simp [stands0], r1, r6, hl, by simp [marks0], ?_, hmk, ?_, ?_, ?_, ?_, ?_⟩
  · intro m hm
    simp only [marks0, List.mem_map, List.mem_range] at hm
    obtain ⟨v, hv, rfl⟩ := hm
    split
    · rename_i hin
      exact List.idxOf_lt_length_of_mem hin
    · omega
  · intro i s hs p hp
    simp only [stands0, List.getElem?_map, Option.map_eq_some_iff] at hs
    obtain ⟨r, hr, rfl⟩ := hs
    simp at hp; subst hp
    exact hmk i r hr
  · intro s hs
    obtain ⟨r, _, rfl⟩ := List.mem_map.mp hs
    simp
  · intro s hs p hp
    obtain ⟨r, hr, rfl⟩ := List.mem_map.mp hs
    simp at hp; subst hp
    exact ⟨web[r]'(hl r hr), List.getElem?_eq_getElem _, Nat.zero_le _⟩
  · intro s hs j m c m' c' h1 h2
    obtain ⟨r, _, rfl⟩ := List.mem_map.mp hs
    simp at h2
  · intro i s p hs hp
    simp only [stands0, List.getElem?_map, Option.map_eq_some_iff] at hs
    obtain ⟨r, hr, rfl⟩ := hs
    simp at hp; subst hp
    exact hr
end
end TB

end

/-! ## TbPl9 -/
section
set_option linter.all false
set_option autoImplicit false
set_option maxRecDepth 100000
namespace TB
open PySem PyProof.Rows
/-- repr gives the text -/
def Rp (d : D) : Prop := ∀ st, bRepr [d] st = .ok (.str d.py.shown) st
mutual
/-- plain data of small numbers, no texts, at most n deep -/
def D.nb : Nat → D → Bool
  | _, .non | _, .bl _ => true
  | _, .int i => decide (0 ≤ i) && decide (i < 4096)
  | n + 1, .tup xs => D.nbL n xs
  | 0, .tup _ => false
  | _, .str _ | _, .lstv _ | _, .loc _ | _, .ptup _ | _, .gl _ | _, .ty _ | _, .exc _ _ => false
def D.nbL : Nat → List D → Bool
  | _, [] => true
  | n, x :: xs => D.nb n x && D.nbL n xs
end
@[simp] theorem nb_non (n : Nat) : D.nb n .non = true := by cases n <;> rfl
@[simp] theorem nb_int (n : Nat) (i : Int) : D.nb n (.int i) = (decide (0 ≤ i) && decide (i < 4096)) := by cases n <;> rfl
@[simp] theorem nb_tup (n : Nat) (xs : List D) : D.nb (n + 1) (.tup xs) = D.nbL n xs := rfl
@[simp] theorem nbL_nil (n : Nat) : D.nbL n [] = true := by cases n <;> rfl
@[simp] theorem nbL_cons (n : Nat) (x : D) (xs : List D) : D.nbL n (x :: xs) = (D.nb n x && D.nbL n xs) := by cases n <;> rfl
theorem nbL_iff {n : Nat} : ∀ {xs : List D}, D.nbL n xs = true ↔ ∀ x ∈ xs, D.nb n x = true
  | [] => by simp
  | x :: xs => by simp [nbL_iff (xs := xs)]
mutual
theorem nb_sm : ∀ {n : Nat} (d : D), D.nb n d = true → D.sm n d = true
  | n, .non, _ => by simp
  | n, .bl _, _ => by simp
  | n, .int _, _ => by simp
  | 0, .tup xs, h => by simp [D.nb] at h
  | n + 1, .tup xs, h => by rw [sm_tup]; rw [nb_tup] at h; exact nbL_sm xs h
  | n, .str _, h => by simp [D.nb] at h
  | n, .lstv _, h => by simp [D.nb] at h
  | n, .loc _, h => by simp [D.nb] at h
  | n, .ptup _, h => by simp [D.nb] at h
  | n, .gl _, h => by simp [D.nb] at h
  | n, .ty _, h => by simp [D.nb] at h
  | n, .exc _ _, h => by simp [D.nb] at h
theorem nbL_sm : ∀ {n : Nat} (ds : List D), D.nbL n ds = true → D.smL n ds = true
  | n, [], _ => by simp
  | n, d :: ds, h => by
    rw [nbL_cons, Bool.and_eq_true] at h
    rw [smL_cons, nb_sm d h.1, nbL_sm ds h.2]; rfl
end
mutual
theorem nb_show : ∀ {n : Nat} (d : D), D.nb n d = true → d.py.showable = true ∧ d.py.hasDict = false
  | n, .non, _ => ⟨by simp [D.py, PyData.showable], by simp [D.py, PyData.hasDict]⟩
  | n, .bl _, _ => ⟨by simp [D.py, PyData.showable], by simp [D.py, PyData.hasDict]⟩
  | n, .int i, h => by
    rw [nb_int, Bool.and_eq_true, decide_eq_true_eq, decide_eq_true_eq] at h
    refine ⟨?_, by simp [D.py, PyData.hasDict]⟩
    have := log2_small (i := i) (by omega) (by omega)
    simp only [D.py, PyData.showable, decide_eq_true_eq]
    omega
  | 0, .tup xs, h => by simp [D.nb] at h
  | n + 1, .tup xs, h => by
    rw [nb_tup] at h
    obtain ⟨h1, h2⟩ := nbL_show xs h
    exact ⟨by rw [D.py, PyData.showable]; exact h1, by rw [D.py, PyData.hasDict]; exact h2⟩
  | n, .str _, h => by simp [D.nb] at h
  | n, .lstv _, h => by simp [D.nb] at h
  | n, .loc _, h => by simp [D.nb] at h
  | n, .ptup _, h => by simp [D.nb] at h
  | n, .gl _, h => by simp [D.nb] at h
  | n, .ty _, h => by simp [D.nb] at h
  | n, .exc _ _, h => by simp [D.nb] at h
theorem nbL_show : ∀ {n : Nat} (ds : List D), D.nbL n ds = true → PyData.showableAll (D.pyL ds) = true ∧ PyData.hasDictAll (D.pyL ds) = false
  | n, [], _ => ⟨by simp [D.pyL, PyData.showableAll], by simp [D.pyL, PyData.hasDictAll]⟩
  | n, d :: ds, h => by
    rw [nbL_cons, Bool.and_eq_true] at h
    obtain ⟨a1, a2⟩ := nb_show d h.1
    obtain ⟨b1, b2⟩ := nbL_show ds h.2
    exact ⟨by rw [D.pyL, PyData.showableAll, a1, b1]; rfl, by rw [D.pyL, PyData.hasDictAll, a2, b2]; rfl⟩
end
theorem shown_nat : ∀ n : Fin 4096, (PyData.shown (.int ((n.val : Nat) : Int))).length ≤ 4 := by decide +kernel
theorem tupleText_le (ts : List Str) : (tupleText ts).length ≤ piled ts + 3 := by
  unfold tupleText
  rw [strLen_append, strLen_append]
  have e1 : ((("(" : String) : Str)).length = 1 := rfl
  have e3 : (((if ts.length == 1 then ",)" else ")" : String) : Str)).length ≤ 2 := by split <;> decide
  rw [e1]
  by_cases h : ts = []
  · subst h
    have : (Str.join ", " ([] : List Str)).length = 0 := rfl
    omega
  · have := join_length_add ts h
    omega
theorem piled_le {ts : List Str} {c : Nat} (h : ∀ t ∈ ts, t.length ≤ c) : piled ts ≤ ts.length * (c + 2) := by
  induction ts with
  | nil => simp [piled]
  | cons t ts ih =>
    rw [piled_cons]
    have h1 := h t List.mem_cons_self
    have h2 := ih fun x hx => h x (List.mem_cons_of_mem _ hx)
    rw [List.length_cons, Nat.succ_mul]
    omega
theorem pyL_shown (xs : List D) : PyData.shownAll (D.pyL xs) = xs.map fun d => d.py.shown := by
  induction xs with
  | nil => rfl
  | cons x xs ih => simp [D.pyL, PyData.shownAll, ih]
/-- how long a text of plain data is -/
theorem shown_tup {xs : List D} {c : Nat} (h : ∀ x ∈ xs, (x.py.shown).length ≤ c) : ((D.tup xs).py.shown).length ≤ xs.length * (c + 2) + 3 := by
  rw [D.py, PyData.shown, pyL_shown]
  have h1 := tupleText_le (xs.map fun d => d.py.shown)
  have h2 := piled_le (ts := xs.map fun d => d.py.shown) (c := c) fun t ht => by
    obtain ⟨x, hx, rfl⟩ := List.mem_map.mp ht
    exact h x hx
  rw [List.length_map] at h2
  omega
theorem shown_int {i : Int} (h : 0 ≤ i) (h2 : i < 4096) : ((D.int i).py.shown).length ≤ 4 := by
  have := shown_nat ⟨i.toNat, by omega⟩
  have e : ((i.toNat : Nat) : Int) = i := by omega
  rw [D.py]
  simp only [e] at this
  exact this
theorem shown_non : ((D.non).py.shown).length ≤ 4 := by rw [D.py]; decide
theorem rp_of {n : Nat} {d : D} (hn : n ≤ 60) (h : D.nb n d = true) (hl : (d.py.shown).length ≤ LINE) : Rp d := fun st => by
  have hs := nb_sm d h
  obtain ⟨h1, h2⟩ := nb_show d h
  simp only [bRepr, datum_sm st hs]
  rw [if_pos ⟨sm60 hn hs, h1, h2, hl⟩]
/-! the texts of this law -/
def TieB (t : Tie) : Prop := ∀ m, t = some m → m < 4096
theorem nb_eTie {n : Nat} {t : Tie} (h : TieB t) : D.nb n (eTie t) = true := by
  cases t with
  | none => simp
  | some m => have := h m rfl; simp; omega
theorem sh_eTie {t : Tie} (h : TieB t) : ((eTie t).py.shown).length ≤ 4 := by
  cases t with
  | none => exact shown_non
  | some m => have := h m rfl; exact shown_int (by omega) (by omega)
theorem row_nb {r : List Tie} (h : ∀ t ∈ r, TieB t) : D.nb 1 (eRow r) = true := by
  rw [eRow, nb_tup 0, nbL_iff]
  intro x hx
  obtain ⟨t, ht, rfl⟩ := List.mem_map.mp hx
  exact nb_eTie (h t ht)
theorem row_sh {r : List Tie} (h : ∀ t ∈ r, TieB t) (hl : r.length ≤ 60) : ((eRow r).py.shown).length ≤ 400 := by
  have := shown_tup (xs := r.map eTie) (c := 4) fun x hx => by
    obtain ⟨t, ht, rfl⟩ := List.mem_map.mp hx
    exact sh_eTie (h t ht)
  rw [List.length_map] at this
  rw [eRow]
  omega
theorem web_nb {w : Web} (h : ∀ r ∈ w, ∀ t ∈ r, TieB t) : D.nb 2 (eWeb w) = true := by
  rw [eWeb, nb_tup 1, nbL_iff]
  intro x hx
  obtain ⟨r, hr, rfl⟩ := List.mem_map.mp hx
  exact row_nb (h r hr)
theorem web_sh {w : Web} (h : ∀ r ∈ w, ∀ t ∈ r, TieB t) (hl : ∀ r ∈ w, r.length ≤ 60) (hw : w.length ≤ 60) : ((eWeb w).py.shown).length ≤ 30000 := by
  have := shown_tup (xs := w.map eRow) (c := 400) fun x hx => by
    obtain ⟨r, hr, rfl⟩ := List.mem_map.mp hx
    exact row_sh (h r hr) (hl r hr)
  rw [List.length_map] at this
  rw [eWeb]
  omega
theorem ns_nb {l : List Nat} (h : ∀ m ∈ l, m < 4096) : D.nb 1 (eNs l) = true := by
  rw [eNs, nb_tup 0, nbL_iff]
  intro x hx
  obtain ⟨m, hm, rfl⟩ := List.mem_map.mp hx
  have := h m hm
  simp; omega
theorem ns_sh {l : List Nat} (h : ∀ m ∈ l, m < 4096) (hl : l.length ≤ 100) : ((eNs l).py.shown).length ≤ 1000 := by
  have := shown_tup (xs := l.map fun (i : Nat) => D.int i) (c := 4) fun x hx => by
    obtain ⟨m, hm, rfl⟩ := List.mem_map.mp hx
    have := h m hm
    exact shown_int (by omega) (by omega)
  rw [List.length_map] at this
  rw [eNs]
  omega
theorem nb_mono1 : ∀ {d : D} {n k : Nat}, n ≤ k → D.nb n d = true → D.nb k d = true := by
  have key : ∀ (m : Nat) {d : D} {n k : Nat}, n ≤ m → n ≤ k → D.nb n d = true → D.nb k d = true := by
    intro m
    induction m with
    | zero =>
      intro d n k hm hk h
      have : n = 0 := by omega
      subst this
      cases d with
      | tup xs => simp [D.nb] at h
      | int i => simpa using h
      | non => simp
      | bl b => cases k <;> rfl
      | _ => simp [D.nb] at h
    | succ m ih =>
      intro d n k hm hk h
      cases d with
      | tup xs =>
        cases n with
        | zero => simp [D.nb] at h
        | succ n =>
          obtain ⟨k, rfl⟩ : ∃ j, k = j + 1 := ⟨k - 1, by omega⟩
          rw [nb_tup, nbL_iff] at h ⊢
          exact fun x hx => ih (by omega) (by omega) (h x hx)
      | int i => simpa using h
      | non => simp
      | bl b => cases k <;> rfl
      | _ => simp [D.nb] at h
  exact fun {d n k} h k' => key n (Nat.le_refl _) h k'
section
variable {web : Web} {roots marks : List Nat} {stands : List Stand}
theorem Good.webRp (G : Good web roots marks stands) : Rp (eWeb web) := by
  have hb : ∀ r ∈ web, ∀ t ∈ r, TieB t := fun r hr t ht m hm => by
    have := (G.rw_ r hr).2 t ht m hm
    have := G.n2
    omega
  exact rp_of (n := 2) (by omega) (web_nb hb) (by have := web_sh hb (fun r hr => by have := (G.rw_ r hr).1; omega) G.n2; simp [LINE_eq]; omega)
theorem Good.rootsRp (G : Good web roots marks stands) : Rp (eNs roots) := by
  have hb : ∀ m ∈ roots, m < 4096 := fun m hm => by have := G.rlt m hm; have := G.n2; omega
  exact rp_of (n := 1) (by omega) (ns_nb hb) (by have := ns_sh hb (by have := G.r6; omega); simp [LINE_eq]; omega)
theorem Good.wayRp (G : Good web roots marks stands) {s : Stand} (hs : s ∈ stands) : Rp (eNs (s.map Prod.fst)) := by
  have hb : ∀ m ∈ s.map Prod.fst, m < 4096 := fun m hm => by
    obtain ⟨p, hp, rfl⟩ := List.mem_map.mp hm
    obtain ⟨row, h1, _⟩ := G.sc s hs p hp
    have := (List.getElem?_eq_some_iff.mp h1).1
    have := G.n2
    omega
  exact rp_of (n := 1) (by omega) (ns_nb hb) (by have := ns_sh hb (by have := G.standLen hs; simp; omega); simp [LINE_eq]; omega)
theorem Good.stateRp (G : Good web roots marks stands) : Rp (eS (stateOf web roots marks stands)) := by
  have hsh : shape (stateOf web roots marks stands).ties = shape web := by rw [G.stateEq]; exact foldT_shape _ _
  have htl : (stateOf web roots marks stands).ties.length = web.length := by simpa [shape] using congrArg List.length hsh
  have hn2 := G.n2
  have hmk : (stateOf web roots marks stands).marks = marks := by rw [G.stateEq]
  have hcl : (stateOf web roots marks stands).counts.length = web.length := by rw [G.stateEq]; simp [foldC_len]
  have tb : ∀ r ∈ (stateOf web roots marks stands).ties, ∀ t ∈ r, TieB t := fun r hr t ht m hm => by
    obtain ⟨n, hn⟩ := List.getElem?_of_mem hr
    obtain ⟨j, hj⟩ := List.getElem?_of_mem ht
    have := G.tiesIn (get2_of hn hj) m hm
    omega
  have rb : ∀ r ∈ (stateOf web roots marks stands).ties, r.length ≤ 60 := fun r hr => by
    obtain ⟨n, hn⟩ := List.getElem?_of_mem hr
    obtain ⟨row', e1, e2⟩ := shape_row hsh hn
    have := (G.rw_ row' (List.mem_of_getElem? e1)).1
    omega
  have mb : ∀ m ∈ marks, m < 4096 := fun m hm => by have := G.mx m hm; have := G.r6; omega
  have cb : ∀ m ∈ (stateOf web roots marks stands).counts, m < 4096 := fun m hm => by
    obtain ⟨n, hn⟩ := List.getElem?_of_mem hm
    have hw := G.isState
    by_cases hex : ∃ x ∈ writes roots stands, x.1 = n
    · obtain ⟨x, hx, hxn⟩ := hex
      obtain ⟨i, s, j, p, q1, q2, rfl⟩ := G.mem_writes.mp hx
      have hcc := G.counts_at q1 q2
      rw [G.stateEq] at hn
      simp only at hn hxn
      rw [hxn, hn] at hcc
      cases hcc
      obtain ⟨row2, z1, z2⟩ := G.sc s (List.mem_of_getElem? q1) p (List.mem_of_getElem? q2)
      have := (G.rw_ row2 (List.mem_of_getElem? z1)).1
      omega
    · rw [G.stateEq] at hn
      simp only at hn
      rw [foldC_miss _ _ n fun x hx e => hex ⟨x, hx, e⟩, List.getElem?_replicate] at hn
      split at hn
      · cases hn; omega
      · cases hn
  have hb : ∀ x ∈ (stateOf web roots marks stands).heres.map eH, D.nb 1 x = true ∧ (x.py.shown).length ≤ 30 := fun x hx => by
    obtain ⟨h, hh, rfl⟩ := List.mem_map.mp hx
    obtain ⟨i, hi⟩ := List.getElem?_of_mem hh
    obtain ⟨r, s, e1, e2, rfl⟩ := G.here hi
    have hBack := G.backOk e1 e2
    cases hq : hereOf r s (behS s none) with
    | at_ n =>
      rw [hq] at hBack
      have : n < marks.length := by have := hBack.2; rw [hmk] at this; exact (List.getElem?_eq_some_iff.mp this).1
      rw [G.ml] at this
      refine ⟨by simp [eH]; omega, ?_⟩
      have := shown_int (i := (n : Int)) (by omega) (by omega)
      simp only [eH]; omega
    | on n b =>
      rw [hq] at hBack
      have ms := hBack.ms
      have hn : n < 4096 := by
        have := ms n (List.mem_of_getElem? hBack.hd)
        rw [hmk] at this
        have := (List.getElem?_eq_some_iff.mp this).1
        rw [G.ml] at this; omega
      have hbb : TieB b := fun m hm => by
        have h1 := hBack.nx
        rw [hm] at h1
        have := ms m (List.mem_of_getElem? h1)
        rw [hmk] at this
        have := (List.getElem?_eq_some_iff.mp this).1
        rw [G.ml] at this; omega
      refine ⟨by simp [eH, nb_tup 0, nb_eTie hbb]; omega, ?_⟩
      have := shown_tup (xs := [D.int n, eTie b]) (c := 4) fun x hx => by
        simp at hx
        rcases hx with rfl | rfl
        · exact shown_int (by omega) (by omega)
        · exact sh_eTie hbb
      simp only [eH]
      simp at this
      omega
  have hnb : D.nb 3 (eS (stateOf web roots marks stands)) = true := by
    rw [eS, hmk, nb_tup 2, nbL_iff]
    intro x hx
    simp only [List.mem_cons, List.not_mem_nil, or_false] at hx
    rcases hx with rfl | rfl | rfl | rfl
    · exact web_nb tb
    · exact nb_mono1 (by omega) (ns_nb mb)
    · exact nb_mono1 (by omega) (ns_nb cb)
    · rw [nb_tup 1, nbL_iff]
      exact fun x hx => (hb x hx).1
  refine rp_of (n := 3) (by omega) hnb ?_
  have s1 := web_sh tb rb (by omega)
  have s2 := ns_sh mb (by rw [G.ml]; omega)
  have s3 := ns_sh cb (by omega)
  have s4 := shown_tup (xs := (stateOf web roots marks stands).heres.map eH) (c := 30) fun x hx => (hb x hx).2
  have hhl := G.heresLen
  have hr6 := G.r6
  rw [List.length_map] at s4
  have := shown_tup (xs := [eWeb (stateOf web roots marks stands).ties, eNs marks, eNs (stateOf web roots marks stands).counts, .tup ((stateOf web roots marks stands).heres.map eH)]) (c := 30000) fun x hx => by
    simp only [List.mem_cons, List.not_mem_nil, or_false] at hx
    rcases hx with rfl | rfl | rfl | rfl
    · exact s1
    · omega
    · omega
    · omega
  rw [eS, hmk, LINE_eq]
  simp only [List.length_cons, List.length_nil] at this
  omega
end
end TB

end

/-! ## TbPlA -/
section
set_option linter.all false
set_option autoImplicit false
set_option maxRecDepth 100000
namespace TB
open PySem
/-- junk: lists of plain data -/
def Junk (js : Sto) : Prop := ∀ c ∈ js, ∃ n l, c = .lst l ∧ D.smL n l = true
theorem Junk.under {js : Sto} (h : Junk js) (n : Nat) : js.all (Cell.under n) = true := by
  rw [List.all_eq_true]
  intro c hc
  obtain ⟨k, l, rfl, hl⟩ := h c hc
  exact smL_under n l hl
theorem Junk.add {js : Sto} (h : Junk js) {l : List D} {n : Nat} (hl : D.smL n l = true) : Junk (js ++ [.lst l]) := fun c hc => by
  rcases List.mem_append.mp hc with hc | hc
  · exact h c hc
  · simp at hc; exact ⟨n, l, hc, hl⟩
theorem Junk.nil : Junk [] := fun c hc => by cases hc
/-- cells written, a new one handed up from among junk -/
theorem tidy_ml {st st' js : Sto} {m : Nat} {c : Cell} (hl : st'.length = st.length) (hu : st'.all (Cell.under st.length) = true) (h : (st' ++ js)[m]? = some c) (hm : st.length ≤ m) (hc : c.under st.length = true) :
    tidy st (.ok (.loc m) (st' ++ js)) = .ok (.loc st.length) (st' ++ [c]) := by
  have hl2 := (List.getElem?_eq_some_iff.mp h).1
  have hd : D.under st.length (.loc m) = false := by simp [D.under]; omega
  have e2 : (st' ++ js).take st.length = st' := by rw [← hl]; simp
  have hp : prefOk st (st' ++ js) = true := by unfold prefOk; rw [e2, hu, Bool.or_true]
  rw [tidy_def, if_neg (by omega)]
  simp only [hp, if_true, hd, Bool.false_eq_true, if_false, h, hm, hc, and_self, e2]
theorem mSJ_under {sc : List Int} {k : Int} {rs : List Int} {b w : Int} {js : Sto} (h : Junk js) (n : Nat) : (mS sc k rs b w ++ js).all (Cell.under (2 + n)) = true := by
  rw [List.all_append, mS_under, h.under]
  rfl
theorem isWebRow (row : List Tie) : isWebD (eRow row) = false := by
  cases row with
  | nil => rfl
  | cons t row => cases t <;> simp [isWebD, eRow, isRowD]
theorem noStateWeb (w : Web) : isStateD (eWeb w) = false := by
  unfold isStateD
  split
  · rename_i a b c d hq
    cases w with
    | nil => cases hq
    | cons r w =>
      simp only [eWeb, List.map_cons, D.tup.injEq, List.cons.injEq] at hq
      obtain ⟨rfl, _⟩ := hq
      rw [isWebRow]; rfl
  · rfl
@[simp] theorem Rp.ap {d : D} (h : Rp d) (st : Sto) : bRepr [d] st = .ok (.str d.py.shown) st := h st
end TB

end

/-! ## TbPlB -/
section
set_option linter.all false
set_option autoImplicit false
set_option maxRecDepth 100000
namespace TB
open PySem
theorem whileL_dec {c : TM} {b : SM} (I : Nat → Env → Sto → Prop) (step : ∀ m r st, I m r st → ∃ k s1, c r st = .ok k s1 ∧ (k = true → ∃ m' r2 s2, m' < m ∧ b r s1 = .nx r2 s2 ∧ I m' r2 s2)) :
    ∀ (n m : Nat) (r : Env) (st : Sto), I m r st → m < n → ∃ m' r' st' s1, whileL c b n r st = .nx r' s1 ∧ I m' r' st' ∧ c r' st' = .ok false s1 := by
  intro n
  induction n with
  | zero => intro m r st _ h; omega
  | succ n ih =>
    intro m r st i h
    obtain ⟨k, s1, e1, hk⟩ := step m r st i
    cases k with
    | false => exact ⟨m, r, st, s1, by rw [whileL, e1]; rfl, i, e1⟩
    | true =>
      obtain ⟨m', r2, s2, l2, e2, i2⟩ := hk rfl
      obtain ⟨m'', r', st', s3, e3, i3, e4⟩ := ih m' r2 s2 i2 (by omega)
      exact ⟨m'', r', st', s3, by rw [whileL, e1]; simp only [thenS_ok, if_true, e2, thenS_nx, e3], i3, e4⟩
theorem sum_le {α : Type} (f : α → Nat) (c : Nat) : ∀ (l : List α), (∀ x ∈ l, f x ≤ c) → (l.map f).sum ≤ l.length * c
  | [], _ => by simp
  | x :: l, h => by
    have h1 := h x List.mem_cons_self
    have h2 := sum_le f c l fun y hy => h y (List.mem_cons_of_mem _ hy)
    rw [List.map_cons, List.sum_cons, List.length_cons, Nat.succ_mul]
    omega
theorem Good.left_le {web : Web} {roots marks : List Nat} {stands : List Stand} (G : Good web roots marks stands) : leftK web marks stands ≤ 10000 := by
  have h1 : leftU web marks ≤ (web.zip marks).length * 10 := sum_le _ 10 _ fun p hp => by
    have := (G.rw_ p.1 (List.of_mem_zip hp).1).1
    split <;> omega
  have h2 : (stands.map (leftS web)).sum ≤ stands.length * 600 := sum_le _ 600 _ fun s hs => by
    have h3 : leftS web s ≤ s.length * 10 := sum_le _ 10 _ fun p hp => by
      obtain ⟨row, e1, _⟩ := G.sc s hs p hp
      have := (G.rw_ row (List.mem_of_getElem? e1)).1
      rw [List.getD_eq_getElem?_getD, e1]
      simp
      omega
    have := G.standLen hs
    omega
  have h4 := G.n2
  have h5 := G.rl
  have h6 := G.r6
  have h7 : (web.zip marks).length ≤ 60 := by rw [List.length_zip]; omega
  unfold leftK
  omega
theorem eqv_empties : ∀ (stands : List Stand), PyData.eqvAll (D.pyL (stands.map eSt)) (D.pyL (List.replicate stands.length (.tup []))) = stands.all List.isEmpty
  | [] => rfl
  | s :: l => by
    have := eqv_empties l
    simp only [List.map_cons, List.length_cons, List.replicate_succ, D.pyL, PyData.eqvAll, this, List.all_cons]
    congr 1
    have h := eqv_tup_nil (s.map eP)
    unfold D.eqv at h
    rw [eSt, h]
    cases s <;> rfl
theorem eqv_stands (stands : List Stand) : D.eqv (.tup (stands.map eSt)) (.tup (List.replicate stands.length (.tup []))) = stands.all List.isEmpty := by
  unfold D.eqv
  rw [D.py, D.py, PyData.eqv]
  exact eqv_empties stands
theorem flat_one (n : Nat) (x : D) : (List.replicate n [x]).flatten = List.replicate n x := by
  induction n with
  | zero => rfl
  | succ n ih => simp [List.replicate_succ, ih]
/-- the draws' dict at the beginning -/
def mD0 (sc : List Int) : List (D × D) := [(.str "script", .lstv (sc.map .int)), (.str "at", .int 0), (.str "rest", .loc 1)]
theorem merge0 (sc : List Int) : mergeD (mD0 sc) [(.str "burst", .int 0), (.str "walker", .int 1)] = mD sc 0 0 1 := rfl
theorem merge1 (sc : List Int) (k b w : Int) : mergeD (mD sc k b w) [(.str "burst", .int 0), (.str "walker", .int 1)] = mD sc k 0 1 := rfl
theorem log2_big {z : Int} (h : PySem.Builtin.Int.intBits z ≤ 1048576) : z.natAbs.log2 < 1048577 := by
  unfold PySem.Builtin.Int.intBits at h
  split at h
  · rename_i h0
    have : z = 0 := by simpa using h0
    subst this
    decide
  · omega
end TB

end

/-! ## K20M -/
section
set_option linter.all false
set_option autoImplicit false
set_option maxRecDepth 100000
set_option maxHeartbeats 0
namespace TB.K20
open PySem PySem.Spec PyProof.Rows L2
def xcs : List Str := ["BadRow", "BadWeb", "BadState", "BadOrder", "BadSharing", "BadPaper", "OutOfPlace", "TooGreat"]
def m_is_whole : SM := sRet (eAnd (eN (bIsiX xcs) (aCons (eV 0) (aCons (eC (.ty "int")) aNil))) (eNot (eN (bIsiX xcs) (aCons (eV 0) (aCons (eC (.ty "bool")) aNil)))))
def f_is_whole : List D → Sto → Res D := runF 1 1 m_is_whole
def m_is_among : SM := sRet (eAnd (eN f_is_whole (aCons (eV 0) aNil)) (eChain pLe pLe (eV 1) (eV 0) (eV 2)))
def mm_is_among (f_is_whole : List D → Sto → Res D) : SM := sRet (eAnd (eN f_is_whole (aCons (eV 0) aNil)) (eChain pLe pLe (eV 1) (eV 0) (eV 2)))
theorem mm_is_among_eq : m_is_among = mm_is_among f_is_whole := rfl
def f_is_among : List D → Sto → Res D := runF 3 3 m_is_among
def m_is_row_of : SM := sSeq (sIf (tOr (tNot (tTr (eN (bIsiX xcs) (aCons (eV 0) (aCons (eC (.ty "tuple")) aNil))))) (tB (e2 pGt (eN bLen (aCons (eV 0) aNil)) (eC (.int 8))))) (sRet (eC (.bl false))) sSkip) (sRet (eN bAll (aCons (eLc [2] (gV 2) (iVal (eV 0)) tYes (eOr (e2 pIsN (eV 2) (eC .non)) (eN f_is_among (aCons (eV 2) (aCons (eC (.int 0)) (aCons (e2 pSub (eV 1) (eC (.int 1))) aNil)))))) aNil)))
def mm_is_row_of (f_is_among : List D → Sto → Res D) : SM := sSeq (sIf (tOr (tNot (tTr (eN (bIsiX xcs) (aCons (eV 0) (aCons (eC (.ty "tuple")) aNil))))) (tB (e2 pGt (eN bLen (aCons (eV 0) aNil)) (eC (.int 8))))) (sRet (eC (.bl false))) sSkip) (sRet (eN bAll (aCons (eLc [2] (gV 2) (iVal (eV 0)) tYes (eOr (e2 pIsN (eV 2) (eC .non)) (eN f_is_among (aCons (eV 2) (aCons (eC (.int 0)) (aCons (e2 pSub (eV 1) (eC (.int 1))) aNil)))))) aNil)))
theorem mm_is_row_of_eq : m_is_row_of = mm_is_row_of f_is_among := rfl
def f_is_row_of : List D → Sto → Res D := runF 2 3 m_is_row_of
def m_is_web : SM := sSeq (sIf (tOr (tNot (tTr (eN (bIsiX xcs) (aCons (eV 0) (aCons (eC (.ty "tuple")) aNil))))) (tNot (tB (eChain pLe pLe (eC (.int 1)) (eN bLen (aCons (eV 0) aNil)) (eC (.int 60)))))) (sRet (eC (.bl false))) sSkip) (sRet (eN bAll (aCons (eLc [1] (gV 1) (iVal (eV 0)) tYes (eN f_is_row_of (aCons (eV 1) (aCons (eN bLen (aCons (eV 0) aNil)) aNil)))) aNil)))
def mm_is_web (f_is_row_of : List D → Sto → Res D) : SM := sSeq (sIf (tOr (tNot (tTr (eN (bIsiX xcs) (aCons (eV 0) (aCons (eC (.ty "tuple")) aNil))))) (tNot (tB (eChain pLe pLe (eC (.int 1)) (eN bLen (aCons (eV 0) aNil)) (eC (.int 60)))))) (sRet (eC (.bl false))) sSkip) (sRet (eN bAll (aCons (eLc [1] (gV 1) (iVal (eV 0)) tYes (eN f_is_row_of (aCons (eV 1) (aCons (eN bLen (aCons (eV 0) aNil)) aNil)))) aNil)))
theorem mm_is_web_eq : m_is_web = mm_is_web f_is_row_of := rfl
def f_is_web : List D → Sto → Res D := runF 1 2 m_is_web
def m_is_node : SM := sRet (eN f_is_among (aCons (eV 1) (aCons (eC (.int 0)) (aCons (e2 pSub (eN bLen (aCons (eV 0) aNil)) (eC (.int 1))) aNil))))
def mm_is_node (f_is_among : List D → Sto → Res D) : SM := sRet (eN f_is_among (aCons (eV 1) (aCons (eC (.int 0)) (aCons (e2 pSub (eN bLen (aCons (eV 0) aNil)) (eC (.int 1))) aNil))))
theorem mm_is_node_eq : m_is_node = mm_is_node f_is_among := rfl
def f_is_node : List D → Sto → Res D := runF 2 2 m_is_node
def m_are_marks : SM := sSeq (sIf (tOr (tNot (tTr (eN (bIsiX xcs) (aCons (eV 1) (aCons (eC (.ty "tuple")) aNil))))) (tB (e2 pNe (eN bLen (aCons (eV 1) aNil)) (eN bLen (aCons (eV 0) aNil))))) (sRet (eC (.bl false))) sSkip) (sRet (eN bAll (aCons (eLc [3] (gV 3) (iVal (eV 1)) tYes (eN f_is_among (aCons (eV 3) (aCons (eC (.int 0)) (aCons (eV 2) aNil))))) aNil)))
def mm_are_marks (f_is_among : List D → Sto → Res D) : SM := sSeq (sIf (tOr (tNot (tTr (eN (bIsiX xcs) (aCons (eV 1) (aCons (eC (.ty "tuple")) aNil))))) (tB (e2 pNe (eN bLen (aCons (eV 1) aNil)) (eN bLen (aCons (eV 0) aNil))))) (sRet (eC (.bl false))) sSkip) (sRet (eN bAll (aCons (eLc [3] (gV 3) (iVal (eV 1)) tYes (eN f_is_among (aCons (eV 3) (aCons (eC (.int 0)) (aCons (eV 2) aNil))))) aNil)))
theorem mm_are_marks_eq : m_are_marks = mm_are_marks f_is_among := rfl
def f_are_marks : List D → Sto → Res D := runF 3 4 m_are_marks
def m_are_counts : SM := sSeq (sIf (tOr (tNot (tTr (eN (bIsiX xcs) (aCons (eV 1) (aCons (eC (.ty "tuple")) aNil))))) (tB (e2 pNe (eN bLen (aCons (eV 1) aNil)) (eN bLen (aCons (eV 0) aNil))))) (sRet (eC (.bl false))) sSkip) (sRet (eN bAll (aCons (eLc [2, 3] (gTup [gV 2, gV 3]) (iFn iZipF (aCons (eV 1) (aCons (eV 0) aNil))) tYes (eN f_is_among (aCons (eV 2) (aCons (eC (.int 0)) (aCons (eN bLen (aCons (eV 3) aNil)) aNil))))) aNil)))
def mm_are_counts (f_is_among : List D → Sto → Res D) : SM := sSeq (sIf (tOr (tNot (tTr (eN (bIsiX xcs) (aCons (eV 1) (aCons (eC (.ty "tuple")) aNil))))) (tB (e2 pNe (eN bLen (aCons (eV 1) aNil)) (eN bLen (aCons (eV 0) aNil))))) (sRet (eC (.bl false))) sSkip) (sRet (eN bAll (aCons (eLc [2, 3] (gTup [gV 2, gV 3]) (iFn iZipF (aCons (eV 1) (aCons (eV 0) aNil))) tYes (eN f_is_among (aCons (eV 2) (aCons (eC (.int 0)) (aCons (eN bLen (aCons (eV 3) aNil)) aNil))))) aNil)))
theorem mm_are_counts_eq : m_are_counts = mm_are_counts f_is_among := rfl
def f_are_counts : List D → Sto → Res D := runF 2 4 m_are_counts
def m_is_spot : SM := sSeq (sIf (tTr (eN f_is_node (aCons (eV 0) (aCons (eV 1) aNil)))) (sRet (eC (.bl true))) sSkip) (sSeq (sIf (tOr (tNot (tTr (eN (bIsiX xcs) (aCons (eV 1) (aCons (eC (.ty "tuple")) aNil))))) (tOr (tB (e2 pNe (eN bLen (aCons (eV 1) aNil)) (eC (.int 2)))) (tNot (tTr (eN f_is_node (aCons (eV 0) (aCons (e2 pIx (eV 1) (eC (.int 0))) aNil))))))) (sRet (eC (.bl false))) sSkip) (sRet (eOr (e2 pIsN (e2 pIx (eV 1) (eC (.int 1))) (eC .non)) (eN f_is_node (aCons (eV 0) (aCons (e2 pIx (eV 1) (eC (.int 1))) aNil))))))
def mm_is_spot (f_is_node : List D → Sto → Res D) : SM := sSeq (sIf (tTr (eN f_is_node (aCons (eV 0) (aCons (eV 1) aNil)))) (sRet (eC (.bl true))) sSkip) (sSeq (sIf (tOr (tNot (tTr (eN (bIsiX xcs) (aCons (eV 1) (aCons (eC (.ty "tuple")) aNil))))) (tOr (tB (e2 pNe (eN bLen (aCons (eV 1) aNil)) (eC (.int 2)))) (tNot (tTr (eN f_is_node (aCons (eV 0) (aCons (e2 pIx (eV 1) (eC (.int 0))) aNil))))))) (sRet (eC (.bl false))) sSkip) (sRet (eOr (e2 pIsN (e2 pIx (eV 1) (eC (.int 1))) (eC .non)) (eN f_is_node (aCons (eV 0) (aCons (e2 pIx (eV 1) (eC (.int 1))) aNil))))))
theorem mm_is_spot_eq : m_is_spot = mm_is_spot f_is_node := rfl
def f_is_spot : List D → Sto → Res D := runF 2 2 m_is_spot
def m_is_state : SM := sSeq (sIf (tOr (tNot (tTr (eN (bIsiX xcs) (aCons (eV 0) (aCons (eC (.ty "tuple")) aNil))))) (tOr (tB (e2 pNe (eN bLen (aCons (eV 0) aNil)) (eC (.int 4)))) (tNot (tTr (eN f_is_web (aCons (e2 pIx (eV 0) (eC (.int 0))) aNil)))))) (sRet (eC (.bl false))) sSkip) (sSeq (sAsg (gTup [gV 1, gV 2, gV 3, gV 4]) (eV 0)) (sSeq (sIf (tOr (tNot (tTr (eN (bIsiX xcs) (aCons (eV 4) (aCons (eC (.ty "tuple")) aNil))))) (tNot (tB (eChain pLe pLe (eC (.int 1)) (eN bLen (aCons (eV 4) aNil)) (eC (.int 6)))))) (sRet (eC (.bl false))) sSkip) (sSeq (sIf (tNot (tTr (eN bAll (aCons (eLc [5] (gV 5) (iVal (eV 4)) tYes (eN f_is_spot (aCons (eV 1) (aCons (eV 5) aNil)))) aNil)))) (sRet (eC (.bl false))) sSkip) (sRet (eAnd (eN f_are_marks (aCons (eV 1) (aCons (eV 2) (aCons (eN bLen (aCons (eV 4) aNil)) aNil)))) (eN f_are_counts (aCons (eV 1) (aCons (eV 3) aNil))))))))
def mm_is_state (f_is_web f_is_spot f_are_marks f_are_counts : List D → Sto → Res D) : SM := sSeq (sIf (tOr (tNot (tTr (eN (bIsiX xcs) (aCons (eV 0) (aCons (eC (.ty "tuple")) aNil))))) (tOr (tB (e2 pNe (eN bLen (aCons (eV 0) aNil)) (eC (.int 4)))) (tNot (tTr (eN f_is_web (aCons (e2 pIx (eV 0) (eC (.int 0))) aNil)))))) (sRet (eC (.bl false))) sSkip) (sSeq (sAsg (gTup [gV 1, gV 2, gV 3, gV 4]) (eV 0)) (sSeq (sIf (tOr (tNot (tTr (eN (bIsiX xcs) (aCons (eV 4) (aCons (eC (.ty "tuple")) aNil))))) (tNot (tB (eChain pLe pLe (eC (.int 1)) (eN bLen (aCons (eV 4) aNil)) (eC (.int 6)))))) (sRet (eC (.bl false))) sSkip) (sSeq (sIf (tNot (tTr (eN bAll (aCons (eLc [5] (gV 5) (iVal (eV 4)) tYes (eN f_is_spot (aCons (eV 1) (aCons (eV 5) aNil)))) aNil)))) (sRet (eC (.bl false))) sSkip) (sRet (eAnd (eN f_are_marks (aCons (eV 1) (aCons (eV 2) (aCons (eN bLen (aCons (eV 4) aNil)) aNil)))) (eN f_are_counts (aCons (eV 1) (aCons (eV 3) aNil))))))))
theorem mm_is_state_eq : m_is_state = mm_is_state f_is_web f_is_spot f_are_marks f_are_counts := rfl
def f_is_state : List D → Sto → Res D := runF 1 6 m_is_state
def m_need_state : SM := sIf (tNot (tTr (eN f_is_state (aCons (eV 0) aNil)))) (sRaise "BadState" 1 (aCons (eC .non) aNil)) sSkip
def mm_need_state (f_is_state : List D → Sto → Res D) : SM := sIf (tNot (tTr (eN f_is_state (aCons (eV 0) aNil)))) (sRaise "BadState" 1 (aCons (eC .non) aNil)) sSkip
theorem mm_need_state_eq : m_need_state = mm_need_state f_is_state := rfl
def f_need_state : List D → Sto → Res D := runF 1 1 m_need_state
def m_need_walker : SM := sIf (tNot (tTr (eN f_is_among (aCons (eV 1) (aCons (eC (.int 1)) (aCons (eN bLen (aCons (e2 pIx (eV 0) (eC (.int 3))) aNil)) aNil)))))) (sRaise "OutOfPlace" 0 (aCons (eC (.str "no such walker")) aNil)) sSkip
def mm_need_walker (f_is_among : List D → Sto → Res D) : SM := sIf (tNot (tTr (eN f_is_among (aCons (eV 1) (aCons (eC (.int 1)) (aCons (eN bLen (aCons (e2 pIx (eV 0) (eC (.int 3))) aNil)) aNil)))))) (sRaise "OutOfPlace" 0 (aCons (eC (.str "no such walker")) aNil)) sSkip
theorem mm_need_walker_eq : m_need_walker = mm_need_walker f_is_among := rfl
def f_need_walker : List D → Sto → Res D := runF 2 2 m_need_walker
def m_has_stopped : SM := sRet (eNot (eN (bIsiX xcs) (aCons (eV 0) (aCons (eC (.ty "tuple")) aNil))))
def f_has_stopped : List D → Sto → Res D := runF 1 1 m_has_stopped
def m_is_fit : SM := sSeq (sAsg (gTup [gV 4, gV 5, gV 6, gV 7]) (eV 0)) (sSeq (sIf (tOr (tB (e2 pNe (e2 pIx (eV 5) (eV 2)) (eV 1))) (tB (e2 pIn (eV 2) (eV 3)))) (sRet (eC (.bl false))) sSkip) (sRet (eOr (e2 pEq (eV 3) (eN mkLst aNil)) (e2 pLt (e2 pIx (eV 6) (eV 2)) (eN bLen (aCons (e2 pIx (eV 4) (eV 2)) aNil))))))
def f_is_fit : List D → Sto → Res D := runF 4 8 m_is_fit
def m_back_of : SM := sSeq (sAsg (gTup [gV 2, gV 3, gV 4, gV 5]) (eV 0)) (sSeq (sSet 6 (e2 pIx (eV 5) (e2 pSub (eV 1) (eC (.int 1))))) (sSeq (sIf (tTr (eN f_has_stopped (aCons (eV 6) aNil))) (sSeq (sIf (tB (e2 pNe (e2 pIx (eV 3) (eV 6)) (eV 1))) (sRaise "BadState" 1 (aCons (eV 6) aNil)) sSkip) (sRet (eN mkLst aNil))) sSkip) (sSeq (sSet 7 (eN mkLst aNil)) (sSeq (sAsg (gTup [gV 8, gV 9]) (eV 6)) (sSeq (sWhile 1000000 (tB (e2 pNotN (eV 8) (eC .non))) (sSeq (sIf (tNot (tTr (eN f_is_fit (aCons (eV 0) (aCons (eV 1) (aCons (eV 8) (aCons (eV 7) aNil))))))) (sRaise "BadState" 1 (aCons (eV 8) aNil)) sSkip) (sSeq (sExp (eMt isLstD mAppend (eV 7) (aCons (eV 8) aNil))) (sSet 8 (eIf (tB (e2 pEq (eN bLen (aCons (eV 7) aNil)) (eC (.int 1)))) (eV 9) (e2 pIx (e2 pIx (eV 2) (eV 8)) (e2 pIx (eV 4) (eV 8)))))))) (sRet (eV 7)))))))
def mm_back_of (f_has_stopped f_is_fit : List D → Sto → Res D) : SM := sSeq (sAsg (gTup [gV 2, gV 3, gV 4, gV 5]) (eV 0)) (sSeq (sSet 6 (e2 pIx (eV 5) (e2 pSub (eV 1) (eC (.int 1))))) (sSeq (sIf (tTr (eN f_has_stopped (aCons (eV 6) aNil))) (sSeq (sIf (tB (e2 pNe (e2 pIx (eV 3) (eV 6)) (eV 1))) (sRaise "BadState" 1 (aCons (eV 6) aNil)) sSkip) (sRet (eN mkLst aNil))) sSkip) (sSeq (sSet 7 (eN mkLst aNil)) (sSeq (sAsg (gTup [gV 8, gV 9]) (eV 6)) (sSeq (sWhile 1000000 (tB (e2 pNotN (eV 8) (eC .non))) (sSeq (sIf (tNot (tTr (eN f_is_fit (aCons (eV 0) (aCons (eV 1) (aCons (eV 8) (aCons (eV 7) aNil))))))) (sRaise "BadState" 1 (aCons (eV 8) aNil)) sSkip) (sSeq (sExp (eMt isLstD mAppend (eV 7) (aCons (eV 8) aNil))) (sSet 8 (eIf (tB (e2 pEq (eN bLen (aCons (eV 7) aNil)) (eC (.int 1)))) (eV 9) (e2 pIx (e2 pIx (eV 2) (eV 8)) (e2 pIx (eV 4) (eV 8)))))))) (sRet (eV 7)))))))
theorem mm_back_of_eq : m_back_of = mm_back_of f_has_stopped f_is_fit := rfl
def f_back_of : List D → Sto → Res D := runF 2 10 m_back_of
def m_all_ways : SM := sRet (eLc [1] (gV 1) (iFn iRange2 (aCons (eC (.int 1)) (aCons (e2 pAdd (eN bLen (aCons (e2 pIx (eV 0) (eC (.int 3))) aNil)) (eC (.int 1))) aNil))) tYes (eN bTuple (aCons (e1 pRev (eN f_back_of (aCons (eV 0) (aCons (eV 1) aNil)))) aNil)))
def mm_all_ways (f_back_of : List D → Sto → Res D) : SM := sRet (eLc [1] (gV 1) (iFn iRange2 (aCons (eC (.int 1)) (aCons (e2 pAdd (eN bLen (aCons (e2 pIx (eV 0) (eC (.int 3))) aNil)) (eC (.int 1))) aNil))) tYes (eN bTuple (aCons (e1 pRev (eN f_back_of (aCons (eV 0) (aCons (eV 1) aNil)))) aNil)))
theorem mm_all_ways_eq : m_all_ways = mm_all_ways f_back_of := rfl
def f_all_ways : List D → Sto → Res D := runF 1 2 m_all_ways
def m_web_by : SM := sSeq (sSet 2 (eLc [6] (gV 6) (iVal (e2 pIx (eV 0) (eC (.int 0)))) tYes (eN bList (aCons (eV 6) aNil)))) (sSeq (sFor (gV 3) (iVal (eV 1)) (sFor (gTup [gV 4, gV 5]) (iFn iZipF (aCons (eV 3) (aCons (eSl (eV 3) (oS (eC (.int 1))) oN) aNil))) (sAsg (gSub fStore (e2 pIx (eV 2) (eV 4)) (e2 pIx (e2 pIx (eV 0) (eC (.int 2))) (eV 4))) (eV 5)))) (sRet (eN bTuple (aCons (eLc [6] (gV 6) (iVal (eV 2)) tYes (eN bTuple (aCons (eV 6) aNil))) aNil))))
def f_web_by : List D → Sto → Res D := runF 2 7 m_web_by
def m_roots_by : SM := sRet (eN bTuple (aCons (eLc [2, 3] (gTup [gV 2, gV 3]) (iFn iZipF (aCons (eV 1) (aCons (e2 pIx (eV 0) (eC (.int 3))) aNil))) tYes (eIf (tB (e2 pEq (eV 2) (eN mkTup aNil))) (eV 3) (e2 pIx (eV 2) (eC (.int 0))))) aNil))
def f_roots_by : List D → Sto → Res D := runF 2 4 m_roots_by
def m_way_of : SM := sSeq (sExp (eN f_need_state (aCons (eV 0) aNil))) (sSeq (sExp (eN f_need_walker (aCons (eV 0) (aCons (eV 1) aNil)))) (sRet (eN bTuple (aCons (e1 pRev (eN f_back_of (aCons (eV 0) (aCons (eV 1) aNil)))) aNil))))
def mm_way_of (f_need_state f_need_walker f_back_of : List D → Sto → Res D) : SM := sSeq (sExp (eN f_need_state (aCons (eV 0) aNil))) (sSeq (sExp (eN f_need_walker (aCons (eV 0) (aCons (eV 1) aNil)))) (sRet (eN bTuple (aCons (e1 pRev (eN f_back_of (aCons (eV 0) (aCons (eV 1) aNil)))) aNil))))
theorem mm_way_of_eq : m_way_of = mm_way_of f_need_state f_need_walker f_back_of := rfl
def f_way_of : List D → Sto → Res D := runF 2 2 m_way_of
def m_turned_back : SM := sSeq (sExp (eN f_need_state (aCons (eV 0) aNil))) (sRet (eN f_web_by (aCons (eV 0) (aCons (eN f_all_ways (aCons (eV 0) aNil)) aNil))))
def mm_turned_back (f_need_state f_web_by f_all_ways : List D → Sto → Res D) : SM := sSeq (sExp (eN f_need_state (aCons (eV 0) aNil))) (sRet (eN f_web_by (aCons (eV 0) (aCons (eN f_all_ways (aCons (eV 0) aNil)) aNil))))
theorem mm_turned_back_eq : m_turned_back = mm_turned_back f_need_state f_web_by f_all_ways := rfl
def f_turned_back : List D → Sto → Res D := runF 1 1 m_turned_back
def m_roots_of : SM := sSeq (sExp (eN f_need_state (aCons (eV 0) aNil))) (sRet (eN f_roots_by (aCons (eV 0) (aCons (eN f_all_ways (aCons (eV 0) aNil)) aNil))))
def mm_roots_of (f_need_state f_roots_by f_all_ways : List D → Sto → Res D) : SM := sSeq (sExp (eN f_need_state (aCons (eV 0) aNil))) (sRet (eN f_roots_by (aCons (eV 0) (aCons (eN f_all_ways (aCons (eV 0) aNil)) aNil))))
theorem mm_roots_of_eq : m_roots_of = mm_roots_of f_need_state f_roots_by f_all_ways := rfl
def f_roots_of : List D → Sto → Res D := runF 1 1 m_roots_of
def m__law_started : SM := sRet (eDisp [.str "script", .str "at", .str "rest"] (aCons (eV 0) (aCons (eC (.int 0)) (aCons (eLc [1] (gV 1) (iVal (eV 0)) tYes (e2 pMul (eV 1) (eN bInt (aCons (e2 pGe (eV 1) (e2 pPow (eC (.int 10)) (eC (.int 18)))) aNil)))) aNil))))
def f__law_started : List D → Sto → Res D := runF 1 2 m__law_started
def m__law_draw : SM := sSeq (sSet 2 (e2 pIx (eV 0) (eC (.str "at")))) (sSeq (sAsg (gSub fStore (eV 0) (eC (.str "at"))) (e2 pAdd (eV 2) (eC (.int 1)))) (sSeq (sSet 3 (e2 pIx (eV 0) (eC (.str "script")))) (sSeq (sSet 4 (eIf (tB (e2 pNe (e2 pIx (eV 0) (eC (.str "rest"))) (eN mkLst aNil))) (e2 pIx (e2 pIx (eV 0) (eC (.str "rest"))) (e2 pMod (eV 2) (eN bLen (aCons (eV 3) aNil)))) (eC (.int 0)))) (sSeq (sIf (tB (e2 pGt (eV 4) (eC (.int 0)))) (sSeq (sAsg (gSub fStore (e2 pIx (eV 0) (eC (.str "rest"))) (e2 pMod (eV 2) (eN bLen (aCons (eV 3) aNil)))) (e2 pFdiv (eV 4) (eV 1))) (sRet (e2 pMod (eV 4) (eV 1)))) sSkip) (sSeq (sSet 5 (eIf (tB (e2 pNe (eV 3) (eN mkLst aNil))) (e2 pIx (eV 3) (e2 pMod (eV 2) (eN bLen (aCons (eV 3) aNil)))) (eC (.int 0)))) (sSeq (sSet 6 (e2 pMod (e2 pAdd (e2 pAdd (e2 pMul (e2 pMod (eV 5) (eC (.int 2147483629))) (eC (.int 48271))) (e2 pMul (e2 pMul (eC (.int 69621)) (eV 2)) (eV 2))) (eC (.int 104729))) (eC (.int 2147483647)))) (sSeq (sSet 6 (e2 pMod (e2 pMul (eV 6) (e2 pAdd (eC (.int 16807)) (e2 pMul (eC (.int 2)) (eV 2)))) (eC (.int 2147483629)))) (sRet (e2 pMod (e2 pFdiv (e2 pMod (e2 pMul (eV 6) (eV 6)) (eC (.int 1000000007))) (eC (.int 7))) (eV 1))))))))))
def f__law_draw : List D → Sto → Res D := runF 2 7 m__law_draw
def m__law_of : SM := sRet (e2 pIx (eV 1) (eN f__law_draw (aCons (eV 0) (aCons (eN bLen (aCons (eV 1) aNil)) aNil))))
def mm__law_of (f__law_draw : List D → Sto → Res D) : SM := sRet (e2 pIx (eV 1) (eN f__law_draw (aCons (eV 0) (aCons (eN bLen (aCons (eV 1) aNil)) aNil))))
theorem mm__law_of_eq : m__law_of = mm__law_of f__law_draw := rfl
def f__law_of : List D → Sto → Res D := runF 2 2 m__law_of
def m__law_web : SM := sSeq (sSet 3 (e2 pAdd (eC (.int 1)) (eN f__law_draw (aCons (eV 0) (aCons (eV 1) aNil))))) (sSeq (sSet 4 (eN mkLst aNil)) (sSeq (sFor (gV 5) (iFn iRange1 (aCons (eV 3) aNil)) (sSeq (sSet 6 (eN mkLst aNil)) (sSeq (sFor (gV 7) (iFn iRange1 (aCons (eN f__law_draw (aCons (eV 0) (aCons (eV 2) aNil))) aNil)) (sSeq (sSet 8 (eN f__law_draw (aCons (eV 0) (aCons (e2 pAdd (eV 3) (eC (.int 1))) aNil)))) (sExp (eMt isLstD mAppend (eV 6) (aCons (eIf (tB (e2 pLt (eV 8) (eV 3))) (eV 8) (eC .non)) aNil))))) (sExp (eMt isLstD mAppend (eV 4) (aCons (eN bTuple (aCons (eV 6) aNil)) aNil)))))) (sRet (eN bTuple (aCons (eV 4) aNil)))))
def mm__law_web (f__law_draw : List D → Sto → Res D) : SM := sSeq (sSet 3 (e2 pAdd (eC (.int 1)) (eN f__law_draw (aCons (eV 0) (aCons (eV 1) aNil))))) (sSeq (sSet 4 (eN mkLst aNil)) (sSeq (sFor (gV 5) (iFn iRange1 (aCons (eV 3) aNil)) (sSeq (sSet 6 (eN mkLst aNil)) (sSeq (sFor (gV 7) (iFn iRange1 (aCons (eN f__law_draw (aCons (eV 0) (aCons (eV 2) aNil))) aNil)) (sSeq (sSet 8 (eN f__law_draw (aCons (eV 0) (aCons (e2 pAdd (eV 3) (eC (.int 1))) aNil)))) (sExp (eMt isLstD mAppend (eV 6) (aCons (eIf (tB (e2 pLt (eV 8) (eV 3))) (eV 8) (eC .non)) aNil))))) (sExp (eMt isLstD mAppend (eV 4) (aCons (eN bTuple (aCons (eV 6) aNil)) aNil)))))) (sRet (eN bTuple (aCons (eV 4) aNil)))))
theorem mm__law_web_eq : m__law_web = mm__law_web f__law_draw := rfl
def f__law_web : List D → Sto → Res D := runF 3 9 m__law_web
def m__law_roots : SM := sSeq (sSet 3 (e1 bListRg (eN bLen (aCons (eV 1) aNil)))) (sRet (eN bTupleP (aCons (eLc [4] (gV 4) (iFn iRange1 (aCons (e2 pAdd (eC (.int 1)) (eN f__law_draw (aCons (eV 0) (aCons (eN bMin (aCons (eV 2) (aCons (eN bLen (aCons (eV 1) aNil)) aNil))) aNil)))) aNil)) tYes (eMt isLstD mPop (eV 3) (aCons (eN f__law_draw (aCons (eV 0) (aCons (eN bLen (aCons (eV 3) aNil)) aNil))) aNil))) aNil)))
def mm__law_roots (f__law_draw : List D → Sto → Res D) : SM := sSeq (sSet 3 (e1 bListRg (eN bLen (aCons (eV 1) aNil)))) (sRet (eN bTupleP (aCons (eLc [4] (gV 4) (iFn iRange1 (aCons (e2 pAdd (eC (.int 1)) (eN f__law_draw (aCons (eV 0) (aCons (eN bMin (aCons (eV 2) (aCons (eN bLen (aCons (eV 1) aNil)) aNil))) aNil)))) aNil)) tYes (eMt isLstD mPop (eV 3) (aCons (eN f__law_draw (aCons (eV 0) (aCons (eN bLen (aCons (eV 3) aNil)) aNil))) aNil))) aNil)))
theorem mm__law_roots_eq : m__law_roots = mm__law_roots f__law_draw := rfl
def f__law_roots : List D → Sto → Res D := runF 3 5 m__law_roots
def m__law_begun : SM := sSeq (sSet 2 (eN bTuple (aCons (eLc [3] (gV 3) (iFn iRange1 (aCons (eN bLen (aCons (eV 0) aNil)) aNil)) tYes (eIf (tB (e2 pIn (eV 3) (eW (eV 1)))) (e2 pAdd (eMt isPtD mPIndex (eV 1) (aCons (eV 3) aNil)) (eC (.int 1))) (eC (.int 0)))) aNil))) (sRet (eN mkTup (aCons (eV 2) (aCons (eN bTuple (aCons (eLc [4] (gV 4) (iVal (eW (eV 1))) tYes (eN mkTup (aCons (eN mkTup (aCons (eV 4) (aCons (eC (.int 0)) aNil))) aNil))) aNil)) aNil))))
def f__law_begun : List D → Sto → Res D := runF 2 5 m__law_begun
def m__law_next : SM := sSeq (sAsg (gTup [gV 3, gV 4]) (eV 1)) (sSeq (sSet 5 (e2 pIx (eV 4) (e2 pSub (eV 2) (eC (.int 1))))) (sSeq (sIf (tB (e2 pEq (eV 5) (eN mkTup aNil))) (sRet (eC .non)) sSkip) (sSeq (sAsg (gTup [gV 6, gV 7]) (e2 pIx (eV 5) (e1 pNeg (eC (.int 1))))) (sSeq (sSet 8 (eSl (eV 5) oN (oS (e1 pNeg (eC (.int 1)))))) (sSeq (sIf (tB (e2 pEq (eV 7) (eN bLen (aCons (e2 pIx (eV 0) (eV 6)) aNil)))) (sSeq (sSet 9 (eIf (tB (e2 pEq (eV 8) (eN mkTup aNil))) (eN mkTup (aCons (eC (.str "stop")) (aCons (eV 6) aNil))) (eN mkTup (aCons (eC (.str "up")) (aCons (eV 6) aNil))))) (sIf (tB (e2 pNe (eV 8) (eN mkTup aNil))) (sSet 8 (e2 pAdd (eSl (eV 8) oN (oS (e1 pNeg (eC (.int 1))))) (eN mkTup (aCons (eN mkTup (aCons (e2 pIx (e2 pIx (eV 8) (e1 pNeg (eC (.int 1)))) (eC (.int 0))) (aCons (e2 pAdd (e2 pIx (e2 pIx (eV 8) (e1 pNeg (eC (.int 1)))) (eC (.int 1))) (eC (.int 1))) aNil))) aNil)))) sSkip)) (sIf (tOr (tB (e2 pIsN (e2 pIx (e2 pIx (eV 0) (eV 6)) (eV 7)) (eC .non))) (tB (e2 pGt (e2 pIx (eV 3) (e2 pIx (e2 pIx (eV 0) (eV 6)) (eV 7))) (eC (.int 0))))) (sSeq (sSet 9 (eN mkTup (aCons (eC (.str "skip")) (aCons (eV 6) (aCons (eV 7) aNil))))) (sSet 8 (e2 pAdd (eV 8) (eN mkTup (aCons (eN mkTup (aCons (eV 6) (aCons (e2 pAdd (eV 7) (eC (.int 1))) aNil))) aNil))))) (sSeq (sSet 9 (eN mkTup (aCons (eC (.str "down")) (aCons (eV 6) (aCons (eV 7) aNil))))) (sSeq (sSet 10 (e2 pIx (e2 pIx (eV 0) (eV 6)) (eV 7))) (sSeq (sSet 3 (e2 pAdd (e2 pAdd (eSl (eV 3) oN (oS (eV 10))) (eN mkTup (aCons (eV 2) aNil))) (eSl (eV 3) (oS (e2 pAdd (eV 10) (eC (.int 1)))) oN))) (sSet 8 (e2 pAdd (eV 5) (eN mkTup (aCons (eN mkTup (aCons (eV 10) (aCons (eC (.int 0)) aNil))) aNil))))))))) (sRet (eN mkTup (aCons (eV 9) (aCons (eN mkTup (aCons (eV 3) (aCons (e2 pAdd (e2 pAdd (eSl (eV 4) oN (oS (e2 pSub (eV 2) (eC (.int 1))))) (eN mkTup (aCons (eV 8) aNil))) (eSl (eV 4) (oS (eV 2)) oN)) aNil))) aNil)))))))))
def f__law_next : List D → Sto → Res D := runF 3 11 m__law_next
def m__law_state : SM := sSeq (sAsg (gTup [gV 3, gV 4]) (eV 2)) (sSeq (sSet 5 (eLc [14] (gV 14) (iVal (eV 0)) tYes (eN bList (aCons (eV 14) aNil)))) (sSeq (sSet 6 (e2 pMul (eN mkLst (aCons (eC (.int 0)) aNil)) (eN bLen (aCons (eV 0) aNil)))) (sSeq (sSet 7 (eN mkLst aNil)) (sSeq (sFor (gTup [gV 8, gV 9]) (iFn iZipF (aCons (eW (eV 1)) (aCons (eV 4) aNil))) (sSeq (sSet 10 (eC .non)) (sSeq (sFor (gTup [gV 11, gTup [gV 12, gV 13]]) (iFn iEnumF (aCons (eV 9) aNil)) (sSeq (sAsg (gSub fStore (eV 6) (eV 12)) (eV 13)) (sIf (tB (e2 pLt (e2 pAdd (eV 11) (eC (.int 1))) (eN bLen (aCons (eV 9) aNil)))) (sSeq (sAsg (gSub fStore (e2 pIx (eV 5) (eV 12)) (eV 13)) (eV 10)) (sSet 10 (eV 12))) sSkip))) (sExp (eMt isLstD mAppend (eV 7) (aCons (eIf (tB (e2 pNe (eV 9) (eN mkTup aNil))) (eN mkTup (aCons (e2 pIx (e2 pIx (eV 9) (e1 pNeg (eC (.int 1)))) (eC (.int 0))) (aCons (eV 10) aNil))) (eV 8)) aNil)))))) (sRet (eN mkTup (aCons (eN bTuple (aCons (eLc [14] (gV 14) (iVal (eV 5)) tYes (eN bTuple (aCons (eV 14) aNil))) aNil)) (aCons (eV 3) (aCons (eN bTuple (aCons (eV 6) aNil)) (aCons (eN bTuple (aCons (eV 7) aNil)) aNil))))))))))
def f__law_state : List D → Sto → Res D := runF 3 15 m__law_state
def m__law_turn : SM := sSeq (sIf (tOr (tB (e2 pEq (e2 pIx (eV 0) (eC (.str "burst"))) (eC (.int 0)))) (tB (e2 pEq (e2 pIx (e2 pIx (eV 1) (eC (.int 1))) (e2 pSub (e2 pIx (eV 0) (eC (.str "walker"))) (eC (.int 1)))) (eN mkTup aNil)))) (sSeq (sAsg (gSub fStore (eV 0) (eC (.str "burst"))) (e2 pAdd (eC (.int 1)) (eN f__law_draw (aCons (eV 0) (aCons (e2 pIx (eN mkLst (aCons (eC (.int 1)) (aCons (eC (.int 3)) (aCons (eC (.int 9)) aNil)))) (eN f__law_draw (aCons (eV 0) (aCons (eC (.int 3)) aNil)))) aNil))))) (sAsg (gSub fStore (eV 0) (eC (.str "walker"))) (eN f__law_of (aCons (eV 0) (aCons (eLc [2] (gV 2) (iFn iRange2 (aCons (eC (.int 1)) (aCons (e2 pAdd (eN bLen (aCons (e2 pIx (eV 1) (eC (.int 1))) aNil)) (eC (.int 1))) aNil))) (tB (e2 pNe (e2 pIx (e2 pIx (eV 1) (eC (.int 1))) (e2 pSub (eV 2) (eC (.int 1)))) (eN mkTup aNil))) (eV 2)) aNil))))) sSkip) (sSeq (sAsg (gSub fStore (eV 0) (eC (.str "burst"))) (e2 pSub (e2 pIx (eV 0) (eC (.str "burst"))) (eC (.int 1)))) (sRet (e2 pIx (eV 0) (eC (.str "walker")))))
def mm__law_turn (f__law_draw f__law_of : List D → Sto → Res D) : SM := sSeq (sIf (tOr (tB (e2 pEq (e2 pIx (eV 0) (eC (.str "burst"))) (eC (.int 0)))) (tB (e2 pEq (e2 pIx (e2 pIx (eV 1) (eC (.int 1))) (e2 pSub (e2 pIx (eV 0) (eC (.str "walker"))) (eC (.int 1)))) (eN mkTup aNil)))) (sSeq (sAsg (gSub fStore (eV 0) (eC (.str "burst"))) (e2 pAdd (eC (.int 1)) (eN f__law_draw (aCons (eV 0) (aCons (e2 pIx (eN mkLst (aCons (eC (.int 1)) (aCons (eC (.int 3)) (aCons (eC (.int 9)) aNil)))) (eN f__law_draw (aCons (eV 0) (aCons (eC (.int 3)) aNil)))) aNil))))) (sAsg (gSub fStore (eV 0) (eC (.str "walker"))) (eN f__law_of (aCons (eV 0) (aCons (eLc [2] (gV 2) (iFn iRange2 (aCons (eC (.int 1)) (aCons (e2 pAdd (eN bLen (aCons (e2 pIx (eV 1) (eC (.int 1))) aNil)) (eC (.int 1))) aNil))) (tB (e2 pNe (e2 pIx (e2 pIx (eV 1) (eC (.int 1))) (e2 pSub (eV 2) (eC (.int 1)))) (eN mkTup aNil))) (eV 2)) aNil))))) sSkip) (sSeq (sAsg (gSub fStore (eV 0) (eC (.str "burst"))) (e2 pSub (e2 pIx (eV 0) (eC (.str "burst"))) (eC (.int 1)))) (sRet (e2 pIx (eV 0) (eC (.str "walker")))))
theorem mm__law_turn_eq : m__law_turn = mm__law_turn f__law_draw f__law_of := rfl
def f__law_turn : List D → Sto → Res D := runF 2 3 m__law_turn
def m__law_word : SM := sSeq (sIf (tB (e2 pIsN (eV 0) (eC .non))) (sRet (eN mkTup (aCons (eC (.str "told")) aNil))) sSkip) (sSeq (sSet 1 (eN (bIsiX xcs) (aCons (eV 0) (aCons (eN mkTup (aCons (eC (.gl "BadOrder")) (aCons (eC (.gl "BadPaper")) (aCons (eC (.gl "BadRow")) (aCons (eC (.gl "BadSharing")) (aCons (eC (.gl "BadWeb")) (aCons (eC (.gl "TooGreat")) aNil))))))) aNil)))) (sSeq (sIf (tOr (tTr (eV 1)) (tNot (tTr (eN (bIsiX xcs) (aCons (eV 0) (aCons (eC (.ty "ValueError")) aNil)))))) (sRet (eN mkTup (aCons (eC (.str "other")) aNil))) sSkip) (sSeq (sIf (tTr (eN (bIsiX xcs) (aCons (eV 0) (aCons (eC (.gl "BadState")) aNil)))) (sRet (eIf (tTr (eN (bIsiX xcs) (aCons (eV 0) (aCons (eC (.gl "OutOfPlace")) aNil)))) (eN mkTup (aCons (eC (.str "several")) aNil)) (eN mkTup (aCons (eC (.str "state")) (aCons (e1 (aFld xcs "node") (eV 0)) aNil))))) sSkip) (sRet (eIf (tTr (eN (bIsiX xcs) (aCons (eV 0) (aCons (eC (.gl "OutOfPlace")) aNil)))) (eN mkTup (aCons (eC (.str "place")) aNil)) (eN mkTup (aCons (eC (.str "bare")) aNil)))))))
def f__law_word : List D → Sto → Res D := runF 1 2 m__law_word
def m__law_refused : SM := sSeq (sSet 2 (eC .non)) (sSeq (sTryAs (excSub xcs (.gl "WebError")) (sExp (eCallL 0 [("turned_back", f_turned_back), ("roots_of", f_roots_of)] (aCons (eV 1) aNil))) 3 2) (sRet (eN f__law_word (aCons (eV 2) aNil))))
def mm__law_refused (f_turned_back f_roots_of f__law_word : List D → Sto → Res D) : SM := sSeq (sSet 2 (eC .non)) (sSeq (sTryAs (excSub xcs (.gl "WebError")) (sExp (eCallL 0 [("turned_back", f_turned_back), ("roots_of", f_roots_of)] (aCons (eV 1) aNil))) 3 2) (sRet (eN f__law_word (aCons (eV 2) aNil))))
theorem mm__law_refused_eq : m__law_refused = mm__law_refused f_turned_back f_roots_of f__law_word := rfl
def f__law_refused : List D → Sto → Res D := runF 2 4 m__law_refused
def m__law_way_refused : SM := sSeq (sSet 2 (eC .non)) (sSeq (sTryAs (excSub xcs (.gl "WebError")) (sExp (eN f_way_of (aCons (eV 0) (aCons (eV 1) aNil)))) 3 2) (sRet (eN f__law_word (aCons (eV 2) aNil))))
def mm__law_way_refused (f_way_of f__law_word : List D → Sto → Res D) : SM := sSeq (sSet 2 (eC .non)) (sSeq (sTryAs (excSub xcs (.gl "WebError")) (sExp (eN f_way_of (aCons (eV 0) (aCons (eV 1) aNil)))) 3 2) (sRet (eN f__law_word (aCons (eV 2) aNil))))
theorem mm__law_way_refused_eq : m__law_way_refused = mm__law_way_refused f_way_of f__law_word := rfl
def f__law_way_refused : List D → Sto → Res D := runF 2 4 m__law_way_refused
def m__law_state_right : SM := sSeq (sSet 4 (eN f__law_state (aCons (eV 1) (aCons (eW (eV 2)) (aCons (eV 3) aNil))))) (sSeq (sSet 5 (eN bRepr (aCons (eV 4) aNil))) (sSeq (sFor (gV 6) (iFn iRange1 (aCons (eC (.int 2)) aNil)) (sSeq (sFor (gTup [gV 7, gV 8]) (iFn iEnumF (aCons (e2 pIx (eV 3) (eC (.int 1))) aNil)) (sIf (tB (e2 pNe (eN bRepr (aCons (eN f_way_of (aCons (eV 4) (aCons (e2 pAdd (eV 7) (eC (.int 1))) aNil))) aNil)) (eN bRepr (aCons (eN bTuple (aCons (eLc [12, 13] (gTup [gV 12, gV 13]) (iVal (eV 8)) tYes (eV 12)) aNil)) aNil)))) (sRet (eC (.bl false))) sSkip)) (sIf (tOr (tB (e2 pNe (eN bRepr (aCons (eN f_turned_back (aCons (eV 4) aNil)) aNil)) (eN bRepr (aCons (eV 1) aNil)))) (tB (e2 pNe (eN bRepr (aCons (eN f_roots_of (aCons (eV 4) aNil)) aNil)) (eN bRepr (aCons (eW (eV 2)) aNil))))) (sRet (eC (.bl false))) sSkip))) (sSeq (sSet 9 (eN f__law_of (aCons (eV 0) (aCons (eN mkLst (aCons (eC (.int 0)) (aCons (e2 pAdd (eN bLen (aCons (eW (eV 2)) aNil)) (eC (.int 1))) (aCons (e1 pNeg (eC (.int 1))) (aCons (eC .non) (aCons (eC (.bl true)) (aCons (eC (.str "1")) (aCons (eN mkTup (aCons (eC (.int 1)) aNil)) (aCons (eN mkLst (aCons (eC (.int 1)) aNil)) (aCons (e2 pPow (eC (.int 10)) (eC (.int 30))) aNil)))))))))) aNil)))) (sSeq (sSet 10 (eN f__law_of (aCons (eV 0) (aCons (eN mkLst (aCons (eC .non) (aCons (eN mkTup aNil) (aCons (eSl (eV 4) oN (oS (eC (.int 3)))) (aCons (e2 pAdd (eV 4) (eN mkTup (aCons (eN mkTup aNil) aNil))) (aCons (eN bList (aCons (eV 4) aNil)) (aCons (eC (.str "state")) (aCons (e2 pIx (eV 4) (eC (.int 0))) (aCons (eN mkTup (aCons (eV 4) aNil)) (aCons (eC (.int 5)) aNil)))))))))) aNil)))) (sSeq (sSet 11 (eN mkLst (aCons (eN f__law_way_refused (aCons (eV 4) (aCons (eV 9) aNil))) (aCons (eN f__law_way_refused (aCons (eV 10) (aCons (eV 9) aNil))) aNil)))) (sSeq (sSet 11 (e2 pAdd (eV 11) (eN mkLst (aCons (eN f__law_refused (aCons (eC (.gl "turned_back")) (aCons (eV 10) aNil))) (aCons (eN f__law_refused (aCons (eC (.gl "roots_of")) (aCons (eV 10) aNil))) aNil))))) (sRet (eAnd (e2 pEq (eV 11) (e2 pAdd (eN mkLst (aCons (eN mkTup (aCons (eC (.str "place")) aNil)) aNil)) (e2 pMul (eN mkLst (aCons (eN mkTup (aCons (eC (.str "state")) (aCons (eC .non) aNil))) aNil)) (eC (.int 3))))) (e2 pEq (eN bRepr (aCons (eV 4) aNil)) (eV 5))))))))))
def mm__law_state_right (f__law_state f_way_of f_turned_back f_roots_of f__law_of f__law_way_refused f__law_refused : List D → Sto → Res D) : SM := sSeq (sSet 4 (eN f__law_state (aCons (eV 1) (aCons (eW (eV 2)) (aCons (eV 3) aNil))))) (sSeq (sSet 5 (eN bRepr (aCons (eV 4) aNil))) (sSeq (sFor (gV 6) (iFn iRange1 (aCons (eC (.int 2)) aNil)) (sSeq (sFor (gTup [gV 7, gV 8]) (iFn iEnumF (aCons (e2 pIx (eV 3) (eC (.int 1))) aNil)) (sIf (tB (e2 pNe (eN bRepr (aCons (eN f_way_of (aCons (eV 4) (aCons (e2 pAdd (eV 7) (eC (.int 1))) aNil))) aNil)) (eN bRepr (aCons (eN bTuple (aCons (eLc [12, 13] (gTup [gV 12, gV 13]) (iVal (eV 8)) tYes (eV 12)) aNil)) aNil)))) (sRet (eC (.bl false))) sSkip)) (sIf (tOr (tB (e2 pNe (eN bRepr (aCons (eN f_turned_back (aCons (eV 4) aNil)) aNil)) (eN bRepr (aCons (eV 1) aNil)))) (tB (e2 pNe (eN bRepr (aCons (eN f_roots_of (aCons (eV 4) aNil)) aNil)) (eN bRepr (aCons (eW (eV 2)) aNil))))) (sRet (eC (.bl false))) sSkip))) (sSeq (sSet 9 (eN f__law_of (aCons (eV 0) (aCons (eN mkLst (aCons (eC (.int 0)) (aCons (e2 pAdd (eN bLen (aCons (eW (eV 2)) aNil)) (eC (.int 1))) (aCons (e1 pNeg (eC (.int 1))) (aCons (eC .non) (aCons (eC (.bl true)) (aCons (eC (.str "1")) (aCons (eN mkTup (aCons (eC (.int 1)) aNil)) (aCons (eN mkLst (aCons (eC (.int 1)) aNil)) (aCons (e2 pPow (eC (.int 10)) (eC (.int 30))) aNil)))))))))) aNil)))) (sSeq (sSet 10 (eN f__law_of (aCons (eV 0) (aCons (eN mkLst (aCons (eC .non) (aCons (eN mkTup aNil) (aCons (eSl (eV 4) oN (oS (eC (.int 3)))) (aCons (e2 pAdd (eV 4) (eN mkTup (aCons (eN mkTup aNil) aNil))) (aCons (eN bList (aCons (eV 4) aNil)) (aCons (eC (.str "state")) (aCons (e2 pIx (eV 4) (eC (.int 0))) (aCons (eN mkTup (aCons (eV 4) aNil)) (aCons (eC (.int 5)) aNil)))))))))) aNil)))) (sSeq (sSet 11 (eN mkLst (aCons (eN f__law_way_refused (aCons (eV 4) (aCons (eV 9) aNil))) (aCons (eN f__law_way_refused (aCons (eV 10) (aCons (eV 9) aNil))) aNil)))) (sSeq (sSet 11 (e2 pAdd (eV 11) (eN mkLst (aCons (eN f__law_refused (aCons (eC (.gl "turned_back")) (aCons (eV 10) aNil))) (aCons (eN f__law_refused (aCons (eC (.gl "roots_of")) (aCons (eV 10) aNil))) aNil))))) (sRet (eAnd (e2 pEq (eV 11) (e2 pAdd (eN mkLst (aCons (eN mkTup (aCons (eC (.str "place")) aNil)) aNil)) (e2 pMul (eN mkLst (aCons (eN mkTup (aCons (eC (.str "state")) (aCons (eC .non) aNil))) aNil)) (eC (.int 3))))) (e2 pEq (eN bRepr (aCons (eV 4) aNil)) (eV 5))))))))))
theorem mm__law_state_right_eq : m__law_state_right = mm__law_state_right f__law_state f_way_of f_turned_back f_roots_of f__law_of f__law_way_refused f__law_refused := rfl
def f__law_state_right : List D → Sto → Res D := runF 4 14 m__law_state_right
def m_law : SM := sSeq (sSet 1 (eN f__law_started (aCons (eV 0) aNil))) (sSeq (sFor (gV 2) (iFn iRange1 (aCons (eN bMax (aCons (eC (.int 2)) (aCons (eN bMin (aCons (eC (.int 6)) (aCons (eN bLen (aCons (eV 0) aNil)) aNil))) aNil))) aNil)) (sSeq (sExp (eMt isDctD mUpdate (eV 1) (aCons (eDisp [.str "burst", .str "walker"] (aCons (eC (.int 0)) (aCons (eC (.int 1)) aNil))) aNil))) (sSeq (sSet 3 (eN f__law_web (aCons (eV 1) (aCons (eN f__law_of (aCons (eV 1) (aCons (eN mkLst (aCons (eC (.int 7)) (aCons (eC (.int 7)) (aCons (eC (.int 7)) (aCons (eC (.int 13)) aNil))))) aNil))) (aCons (eC (.int 5)) aNil))))) (sSeq (sSet 4 (eN f__law_roots (aCons (eV 1) (aCons (eV 3) (aCons (eC (.int 3)) aNil))))) (sSeq (sSet 5 (eN f__law_begun (aCons (eV 3) (aCons (eV 4) aNil)))) (sSeq (sWhile 1000000 (tB (e2 pNe (e2 pIx (eV 5) (eC (.int 1))) (e2 pMul (eN mkTup (aCons (eN mkTup aNil) aNil)) (eN bLen (aCons (eW (eV 4)) aNil))))) (sSeq (sIf (tNot (tTr (eN f__law_state_right (aCons (eV 1) (aCons (eV 3) (aCons (eW (eV 4)) (aCons (eV 5) aNil))))))) (sRet (eC (.bl false))) sSkip) (sSeq (sSet 6 (eN f__law_next (aCons (eV 3) (aCons (eV 5) (aCons (eN f__law_turn (aCons (eV 1) (aCons (eV 5) aNil))) aNil))))) (sSet 5 (eIf (tB (e2 pIsN (eV 6) (eC .non))) (eV 5) (e2 pIx (eV 6) (eC (.int 1)))))))) (sIf (tNot (tTr (eN f__law_state_right (aCons (eV 1) (aCons (eV 3) (aCons (eW (eV 4)) (aCons (eV 5) aNil))))))) (sRet (eC (.bl false))) sSkip))))))) (sRet (eC (.bl true))))
def mm_law (f__law_started f__law_web f__law_of f__law_roots f__law_begun f__law_state_right f__law_next f__law_turn : List D → Sto → Res D) : SM := sSeq (sSet 1 (eN f__law_started (aCons (eV 0) aNil))) (sSeq (sFor (gV 2) (iFn iRange1 (aCons (eN bMax (aCons (eC (.int 2)) (aCons (eN bMin (aCons (eC (.int 6)) (aCons (eN bLen (aCons (eV 0) aNil)) aNil))) aNil))) aNil)) (sSeq (sExp (eMt isDctD mUpdate (eV 1) (aCons (eDisp [.str "burst", .str "walker"] (aCons (eC (.int 0)) (aCons (eC (.int 1)) aNil))) aNil))) (sSeq (sSet 3 (eN f__law_web (aCons (eV 1) (aCons (eN f__law_of (aCons (eV 1) (aCons (eN mkLst (aCons (eC (.int 7)) (aCons (eC (.int 7)) (aCons (eC (.int 7)) (aCons (eC (.int 13)) aNil))))) aNil))) (aCons (eC (.int 5)) aNil))))) (sSeq (sSet 4 (eN f__law_roots (aCons (eV 1) (aCons (eV 3) (aCons (eC (.int 3)) aNil))))) (sSeq (sSet 5 (eN f__law_begun (aCons (eV 3) (aCons (eV 4) aNil)))) (sSeq (sWhile 1000000 (tB (e2 pNe (e2 pIx (eV 5) (eC (.int 1))) (e2 pMul (eN mkTup (aCons (eN mkTup aNil) aNil)) (eN bLen (aCons (eW (eV 4)) aNil))))) (sSeq (sIf (tNot (tTr (eN f__law_state_right (aCons (eV 1) (aCons (eV 3) (aCons (eW (eV 4)) (aCons (eV 5) aNil))))))) (sRet (eC (.bl false))) sSkip) (sSeq (sSet 6 (eN f__law_next (aCons (eV 3) (aCons (eV 5) (aCons (eN f__law_turn (aCons (eV 1) (aCons (eV 5) aNil))) aNil))))) (sSet 5 (eIf (tB (e2 pIsN (eV 6) (eC .non))) (eV 5) (e2 pIx (eV 6) (eC (.int 1)))))))) (sIf (tNot (tTr (eN f__law_state_right (aCons (eV 1) (aCons (eV 3) (aCons (eW (eV 4)) (aCons (eV 5) aNil))))))) (sRet (eC (.bl false))) sSkip))))))) (sRet (eC (.bl true))))
theorem mm_law_eq : m_law = mm_law f__law_started f__law_web f__law_of f__law_roots f__law_begun f__law_state_right f__law_next f__law_turn := rfl
def f_law : List D → Sto → Res D := runF 1 7 m_law
end TB.K20

end

/-! ## K20H -/
section
set_option linter.all false
set_option autoImplicit false
set_option maxRecDepth 100000
set_option maxHeartbeats 0
namespace TB.K20
open PySem PySem.Spec PyProof.Rows L2

/-! the head: what the module's top leaves -/
def top (i : Nat) : Stmt := PySem.Challenge.pw_turnback_k20_ways_back.main.body.getD i (.Pass ⟨0, 0, 0, 0⟩)
def cls (i j : Nat) : Stmt := match top i with
  | .ClassDef (body := b) .. => b.getD j (.Pass ⟨0, 0, 0, 0⟩)
  | _ => .Pass ⟨0, 0, 0, 0⟩
def st_is_whole : Stmt := top 11
def dd_is_whole : He.DefD := ⟨("is_whole", none), "is_whole", "is_whole", defArgs (top 11), defBody (top 11), defScope (top 11), [], []⟩
def st_is_among : Stmt := top 12
def dd_is_among : He.DefD := ⟨("is_among", none), "is_among", "is_among", defArgs (top 12), defBody (top 12), defScope (top 12), [], []⟩
def st_is_row_of : Stmt := top 16
def dd_is_row_of : He.DefD := ⟨("is_row_of", none), "is_row_of", "is_row_of", defArgs (top 16), defBody (top 16), defScope (top 16), [], []⟩
def st_is_web : Stmt := top 17
def dd_is_web : He.DefD := ⟨("is_web", none), "is_web", "is_web", defArgs (top 17), defBody (top 17), defScope (top 17), [], []⟩
def st_is_node : Stmt := top 18
def dd_is_node : He.DefD := ⟨("is_node", none), "is_node", "is_node", defArgs (top 18), defBody (top 18), defScope (top 18), [], []⟩
def st_are_marks : Stmt := top 21
def dd_are_marks : He.DefD := ⟨("are_marks", none), "are_marks", "are_marks", defArgs (top 21), defBody (top 21), defScope (top 21), [], []⟩
def st_are_counts : Stmt := top 22
def dd_are_counts : He.DefD := ⟨("are_counts", none), "are_counts", "are_counts", defArgs (top 22), defBody (top 22), defScope (top 22), [], []⟩
def st_is_spot : Stmt := top 23
def dd_is_spot : He.DefD := ⟨("is_spot", none), "is_spot", "is_spot", defArgs (top 23), defBody (top 23), defScope (top 23), [], []⟩
def st_is_state : Stmt := top 24
def dd_is_state : He.DefD := ⟨("is_state", none), "is_state", "is_state", defArgs (top 24), defBody (top 24), defScope (top 24), [], []⟩
def st_need_state : Stmt := top 25
def dd_need_state : He.DefD := ⟨("need_state", none), "need_state", "need_state", defArgs (top 25), defBody (top 25), defScope (top 25), [], []⟩
def st_need_walker : Stmt := top 26
def dd_need_walker : He.DefD := ⟨("need_walker", none), "need_walker", "need_walker", defArgs (top 26), defBody (top 26), defScope (top 26), [], []⟩
def st_has_stopped : Stmt := top 27
def dd_has_stopped : He.DefD := ⟨("has_stopped", none), "has_stopped", "has_stopped", defArgs (top 27), defBody (top 27), defScope (top 27), [], []⟩
def st_is_fit : Stmt := top 29
def dd_is_fit : He.DefD := ⟨("is_fit", none), "is_fit", "is_fit", defArgs (top 29), defBody (top 29), defScope (top 29), [], []⟩
def st_back_of : Stmt := top 30
def dd_back_of : He.DefD := ⟨("back_of", none), "back_of", "back_of", defArgs (top 30), defBody (top 30), defScope (top 30), [], []⟩
def st_all_ways : Stmt := top 31
def dd_all_ways : He.DefD := ⟨("all_ways", none), "all_ways", "all_ways", defArgs (top 31), defBody (top 31), defScope (top 31), [], []⟩
def st_web_by : Stmt := top 32
def dd_web_by : He.DefD := ⟨("web_by", none), "web_by", "web_by", defArgs (top 32), defBody (top 32), defScope (top 32), [], []⟩
def st_roots_by : Stmt := top 33
def dd_roots_by : He.DefD := ⟨("roots_by", none), "roots_by", "roots_by", defArgs (top 33), defBody (top 33), defScope (top 33), [], []⟩
def st_way_of : Stmt := top 34
def dd_way_of : He.DefD := ⟨("way_of", none), "way_of", "way_of", defArgs (top 34), defBody (top 34), defScope (top 34), [], []⟩
def st_turned_back : Stmt := top 35
def dd_turned_back : He.DefD := ⟨("turned_back", none), "turned_back", "turned_back", defArgs (top 35), defBody (top 35), defScope (top 35), [], []⟩
def st_roots_of : Stmt := top 36
def dd_roots_of : He.DefD := ⟨("roots_of", none), "roots_of", "roots_of", defArgs (top 36), defBody (top 36), defScope (top 36), [], []⟩
def st__law_started : Stmt := top 38
def dd__law_started : He.DefD := ⟨("_law_started", none), "_law_started", "_law_started", defArgs (top 38), defBody (top 38), defScope (top 38), [], []⟩
def st__law_draw : Stmt := top 39
def dd__law_draw : He.DefD := ⟨("_law_draw", none), "_law_draw", "_law_draw", defArgs (top 39), defBody (top 39), defScope (top 39), [], []⟩
def st__law_of : Stmt := top 40
def dd__law_of : He.DefD := ⟨("_law_of", none), "_law_of", "_law_of", defArgs (top 40), defBody (top 40), defScope (top 40), [], []⟩
def st__law_web : Stmt := top 41
def dd__law_web : He.DefD := ⟨("_law_web", none), "_law_web", "_law_web", defArgs (top 41), defBody (top 41), defScope (top 41), [], []⟩
def st__law_roots : Stmt := top 42
def dd__law_roots : He.DefD := ⟨("_law_roots", none), "_law_roots", "_law_roots", defArgs (top 42), defBody (top 42), defScope (top 42), [], []⟩
def st__law_begun : Stmt := top 43
def dd__law_begun : He.DefD := ⟨("_law_begun", none), "_law_begun", "_law_begun", defArgs (top 43), defBody (top 43), defScope (top 43), [], []⟩
def st__law_next : Stmt := top 44
def dd__law_next : He.DefD := ⟨("_law_next", none), "_law_next", "_law_next", defArgs (top 44), defBody (top 44), defScope (top 44), [], []⟩
def st__law_state : Stmt := top 45
def dd__law_state : He.DefD := ⟨("_law_state", none), "_law_state", "_law_state", defArgs (top 45), defBody (top 45), defScope (top 45), [], []⟩
def st__law_turn : Stmt := top 46
def dd__law_turn : He.DefD := ⟨("_law_turn", none), "_law_turn", "_law_turn", defArgs (top 46), defBody (top 46), defScope (top 46), [], []⟩
def st__law_word : Stmt := top 47
def dd__law_word : He.DefD := ⟨("_law_word", none), "_law_word", "_law_word", defArgs (top 47), defBody (top 47), defScope (top 47), [], []⟩
def st__law_refused : Stmt := top 48
def dd__law_refused : He.DefD := ⟨("_law_refused", none), "_law_refused", "_law_refused", defArgs (top 48), defBody (top 48), defScope (top 48), [], []⟩
def st__law_way_refused : Stmt := top 49
def dd__law_way_refused : He.DefD := ⟨("_law_way_refused", none), "_law_way_refused", "_law_way_refused", defArgs (top 49), defBody (top 49), defScope (top 49), [], []⟩
def st__law_state_right : Stmt := top 50
def dd__law_state_right : He.DefD := ⟨("_law_state_right", none), "_law_state_right", "_law_state_right", defArgs (top 50), defBody (top 50), defScope (top 50), [], []⟩
def st_law : Stmt := top 51
def dd_law : He.DefD := ⟨("law", none), "law", "law", defArgs (top 51), defBody (top 51), defScope (top 51), [], []⟩
def di_BadState : He.DefD := ⟨("BadState", some "__init__"), "__init__", "BadState.__init__", defArgs (cls 4 0), defBody (cls 4 0), defScope (cls 4 0), [], []⟩
def fn : List He.DefD := [dd_is_whole, dd_is_among, dd_is_row_of, dd_is_web, dd_is_node, dd_are_marks, dd_are_counts, dd_is_spot, dd_is_state, dd_need_state, dd_need_walker, dd_has_stopped, dd_is_fit, dd_back_of, dd_all_ways, dd_web_by, dd_roots_by, dd_way_of, dd_turned_back, dd_roots_of, dd__law_started, dd__law_draw, dd__law_of, dd__law_web, dd__law_roots, dd__law_begun, dd__law_next, dd__law_state, dd__law_turn, dd__law_word, dd__law_refused, dd__law_way_refused, dd__law_state_right, dd_law, di_BadState]
def fa : List He.Fa := [.glo "is_whole", .glo "is_among", .glo "is_row_of", .glo "is_web", .glo "is_node", .glo "are_marks", .glo "are_counts", .glo "is_spot", .glo "is_state", .glo "need_state", .glo "need_walker", .glo "has_stopped", .glo "is_fit", .glo "back_of", .glo "all_ways", .glo "web_by", .glo "roots_by", .glo "way_of", .glo "turned_back", .glo "roots_of", .glo "_law_started", .glo "_law_draw", .glo "_law_of", .glo "_law_web", .glo "_law_roots", .glo "_law_begun", .glo "_law_next", .glo "_law_state", .glo "_law_turn", .glo "_law_word", .glo "_law_refused", .glo "_law_way_refused", .glo "_law_state_right", .glo "law", .glo "WebError", .glo "BadRow", .glo "BadWeb", .glo "BadState", .glo "BadOrder", .glo "BadSharing", .glo "BadPaper", .glo "OutOfPlace", .glo "TooGreat", .free "ValueError", .free "all", .free "bool", .free "enumerate", .free "int", .free "isinstance", .free "len", .free "list", .free "max", .free "min", .free "range", .free "repr", .free "tuple", .free "zip", .int "MOST_NODES" 60, .int "MOST_TIES" 8, .int "MOST_WALKERS" 6, .exc "OutOfPlace"]
def ex (K : PySem.W.Frag) : Bool := exAllB ⟨K, He.ga K⟩ xcs && initB K (He.ga K "WebError") (He.ga K "BadState") (He.fAd K ("BadState", some "__init__")) "node"
abbrev R : PySem.W.OpenRow := PySem.W.OpenLaw.row PySem.Challenge.rw_turnback_k20_ways_back
abbrev hk : PySem.W.Hook := hookP 4 fa fn ex
def ob (s : PySem.W.SharedT) : AlP := obsP 4 fa fn ex (HandSHeadRun.getT s)
theorem ob_eq (s : PySem.W.SharedT) : ob s = hk.obs s.abs := obsP_eq (HandSHeadRun.getT_eq s)
def loose : List Str := (["is_whole", "is_among", "is_row_of", "is_web", "is_node", "are_marks", "are_counts", "is_spot", "is_state", "need_state", "need_walker", "has_stopped", "is_fit", "back_of", "all_ways", "web_by", "roots_by", "way_of", "turned_back", "roots_of", "_law_started", "_law_draw", "_law_of", "_law_web", "_law_roots", "_law_begun", "_law_next", "_law_state", "_law_turn", "_law_word"] : List Str) ++ (["_law_refused", "_law_way_refused", "_law_state_right", "WebError", "BadRow", "BadWeb", "BadState", "BadOrder", "BadSharing", "BadPaper", "OutOfPlace", "TooGreat", "MOST_NODES", "MOST_TIES", "MOST_WALKERS"] : List Str)
theorem run (w : World) : HandSHeadRun.RunEq R (PySem.W.view R.prog [51]) hk ob 6000 loose w := by
  intro os
  kernel_rfl
end TB.K20

end

/-! ## K20W -/
section
set_option linter.all false
set_option autoImplicit false
set_option maxRecDepth 100000
set_option maxHeartbeats 0
namespace TB.K20
open PySem PySem.Spec PyProof.Rows L2

abbrev CS (K : PySem.W.Frag) (mg : Str → Option Value) : Prop := Cs fa fn ex K mg
section
variable {P : Program} {w : World} {K : PySem.W.Frag} {mg : Str → Option Value} {base : Heap}
theorem exs (c : CS K mg) : ExAll (gx K) xcs := exAllB_ok (by have h : ex K = true := c.s.x; exact (He.ba h).1)
theorem sci_BadState : FnScope ["self", "node"] ["self", "node"] (defScope (cls 4 0)) := ⟨rfl, rfl, rfl, by decide +kernel, rfl, by decide +kernel, by decide +kernel⟩
theorem ini_BadState (c : CS K mg) : Rok P w K mg base "BadState" "node" := by
  obtain ⟨fd, F⟩ := c.def_ 34 (d := di_BadState)
  have I : InitC K (He.ga K "WebError") (He.ga K "BadState") (He.fAd K ("BadState", some "__init__")) "node" := initB_ok (by have h : ex K = true := c.s.x; exact (He.ba h).2)
  refine ⟨⟨_, fd, ["self", "node"], fn_init (k := 0) F sci_BadState rfl rfl (fun cdv A outer s H E => ?_), F.bindsN fun _ _ _ _ _ _ us hl => match us, hl with | [_, _], _ => rfl, I⟩, by decide⟩
  exact pss_init (c.glo 34) I.rd I.ga I.vi (pe_weinit rfl (c.glo 34) I.rd I.ga I.vi (pa_cons (pe_var (by rfl) (Or.inl rfl)) (pa_cons pe_str pa_nil))) (pe_var (by rfl) (Or.inl rfl)) (pe_var (by rfl) (Or.inl rfl))
theorem sc_is_whole : FnScope ["thing"] ["thing"] (defScope (top 11)) := ⟨rfl, rfl, rfl, by decide +kernel, rfl, by decide +kernel, by decide +kernel⟩
theorem ok_is_whole (c : CS K mg) : Fok P w K mg base "is_whole" 1 1 f_is_whole := by
  obtain ⟨fd, F⟩ := c.def_ 0 (d := dd_is_whole)
  refine fok F sc_is_whole rfl rfl (F.bindsN fun _ _ _ _ _ _ us hl => match us, hl with | [_], _ => rfl) fun cdv A outer s H E hgd hr tk hp => ?_
  have hN := (sc_is_whole).nd
  exact ss_one (ss_ret (so_eAnd (so_callB (cv_isiX rfl (exs c)) (c.free 48) (by decide +kernel) (so_cons (so_V (by rfl)) (so_cons (so_ty (c.free 47) (by decide +kernel)) so_nil))) (so_one (so_eNot (so_callB (cv_isiX rfl (exs c)) (c.free 48) (by decide +kernel) (so_cons (so_V (by rfl)) (so_cons (so_ty (c.free 45) (by decide +kernel)) so_nil)))))))
theorem sc_is_among : FnScope ["thing", "least", "most"] ["thing", "least", "most"] (defScope (top 12)) := ⟨rfl, rfl, rfl, by decide +kernel, rfl, by decide +kernel, by decide +kernel⟩
theorem ok_is_among (c : CS K mg) : Fok P w K mg base "is_among" 2 3 f_is_among := by
  obtain ⟨fd, F⟩ := c.def_ 1 (d := dd_is_among)
  refine fok F sc_is_among rfl rfl (F.bindsN fun _ _ _ _ _ _ us hl => match us, hl with | [_, _, _], _ => rfl) fun cdv A outer s H E hgd hr tk hp => ?_
  have hN := (sc_is_among).nd
  exact ss_one (ss_ret (so_eAnd (so_callF (ok_is_whole c) hgd (hr.mono (by decide)) (c.glo 0) tk (so_cons (so_V (by rfl)) so_nil)) (so_one (so_chain ov_le ov_le (so_V (by rfl)) (so_V (by rfl)) (so_V (by rfl))))))
theorem sc_is_row_of : FnScope ["thing", "many", "tie"] ["thing", "many"] (defScope (top 16)) := ⟨rfl, rfl, rfl, by decide +kernel, rfl, by decide +kernel, by decide +kernel⟩
theorem ok_is_row_of (c : CS K mg) : Fok P w K mg base "is_row_of" 3 2 f_is_row_of := by
  obtain ⟨fd, F⟩ := c.def_ 2 (d := dd_is_row_of)
  refine fok F sc_is_row_of rfl rfl (F.bindsN fun _ _ _ _ _ _ us hl => match us, hl with | [_, _], _ => rfl) fun cdv A outer s H E hgd hr tk hp => ?_
  have hN := (sc_is_row_of).nd
  exact ss_cons (ss_if ((so_tOr (so_tNot (so_tTr rfl (so_callB (cv_isiX rfl (exs c)) (c.free 48) (by decide +kernel) (so_cons (so_V (by rfl)) (so_cons (so_ty (c.free 55) (by decide +kernel)) so_nil))))) (so_or1 (so_tcmp ov_gt (so_callB (cv_len rfl) (c.free 49) (by decide +kernel) (so_cons (so_V (by rfl)) so_nil)) (so_gint (c.int 58))))).pt)
    (ss_one (ss_ret so_bl))
    ss_nil)
    (ss_one (ss_ret (so_callB (cv_all rfl rfl) (c.free 44) (by decide +kernel) (so_cons (so_lc (own := [("tie", 2)]) rfl hN rfl (si_val rfl (so_V (by rfl))) (blkOk_by (by rfl)) tg_V (gV_calm 2) (fun _ _ _ _ _ => lg_V hN) (fun _ _ _ _ _ => so_tests0) (fun _ _ _ _ _ => (have tk := takes0; so_eOr (so_cmp ov_isN (so_V (by rfl)) so_non) (so_one (so_callF (ok_is_among c) hgd (hr.mono (by decide)) (c.glo 1) tk (so_cons (so_V (by rfl)) (so_cons so_int (so_cons (so_bin ov_sub (so_V (by rfl)) so_int) so_nil)))))))) so_nil))))
theorem sc_is_web : FnScope ["thing", "row"] ["thing"] (defScope (top 17)) := ⟨rfl, rfl, rfl, by decide +kernel, rfl, by decide +kernel, by decide +kernel⟩
theorem ok_is_web (c : CS K mg) : Fok P w K mg base "is_web" 4 1 f_is_web := by
  obtain ⟨fd, F⟩ := c.def_ 3 (d := dd_is_web)
  refine fok F sc_is_web rfl rfl (F.bindsN fun _ _ _ _ _ _ us hl => match us, hl with | [_], _ => rfl) fun cdv A outer s H E hgd hr tk hp => ?_
  have hN := (sc_is_web).nd
  exact ss_cons (ss_if ((so_tOr (so_tNot (so_tTr rfl (so_callB (cv_isiX rfl (exs c)) (c.free 48) (by decide +kernel) (so_cons (so_V (by rfl)) (so_cons (so_ty (c.free 55) (by decide +kernel)) so_nil))))) (so_or1 (so_tNot (so_tchain ov_le ov_le so_int (so_callB (cv_len rfl) (c.free 49) (by decide +kernel) (so_cons (so_V (by rfl)) so_nil)) (so_gint (c.int 57)))))).pt)
    (ss_one (ss_ret so_bl))
    ss_nil)
    (ss_one (ss_ret (so_callB (cv_all rfl rfl) (c.free 44) (by decide +kernel) (so_cons (so_lc (own := [("row", 1)]) rfl hN rfl (si_val rfl (so_V (by rfl))) (blkOk_by (by rfl)) tg_V (gV_calm 1) (fun _ _ _ _ _ => lg_V hN) (fun _ _ _ _ _ => so_tests0) (fun _ _ _ _ _ => (have tk := takes0; so_callF (ok_is_row_of c) hgd (hr.mono (by decide)) (c.glo 2) tk (so_cons (so_V (by rfl)) (so_cons (so_callB (cv_len rfl) (c.free 49) (by decide +kernel) (so_cons (so_V (by rfl)) so_nil)) so_nil))))) so_nil))))
theorem sc_is_node : FnScope ["web", "thing"] ["web", "thing"] (defScope (top 18)) := ⟨rfl, rfl, rfl, by decide +kernel, rfl, by decide +kernel, by decide +kernel⟩
theorem ok_is_node (c : CS K mg) : Fok P w K mg base "is_node" 3 2 f_is_node := by
  obtain ⟨fd, F⟩ := c.def_ 4 (d := dd_is_node)
  refine fok F sc_is_node rfl rfl (F.bindsN fun _ _ _ _ _ _ us hl => match us, hl with | [_, _], _ => rfl) fun cdv A outer s H E hgd hr tk hp => ?_
  have hN := (sc_is_node).nd
  exact ss_one (ss_ret (so_callF (ok_is_among c) hgd (hr.mono (by decide)) (c.glo 1) tk (so_cons (so_V (by rfl)) (so_cons so_int (so_cons (so_bin ov_sub (so_callB (cv_len rfl) (c.free 49) (by decide +kernel) (so_cons (so_V (by rfl)) so_nil)) so_int) so_nil)))))
theorem sc_are_marks : FnScope ["web", "thing", "many", "mark"] ["web", "thing", "many"] (defScope (top 21)) := ⟨rfl, rfl, rfl, by decide +kernel, rfl, by decide +kernel, by decide +kernel⟩
theorem ok_are_marks (c : CS K mg) : Fok P w K mg base "are_marks" 3 3 f_are_marks := by
  obtain ⟨fd, F⟩ := c.def_ 5 (d := dd_are_marks)
  refine fok F sc_are_marks rfl rfl (F.bindsN fun _ _ _ _ _ _ us hl => match us, hl with | [_, _, _], _ => rfl) fun cdv A outer s H E hgd hr tk hp => ?_
  have hN := (sc_are_marks).nd
  exact ss_cons (ss_if ((so_tOr (so_tNot (so_tTr rfl (so_callB (cv_isiX rfl (exs c)) (c.free 48) (by decide +kernel) (so_cons (so_V (by rfl)) (so_cons (so_ty (c.free 55) (by decide +kernel)) so_nil))))) (so_or1 (so_tcmp (ov_ne rfl (u64 hr)) (so_callB (cv_len rfl) (c.free 49) (by decide +kernel) (so_cons (so_V (by rfl)) so_nil)) (so_callB (cv_len rfl) (c.free 49) (by decide +kernel) (so_cons (so_V (by rfl)) so_nil))))).pt)
    (ss_one (ss_ret so_bl))
    ss_nil)
    (ss_one (ss_ret (so_callB (cv_all rfl rfl) (c.free 44) (by decide +kernel) (so_cons (so_lc (own := [("mark", 3)]) rfl hN rfl (si_val rfl (so_V (by rfl))) (blkOk_by (by rfl)) tg_V (gV_calm 3) (fun _ _ _ _ _ => lg_V hN) (fun _ _ _ _ _ => so_tests0) (fun _ _ _ _ _ => (have tk := takes0; so_callF (ok_is_among c) hgd (hr.mono (by decide)) (c.glo 1) tk (so_cons (so_V (by rfl)) (so_cons so_int (so_cons (so_V (by rfl)) so_nil)))))) so_nil))))
theorem sc_are_counts : FnScope ["web", "thing", "count", "row"] ["web", "thing"] (defScope (top 22)) := ⟨rfl, rfl, rfl, by decide +kernel, rfl, by decide +kernel, by decide +kernel⟩
theorem ok_are_counts (c : CS K mg) : Fok P w K mg base "are_counts" 3 2 f_are_counts := by
  obtain ⟨fd, F⟩ := c.def_ 6 (d := dd_are_counts)
  refine fok F sc_are_counts rfl rfl (F.bindsN fun _ _ _ _ _ _ us hl => match us, hl with | [_, _], _ => rfl) fun cdv A outer s H E hgd hr tk hp => ?_
  have hN := (sc_are_counts).nd
  exact ss_cons (ss_if ((so_tOr (so_tNot (so_tTr rfl (so_callB (cv_isiX rfl (exs c)) (c.free 48) (by decide +kernel) (so_cons (so_V (by rfl)) (so_cons (so_ty (c.free 55) (by decide +kernel)) so_nil))))) (so_or1 (so_tcmp (ov_ne rfl (u64 hr)) (so_callB (cv_len rfl) (c.free 49) (by decide +kernel) (so_cons (so_V (by rfl)) so_nil)) (so_callB (cv_len rfl) (c.free 49) (by decide +kernel) (so_cons (so_V (by rfl)) so_nil))))).pt)
    (ss_one (ss_ret so_bl))
    ss_nil)
    (ss_one (ss_ret (so_callB (cv_all rfl rfl) (c.free 44) (by decide +kernel) (so_cons (so_lc (own := [("count", 2), ("row", 3)]) rfl hN rfl (si_zip rfl (c.free 56) (so_cons (so_V (by rfl)) (so_cons (so_V (by rfl)) so_nil))) (blkOk_by (by rfl)) (tg_tup rfl (tg_cons (gV_calm 2) tg_V (tg_cons (gV_calm 3) tg_V tg_nil))) (gTup_calm (calm_cons (gV_calm 2) (calm_cons (gV_calm 3) calm_nil))) (fun _ _ _ _ _ => lg_tup rfl (lg_cons (lg_V hN) (lg_cons (lg_V hN) lg_nil))) (fun _ _ _ _ _ => so_tests0) (fun _ _ _ _ _ => (have tk := takes0; so_callF (ok_is_among c) hgd (hr.mono (by decide)) (c.glo 1) tk (so_cons (so_V (by rfl)) (so_cons so_int (so_cons (so_callB (cv_len rfl) (c.free 49) (by decide +kernel) (so_cons (so_V (by rfl)) so_nil)) so_nil)))))) so_nil))))
theorem sc_is_spot : FnScope ["web", "thing"] ["web", "thing"] (defScope (top 23)) := ⟨rfl, rfl, rfl, by decide +kernel, rfl, by decide +kernel, by decide +kernel⟩
theorem ok_is_spot (c : CS K mg) : Fok P w K mg base "is_spot" 4 2 f_is_spot := by
  obtain ⟨fd, F⟩ := c.def_ 7 (d := dd_is_spot)
  refine fok F sc_is_spot rfl rfl (F.bindsN fun _ _ _ _ _ _ us hl => match us, hl with | [_, _], _ => rfl) fun cdv A outer s H E hgd hr tk hp => ?_
  have hN := (sc_is_spot).nd
  exact ss_cons (ss_if (so_tTr rfl (so_callF (ok_is_node c) hgd (hr.mono (by decide)) (c.glo 4) tk (so_cons (so_V (by rfl)) (so_cons (so_V (by rfl)) so_nil))))
    (ss_one (ss_ret so_bl))
    ss_nil)
    (ss_cons (ss_if ((so_tOr (so_tNot (so_tTr rfl (so_callB (cv_isiX rfl (exs c)) (c.free 48) (by decide +kernel) (so_cons (so_V (by rfl)) (so_cons (so_ty (c.free 55) (by decide +kernel)) so_nil))))) (so_tOr (so_tcmp (ov_ne rfl (u64 hr)) (so_callB (cv_len rfl) (c.free 49) (by decide +kernel) (so_cons (so_V (by rfl)) so_nil)) so_int) (so_or1 (so_tNot (so_tTr rfl (so_callF (ok_is_node c) hgd (hr.mono (by decide)) (c.glo 4) tk (so_cons (so_V (by rfl)) (so_cons (so_ix (ov_ix rfl (u1 hr)) (so_V (by rfl)) so_int) so_nil)))))))).pt)
    (ss_one (ss_ret so_bl))
    ss_nil)
    (ss_one (ss_ret (so_eOr (so_cmp ov_isN (so_ix (ov_ix rfl (u1 hr)) (so_V (by rfl)) so_int) so_non) (so_one (so_callF (ok_is_node c) hgd (hr.mono (by decide)) (c.glo 4) tk (so_cons (so_V (by rfl)) (so_cons (so_ix (ov_ix rfl (u1 hr)) (so_V (by rfl)) so_int) so_nil))))))))
theorem sc_is_state : FnScope ["thing", "web", "marks", "counts", "heres", "spot"] ["thing"] (defScope (top 24)) := ⟨rfl, rfl, rfl, by decide +kernel, rfl, by decide +kernel, by decide +kernel⟩
theorem ok_is_state (c : CS K mg) : Fok P w K mg base "is_state" 5 1 f_is_state := by
  obtain ⟨fd, F⟩ := c.def_ 8 (d := dd_is_state)
  refine fok F sc_is_state rfl rfl (F.bindsN fun _ _ _ _ _ _ us hl => match us, hl with | [_], _ => rfl) fun cdv A outer s H E hgd hr tk hp => ?_
  have hN := (sc_is_state).nd
  exact ss_cons (ss_if ((so_tOr (so_tNot (so_tTr rfl (so_callB (cv_isiX rfl (exs c)) (c.free 48) (by decide +kernel) (so_cons (so_V (by rfl)) (so_cons (so_ty (c.free 55) (by decide +kernel)) so_nil))))) (so_tOr (so_tcmp (ov_ne rfl (u64 hr)) (so_callB (cv_len rfl) (c.free 49) (by decide +kernel) (so_cons (so_V (by rfl)) so_nil)) so_int) (so_or1 (so_tNot (so_tTr rfl (so_callF (ok_is_web c) hgd (hr.mono (by decide)) (c.glo 3) tk (so_cons (so_ix (ov_ix rfl (u1 hr)) (so_V (by rfl)) so_int) so_nil))))))).pt)
    (ss_one (ss_ret so_bl))
    ss_nil)
    (ss_cons (ss_asg (so_V (by rfl)) (sg_tup rfl rfl (sg_cons (gV_calm 1) (sg_V hN) (sg_cons (gV_calm 2) (sg_V hN) (sg_cons (gV_calm 3) (sg_V hN) (sg_cons (gV_calm 4) (sg_V hN) sg_nil calm_nil) (calm_cons (gV_calm 4) calm_nil)) (calm_cons (gV_calm 3) (calm_cons (gV_calm 4) calm_nil))) (calm_cons (gV_calm 2) (calm_cons (gV_calm 3) (calm_cons (gV_calm 4) calm_nil))))))
    (ss_cons (ss_if ((so_tOr (so_tNot (so_tTr rfl (so_callB (cv_isiX rfl (exs c)) (c.free 48) (by decide +kernel) (so_cons (so_V (by rfl)) (so_cons (so_ty (c.free 55) (by decide +kernel)) so_nil))))) (so_or1 (so_tNot (so_tchain ov_le ov_le so_int (so_callB (cv_len rfl) (c.free 49) (by decide +kernel) (so_cons (so_V (by rfl)) so_nil)) (so_gint (c.int 59)))))).pt)
    (ss_one (ss_ret so_bl))
    ss_nil)
    (ss_cons (ss_if (so_tNot (so_tTr rfl (so_callB (cv_all rfl rfl) (c.free 44) (by decide +kernel) (so_cons (so_lc (own := [("spot", 5)]) rfl hN rfl (si_val rfl (so_V (by rfl))) (blkOk_by (by rfl)) tg_V (gV_calm 5) (fun _ _ _ _ _ => lg_V hN) (fun _ _ _ _ _ => so_tests0) (fun _ _ _ _ _ => (have tk := takes0; so_callF (ok_is_spot c) hgd (hr.mono (by decide)) (c.glo 7) tk (so_cons (so_V (by rfl)) (so_cons (so_V (by rfl)) so_nil))))) so_nil))))
    (ss_one (ss_ret so_bl))
    ss_nil)
    (ss_one (ss_ret (so_eAnd (so_callF (ok_are_marks c) hgd (hr.mono (by decide)) (c.glo 5) tk (so_cons (so_V (by rfl)) (so_cons (so_V (by rfl)) (so_cons (so_callB (cv_len rfl) (c.free 49) (by decide +kernel) (so_cons (so_V (by rfl)) so_nil)) so_nil)))) (so_one (so_callF (ok_are_counts c) hgd (hr.mono (by decide)) (c.glo 6) tk (so_cons (so_V (by rfl)) (so_cons (so_V (by rfl)) so_nil))))))))))
theorem sc_need_state : FnScope ["thing"] ["thing"] (defScope (top 25)) := ⟨rfl, rfl, rfl, by decide +kernel, rfl, by decide +kernel, by decide +kernel⟩
theorem ok_need_state (c : CS K mg) : Fok P w K mg base "need_state" 6 1 f_need_state := by
  obtain ⟨fd, F⟩ := c.def_ 9 (d := dd_need_state)
  refine fok F sc_need_state rfl rfl (F.bindsN fun _ _ _ _ _ _ us hl => match us, hl with | [_], _ => rfl) fun cdv A outer s H E hgd hr tk hp => ?_
  have hN := (sc_need_state).nd
  exact ss_one (ss_if (so_tNot (so_tTr rfl (so_callF (ok_is_state c) hgd (hr.mono (by decide)) (c.glo 8) tk (so_cons (so_V (by rfl)) so_nil))))
    (ss_one (ss_raiseF (ini_BadState c) rfl tk (hr.mono (by decide)) (c.glo 37) so_non))
    ss_nil)
theorem sc_need_walker : FnScope ["state", "thing"] ["state", "thing"] (defScope (top 26)) := ⟨rfl, rfl, rfl, by decide +kernel, rfl, by decide +kernel, by decide +kernel⟩
theorem ok_need_walker (c : CS K mg) : Fok P w K mg base "need_walker" 3 2 f_need_walker := by
  obtain ⟨fd, F⟩ := c.def_ 10 (d := dd_need_walker)
  refine fok F sc_need_walker rfl rfl (F.bindsN fun _ _ _ _ _ _ us hl => match us, hl with | [_, _], _ => rfl) fun cdv A outer s H E hgd hr tk hp => ?_
  have hN := (sc_need_walker).nd
  exact ss_one (ss_if (so_tNot (so_tTr rfl (so_callF (ok_is_among c) hgd (hr.mono (by decide)) (c.glo 1) tk (so_cons (so_V (by rfl)) (so_cons so_int (so_cons (so_callB (cv_len rfl) (c.free 49) (by decide +kernel) (so_cons (so_ix (ov_ix rfl (u1 hr)) (so_V (by rfl)) so_int) so_nil)) so_nil))))))
    (ss_one (ss_raise0 rfl tk (c.exq 60).1 (c.exq 60).2 (c.exr 60) (c.glo 41)))
    ss_nil)
theorem sc_has_stopped : FnScope ["spot"] ["spot"] (defScope (top 27)) := ⟨rfl, rfl, rfl, by decide +kernel, rfl, by decide +kernel, by decide +kernel⟩
theorem ok_has_stopped (c : CS K mg) : Fok P w K mg base "has_stopped" 1 1 f_has_stopped := by
  obtain ⟨fd, F⟩ := c.def_ 11 (d := dd_has_stopped)
  refine fok F sc_has_stopped rfl rfl (F.bindsN fun _ _ _ _ _ _ us hl => match us, hl with | [_], _ => rfl) fun cdv A outer s H E hgd hr tk hp => ?_
  have hN := (sc_has_stopped).nd
  exact ss_one (ss_ret (so_eNot (so_callB (cv_isiX rfl (exs c)) (c.free 48) (by decide +kernel) (so_cons (so_V (by rfl)) (so_cons (so_ty (c.free 55) (by decide +kernel)) so_nil)))))
theorem sc_is_fit : FnScope ["state", "walker", "node", "found", "ties", "marks", "counts", "heres"] ["state", "walker", "node", "found"] (defScope (top 29)) := ⟨rfl, rfl, rfl, by decide +kernel, rfl, by decide +kernel, by decide +kernel⟩
theorem ok_is_fit (c : CS K mg) : Fok P w K mg base "is_fit" 1 4 f_is_fit := by
  obtain ⟨fd, F⟩ := c.def_ 12 (d := dd_is_fit)
  refine fok F sc_is_fit rfl rfl (F.bindsN fun _ _ _ _ _ _ us hl => match us, hl with | [_, _, _, _], _ => rfl) fun cdv A outer s H E hgd hr tk hp => ?_
  have hN := (sc_is_fit).nd
  exact ss_cons (ss_asg (so_V (by rfl)) (sg_tup rfl rfl (sg_cons (gV_calm 4) (sg_V hN) (sg_cons (gV_calm 5) (sg_V hN) (sg_cons (gV_calm 6) (sg_V hN) (sg_cons (gV_calm 7) (sg_V hN) sg_nil calm_nil) (calm_cons (gV_calm 7) calm_nil)) (calm_cons (gV_calm 6) (calm_cons (gV_calm 7) calm_nil))) (calm_cons (gV_calm 5) (calm_cons (gV_calm 6) (calm_cons (gV_calm 7) calm_nil))))))
    (ss_cons (ss_if ((so_tOr (so_tcmp (ov_ne rfl (u64 hr)) (so_ix (ov_ix rfl (u1 hr)) (so_V (by rfl)) (so_V (by rfl))) (so_V (by rfl))) (so_or1 (so_tcmp (ov_in rfl (u65 hr)) (so_V (by rfl)) (so_V (by rfl))))).pt)
    (ss_one (ss_ret so_bl))
    ss_nil)
    (ss_one (ss_ret (so_eOr (so_cmp (ov_eq rfl (u64 hr)) (so_V (by rfl)) (so_lst so_nil)) (so_one (so_cmp ov_lt (so_ix (ov_ix rfl (u1 hr)) (so_V (by rfl)) (so_V (by rfl))) (so_callB (cv_len rfl) (c.free 49) (by decide +kernel) (so_cons (so_ix (ov_ix rfl (u1 hr)) (so_V (by rfl)) (so_V (by rfl))) so_nil))))))))
theorem sc_back_of : FnScope ["state", "walker", "ties", "marks", "counts", "heres", "here", "found", "node", "behind"] ["state", "walker"] (defScope (top 30)) := ⟨rfl, rfl, rfl, by decide +kernel, rfl, by decide +kernel, by decide +kernel⟩
theorem ok_back_of (c : CS K mg) : Fok P w K mg base "back_of" 3 2 f_back_of := by
  obtain ⟨fd, F⟩ := c.def_ 13 (d := dd_back_of)
  refine fok F sc_back_of rfl rfl (F.bindsN fun _ _ _ _ _ _ us hl => match us, hl with | [_, _], _ => rfl) fun cdv A outer s H E hgd hr tk hp => ?_
  have hN := (sc_back_of).nd
  exact ss_cons (ss_asg (so_V (by rfl)) (sg_tup rfl rfl (sg_cons (gV_calm 2) (sg_V hN) (sg_cons (gV_calm 3) (sg_V hN) (sg_cons (gV_calm 4) (sg_V hN) (sg_cons (gV_calm 5) (sg_V hN) sg_nil calm_nil) (calm_cons (gV_calm 5) calm_nil)) (calm_cons (gV_calm 4) (calm_cons (gV_calm 5) calm_nil))) (calm_cons (gV_calm 3) (calm_cons (gV_calm 4) (calm_cons (gV_calm 5) calm_nil))))))
    (ss_cons (ss_set hN (so_ix (ov_ix rfl (u1 hr)) (so_V (by rfl)) (so_bin ov_sub (so_V (by rfl)) so_int)))
    (ss_cons (ss_if (so_tTr rfl (so_callF (ok_has_stopped c) hgd (hr.mono (by decide)) (c.glo 11) tk (so_cons (so_V (by rfl)) so_nil)))
    (ss_cons (ss_if (so_tcmp (ov_ne rfl (u64 hr)) (so_ix (ov_ix rfl (u1 hr)) (so_V (by rfl)) (so_V (by rfl))) (so_V (by rfl)))
    (ss_one (ss_raiseF (ini_BadState c) rfl tk (hr.mono (by decide)) (c.glo 37) (so_V (by rfl))))
    ss_nil)
    (ss_one (ss_ret (so_lst so_nil))))
    ss_nil)
    (ss_cons (ss_set hN (so_lst so_nil))
    (ss_cons (ss_asg (so_V (by rfl)) (sg_tup rfl rfl (sg_cons (gV_calm 8) (sg_V hN) (sg_cons (gV_calm 9) (sg_V hN) sg_nil calm_nil) (calm_cons (gV_calm 9) calm_nil))))
    (ss_cons (ss_while hp (so_tcmp ov_notN (so_V (by rfl)) so_non)
    (ss_cons (ss_if (so_tNot (so_tTr rfl (so_callF (ok_is_fit c) hgd (hr.mono (by decide)) (c.glo 12) tk (so_cons (so_V (by rfl)) (so_cons (so_V (by rfl)) (so_cons (so_V (by rfl)) (so_cons (so_V (by rfl)) so_nil)))))))
    (ss_one (ss_raiseF (ini_BadState c) rfl tk (hr.mono (by decide)) (c.glo 37) (so_V (by rfl))))
    ss_nil)
    (ss_cons (ss_exp (so_bm rfl isLst_ty PySem.F.plainAttrs_list PySem.F.slot_list_append PySem.F.type_list_append mv_append (so_V (by rfl)) (so_cons (so_V (by rfl)) so_nil)))
    (ss_one (ss_set hN (so_if (so_tcmp (ov_eq rfl (u64 hr)) (so_callB (cv_len rfl) (c.free 49) (by decide +kernel) (so_cons (so_V (by rfl)) so_nil)) so_int) (so_V (by rfl)) (so_ix (ov_ix rfl (u1 hr)) (so_ix (ov_ix rfl (u1 hr)) (so_V (by rfl)) (so_V (by rfl))) (so_ix (ov_ix rfl (u1 hr)) (so_V (by rfl)) (so_V (by rfl))))))))))
    (ss_one (ss_ret (so_V (by rfl)))))))))
theorem sc_all_ways : FnScope ["state", "walker"] ["state"] (defScope (top 31)) := ⟨rfl, rfl, rfl, by decide +kernel, rfl, by decide +kernel, by decide +kernel⟩
theorem ok_all_ways (c : CS K mg) : Fok P w K mg base "all_ways" 4 1 f_all_ways := by
  obtain ⟨fd, F⟩ := c.def_ 14 (d := dd_all_ways)
  refine fok F sc_all_ways rfl rfl (F.bindsN fun _ _ _ _ _ _ us hl => match us, hl with | [_], _ => rfl) fun cdv A outer s H E hgd hr tk hp => ?_
  have hN := (sc_all_ways).nd
  exact ss_one (ss_ret (so_lc (own := [("walker", 1)]) rfl hN rfl (si_range2 (c.free 53) (so_cons so_int (so_cons (so_bin (ov_add rfl) (so_callB (cv_len rfl) (c.free 49) (by decide +kernel) (so_cons (so_ix (ov_ix rfl (u1 hr)) (so_V (by rfl)) so_int) so_nil)) so_int) so_nil))) (blkOk_by (by rfl)) tg_V (gV_calm 1) (fun _ _ _ _ _ => lg_V hN) (fun _ _ _ _ _ => so_tests0) (fun _ _ _ _ _ => (have tk := takes0; so_callTy (cv_tuple rfl) (c.free 55) (by decide +kernel) (so_cons (so_revL rfl (so_callF (ok_back_of c) hgd (hr.mono (by decide)) (c.glo 13) tk (so_cons (so_V (by rfl)) (so_cons (so_V (by rfl)) so_nil)))) so_nil)))))
theorem sc_web_by : FnScope ["state", "ways", "rows", "way", "node", "behind", "row"] ["state", "ways"] (defScope (top 32)) := ⟨rfl, rfl, rfl, by decide +kernel, rfl, by decide +kernel, by decide +kernel⟩
theorem ok_web_by (c : CS K mg) : Fok P w K mg base "web_by" 1 2 f_web_by := by
  obtain ⟨fd, F⟩ := c.def_ 15 (d := dd_web_by)
  refine fok F sc_web_by rfl rfl (F.bindsN fun _ _ _ _ _ _ us hl => match us, hl with | [_, _], _ => rfl) fun cdv A outer s H E hgd hr tk hp => ?_
  have hN := (sc_web_by).nd
  exact ss_cons (ss_setLc (own := [("row", 6)]) rfl hN rfl (si_val rfl (so_ix (ov_ix rfl (u1 hr)) (so_V (by rfl)) so_int)) (blkOk_by (by rfl)) tg_V (gV_calm 6) (fun _ _ _ _ _ => lg_V hN) (fun _ _ _ _ _ => so_tests0) (fun _ _ _ _ _ => so_callTy (cv_list rfl) (c.free 50) (by decide +kernel) (so_cons (so_V (by rfl)) so_nil)))
    (ss_cons (ss_for hp rfl (si_val rfl (so_V (by rfl))) (sg_V hN)
    (ss_one (ss_for hp rfl (si_zip rfl (c.free 56) (so_cons (so_V (by rfl)) (so_cons (so_sl rfl (so_V (by rfl)) (so_oS so_int) so_oN) so_nil))) (sg_tup rfl rfl (sg_cons (gV_calm 4) (sg_V hN) (sg_cons (gV_calm 5) (sg_V hN) sg_nil calm_nil) (calm_cons (gV_calm 5) calm_nil)))
    (ss_one (ss_asg (so_V (by rfl)) (sg_sub (so_ix (ov_ix rfl (u1 hr)) (so_V (by rfl)) (so_V (by rfl))) (so_ix (ov_ix rfl (u1 hr)) (so_ix (ov_ix rfl (u1 hr)) (so_V (by rfl)) so_int) (so_V (by rfl))) (st_all (u1 hr))))))))
    (ss_one (ss_ret (so_callTy (cv_tuple rfl) (c.free 55) (by decide +kernel) (so_cons (so_lc (own := [("row", 6)]) rfl hN rfl (si_val rfl (so_V (by rfl))) (blkOk_by (by rfl)) tg_V (gV_calm 6) (fun _ _ _ _ _ => lg_V hN) (fun _ _ _ _ _ => so_tests0) (fun _ _ _ _ _ => so_callTy (cv_tuple rfl) (c.free 55) (by decide +kernel) (so_cons (so_V (by rfl)) so_nil))) so_nil)))))
theorem sc_roots_by : FnScope ["state", "ways", "way", "here"] ["state", "ways"] (defScope (top 33)) := ⟨rfl, rfl, rfl, by decide +kernel, rfl, by decide +kernel, by decide +kernel⟩
theorem ok_roots_by (c : CS K mg) : Fok P w K mg base "roots_by" 1 2 f_roots_by := by
  obtain ⟨fd, F⟩ := c.def_ 16 (d := dd_roots_by)
  refine fok F sc_roots_by rfl rfl (F.bindsN fun _ _ _ _ _ _ us hl => match us, hl with | [_, _], _ => rfl) fun cdv A outer s H E hgd hr tk hp => ?_
  have hN := (sc_roots_by).nd
  exact ss_one (ss_ret (so_callTy (cv_tuple rfl) (c.free 55) (by decide +kernel) (so_cons (so_lc (own := [("way", 2), ("here", 3)]) rfl hN rfl (si_zip rfl (c.free 56) (so_cons (so_V (by rfl)) (so_cons (so_ix (ov_ix rfl (u1 hr)) (so_V (by rfl)) so_int) so_nil))) (blkOk_by (by rfl)) (tg_tup rfl (tg_cons (gV_calm 2) tg_V (tg_cons (gV_calm 3) tg_V tg_nil))) (gTup_calm (calm_cons (gV_calm 2) (calm_cons (gV_calm 3) calm_nil))) (fun _ _ _ _ _ => lg_tup rfl (lg_cons (lg_V hN) (lg_cons (lg_V hN) lg_nil))) (fun _ _ _ _ _ => so_tests0) (fun _ _ _ _ _ => so_if (so_tcmp (ov_eq rfl (u64 hr)) (so_V (by rfl)) (so_tup so_nil)) (so_V (by rfl)) (so_ix (ov_ix rfl (u1 hr)) (so_V (by rfl)) so_int))) so_nil)))
theorem sc_way_of : FnScope ["state", "walker"] ["state", "walker"] (defScope (top 34)) := ⟨rfl, rfl, rfl, by decide +kernel, rfl, by decide +kernel, by decide +kernel⟩
theorem ok_way_of (c : CS K mg) : Fok P w K mg base "way_of" 7 2 f_way_of := by
  obtain ⟨fd, F⟩ := c.def_ 17 (d := dd_way_of)
  refine fok F sc_way_of rfl rfl (F.bindsN fun _ _ _ _ _ _ us hl => match us, hl with | [_, _], _ => rfl) fun cdv A outer s H E hgd hr tk hp => ?_
  have hN := (sc_way_of).nd
  exact ss_cons (ss_exp (so_callF (ok_need_state c) hgd (hr.mono (by decide)) (c.glo 9) tk (so_cons (so_V (by rfl)) so_nil)))
    (ss_cons (ss_exp (so_callF (ok_need_walker c) hgd (hr.mono (by decide)) (c.glo 10) tk (so_cons (so_V (by rfl)) (so_cons (so_V (by rfl)) so_nil))))
    (ss_one (ss_ret (so_callTy (cv_tuple rfl) (c.free 55) (by decide +kernel) (so_cons (so_revL rfl (so_callF (ok_back_of c) hgd (hr.mono (by decide)) (c.glo 13) tk (so_cons (so_V (by rfl)) (so_cons (so_V (by rfl)) so_nil)))) so_nil)))))
theorem sc_turned_back : FnScope ["state"] ["state"] (defScope (top 35)) := ⟨rfl, rfl, rfl, by decide +kernel, rfl, by decide +kernel, by decide +kernel⟩
theorem ok_turned_back (c : CS K mg) : Fok P w K mg base "turned_back" 7 1 f_turned_back := by
  obtain ⟨fd, F⟩ := c.def_ 18 (d := dd_turned_back)
  refine fok F sc_turned_back rfl rfl (F.bindsN fun _ _ _ _ _ _ us hl => match us, hl with | [_], _ => rfl) fun cdv A outer s H E hgd hr tk hp => ?_
  have hN := (sc_turned_back).nd
  exact ss_cons (ss_exp (so_callF (ok_need_state c) hgd (hr.mono (by decide)) (c.glo 9) tk (so_cons (so_V (by rfl)) so_nil)))
    (ss_one (ss_ret (so_callF (ok_web_by c) hgd (hr.mono (by decide)) (c.glo 15) tk (so_cons (so_V (by rfl)) (so_cons (so_callF (ok_all_ways c) hgd (hr.mono (by decide)) (c.glo 14) tk (so_cons (so_V (by rfl)) so_nil)) so_nil)))))
theorem sc_roots_of : FnScope ["state"] ["state"] (defScope (top 36)) := ⟨rfl, rfl, rfl, by decide +kernel, rfl, by decide +kernel, by decide +kernel⟩
theorem ok_roots_of (c : CS K mg) : Fok P w K mg base "roots_of" 7 1 f_roots_of := by
  obtain ⟨fd, F⟩ := c.def_ 19 (d := dd_roots_of)
  refine fok F sc_roots_of rfl rfl (F.bindsN fun _ _ _ _ _ _ us hl => match us, hl with | [_], _ => rfl) fun cdv A outer s H E hgd hr tk hp => ?_
  have hN := (sc_roots_of).nd
  exact ss_cons (ss_exp (so_callF (ok_need_state c) hgd (hr.mono (by decide)) (c.glo 9) tk (so_cons (so_V (by rfl)) so_nil)))
    (ss_one (ss_ret (so_callF (ok_roots_by c) hgd (hr.mono (by decide)) (c.glo 16) tk (so_cons (so_V (by rfl)) (so_cons (so_callF (ok_all_ways c) hgd (hr.mono (by decide)) (c.glo 14) tk (so_cons (so_V (by rfl)) so_nil)) so_nil)))))
theorem sc__law_started : FnScope ["_law_script", "_law_cell"] ["_law_script"] (defScope (top 38)) := ⟨rfl, rfl, rfl, by decide +kernel, rfl, by decide +kernel, by decide +kernel⟩
theorem ok__law_started (c : CS K mg) : Fok P w K mg base "_law_started" 1 1 f__law_started := by
  obtain ⟨fd, F⟩ := c.def_ 20 (d := dd__law_started)
  refine fok F sc__law_started rfl rfl (F.bindsN fun _ _ _ _ _ _ us hl => match us, hl with | [_], _ => rfl) fun cdv A outer s H E hgd hr tk hp => ?_
  have hN := (sc__law_started).nd
  exact ss_one (ss_ret (so_disp (pd_str (so_V (by rfl)) (pd_str so_int (pd_str (so_lc (own := [("_law_cell", 1)]) rfl hN rfl (si_val rfl (so_V (by rfl))) (blkOk_by (by rfl)) tg_V (gV_calm 1) (fun _ _ _ _ _ => lg_V hN) (fun _ _ _ _ _ => so_tests0) (fun _ _ _ _ _ => so_bin (ov_mul rfl) (so_V (by rfl)) (so_callTy cv_int (c.free 47) (by decide +kernel) (so_cons (so_cmp ov_ge (so_V (by rfl)) (so_bin ov_pow so_int so_int)) so_nil)))) pd_nil)))))
theorem sc__law_draw : FnScope ["_law_m", "_law_many", "_law_k", "_law_cells", "_law_left", "_law_cell", "_law_number"] ["_law_m", "_law_many"] (defScope (top 39)) := ⟨rfl, rfl, rfl, by decide +kernel, rfl, by decide +kernel, by decide +kernel⟩
theorem ok__law_draw (c : CS K mg) : Fok P w K mg base "_law_draw" 1 2 f__law_draw := by
  obtain ⟨fd, F⟩ := c.def_ 21 (d := dd__law_draw)
  refine fok F sc__law_draw rfl rfl (F.bindsN fun _ _ _ _ _ _ us hl => match us, hl with | [_, _], _ => rfl) fun cdv A outer s H E hgd hr tk hp => ?_
  have hN := (sc__law_draw).nd
  exact ss_cons (ss_set hN (so_ix (ov_ix rfl (u1 hr)) (so_V (by rfl)) so_str))
    (ss_cons (ss_asg (so_bin (ov_add rfl) (so_V (by rfl)) so_int) (sg_sub (so_V (by rfl)) so_str (st_all (u1 hr))))
    (ss_cons (ss_set hN (so_ix (ov_ix rfl (u1 hr)) (so_V (by rfl)) so_str))
    (ss_cons (ss_set hN (so_if (so_tcmp (ov_ne rfl (u64 hr)) (so_ix (ov_ix rfl (u1 hr)) (so_V (by rfl)) so_str) (so_lst so_nil)) (so_ix (ov_ix rfl (u1 hr)) (so_ix (ov_ix rfl (u1 hr)) (so_V (by rfl)) so_str) (so_bin ov_mod (so_V (by rfl)) (so_callB (cv_len rfl) (c.free 49) (by decide +kernel) (so_cons (so_V (by rfl)) so_nil)))) so_int))
    (ss_cons (ss_if (so_tcmp ov_gt (so_V (by rfl)) so_int)
    (ss_cons (ss_asg (so_bin ov_fdiv (so_V (by rfl)) (so_V (by rfl))) (sg_sub (so_ix (ov_ix rfl (u1 hr)) (so_V (by rfl)) so_str) (so_bin ov_mod (so_V (by rfl)) (so_callB (cv_len rfl) (c.free 49) (by decide +kernel) (so_cons (so_V (by rfl)) so_nil))) (st_all (u1 hr))))
    (ss_one (ss_ret (so_bin ov_mod (so_V (by rfl)) (so_V (by rfl))))))
    ss_nil)
    (ss_cons (ss_set hN (so_if (so_tcmp (ov_ne rfl (u64 hr)) (so_V (by rfl)) (so_lst so_nil)) (so_ix (ov_ix rfl (u1 hr)) (so_V (by rfl)) (so_bin ov_mod (so_V (by rfl)) (so_callB (cv_len rfl) (c.free 49) (by decide +kernel) (so_cons (so_V (by rfl)) so_nil)))) so_int))
    (ss_cons (ss_set hN (so_bin ov_mod (so_bin (ov_add rfl) (so_bin (ov_add rfl) (so_bin (ov_mul rfl) (so_bin ov_mod (so_V (by rfl)) so_int) so_int) (so_bin (ov_mul rfl) (so_bin (ov_mul rfl) so_int (so_V (by rfl))) (so_V (by rfl)))) so_int) so_int))
    (ss_cons (ss_set hN (so_bin ov_mod (so_bin (ov_mul rfl) (so_V (by rfl)) (so_bin (ov_add rfl) so_int (so_bin (ov_mul rfl) so_int (so_V (by rfl))))) so_int))
    (ss_one (ss_ret (so_bin ov_mod (so_bin ov_fdiv (so_bin ov_mod (so_bin (ov_mul rfl) (so_V (by rfl)) (so_V (by rfl))) so_int) so_int) (so_V (by rfl))))))))))))
theorem sc__law_of : FnScope ["_law_m", "_law_some"] ["_law_m", "_law_some"] (defScope (top 40)) := ⟨rfl, rfl, rfl, by decide +kernel, rfl, by decide +kernel, by decide +kernel⟩
theorem ok__law_of (c : CS K mg) : Fok P w K mg base "_law_of" 2 2 f__law_of := by
  obtain ⟨fd, F⟩ := c.def_ 22 (d := dd__law_of)
  refine fok F sc__law_of rfl rfl (F.bindsN fun _ _ _ _ _ _ us hl => match us, hl with | [_, _], _ => rfl) fun cdv A outer s H E hgd hr tk hp => ?_
  have hN := (sc__law_of).nd
  exact ss_one (ss_ret (so_ix (ov_ix rfl (u1 hr)) (so_V (by rfl)) (so_callF (ok__law_draw c) hgd (hr.mono (by decide)) (c.glo 21) tk (so_cons (so_V (by rfl)) (so_cons (so_callB (cv_len rfl) (c.free 49) (by decide +kernel) (so_cons (so_V (by rfl)) so_nil)) so_nil)))))
theorem sc__law_web : FnScope ["_law_m", "_law_most", "_law_ties", "_law_many", "_law_rows", "_law_k", "_law_row", "_law_j", "_law_tie"] ["_law_m", "_law_most", "_law_ties"] (defScope (top 41)) := ⟨rfl, rfl, rfl, by decide +kernel, rfl, by decide +kernel, by decide +kernel⟩
theorem ok__law_web (c : CS K mg) : Fok P w K mg base "_law_web" 2 3 f__law_web := by
  obtain ⟨fd, F⟩ := c.def_ 23 (d := dd__law_web)
  refine fok F sc__law_web rfl rfl (F.bindsN fun _ _ _ _ _ _ us hl => match us, hl with | [_, _, _], _ => rfl) fun cdv A outer s H E hgd hr tk hp => ?_
  have hN := (sc__law_web).nd
  exact ss_cons (ss_set hN (so_bin (ov_add rfl) so_int (so_callF (ok__law_draw c) hgd (hr.mono (by decide)) (c.glo 21) tk (so_cons (so_V (by rfl)) (so_cons (so_V (by rfl)) so_nil)))))
    (ss_cons (ss_set hN (so_lst so_nil))
    (ss_cons (ss_for hp rfl (si_range1 (c.free 53) (so_cons (so_V (by rfl)) so_nil)) (sg_V hN)
    (ss_cons (ss_set hN (so_lst so_nil))
    (ss_cons (ss_for hp rfl (si_range1 (c.free 53) (so_cons (so_callF (ok__law_draw c) hgd (hr.mono (by decide)) (c.glo 21) tk (so_cons (so_V (by rfl)) (so_cons (so_V (by rfl)) so_nil))) so_nil)) (sg_V hN)
    (ss_cons (ss_set hN (so_callF (ok__law_draw c) hgd (hr.mono (by decide)) (c.glo 21) tk (so_cons (so_V (by rfl)) (so_cons (so_bin (ov_add rfl) (so_V (by rfl)) so_int) so_nil))))
    (ss_one (ss_exp (so_bm rfl isLst_ty PySem.F.plainAttrs_list PySem.F.slot_list_append PySem.F.type_list_append mv_append (so_V (by rfl)) (so_cons (so_if (so_tcmp ov_lt (so_V (by rfl)) (so_V (by rfl))) (so_V (by rfl)) so_non) so_nil))))))
    (ss_one (ss_exp (so_bm rfl isLst_ty PySem.F.plainAttrs_list PySem.F.slot_list_append PySem.F.type_list_append mv_append (so_V (by rfl)) (so_cons (so_callTy (cv_tuple rfl) (c.free 55) (by decide +kernel) (so_cons (so_V (by rfl)) so_nil)) so_nil)))))))
    (ss_one (ss_ret (so_callTy (cv_tuple rfl) (c.free 55) (by decide +kernel) (so_cons (so_V (by rfl)) so_nil))))))
theorem sc__law_roots : FnScope ["_law_m", "_law_web_here", "_law_most", "_law_left", "_law_k"] ["_law_m", "_law_web_here", "_law_most"] (defScope (top 42)) := ⟨rfl, rfl, rfl, by decide +kernel, rfl, by decide +kernel, by decide +kernel⟩
theorem ok__law_roots (c : CS K mg) : Fok P w K mg base "_law_roots" 2 3 f__law_roots := by
  obtain ⟨fd, F⟩ := c.def_ 24 (d := dd__law_roots)
  refine fok F sc__law_roots rfl rfl (F.bindsN fun _ _ _ _ _ _ us hl => match us, hl with | [_, _, _], _ => rfl) fun cdv A outer s H E hgd hr tk hp => ?_
  have hN := (sc__law_roots).nd
  exact ss_cons (ss_set hN (so_listRg rfl (c.free 50) (c.free 53) (so_callB (cv_len rfl) (c.free 49) (by decide +kernel) (so_cons (so_V (by rfl)) so_nil))))
    (ss_one (ss_ret (so_callTy (cv_tupleP rfl) (c.free 55) (by decide +kernel) (so_cons (so_lc (own := [("_law_k", 4)]) rfl hN rfl (si_range1 (c.free 53) (so_cons (so_bin (ov_add rfl) so_int (so_callF (ok__law_draw c) hgd (hr.mono (by decide)) (c.glo 21) tk (so_cons (so_V (by rfl)) (so_cons (so_callB (cv_min rfl rfl) (c.free 52) (by decide +kernel) (so_cons (so_V (by rfl)) (so_cons (so_callB (cv_len rfl) (c.free 49) (by decide +kernel) (so_cons (so_V (by rfl)) so_nil)) so_nil))) so_nil)))) so_nil)) (blkOk_by (by rfl)) tg_V (gV_calm 4) (fun _ _ _ _ _ => lg_V hN) (fun _ _ _ _ _ => so_tests0) (fun _ _ _ _ _ => (have tk := takes0; so_bm rfl isLst_ty PySem.F.plainAttrs_list PySem.F.slot_list_pop PySem.F.type_list_pop mv_pop (so_V (by rfl)) (so_cons (so_callF (ok__law_draw c) hgd (hr.mono (by decide)) (c.glo 21) tk (so_cons (so_V (by rfl)) (so_cons (so_callB (cv_len rfl) (c.free 49) (by decide +kernel) (so_cons (so_V (by rfl)) so_nil)) so_nil))) so_nil)))) so_nil))))
theorem sc__law_begun : FnScope ["_law_web_here", "_law_roots_here", "_law_marks", "_law_node", "_law_root"] ["_law_web_here", "_law_roots_here"] (defScope (top 43)) := ⟨rfl, rfl, rfl, by decide +kernel, rfl, by decide +kernel, by decide +kernel⟩
theorem ok__law_begun (c : CS K mg) : Fok P w K mg base "_law_begun" 1 2 f__law_begun := by
  obtain ⟨fd, F⟩ := c.def_ 25 (d := dd__law_begun)
  refine fok F sc__law_begun rfl rfl (F.bindsN fun _ _ _ _ _ _ us hl => match us, hl with | [_, _], _ => rfl) fun cdv A outer s H E hgd hr tk hp => ?_
  have hN := (sc__law_begun).nd
  exact ss_cons (ss_set hN (so_callTy (cv_tuple rfl) (c.free 55) (by decide +kernel) (so_cons (so_lc (own := [("_law_node", 3)]) rfl hN rfl (si_range1 (c.free 53) (so_cons (so_callB (cv_len rfl) (c.free 49) (by decide +kernel) (so_cons (so_V (by rfl)) so_nil)) so_nil)) (blkOk_by (by rfl)) tg_V (gV_calm 3) (fun _ _ _ _ _ => lg_V hN) (fun _ _ _ _ _ => so_tests0) (fun _ _ _ _ _ => so_if (so_tcmp (ov_in rfl (u65 hr)) (so_V (by rfl)) (so_W (so_V (by rfl)))) (so_bin (ov_add rfl) (so_pindex (so_V (by rfl)) (so_cons (so_V (by rfl)) so_nil)) so_int) so_int)) so_nil)))
    (ss_one (ss_ret (so_tup (so_cons (so_V (by rfl)) (so_cons (so_callTy (cv_tuple rfl) (c.free 55) (by decide +kernel) (so_cons (so_lc (own := [("_law_root", 4)]) rfl hN rfl (si_val rfl (so_W (so_V (by rfl)))) (blkOk_by (by rfl)) tg_V (gV_calm 4) (fun _ _ _ _ _ => lg_V hN) (fun _ _ _ _ _ => so_tests0) (fun _ _ _ _ _ => so_tup (so_cons (so_tup (so_cons (so_V (by rfl)) (so_cons so_int so_nil))) so_nil))) so_nil)) so_nil)))))
theorem sc__law_next : FnScope ["_law_web_here", "_law_kept", "_law_walker", "_law_marks", "_law_stands", "_law_stand", "_law_node", "_law_count", "_law_ahead", "_law_deed", "_law_tie"] ["_law_web_here", "_law_kept", "_law_walker"] (defScope (top 44)) := ⟨rfl, rfl, rfl, by decide +kernel, rfl, by decide +kernel, by decide +kernel⟩
theorem ok__law_next (c : CS K mg) : Fok P w K mg base "_law_next" 1 3 f__law_next := by
  obtain ⟨fd, F⟩ := c.def_ 26 (d := dd__law_next)
  refine fok F sc__law_next rfl rfl (F.bindsN fun _ _ _ _ _ _ us hl => match us, hl with | [_, _, _], _ => rfl) fun cdv A outer s H E hgd hr tk hp => ?_
  have hN := (sc__law_next).nd
  exact ss_cons (ss_asg (so_V (by rfl)) (sg_tup rfl rfl (sg_cons (gV_calm 3) (sg_V hN) (sg_cons (gV_calm 4) (sg_V hN) sg_nil calm_nil) (calm_cons (gV_calm 4) calm_nil))))
    (ss_cons (ss_set hN (so_ix (ov_ix rfl (u1 hr)) (so_V (by rfl)) (so_bin ov_sub (so_V (by rfl)) so_int)))
    (ss_cons (ss_if (so_tcmp (ov_eq rfl (u64 hr)) (so_V (by rfl)) (so_tup so_nil))
    (ss_one (ss_ret so_non))
    ss_nil)
    (ss_cons (ss_asg (so_ix (ov_ix rfl (u1 hr)) (so_V (by rfl)) (so_un ov_neg so_int)) (sg_tup rfl rfl (sg_cons (gV_calm 6) (sg_V hN) (sg_cons (gV_calm 7) (sg_V hN) sg_nil calm_nil) (calm_cons (gV_calm 7) calm_nil))))
    (ss_cons (ss_set hN (so_sl rfl (so_V (by rfl)) so_oN (so_oS (so_un ov_neg so_int))))
    (ss_cons (ss_if (so_tcmp (ov_eq rfl (u64 hr)) (so_V (by rfl)) (so_callB (cv_len rfl) (c.free 49) (by decide +kernel) (so_cons (so_ix (ov_ix rfl (u1 hr)) (so_V (by rfl)) (so_V (by rfl))) so_nil)))
    (ss_cons (ss_set hN (so_if (so_tcmp (ov_eq rfl (u64 hr)) (so_V (by rfl)) (so_tup so_nil)) (so_tup (so_cons so_str (so_cons (so_V (by rfl)) so_nil))) (so_tup (so_cons so_str (so_cons (so_V (by rfl)) so_nil)))))
    (ss_one (ss_if (so_tcmp (ov_ne rfl (u64 hr)) (so_V (by rfl)) (so_tup so_nil))
    (ss_one (ss_set hN (so_bin (ov_add rfl) (so_sl rfl (so_V (by rfl)) so_oN (so_oS (so_un ov_neg so_int))) (so_tup (so_cons (so_tup (so_cons (so_ix (ov_ix rfl (u1 hr)) (so_ix (ov_ix rfl (u1 hr)) (so_V (by rfl)) (so_un ov_neg so_int)) so_int) (so_cons (so_bin (ov_add rfl) (so_ix (ov_ix rfl (u1 hr)) (so_ix (ov_ix rfl (u1 hr)) (so_V (by rfl)) (so_un ov_neg so_int)) so_int) so_int) so_nil))) so_nil)))))
    ss_nil)))
    (ss_one (ss_if ((so_tOr (so_tcmp ov_isN (so_ix (ov_ix rfl (u1 hr)) (so_ix (ov_ix rfl (u1 hr)) (so_V (by rfl)) (so_V (by rfl))) (so_V (by rfl))) so_non) (so_or1 (so_tcmp ov_gt (so_ix (ov_ix rfl (u1 hr)) (so_V (by rfl)) (so_ix (ov_ix rfl (u1 hr)) (so_ix (ov_ix rfl (u1 hr)) (so_V (by rfl)) (so_V (by rfl))) (so_V (by rfl)))) so_int))).pt)
    (ss_cons (ss_set hN (so_tup (so_cons so_str (so_cons (so_V (by rfl)) (so_cons (so_V (by rfl)) so_nil)))))
    (ss_one (ss_set hN (so_bin (ov_add rfl) (so_V (by rfl)) (so_tup (so_cons (so_tup (so_cons (so_V (by rfl)) (so_cons (so_bin (ov_add rfl) (so_V (by rfl)) so_int) so_nil))) so_nil))))))
    (ss_cons (ss_set hN (so_tup (so_cons so_str (so_cons (so_V (by rfl)) (so_cons (so_V (by rfl)) so_nil)))))
    (ss_cons (ss_set hN (so_ix (ov_ix rfl (u1 hr)) (so_ix (ov_ix rfl (u1 hr)) (so_V (by rfl)) (so_V (by rfl))) (so_V (by rfl))))
    (ss_cons (ss_set hN (so_bin (ov_add rfl) (so_bin (ov_add rfl) (so_sl rfl (so_V (by rfl)) so_oN (so_oS (so_V (by rfl)))) (so_tup (so_cons (so_V (by rfl)) so_nil))) (so_sl rfl (so_V (by rfl)) (so_oS (so_bin (ov_add rfl) (so_V (by rfl)) so_int)) so_oN)))
    (ss_one (ss_set hN (so_bin (ov_add rfl) (so_V (by rfl)) (so_tup (so_cons (so_tup (so_cons (so_V (by rfl)) (so_cons so_int so_nil))) so_nil)))))))))))
    (ss_one (ss_ret (so_tup (so_cons (so_V (by rfl)) (so_cons (so_tup (so_cons (so_V (by rfl)) (so_cons (so_bin (ov_add rfl) (so_bin (ov_add rfl) (so_sl rfl (so_V (by rfl)) so_oN (so_oS (so_bin ov_sub (so_V (by rfl)) so_int))) (so_tup (so_cons (so_V (by rfl)) so_nil))) (so_sl rfl (so_V (by rfl)) (so_oS (so_V (by rfl))) so_oN)) so_nil))) so_nil))))))))))
theorem sc__law_state : FnScope ["_law_web_here", "_law_roots_here", "_law_kept", "_law_marks", "_law_stands", "_law_ties", "_law_counts", "_law_heres", "_law_root", "_law_stand", "_law_behind", "_law_at", "_law_node", "_law_count", "_law_row"] ["_law_web_here", "_law_roots_here", "_law_kept"] (defScope (top 45)) := ⟨rfl, rfl, rfl, by decide +kernel, rfl, by decide +kernel, by decide +kernel⟩
theorem ok__law_state (c : CS K mg) : Fok P w K mg base "_law_state" 1 3 f__law_state := by
  obtain ⟨fd, F⟩ := c.def_ 27 (d := dd__law_state)
  refine fok F sc__law_state rfl rfl (F.bindsN fun _ _ _ _ _ _ us hl => match us, hl with | [_, _, _], _ => rfl) fun cdv A outer s H E hgd hr tk hp => ?_
  have hN := (sc__law_state).nd
  exact ss_cons (ss_asg (so_V (by rfl)) (sg_tup rfl rfl (sg_cons (gV_calm 3) (sg_V hN) (sg_cons (gV_calm 4) (sg_V hN) sg_nil calm_nil) (calm_cons (gV_calm 4) calm_nil))))
    (ss_cons (ss_setLc (own := [("_law_row", 14)]) rfl hN rfl (si_val rfl (so_V (by rfl))) (blkOk_by (by rfl)) tg_V (gV_calm 14) (fun _ _ _ _ _ => lg_V hN) (fun _ _ _ _ _ => so_tests0) (fun _ _ _ _ _ => so_callTy (cv_list rfl) (c.free 50) (by decide +kernel) (so_cons (so_V (by rfl)) so_nil)))
    (ss_cons (ss_set hN (so_bin (ov_mul rfl) (so_lst (so_cons so_int so_nil)) (so_callB (cv_len rfl) (c.free 49) (by decide +kernel) (so_cons (so_V (by rfl)) so_nil))))
    (ss_cons (ss_set hN (so_lst so_nil))
    (ss_cons (ss_for hp rfl (si_zip rfl (c.free 56) (so_cons (so_W (so_V (by rfl))) (so_cons (so_V (by rfl)) so_nil))) (sg_tup rfl rfl (sg_cons (gV_calm 8) (sg_V hN) (sg_cons (gV_calm 9) (sg_V hN) sg_nil calm_nil) (calm_cons (gV_calm 9) calm_nil)))
    (ss_cons (ss_set hN so_non)
    (ss_cons (ss_for hp rfl (si_enum rfl (c.free 46) (so_cons (so_V (by rfl)) so_nil)) (sg_tup rfl rfl (sg_cons (gV_calm 11) (sg_V hN) (sg_cons (gTup_calm (calm_cons (gV_calm 12) (calm_cons (gV_calm 13) calm_nil))) (sg_tup rfl rfl (sg_cons (gV_calm 12) (sg_V hN) (sg_cons (gV_calm 13) (sg_V hN) sg_nil calm_nil) (calm_cons (gV_calm 13) calm_nil))) sg_nil calm_nil) (calm_cons (gTup_calm (calm_cons (gV_calm 12) (calm_cons (gV_calm 13) calm_nil))) calm_nil)))
    (ss_cons (ss_asg (so_V (by rfl)) (sg_sub (so_V (by rfl)) (so_V (by rfl)) (st_all (u1 hr))))
    (ss_one (ss_if (so_tcmp ov_lt (so_bin (ov_add rfl) (so_V (by rfl)) so_int) (so_callB (cv_len rfl) (c.free 49) (by decide +kernel) (so_cons (so_V (by rfl)) so_nil)))
    (ss_cons (ss_asg (so_V (by rfl)) (sg_sub (so_ix (ov_ix rfl (u1 hr)) (so_V (by rfl)) (so_V (by rfl))) (so_V (by rfl)) (st_all (u1 hr))))
    (ss_one (ss_set hN (so_V (by rfl)))))
    ss_nil))))
    (ss_one (ss_exp (so_bm rfl isLst_ty PySem.F.plainAttrs_list PySem.F.slot_list_append PySem.F.type_list_append mv_append (so_V (by rfl)) (so_cons (so_if (so_tcmp (ov_ne rfl (u64 hr)) (so_V (by rfl)) (so_tup so_nil)) (so_tup (so_cons (so_ix (ov_ix rfl (u1 hr)) (so_ix (ov_ix rfl (u1 hr)) (so_V (by rfl)) (so_un ov_neg so_int)) so_int) (so_cons (so_V (by rfl)) so_nil))) (so_V (by rfl))) so_nil)))))))
    (ss_one (ss_ret (so_tup (so_cons (so_callTy (cv_tuple rfl) (c.free 55) (by decide +kernel) (so_cons (so_lc (own := [("_law_row", 14)]) rfl hN rfl (si_val rfl (so_V (by rfl))) (blkOk_by (by rfl)) tg_V (gV_calm 14) (fun _ _ _ _ _ => lg_V hN) (fun _ _ _ _ _ => so_tests0) (fun _ _ _ _ _ => so_callTy (cv_tuple rfl) (c.free 55) (by decide +kernel) (so_cons (so_V (by rfl)) so_nil))) so_nil)) (so_cons (so_V (by rfl)) (so_cons (so_callTy (cv_tuple rfl) (c.free 55) (by decide +kernel) (so_cons (so_V (by rfl)) so_nil)) (so_cons (so_callTy (cv_tuple rfl) (c.free 55) (by decide +kernel) (so_cons (so_V (by rfl)) so_nil)) so_nil)))))))))))
theorem sc__law_turn : FnScope ["_law_m", "_law_kept", "_law_walker"] ["_law_m", "_law_kept"] (defScope (top 46)) := ⟨rfl, rfl, rfl, by decide +kernel, rfl, by decide +kernel, by decide +kernel⟩
theorem ok__law_turn (c : CS K mg) : Fok P w K mg base "_law_turn" 3 2 f__law_turn := by
  obtain ⟨fd, F⟩ := c.def_ 28 (d := dd__law_turn)
  refine fok F sc__law_turn rfl rfl (F.bindsN fun _ _ _ _ _ _ us hl => match us, hl with | [_, _], _ => rfl) fun cdv A outer s H E hgd hr tk hp => ?_
  have hN := (sc__law_turn).nd
  exact ss_cons (ss_if ((so_tOr (so_tcmp (ov_eq rfl (u64 hr)) (so_ix (ov_ix rfl (u1 hr)) (so_V (by rfl)) so_str) so_int) (so_or1 (so_tcmp (ov_eq rfl (u64 hr)) (so_ix (ov_ix rfl (u1 hr)) (so_ix (ov_ix rfl (u1 hr)) (so_V (by rfl)) so_int) (so_bin ov_sub (so_ix (ov_ix rfl (u1 hr)) (so_V (by rfl)) so_str) so_int)) (so_tup so_nil)))).pt)
    (ss_cons (ss_asg (so_bin (ov_add rfl) so_int (so_callF (ok__law_draw c) hgd (hr.mono (by decide)) (c.glo 21) tk (so_cons (so_V (by rfl)) (so_cons (so_ix (ov_ix rfl (u1 hr)) (so_lst (so_cons so_int (so_cons so_int (so_cons so_int so_nil)))) (so_callF (ok__law_draw c) hgd (hr.mono (by decide)) (c.glo 21) tk (so_cons (so_V (by rfl)) (so_cons so_int so_nil)))) so_nil)))) (sg_sub (so_V (by rfl)) so_str (st_all (u1 hr))))
    (ss_one (ss_asg (so_callF (ok__law_of c) hgd (hr.mono (by decide)) (c.glo 22) tk (so_cons (so_V (by rfl)) (so_cons (so_lc (own := [("_law_walker", 2)]) rfl hN rfl (si_range2 (c.free 53) (so_cons so_int (so_cons (so_bin (ov_add rfl) (so_callB (cv_len rfl) (c.free 49) (by decide +kernel) (so_cons (so_ix (ov_ix rfl (u1 hr)) (so_V (by rfl)) so_int) so_nil)) so_int) so_nil))) (blkOk_by (by rfl)) tg_V (gV_calm 2) (fun _ _ _ _ _ => lg_V hN) (fun _ _ _ _ _ => so_tests1 (so_tcmp (ov_ne rfl (u64 hr)) (so_ix (ov_ix rfl (u1 hr)) (so_ix (ov_ix rfl (u1 hr)) (so_V (by rfl)) so_int) (so_bin ov_sub (so_V (by rfl)) so_int)) (so_tup so_nil))) (fun _ _ _ _ _ => so_V (by rfl))) so_nil))) (sg_sub (so_V (by rfl)) so_str (st_all (u1 hr))))))
    ss_nil)
    (ss_cons (ss_asg (so_bin ov_sub (so_ix (ov_ix rfl (u1 hr)) (so_V (by rfl)) so_str) so_int) (sg_sub (so_V (by rfl)) so_str (st_all (u1 hr))))
    (ss_one (ss_ret (so_ix (ov_ix rfl (u1 hr)) (so_V (by rfl)) so_str))))
theorem sc__law_word : FnScope ["_law_caught", "_law_others"] ["_law_caught"] (defScope (top 47)) := ⟨rfl, rfl, rfl, by decide +kernel, rfl, by decide +kernel, by decide +kernel⟩
theorem ok__law_word (c : CS K mg) : Fok P w K mg base "_law_word" 1 1 f__law_word := by
  obtain ⟨fd, F⟩ := c.def_ 29 (d := dd__law_word)
  refine fok F sc__law_word rfl rfl (F.bindsN fun _ _ _ _ _ _ us hl => match us, hl with | [_], _ => rfl) fun cdv A outer s H E hgd hr tk hp => ?_
  have hN := (sc__law_word).nd
  exact ss_cons (ss_if (so_tcmp ov_isN (so_V (by rfl)) so_non)
    (ss_one (ss_ret (so_tup (so_cons so_str so_nil))))
    ss_nil)
    (ss_cons (ss_set hN (so_callB (cv_isiX rfl (exs c)) (c.free 48) (by decide +kernel) (so_cons (so_V (by rfl)) (so_cons (so_tup (so_cons (so_gl (c.glo 38)) (so_cons (so_gl (c.glo 40)) (so_cons (so_gl (c.glo 35)) (so_cons (so_gl (c.glo 39)) (so_cons (so_gl (c.glo 36)) (so_cons (so_gl (c.glo 42)) so_nil))))))) so_nil))))
    (ss_cons (ss_if ((so_tOr (so_tTr rfl (so_V (by rfl))) (so_or1 (so_tNot (so_tTr rfl (so_callB (cv_isiX rfl (exs c)) (c.free 48) (by decide +kernel) (so_cons (so_V (by rfl)) (so_cons (so_ty (c.free 43) (by decide +kernel)) so_nil))))))).pt)
    (ss_one (ss_ret (so_tup (so_cons so_str so_nil))))
    ss_nil)
    (ss_cons (ss_if (so_tTr rfl (so_callB (cv_isiX rfl (exs c)) (c.free 48) (by decide +kernel) (so_cons (so_V (by rfl)) (so_cons (so_gl (c.glo 37)) so_nil))))
    (ss_one (ss_ret (so_if (so_tTr rfl (so_callB (cv_isiX rfl (exs c)) (c.free 48) (by decide +kernel) (so_cons (so_V (by rfl)) (so_cons (so_gl (c.glo 41)) so_nil)))) (so_tup (so_cons so_str so_nil)) (so_tup (so_cons so_str (so_cons (so_fldX rfl (exs c) (so_V (by rfl))) so_nil))))))
    ss_nil)
    (ss_one (ss_ret (so_if (so_tTr rfl (so_callB (cv_isiX rfl (exs c)) (c.free 48) (by decide +kernel) (so_cons (so_V (by rfl)) (so_cons (so_gl (c.glo 41)) so_nil)))) (so_tup (so_cons so_str so_nil)) (so_tup (so_cons so_str so_nil))))))))
theorem sc__law_refused : FnScope ["_law_deed", "_law_thing", "_law_caught", "e"] ["_law_deed", "_law_thing"] (defScope (top 48)) := ⟨rfl, rfl, rfl, by decide +kernel, rfl, by decide +kernel, by decide +kernel⟩
theorem ok__law_refused (c : CS K mg) : Fok P w K mg base "_law_refused" 8 2 f__law_refused := by
  obtain ⟨fd, F⟩ := c.def_ 30 (d := dd__law_refused)
  refine fok F sc__law_refused rfl rfl (F.bindsN fun _ _ _ _ _ _ us hl => match us, hl with | [_, _], _ => rfl) fun cdv A outer s H E hgd hr tk hp => ?_
  have hN := (sc__law_refused).nd
  exact ss_cons (ss_set hN so_non)
    (ss_cons (ss_tryAs rfl rfl rfl hN (exs c) rfl (by decide) (c.glo 34) tk (fun W pn xe tk => ss_one (ss_exp (so_callL (held_cons (ok_turned_back c) (hr.mono (by decide)) (held_cons (ok_roots_of c) (hr.mono (by decide)) held_nil)) hgd tk (so_cons (so_V (by rfl)) so_nil)))))
    (ss_one (ss_ret (so_callF (ok__law_word c) hgd (hr.mono (by decide)) (c.glo 29) tk (so_cons (so_V (by rfl)) so_nil)))))
theorem sc__law_way_refused : FnScope ["_law_state_here", "_law_walker", "_law_caught", "e"] ["_law_state_here", "_law_walker"] (defScope (top 49)) := ⟨rfl, rfl, rfl, by decide +kernel, rfl, by decide +kernel, by decide +kernel⟩
theorem ok__law_way_refused (c : CS K mg) : Fok P w K mg base "_law_way_refused" 8 2 f__law_way_refused := by
  obtain ⟨fd, F⟩ := c.def_ 31 (d := dd__law_way_refused)
  refine fok F sc__law_way_refused rfl rfl (F.bindsN fun _ _ _ _ _ _ us hl => match us, hl with | [_, _], _ => rfl) fun cdv A outer s H E hgd hr tk hp => ?_
  have hN := (sc__law_way_refused).nd
  exact ss_cons (ss_set hN so_non)
    (ss_cons (ss_tryAs rfl rfl rfl hN (exs c) rfl (by decide) (c.glo 34) tk (fun W pn xe tk => ss_one (ss_exp (so_callF (ok_way_of c) hgd (hr.mono (by decide)) (c.glo 17) tk (so_cons (so_V (by rfl)) (so_cons (so_V (by rfl)) so_nil))))))
    (ss_one (ss_ret (so_callF (ok__law_word c) hgd (hr.mono (by decide)) (c.glo 29) tk (so_cons (so_V (by rfl)) so_nil)))))
theorem sc__law_state_right : FnScope ["_law_m", "_law_web_here", "_law_roots_here", "_law_kept", "_law_state_here", "_law_handed", "_law_again", "_law_walker", "_law_stand", "_law_odd", "_law_none", "_law_found", "_law_node", "_law_count"] ["_law_m", "_law_web_here", "_law_roots_here", "_law_kept"] (defScope (top 50)) := ⟨rfl, rfl, rfl, by decide +kernel, rfl, by decide +kernel, by decide +kernel⟩
theorem ok__law_state_right (c : CS K mg) : Fok P w K mg base "_law_state_right" 9 4 f__law_state_right := by
  obtain ⟨fd, F⟩ := c.def_ 32 (d := dd__law_state_right)
  refine fok F sc__law_state_right rfl rfl (F.bindsN fun _ _ _ _ _ _ us hl => match us, hl with | [_, _, _, _], _ => rfl) fun cdv A outer s H E hgd hr tk hp => ?_
  have hN := (sc__law_state_right).nd
  exact ss_cons (ss_set hN (so_callF (ok__law_state c) hgd (hr.mono (by decide)) (c.glo 27) tk (so_cons (so_V (by rfl)) (so_cons (so_W (so_V (by rfl))) (so_cons (so_V (by rfl)) so_nil)))))
    (ss_cons (ss_set hN (so_callB (cv_repr rfl hgd (u64 hr)) (c.free 54) (by decide +kernel) (so_cons (so_V (by rfl)) so_nil)))
    (ss_cons (ss_for hp rfl (si_range1 (c.free 53) (so_cons so_int so_nil)) (sg_V hN)
    (ss_cons (ss_for hp rfl (si_enum rfl (c.free 46) (so_cons (so_ix (ov_ix rfl (u1 hr)) (so_V (by rfl)) so_int) so_nil)) (sg_tup rfl rfl (sg_cons (gV_calm 7) (sg_V hN) (sg_cons (gV_calm 8) (sg_V hN) sg_nil calm_nil) (calm_cons (gV_calm 8) calm_nil)))
    (ss_one (ss_if (so_tcmp (ov_ne rfl (u64 hr)) (so_callB (cv_repr rfl hgd (u64 hr)) (c.free 54) (by decide +kernel) (so_cons (so_callF (ok_way_of c) hgd (hr.mono (by decide)) (c.glo 17) tk (so_cons (so_V (by rfl)) (so_cons (so_bin (ov_add rfl) (so_V (by rfl)) so_int) so_nil))) so_nil)) (so_callB (cv_repr rfl hgd (u64 hr)) (c.free 54) (by decide +kernel) (so_cons (so_callTy (cv_tuple rfl) (c.free 55) (by decide +kernel) (so_cons (so_lc (own := [("_law_node", 12), ("_law_count", 13)]) rfl hN rfl (si_val rfl (so_V (by rfl))) (blkOk_by (by rfl)) (tg_tup rfl (tg_cons (gV_calm 12) tg_V (tg_cons (gV_calm 13) tg_V tg_nil))) (gTup_calm (calm_cons (gV_calm 12) (calm_cons (gV_calm 13) calm_nil))) (fun _ _ _ _ _ => lg_tup rfl (lg_cons (lg_V hN) (lg_cons (lg_V hN) lg_nil))) (fun _ _ _ _ _ => so_tests0) (fun _ _ _ _ _ => so_V (by rfl))) so_nil)) so_nil)))
    (ss_one (ss_ret so_bl))
    ss_nil)))
    (ss_one (ss_if ((so_tOr (so_tcmp (ov_ne rfl (u64 hr)) (so_callB (cv_repr rfl hgd (u64 hr)) (c.free 54) (by decide +kernel) (so_cons (so_callF (ok_turned_back c) hgd (hr.mono (by decide)) (c.glo 18) tk (so_cons (so_V (by rfl)) so_nil)) so_nil)) (so_callB (cv_repr rfl hgd (u64 hr)) (c.free 54) (by decide +kernel) (so_cons (so_V (by rfl)) so_nil))) (so_or1 (so_tcmp (ov_ne rfl (u64 hr)) (so_callB (cv_repr rfl hgd (u64 hr)) (c.free 54) (by decide +kernel) (so_cons (so_callF (ok_roots_of c) hgd (hr.mono (by decide)) (c.glo 19) tk (so_cons (so_V (by rfl)) so_nil)) so_nil)) (so_callB (cv_repr rfl hgd (u64 hr)) (c.free 54) (by decide +kernel) (so_cons (so_W (so_V (by rfl))) so_nil))))).pt)
    (ss_one (ss_ret so_bl))
    ss_nil))))
    (ss_cons (ss_set hN (so_callF (ok__law_of c) hgd (hr.mono (by decide)) (c.glo 22) tk (so_cons (so_V (by rfl)) (so_cons (so_lst (so_cons so_int (so_cons (so_bin (ov_add rfl) (so_callB (cv_len rfl) (c.free 49) (by decide +kernel) (so_cons (so_W (so_V (by rfl))) so_nil)) so_int) (so_cons (so_un ov_neg so_int) (so_cons so_non (so_cons so_bl (so_cons so_str (so_cons (so_tup (so_cons so_int so_nil)) (so_cons (so_lst (so_cons so_int so_nil)) (so_cons (so_bin ov_pow so_int so_int) so_nil)))))))))) so_nil))))
    (ss_cons (ss_set hN (so_callF (ok__law_of c) hgd (hr.mono (by decide)) (c.glo 22) tk (so_cons (so_V (by rfl)) (so_cons (so_lst (so_cons so_non (so_cons (so_tup so_nil) (so_cons (so_sl rfl (so_V (by rfl)) so_oN (so_oS so_int)) (so_cons (so_bin (ov_add rfl) (so_V (by rfl)) (so_tup (so_cons (so_tup so_nil) so_nil))) (so_cons (so_callTy (cv_list rfl) (c.free 50) (by decide +kernel) (so_cons (so_V (by rfl)) so_nil)) (so_cons so_str (so_cons (so_ix (ov_ix rfl (u1 hr)) (so_V (by rfl)) so_int) (so_cons (so_tup (so_cons (so_V (by rfl)) so_nil)) (so_cons so_int so_nil)))))))))) so_nil))))
    (ss_cons (ss_set hN (so_lst (so_cons (so_callF (ok__law_way_refused c) hgd (hr.mono (by decide)) (c.glo 31) tk (so_cons (so_V (by rfl)) (so_cons (so_V (by rfl)) so_nil))) (so_cons (so_callF (ok__law_way_refused c) hgd (hr.mono (by decide)) (c.glo 31) tk (so_cons (so_V (by rfl)) (so_cons (so_V (by rfl)) so_nil))) so_nil))))
    (ss_cons (ss_set hN (so_bin (ov_add rfl) (so_V (by rfl)) (so_lst (so_cons (so_callF (ok__law_refused c) hgd (hr.mono (by decide)) (c.glo 30) tk (so_cons (so_gl (c.glo 18)) (so_cons (so_V (by rfl)) so_nil))) (so_cons (so_callF (ok__law_refused c) hgd (hr.mono (by decide)) (c.glo 30) tk (so_cons (so_gl (c.glo 19)) (so_cons (so_V (by rfl)) so_nil))) so_nil)))))
    (ss_one (ss_ret (so_eAnd (so_cmp (ov_eq rfl (u64 hr)) (so_V (by rfl)) (so_bin (ov_add rfl) (so_lst (so_cons (so_tup (so_cons so_str so_nil)) so_nil)) (so_bin (ov_mul rfl) (so_lst (so_cons (so_tup (so_cons so_str (so_cons so_non so_nil))) so_nil)) so_int))) (so_one (so_cmp (ov_eq rfl (u64 hr)) (so_callB (cv_repr rfl hgd (u64 hr)) (c.free 54) (by decide +kernel) (so_cons (so_V (by rfl)) so_nil)) (so_V (by rfl)))))))))))))
theorem sc_law : FnScope ["_law_script", "_law_m", "_law_k", "_law_web_here", "_law_roots_here", "_law_kept", "_law_found"] ["_law_script"] (defScope (top 51)) := ⟨rfl, rfl, rfl, by decide +kernel, rfl, by decide +kernel, by decide +kernel⟩
theorem law_def (c : CS K mg) : ∃ fd : FuncData, (∀ (s : Shared) (u : Value), BindsTo s fd ⟨[u], []⟩ [("_law_script", u)]) ∧ ∀ base : Heap, GnOk P w K mg base 10 (He.ga K "law") fd ["_law_script"] (spOf (gx K) 1 f_law) := by
  obtain ⟨fd, F⟩ := c.def_ 33 (d := dd_law)
  refine ⟨fd, fun s v => FunD.bindsA (ps := ["_law_script"]) F (fun _ _ _ _ _ _ us hl => match us, hl with | [_], _ => rfl) s [v] rfl, fun base => gok F sc_law rfl rfl fun cdv A outer s H E hgd hr tk hp => ?_⟩
  have hN := (sc_law).nd
  exact ss_cons (ss_set hN (so_callF (ok__law_started c) hgd (hr.mono (by decide)) (c.glo 20) tk (so_cons (so_V (by rfl)) so_nil)))
    (ss_cons (ss_for hp rfl (si_range1 (c.free 53) (so_cons (so_callB (cv_max rfl rfl) (c.free 51) (by decide +kernel) (so_cons so_int (so_cons (so_callB (cv_min rfl rfl) (c.free 52) (by decide +kernel) (so_cons so_int (so_cons (so_callB (cv_len rfl) (c.free 49) (by decide +kernel) (so_cons (so_V (by rfl)) so_nil)) so_nil))) so_nil))) so_nil)) (sg_V hN)
    (ss_cons (ss_exp (so_bm rfl isDct_ty PySem.F.plainAttrs_dict PySem.F.slot_dict_update PySem.F.type_dict_update mv_update (so_V (by rfl)) (so_cons (so_disp (pd_str so_int (pd_str so_int pd_nil))) so_nil)))
    (ss_cons (ss_set hN (so_callF (ok__law_web c) hgd (hr.mono (by decide)) (c.glo 23) tk (so_cons (so_V (by rfl)) (so_cons (so_callF (ok__law_of c) hgd (hr.mono (by decide)) (c.glo 22) tk (so_cons (so_V (by rfl)) (so_cons (so_lst (so_cons so_int (so_cons so_int (so_cons so_int (so_cons so_int so_nil))))) so_nil))) (so_cons so_int so_nil)))))
    (ss_cons (ss_set hN (so_callF (ok__law_roots c) hgd (hr.mono (by decide)) (c.glo 24) tk (so_cons (so_V (by rfl)) (so_cons (so_V (by rfl)) (so_cons so_int so_nil)))))
    (ss_cons (ss_set hN (so_callF (ok__law_begun c) hgd (hr.mono (by decide)) (c.glo 25) tk (so_cons (so_V (by rfl)) (so_cons (so_V (by rfl)) so_nil))))
    (ss_cons (ss_while hp (so_tcmp (ov_ne rfl (u64 hr)) (so_ix (ov_ix rfl (u1 hr)) (so_V (by rfl)) so_int) (so_bin (ov_mul rfl) (so_tup (so_cons (so_tup so_nil) so_nil)) (so_callB (cv_len rfl) (c.free 49) (by decide +kernel) (so_cons (so_W (so_V (by rfl))) so_nil))))
    (ss_cons (ss_if (so_tNot (so_tTr rfl (so_callF (ok__law_state_right c) hgd (hr.mono (by decide)) (c.glo 32) tk (so_cons (so_V (by rfl)) (so_cons (so_V (by rfl)) (so_cons (so_W (so_V (by rfl))) (so_cons (so_V (by rfl)) so_nil)))))))
    (ss_one (ss_ret so_bl))
    ss_nil)
    (ss_cons (ss_set hN (so_callF (ok__law_next c) hgd (hr.mono (by decide)) (c.glo 26) tk (so_cons (so_V (by rfl)) (so_cons (so_V (by rfl)) (so_cons (so_callF (ok__law_turn c) hgd (hr.mono (by decide)) (c.glo 28) tk (so_cons (so_V (by rfl)) (so_cons (so_V (by rfl)) so_nil))) so_nil)))))
    (ss_one (ss_set hN (so_if (so_tcmp ov_isN (so_V (by rfl)) so_non) (so_V (by rfl)) (so_ix (ov_ix rfl (u1 hr)) (so_V (by rfl)) so_int)))))))
    (ss_one (ss_if (so_tNot (so_tTr rfl (so_callF (ok__law_state_right c) hgd (hr.mono (by decide)) (c.glo 32) tk (so_cons (so_V (by rfl)) (so_cons (so_V (by rfl)) (so_cons (so_W (so_V (by rfl))) (so_cons (so_V (by rfl)) so_nil)))))))
    (ss_one (ss_ret so_bl))
    ss_nil))))))))
    (ss_one (ss_ret so_bl)))
end
end TB.K20

end

/-! ## K20A -/
section
set_option linter.all false
set_option autoImplicit false
set_option maxRecDepth 100000
namespace TB.K20
open PySem

/-! ### what the program's defs tell of plain data -/
theorem w_is_whole {st : Sto} {d : D} (h : (tyN st d).isSome = true) : f_is_whole [d] st = .ok (.bl (isI d)) st := by
  simp [f_is_whole, runF_ap, m_is_whole, startE, isi_int h, isi_bool h]
  cases d <;> simp [isI, isB, isIB]
theorem w_is_among {st : Sto} {d : D} {a b : Int} (h : (tyN st d).isSome = true) : f_is_among [d, .int a, .int b] st = .ok (.bl (amg d a b)) st := by
  simp [f_is_among, runF_ap, m_is_among, startE, w_is_whole h]
  cases d <;> simp [isI, amg]
  rename_i i
  by_cases h : a ≤ i <;> simp [h]
theorem w_is_row_of {st : Sto} {d : D} {n : Int} {k : Nat} (h : D.sm k d = true) : f_is_row_of [d, .int n] st = .ok (.bl (isRowD n d)) st := by
  cases d with
  | tup ts =>
    cases k with
    | zero => simp [D.sm] at h
    | succ k =>
    rw [sm_tup, smL_iff] at h
    simp [f_is_row_of, runF_ap, m_is_row_of, startE]
    by_cases hl : (8 : Int) < ts.length
    · have : ¬ ts.length ≤ 8 := by omega
      simp [hl, this, isRowD]
    · have h8 : ts.length ≤ 8 := by omega
      simp [hl, isRowD, h8]
      rw [eLc_map (i := ⟨ts, []⟩) (fun t => .bl (isNonD t || amg t 0 (n - 1)))]
      · simp [bAll_end]
      · simp
      · simp
      · intro x hx acc
        refine ⟨_, by simp [wipeE]; rfl, ?_⟩
        have hw := w_is_among (st := st ++ [.lst acc]) (d := x) (a := 0) (b := n - 1) (ty_sm (h x hx))
        cases hnx : isNonD x <;> simp [hnx, hw]
      · simp; omega
  | _ => first | (simp [D.sm] at h; done) | simp [f_is_row_of, runF_ap, m_is_row_of, startE, isRowD]
theorem w_is_web {st : Sto} {d : D} {k : Nat} (h : D.sm k d = true) : f_is_web [d] st = .ok (.bl (isWebD d)) st := by
  cases d with
  | tup ts =>
    cases k with
    | zero => simp [D.sm] at h
    | succ k =>
    rw [sm_tup, smL_iff] at h
    simp [f_is_web, runF_ap, m_is_web, startE]
    by_cases h1 : (1 : Int) ≤ ts.length
    · by_cases h2 : (ts.length : Int) ≤ 60
      · have g1 : 1 ≤ ts.length := by omega
        have g2 : ts.length ≤ 60 := by omega
        simp [h1, h2, isWebD, g1, g2]
        rw [eLc_map (i := ⟨ts, []⟩) (fun t => .bl (isRowD ts.length t))]
        · simp [bAll_end]
        · simp
        · simp
        · intro x hx acc
          refine ⟨_, by simp [wipeE]; rfl, ?_⟩
          simp [w_is_row_of (h x hx)]
        · simp; omega
      · have g2 : ¬ ts.length ≤ 60 := by omega
        simp [h1, h2, isWebD, g2]
    · have g1 : ¬ 1 ≤ ts.length := by omega
      simp [h1, isWebD, g1]
  | _ => first | (simp [D.sm] at h; done) | simp [f_is_web, runF_ap, m_is_web, startE, isWebD]
theorem w_is_node {st : Sto} {d : D} {ws : List D} (h : (tyN st d).isSome = true) : f_is_node [.tup ws, d] st = .ok (.bl (amg d 0 (ws.length - 1))) st := by
  simp [f_is_node, runF_ap, m_is_node, startE, w_is_among h]
theorem w_are_marks {st : Sto} {d : D} {ws : List D} {m : Int} {k : Nat} (hw : ws.length ≤ 60) (h : D.sm k d = true) : f_are_marks [.tup ws, d, .int m] st = .ok (.bl (areMarksD ws.length d m)) st := by
  cases d with
  | tup ts =>
    cases k with
    | zero => simp [D.sm] at h
    | succ k =>
    rw [sm_tup, smL_iff] at h
    simp [f_are_marks, runF_ap, m_are_marks, startE]
    by_cases h1 : ts.length = ws.length
    · have h1' : ((ts.length : Nat) : Int) = ws.length := by omega
      simp [h1', h1, areMarksD]
      rw [eLc_map (i := ⟨ts, []⟩) (fun t => .bl (amg t 0 m))]
      · simp [bAll_end]
      · simp
      · simp
      · intro x hx acc
        refine ⟨_, by simp [wipeE]; rfl, ?_⟩
        simp [w_is_among (ty_sm (h x hx))]
      · simp; omega
    · have h1' : ¬ ((ts.length : Nat) : Int) = ws.length := by omega
      simp [h1', h1, areMarksD]
  | _ => first | (simp [D.sm] at h; done) | simp [f_are_marks, runF_ap, m_are_marks, startE, areMarksD]
theorem w_is_spot {st : Sto} {d : D} {ws : List D} {k : Nat} (h : D.sm k d = true) : f_is_spot [.tup ws, d] st = .ok (.bl (isSpotD ws.length d)) st := by
  simp [f_is_spot, runF_ap, m_is_spot, startE, w_is_node (ty_sm h)]
  by_cases h1 : amg d 0 (ws.length - 1) = true
  · simp [h1, isSpotD]
  · cases d with
    | tup ts =>
      cases k with
      | zero => simp [D.sm] at h
      | succ k =>
      rw [sm_tup, smL_iff] at h
      simp only [Bool.not_eq_true] at h1
      simp [h1, isSpotD]
      match ts, h with
      | [], _ => simp
      | [x], _ => simp
      | [x, y], h =>
        have e0 : ∀ st, pIx (.tup [x, y]) (.int 0) st = .ok x st := fun st => pIx_tupN (i := 0) rfl
        have e1 : ∀ st, pIx (.tup [x, y]) (.int 1) st = .ok y st := fun st => pIx_tupN (i := 1) rfl
        have k0 : (tyN st x).isSome = true := ty_sm (h x (by simp))
        have k1 : (tyN st y).isSome = true := ty_sm (h y (by simp))
        simp [e0, e1, w_is_node k0, w_is_node k1]
        by_cases hx : amg x 0 (ws.length - 1) = true
        · simp [hx, e1, w_is_node k1]
          cases hy : isNonD y <;> simp
        · simp [hx]
      | x :: y :: z :: ts, _ =>
        have : ¬ (((x :: y :: z :: ts).length : Nat) : Int) = 2 := by simp; omega
        simp at this
        simp [this]
    | int i => simp [h1, isSpotD]
    | _ => first | (simp [D.sm] at h; done) | simp [h1, isSpotD]

theorem w_are_counts {st : Sto} {d : D} {ws : List D} {k : Nat} (hw : ws.length ≤ 60) (hr : ∀ r ∈ ws, isTup r = true) (h : D.sm k d = true) : f_are_counts [.tup ws, d] st = .ok (.bl (areCountsD ws d)) st := by
  cases d with
  | tup ts =>
    cases k with
    | zero => simp [D.sm] at h
    | succ k =>
    rw [sm_tup, smL_iff] at h
    simp [f_are_counts, runF_ap, m_are_counts, startE]
    by_cases h1 : ts.length = ws.length
    · have h1' : ((ts.length : Nat) : Int) = ws.length := by omega
      simp [h1', h1, areCountsD]
      rw [eLc_map (i := ⟨zipD ts ws, []⟩) (fun t => .bl (cntD t))]
      · simp [bAll_end]
      · simp [iZipF, seqOf]
      · simp
      · intro x hx acc
        obtain ⟨i, hi⟩ := List.getElem?_of_mem hx
        obtain ⟨c, r, hc, hr2, rfl⟩ := zipD_get ts ws i x hi
        have hr3 := hr r (List.mem_of_getElem? hr2)
        refine ⟨_, by simp [wipeE]; rfl, ?_⟩
        cases r <;> simp [isTup] at hr3
        simp [cntD, lenD, w_is_among (ty_sm (h c (List.mem_of_getElem? hc)))]
      · simp [zipD_length]; omega
    · have h1' : ¬ ((ts.length : Nat) : Int) = ws.length := by omega
      simp [h1', h1, areCountsD]
  | _ => first | (simp [D.sm] at h; done) | simp [f_are_counts, runF_ap, m_are_counts, startE, areCountsD]

theorem web_rows {ws : List D} (h : isWebD (.tup ws) = true) : ws.length ≤ 60 ∧ ∀ r ∈ ws, isTup r = true := by
  simp only [isWebD, Bool.and_eq_true, decide_eq_true_eq, List.all_eq_true] at h
  refine ⟨h.1.2, fun r hr => ?_⟩
  have := h.2 r hr
  cases r <;> simp [isRowD] at this <;> rfl
theorem w_is_state {st : Sto} {d : D} {k : Nat} (h : D.sm k d = true) : f_is_state [d] st = .ok (.bl (isStateD d)) st := by
  cases d with
  | tup ts =>
    cases k with
    | zero => simp [D.sm] at h
    | succ k =>
    rw [sm_tup, smL_iff] at h
    by_cases h4 : ts.length = 4
    · match ts, h4, h with
      | [w, mk, ct, hs], _, h =>
        have sw := h w (by simp)
        have sm := h mk (by simp)
        have sc := h ct (by simp)
        have sh := h hs (by simp)
        have e0 : ∀ st, pIx (.tup [w, mk, ct, hs]) (.int 0) st = .ok w st := fun st => pIx_tupN (i := 0) rfl
        simp [f_is_state, runF_ap, m_is_state, startE, e0, w_is_web sw]
        by_cases hw : isWebD w = true
        · simp [hw]
          cases w with
          | tup ws =>
            obtain ⟨hl, hr⟩ := web_rows hw
            cases hs with
            | tup hs =>
              cases k with
              | zero => simp [D.sm] at sh
              | succ k =>
              rw [sm_tup, smL_iff] at sh
              simp
              by_cases h1 : (1 : Int) ≤ hs.length
              · by_cases h2 : (hs.length : Int) ≤ 6
                · have g1 : 1 ≤ hs.length := by omega
                  have g2 : hs.length ≤ 6 := by omega
                  simp [h1, h2]
                  rw [eLc_map (i := ⟨hs, []⟩) (fun t => .bl (isSpotD ws.length t))]
                  · have hb : bAll [.loc st.length] (st ++ [.lst (hs.map fun t => .bl (isSpotD ws.length t))]) = .ok (.bl (hs.all (isSpotD ws.length))) (st ++ [.lst (hs.map fun t => .bl (isSpotD ws.length t))]) := bAll_end st hs (isSpotD ws.length)
                    have hz : isStateD (.tup [.tup ws, mk, ct, .tup hs]) = (hs.all (isSpotD ws.length) && areMarksD ws.length mk hs.length && areCountsD ws ct) := by simp only [isStateD, itemsD, hw, g1, g2]; simp
                    rw [hz]
                    generalize hs.all (isSpotD ws.length) = q at hb
                    simp only [Res.bind_ok, hb]
                    cases q
                    · simp
                    · simp [w_are_marks hl sm]
                      cases hm : areMarksD ws.length mk hs.length <;> simp [w_are_counts hl hr sc]
                  · simp
                  · simp
                  · intro x hx acc
                    refine ⟨_, by simp [wipeE]; rfl, ?_⟩
                    simp [w_is_spot (sh x hx)]
                  · simp; omega
                · have g2 : ¬ hs.length ≤ 6 := by omega
                  simp [h1, h2, isStateD, g2]
              · have g1 : ¬ 1 ≤ hs.length := by omega
                simp [h1, isStateD, g1]
            | _ => first | (simp [D.sm] at sh; done) | simp [isStateD]
          | _ => simp [isWebD] at hw
        · have hw' : isWebD w = false := by simpa using hw
          have : isStateD (.tup [w, mk, ct, hs]) = false := by cases hs <;> simp [isStateD, hw']
          simp [hw', this]
    · have h4' : ¬ ((ts.length : Nat) : Int) = 4 := by omega
      have : isStateD (.tup ts) = false := by
        unfold isStateD
        split
        · rename_i e
          cases e
          simp at h4
        · rfl
      simp [f_is_state, runF_ap, m_is_state, startE, h4', this]
  | _ => first | (simp [D.sm] at h; done) | simp [f_is_state, runF_ap, m_is_state, startE, isStateD]
theorem w_need_state {st : Sto} {d : D} {k : Nat} (h : D.sm k d = true) : f_need_state [d] st = if isStateD d = true then .ok .non st else .exc "BadState" [.non] st := by
  simp [f_need_state, runF_ap, m_need_state, startE, w_is_state h]
  by_cases hs : isStateD d = true <;> simp [hs]
theorem w_need_walker {st : Sto} {d : D} {s : State} (h : (tyN st d).isSome = true) : f_need_walker [eS s, d] st = if amg d 1 s.heres.length = true then .ok .non st else .exc "OutOfPlace" [] st := by
  have e0 : ∀ st, pIx (eS s) (.int 3) st = .ok (.tup (s.heres.map eH)) st := fun st => pIx_tupN (i := 3) rfl
  simp [f_need_walker, runF_ap, m_need_walker, startE, e0, w_is_among h]
  by_cases hs : amg d 1 s.heres.length = true <;> simp [hs]
theorem w_has_stopped {st : Sto} {h : Here} : f_has_stopped [eH h] st = .ok (.bl (match h with
    | .at_ _ => true
    | .on _ _ => false)) st := by
  cases h <;> simp [f_has_stopped, runF_ap, m_has_stopped, startE, eH]
theorem w_is_fit_ok {st : Sto} {s : State} {w node p : Nat} {fs : List Nat} (hm : s.marks[node]? = some w) (hf : lstAt st p = some (iL fs)) (hn : node ∉ fs)
    (hc : fs = [] ∨ ∃ c r, s.counts[node]? = some c ∧ s.ties[node]? = some r ∧ c < r.length) : f_is_fit [eS s, .int w, .int node, .loc p] st = .ok (.bl true) st := by
  have e1 : pEq (.loc p) (.loc st.length) (st ++ [.lst []]) = .ok (.bl (iL fs).isEmpty) (st ++ [.lst []]) := pEq_lst_nil (n := 0) (by omega) (lstAt_app hf) (smL_iL 0 fs) (by simp)
  have e2 : ∀ st, pIx (eNs s.marks) (.int node) st = .ok (.int w) st := fun st => ix_eNs st hm
  simp [f_is_fit, runF_ap, m_is_fit, startE, eS, e2, pIn_lst hf, hn, e1]
  rcases hc with rfl | ⟨c, r, h1, h2, h3⟩
  · simp [iL]
  · have e3 : ∀ st, pIx (eNs s.counts) (.int node) st = .ok (.int c) st := fun st => ix_eNs st h1
    have e4 : ∀ st, pIx (eWeb s.ties) (.int node) st = .ok (eRow r) st := fun st => ix_eWeb st h2
    cases hfe : (iL fs).isEmpty <;> simp [e3, e4, h3]
theorem w_back_at {st : Sto} {s : State} {i w n : Nat} (hw0 : w = i + 1) (hh : s.heres[i]? = some (.at_ n)) (hm : s.marks[n]? = some w) : f_back_of [eS s, .int w] st = .ok (.loc st.length) (st ++ [.lst []]) := by
  have e0 : ∀ st, pIx (.tup (s.heres.map eH)) (.int i) st = .ok (.int n) st := fun st => ix_tupM st (f := eH) hh
  have e1 : ∀ st, f_has_stopped [.int n] st = .ok (.bl true) st := fun st => w_has_stopped (h := .at_ n)
  have e2 : ∀ st, pIx (eNs s.marks) (.int n) st = .ok (.int w) st := fun st => ix_eNs st hm
  have e3 : (w : Int) - 1 = i := by omega
  simp [f_back_of, runF_ap, m_back_of, startE, eS, e0, e1, e2, e3]

def envB (s : State) (w n : Nat) (b : Tie) (L : Nat) (nd : Tie) : Env :=
  [some (eS s), some (.int w), some (eWeb s.ties), some (eNs s.marks), some (eNs s.counts), some (.tup (s.heres.map eH)), some (.tup [.int n, eTie b]), some (.loc L), some (eTie nd), some (eTie b)]
theorem w_back_on {st : Sto} {s : State} {i w n : Nat} {b : Tie} {P : List Nat} (hw0 : w = i + 1) (hh : s.heres[i]? = some (.on n b)) (hP : PathOk s w n b P) :
    ∃ js, f_back_of [eS s, .int w] st = .ok (.loc st.length) (st ++ .lst (iL P) :: js) := by
  have e0 : ∀ st, pIx (.tup (s.heres.map eH)) (.int i) st = .ok (.tup [.int n, eTie b]) st := fun st => ix_tupM st (f := eH) hh
  have e1 : ∀ st, f_has_stopped [.tup [.int n, eTie b]] st = .ok (.bl false) st := fun st => w_has_stopped (h := .on n b)
  have e3 : (w : Int) - 1 = i := by omega
  obtain ⟨hd, nx, on, nd, ms, sz⟩ := hP
  have hlp : ∀ k m, P[k]? = some m → k < P.length := fun k m h => (List.getElem?_eq_some_iff.mp h).1
  have hw := whileL_inv (c := tB (e2 pNotN (eV 8) (eC .non))) (b := sSeq (sIf (tNot (tTr (eN f_is_fit (aCons (eV 0) (aCons (eV 1) (aCons (eV 8) (aCons (eV 7) aNil))))))) (sRaise "BadState" 1 (aCons (eV 8) aNil)) sSkip) (sSeq (sExp (eMt isLstD mAppend (eV 7) (aCons (eV 8) aNil))) (sSet 8 (eIf (tB (e2 pEq (eN bLen (aCons (eV 7) aNil)) (eC (.int 1)))) (eV 9) (e2 pIx (e2 pIx (eV 2) (eV 8)) (e2 pIx (eV 4) (eV 8)))))))
    (fun r s1 => ∃ k, k ≤ P.length ∧ r = envB s w n b st.length (P[k]?) ∧ s1 = st ++ [.lst (iL (P.take k))]) (fun r s1 => match lstAt s1 st.length with
      | some xs => P.length - xs.length
      | none => 0) ?step 1000000 (envB s w n b st.length (some n)) (st ++ [.lst []]) ⟨0, by omega, by rw [hd], by simp [iL]⟩ (by simp; omega)
  case step =>
    rintro r s1 ⟨k, hk, rfl, rfl⟩
    cases hm : P[k]? with
    | none => exact ⟨false, st ++ [.lst (iL (P.take k))], by simp [envB, hm], fun h => by cases h⟩
    | some m =>
      have hkl := hlp k m hm
      have hmem : m ∈ P := List.mem_of_getElem? hm
      have hnt : m ∉ P.take k := by
        intro hin
        obtain ⟨j, hj⟩ := List.getElem?_of_mem hin
        have hjl := (List.getElem?_eq_some_iff.mp hj).1
        rw [List.length_take] at hjl
        rw [List.getElem?_take, if_pos (by omega)] at hj
        have := (List.getElem?_inj (by omega) nd).mp (hj.trans hm.symm)
        omega
      have htk : P.take k ++ [m] = P.take (k + 1) := by rw [List.take_add_one, hm]; rfl
      have hkk : (P.take k).length = k := by rw [List.length_take]; omega
      refine ⟨true, st ++ [.lst (iL (P.take k))], by simp [envB], fun _ => ?_⟩
      have fit : f_is_fit [eS s, .int w, .int m, .loc st.length] (st ++ [.lst (iL (P.take k))]) = .ok (.bl true) (st ++ [.lst (iL (P.take k))]) := by
        refine w_is_fit_ok (ms m hmem) (by simp) hnt ?_
        by_cases h0 : k = 0
        · left; subst h0; rfl
        · right
          obtain ⟨c, row, h1, h2, h3⟩ := on k m (by omega) hm
          exact ⟨c, row, h1, h2, (List.getElem?_eq_some_iff.mp h3).1⟩
      have ap : mAppend (.loc st.length) [.int m] (st ++ [.lst (iL (P.take k))]) = .ok .non (st ++ [.lst (iL (P.take (k + 1)))]) := by
        rw [mAppend_ap (xs := iL (P.take k)) (by simp) (by simp [iL, LINE_eq]; omega)]
        simp [← htk, iL]
      have ln : ∀ q, bLen [.loc st.length] (st ++ [.lst (iL q)]) = .ok (.int (q.length : Nat)) (st ++ [.lst (iL q)]) := fun q => by
        rw [bLen_loc (xs := iL q) (by simp)]
        simp [iL]
      refine ⟨envB s w n b st.length (P[k + 1]?), st ++ [.lst (iL (P.take (k + 1)))], ?_, ⟨k + 1, hkl, rfl, rfl⟩, ?_⟩
      · by_cases h0 : k = 0
        · subst h0
          simp only [List.take_zero] at fit ap
          simp [envB, fit, ap, isLst_ap (xs := iL []) (st := st ++ [.lst (iL [])]) (p := st.length) (by simp), ln, tidy_len, nx]
          have : ((min 1 P.length : Nat) : Int) = 1 := by omega
          simp [this]
        · obtain ⟨c, row, h1, h2, h3⟩ := on k m (by omega) hm
          have x1 : ∀ st, pIx (eNs s.counts) (.int m) st = .ok (.int c) st := fun st => ix_eNs st h1
          have x2 : ∀ st, pIx (eWeb s.ties) (.int m) st = .ok (eRow row) st := fun st => ix_eWeb st h2
          have x3 : ∀ st, pIx (eRow row) (.int c) st = .ok (eTie (P[k + 1]?)) st := fun st => ix_eRow st h3
          have hne : ¬ (((P.take (k + 1)).length : Nat) : Int) = 1 := by rw [List.length_take]; omega
          simp [envB, fit, ap, isLst_ap (xs := iL (P.take k)) (st := st ++ [.lst (iL (P.take k))]) (p := st.length) (by simp), ln, tidy_len]
          simp at hne
          simp [hne, x1, x2, x3]
      · simp [iL]; omega
  obtain ⟨r', st', s1, w1, ⟨k, hk, rfl, rfl⟩, w2⟩ := hw
  have hkP : P[k]? = none := by
    cases hq : P[k]? with
    | none => rfl
    | some m => simp [envB, hq] at w2
  have hall : P.take k = P := List.take_of_length_le (List.getElem?_eq_none_iff.mp hkP)
  have hs1 : s1 = st ++ [.lst (iL P)] := by
    simp [envB, hkP] at w2
    rw [← w2, hall]
  refine ⟨[], ?_⟩
  subst hs1
  simp [f_back_of, runF_ap, m_back_of, startE, eS, e0, e1, e3, sWhile_ap]
  simp only [envB, eS, eTie_some] at w1
  simp [w1]
end TB.K20

end

/-! ## K20B -/
section
set_option linter.all false
set_option autoImplicit false
set_option maxRecDepth 100000
namespace TB.K20
open PySem

theorem w_back {st : Sto} {s : State} {i w : Nat} {h : Here} {way : List Nat} (hw0 : w = i + 1) (hh : s.heres[i]? = some h) (hb : BackOk s w h way) :
    ∃ js, f_back_of [eS s, .int w] st = .ok (.loc st.length) (st ++ .lst (iL way.reverse) :: js) := by
  cases h with
  | at_ n =>
    obtain ⟨rfl, hm⟩ := hb
    exact ⟨[], w_back_at hw0 hh hm⟩
  | on n b => exact w_back_on hw0 hh hb
theorem lst_mid {st js : Sto} {xs : List D} : lstAt (st ++ .lst xs :: js) st.length = some xs := by simp [lstAt]
/-- tuple(back_of(state, walker)[::-1]) -/
theorem w_way {st : Sto} {s : State} {i w : Nat} {h : Here} {way : List Nat} (hw0 : w = i + 1) (hh : s.heres[i]? = some h) (hb : BackOk s w h way) :
    ∃ js x s1 y s2, f_back_of [eS s, .int w] st = .ok x s1 ∧ pRev x s1 = .ok y s2 ∧ bTuple [y] s2 = .ok (eNs way) (st ++ js) := by
  obtain ⟨js, e⟩ := w_back (st := st) hw0 hh hb
  have e1 : pRev (.loc st.length) (st ++ .lst (iL way.reverse) :: js) = .ok (.loc (st ++ .lst (iL way.reverse) :: js).length) ((st ++ .lst (iL way.reverse) :: js) ++ [.lst (iL way)]) := by
    simp only [pRev, lstVal, lst_mid]
    simp [iL]
  refine ⟨.lst (iL way.reverse) :: js ++ [.lst (iL way)], _, _, _, _, e, e1, ?_⟩
  simp only [bTuple, lstVal, lst_end, eNs_iL]
  simp
theorem ty_int (st : Sto) (i : Int) : (tyN st (.int i)).isSome = true := rfl
theorem w_way_of {st : Sto} {s : State} {i w : Nat} {h : Here} {way : List Nat} (hS : isStateD (eS s) = true) (hw0 : w = i + 1) (hh : s.heres[i]? = some h) (hb : BackOk s w h way) :
    f_way_of [eS s, .int w] st = .ok (eNs way) st := by
  obtain ⟨js, x, s1, y, s2, z1, z2, z3⟩ := w_way (st := st) hw0 hh hb
  have hl := (List.getElem?_eq_some_iff.mp hh).1
  have ha : amg (.int w) 1 s.heres.length = true := by simp [amg]; omega
  simp [f_way_of, runF_ap, m_way_of, startE, w_need_state (sm_eS s), hS, w_need_walker (ty_int _ _), ha, z1, z2, z3]
theorem w_all_ways {st : Sto} {s : State} {ways : List (List Nat)} (hn : s.heres.length ≤ 6) (hW : WaysOk s ways) : f_all_ways [eS s] st = .ok (.loc st.length) (st ++ [.lst (ways.map eNs)]) := by
  have e0 : ∀ st, pIx (eS s) (.int 3) st = .ok (.tup (s.heres.map eH)) st := fun st => pIx_tupN (i := 3) rfl
  simp [f_all_ways, runF_ap, m_all_ways, startE]
  rw [eLc_map (i := ⟨rangeD 1 s.heres.length, []⟩) (fun d => match d with
    | .int i => eNs (ways.getD (i - 1).toNat [])
    | _ => .non)]
  · have : (rangeD 1 s.heres.length).map (fun d => match d with
      | .int i => eNs (ways.getD (i - 1).toNat [])
      | _ => .non) = ways.map eNs := by
      refine List.ext_getElem (by simp [rangeD, hW.1]) fun i h1 h2 => ?_
      simp at h2
      have e9 : (1 + (i : Int) - 1).toNat = i := by omega
      simp only [rangeD, List.map_map, List.getElem_map, List.getElem_range, Function.comp]
      simp only [e9]
      rw [List.getD_eq_getElem?_getD, List.getElem?_eq_getElem h2]; rfl
    rw [this]
    simp
  · have q := iFn_r2 (as := aCons (eC (.int 1)) (aCons (e2 pAdd (eN bLen (aCons (e2 pIx (eV 0) (eC (.int 3))) aNil)) (eC (.int 1))) aNil)) (r := [some (eS s), none]) (st := st) (st' := st) (a := 1) (b := s.heres.length + 1) (by simp [e0]) (by omega) (by omega) (by omega) (by omega)
    have q2 : ((s.heres.length : Int) + 1 - 1).toNat = s.heres.length := by omega
    rw [q2] at q
    exact q
  · simp
  · intro x hx acc
    obtain ⟨i, w, hi, hw0, rfl⟩ : ∃ i w : Nat, i < s.heres.length ∧ w = i + 1 ∧ x = .int (w : Int) := by
      simp only [rangeD, List.mem_map, List.mem_range] at hx
      obtain ⟨i, hi, rfl⟩ := hx
      exact ⟨i, i + 1, hi, rfl, congrArg D.int (by omega)⟩
    have hwi : i < ways.length := by rw [hW.1]; exact hi
    have hg : ways.getD ((w : Int) - 1).toNat [] = ways[i] := by
      have : ((w : Int) - 1).toNat = i := by omega
      rw [this, List.getD_eq_getElem?_getD, List.getElem?_eq_getElem hwi]; rfl
    have hb := hW.2 i _ _ (List.getElem?_eq_getElem hi) (List.getElem?_eq_getElem hwi)
    rw [← hw0] at hb
    obtain ⟨js, x, s1, y, s2, z1, z2, z3⟩ := w_way (st := st ++ [.lst acc]) hw0 (List.getElem?_eq_getElem hi) hb
    refine ⟨_, by simp [wipeE]; rfl, ?_⟩
    simp only [hg]
    simp only [eN_ap, aCons_ap, aNil_ap, e1_ap, eV_ap, List.getElem?_cons_zero, List.getElem?_cons_succ, Res.bind_ok, z1, z2, z3]
    exact tidy_junk _ _ _ (by simp)
  · simp [rangeD]; omega
def envW (s : State) (q L : Nat) (a b c : Option D) : Env := [some (eS s), some (.loc q), some (.loc L), a, b, c, none]
theorem w_inner {st : Sto} {s : State} {q : Nat} {way : List Nat} {w : Web} {a b c : Option D} (ha : a = some (eNs way)) (hf : Fits s.counts w way) (hl : way.length ≤ 60) :
    ∃ b' c', sFor (gTup [gV 4, gV 5]) (iFn iZipF (aCons (eV 3) (aCons (eSl (eV 3) (oS (eC (.int 1))) oN) aNil))) (sAsg (gSub fStore (e2 pIx (eV 2) (eV 4)) (e2 pIx (e2 pIx (eV 0) (eC (.int 2))) (eV 4))) (eV 5))
      (envW s q st.length a b c) (st ++ rowsS st.length w) = .nx (envW s q st.length a b' c') (st ++ rowsS st.length (wayW s.counts w way)) := by
  subst ha
  have hc1 : cutD (iL way) (some 1) none = (iL way).drop 1 := cut_drop (iL way) 1
  have hit : iFn iZipF (aCons (eV 3) (aCons (eSl (eV 3) (oS (eC (.int 1))) oN) aNil)) (envW s q st.length (some (eNs way)) b c) (st ++ rowsS st.length w) = .ok ⟨(pairs way).map fun p => D.tup [.int p.1, .int p.2], []⟩ (st ++ rowsS st.length w) := by
    rw [← zip_iter (st := st ++ rowsS st.length w) way, ← hc1]
    rfl
  have e0 : ∀ st, pIx (eS s) (.int 2) st = .ok (eNs s.counts) st := fun st => pIx_tupN (i := 2) rfl
  obtain ⟨r', st', e, b', c', rfl, rfl⟩ := forL_inv (hs := []) (g := gTup [gV 4, gV 5]) (b := sAsg (gSub fStore (e2 pIx (eV 2) (eV 4)) (e2 pIx (e2 pIx (eV 0) (eC (.int 2))) (eV 4))) (eV 5)) (xs := (pairs way).map fun p => D.tup [.int p.1, .int p.2])
    (fun k r st' => ∃ b' c', r = envW s q st.length (some (eNs way)) b' c' ∧ st' = st ++ rowsS st.length (((pairs way).take k).foldl (stepW s.counts) w)) (r := envW s q st.length (some (eNs way)) b c) (st := st ++ rowsS st.length w) ⟨b, c, rfl, rfl⟩ (fun _ _ _ _ _ => rfl) (by
      rintro k r st' x hx ⟨b', c', rfl, rfl⟩
      rw [List.getElem?_map, Option.map_eq_some_iff] at hx
      obtain ⟨p, hp, rfl⟩ := hx
      obtain ⟨cn, row, h1, h2, h3⟩ := (hf.shape (shape_foldl (shape_stepW s.counts) ((pairs way).take k) w).symm) p (List.mem_of_getElem? hp)
      have hk : p.1 < (((pairs way).take k).foldl (stepW s.counts) w).length := (List.getElem?_eq_some_iff.mp h2).1
      have x1 := rows_ix (st := st) (ex := []) rfl hk
      have x2 := rows_st (st := st) (ex := []) (t := some p.2) rfl h2 h3
      simp only [List.append_nil] at x1 x2
      have x3 : ∀ st, pIx (eNs s.counts) (.int p.1) st = .ok (.int cn) st := fun st => ix_eNs st h1
      have hg : s.counts.getD p.1 0 = cn := by rw [List.getD_eq_getElem?_getD, h1]; rfl
      have hs : stepW s.counts (((pairs way).take k).foldl (stepW s.counts) w) p = set2 (((pairs way).take k).foldl (stepW s.counts) w) p.1 cn (some p.2) := by rw [stepW, hg]
      refine ⟨envW s q st.length (some (eNs way)) (some (.int p.1)) (some (.int p.2)), _, envW s q st.length (some (eNs way)) (some (.int p.1)) (some (.int p.2)), st ++ rowsS st.length (((pairs way).take (k + 1)).foldl (stepW s.counts) w), by simp [envW]; rfl, ?_, _, _, rfl, rfl⟩
      rw [take_fold _ _ _ hp, hs]
      simp only [eTie_some] at x2
      simp [envW, x1, x3, e0, x2])
  refine ⟨b', c', ?_⟩
  rw [sFor_ap, hit]
  simp only [thenS_ok]
  rw [e]
  simp [wayW, List.take_of_length_le]
theorem w_web_by {st : Sto} {s : State} {ways : List (List Nat)} {q : Nat} (hq : lstAt st q = some (ways.map eNs)) (hl : s.ties.length ≤ 60) (hf : ∀ way ∈ ways, Fits s.counts s.ties way ∧ way.length ≤ 60) :
    f_web_by [eS s, .loc q] st = .ok (eWeb (webBy s.counts s.ties ways)) st := by
  have hrows : tidy st (eLc [6] (gV 6) (iVal (e2 pIx (eV 0) (eC (.int 0)))) tYes (eN bList (aCons (eV 6) aNil)) [some (eS s), some (.loc q), none, none, none, none, none] st) = .ok (.loc st.length) (st ++ rowsS st.length s.ties) := by
    rw [eLc_new (i := ⟨s.ties.map eRow, []⟩) itemsD]
    · rw [rowsS_of, tidy_rows]
    · have e0 : ∀ st, pIx (eS s) (.int 0) st = .ok (.tup (s.ties.map eRow)) st := fun st => pIx_tupN (i := 0) rfl
      simp [e0]
    · rfl
    · intro x hx s'
      obtain ⟨row, _, rfl⟩ := List.mem_map.mp hx
      refine ⟨_, by simp [wipeE]; rfl, ?_⟩
      simp [bList, seqVal, eRow, itemsD]
    · simp; omega
  obtain ⟨r', st', e, a, b, c, rfl, rfl⟩ := forL_inv (hs := [(q, ways.map eNs)]) (g := gV 3) (b := sFor (gTup [gV 4, gV 5]) (iFn iZipF (aCons (eV 3) (aCons (eSl (eV 3) (oS (eC (.int 1))) oN) aNil))) (sAsg (gSub fStore (e2 pIx (eV 2) (eV 4)) (e2 pIx (e2 pIx (eV 0) (eC (.int 2))) (eV 4))) (eV 5))) (xs := ways.map eNs)
    (fun k r st' => ∃ a b c, r = envW s q st.length a b c ∧ st' = st ++ rowsS st.length ((ways.take k).foldl (wayW s.counts) s.ties)) (r := envW s q st.length none none none) (st := st ++ rowsS st.length s.ties) ⟨none, none, none, rfl, rfl⟩
    (by rintro k r st' _ ⟨a, b, c, rfl, rfl⟩; exact lstAt_pre hq) (by
      rintro k r st' x hx ⟨a, b, c, rfl, rfl⟩
      rw [List.getElem?_map, Option.map_eq_some_iff] at hx
      obtain ⟨way, hp, rfl⟩ := hx
      obtain ⟨hf1, hf2⟩ := hf way (List.mem_of_getElem? hp)
      obtain ⟨b', c', e⟩ := w_inner (st := st) (q := q) (a := some (eNs way)) (b := b) (c := c) rfl (hf1.shape (shape_foldl (shape_wayW s.counts) (ways.take k) s.ties).symm) hf2
      refine ⟨envW s q st.length (some (eNs way)) b c, st ++ rowsS st.length ((ways.take k).foldl (wayW s.counts) s.ties), envW s q st.length (some (eNs way)) b' c', st ++ rowsS st.length ((ways.take (k + 1)).foldl (wayW s.counts) s.ties), by simp [envW], ?_, _, _, _, rfl, rfl⟩
      rw [take_fold _ _ _ hp]
      exact e)
  have hsh : ((ways.take (ways.map eNs).length).foldl (wayW s.counts) s.ties) = webBy s.counts s.ties ways := by simp [webBy]
  have hwl : (webBy s.counts s.ties ways).length ≤ 60 := by
    have := shape_foldl (shape_wayW s.counts) ways s.ties
    have := congrArg List.length this
    simp [shape] at this
    unfold webBy
    omega
  rw [hsh] at e
  have hback := rows_back (st := st) (ex := []) (w := webBy s.counts s.ties ways) (r := envW s q st.length a b c) (j := 2) (v := 6) rfl (by simp [envW]) (by omega) hwl
  simp only [List.append_nil] at hback
  rw [f_web_by, runF_ap _ (show ([eS s, .loc q] : List D).length = 2 from rfl)]
  simp only [m_web_by, sSeq_ap, sSet_ap]
  have : startE 7 [eS s, .loc q] = [some (eS s), some (.loc q), none, none, none, none, none] := rfl
  rw [this, hrows]
  simp only [thenS_ok]
  rw [if_pos (by simp)]
  rw [thenS_nx, sSeq_ap, sFor_ap]
  have hit : iVal (eV 1) ([some (eS s), some (.loc q), none, none, none, none, none].set 2 (some (.loc st.length))) (st ++ rowsS st.length s.ties) = .ok ⟨ways.map eNs, [(q, ways.map eNs)]⟩ (st ++ rowsS st.length s.ties) := by
    simp [iSeq, seqOf, lstAt_app hq]
  have hset : ([some (eS s), some (.loc q), none, none, none, none, none].set 2 (some (.loc st.length)) : Env) = envW s q st.length none none none := rfl
  rw [hit, hset]
  simp only [thenS_ok, e, thenS_nx, sRet_ap, eN_ap, aCons_ap, aNil_ap, hback, Res.bind_ok, bTuple, lstVal, lst_end, end_ret]
  rw [List.append_assoc]
  exact tidy_junk _ _ _ (und_eWeb _ (webBy s.counts s.ties ways))

theorem w_roots_by {st : Sto} {s : State} {ways : List (List Nat)} {q : Nat} {roots : List Nat} (hq : lstAt st q = some (ways.map eNs)) (hl : s.heres.length ≤ 60) (hw : ways.length = s.heres.length) (hr : roots.length = s.heres.length)
    (hk : ∀ (i : Nat) (h : Here) (way : List Nat) (root : Nat), s.heres[i]? = some h → ways[i]? = some way → roots[i]? = some root → (way = [] → h = Here.at_ root) ∧ (way ≠ [] → way[0]? = some root)) :
    f_roots_by [eS s, .loc q] st = .ok (eNs roots) st := by
  have e0 : ∀ st, pIx (eS s) (.int 3) st = .ok (.tup (s.heres.map eH)) st := fun st => pIx_tupN (i := 3) rfl
  simp [f_roots_by, runF_ap, m_roots_by, startE]
  rw [eLc_map (i := ⟨zipD (ways.map eNs) (s.heres.map eH), [(q, ways.map eNs)]⟩) (fun d => match d with
    | .tup [.tup [], h] => h
    | .tup [.tup (x :: _), _] => x
    | _ => .non)]
  · have : (zipD (ways.map eNs) (s.heres.map eH)).map (fun d => match d with
      | .tup [.tup [], h] => h
      | .tup [.tup (x :: _), _] => x
      | _ => .non) = iL roots := by
      refine List.ext_getElem? fun i => ?_
      rw [List.getElem?_map]
      by_cases hi : i < s.heres.length
      · obtain ⟨x, y, h1, h2, h3⟩ := zipD_get (ways.map eNs) (s.heres.map eH) i _ (List.getElem?_eq_getElem (show i < (zipD (ways.map eNs) (s.heres.map eH)).length by rw [zipD_length]; simp; omega))
        have hi2 : i < (zipD (ways.map eNs) (s.heres.map eH)).length := by rw [zipD_length]; simp; omega
        rw [List.getElem?_map, Option.map_eq_some_iff] at h1 h2
        obtain ⟨way, h1, rfl⟩ := h1
        obtain ⟨h, h2, rfl⟩ := h2
        have hro : roots[i]? = some (roots[i]'(by omega)) := List.getElem?_eq_getElem _
        obtain ⟨k1, k2⟩ := hk i h way _ h2 h1 hro
        rw [List.getElem?_eq_getElem hi2, h3]
        simp only [Option.map_some, iL, List.getElem?_map, hro]
        cases way with
        | nil => rw [k1 rfl]; rfl
        | cons a way =>
          have := k2 (by simp)
          simp at this
          subst this
          rfl
      · have : (zipD (ways.map eNs) (s.heres.map eH))[i]? = none := List.getElem?_eq_none (by rw [zipD_length]; simp; omega)
        rw [this]
        have : (iL roots)[i]? = none := List.getElem?_eq_none (by simp [iL]; omega)
        rw [this]; rfl
    rw [this]
    simp [bTuple, lstVal, eNs_iL]
    exact tidy_junk _ _ _ (by rw [← eNs_iL]; simp)
  · have hq' := hq
    simp [e0, iZipF, seqOf, hq']
  · intro acc
    exact lstAt_pre hq
  · intro x hx acc
    obtain ⟨i, hi⟩ := List.getElem?_of_mem hx
    obtain ⟨x, y, h1, h2, rfl⟩ := zipD_get _ _ i _ hi
    rw [List.getElem?_map, Option.map_eq_some_iff] at h1 h2
    obtain ⟨way, h1, rfl⟩ := h1
    obtain ⟨h, h2, rfl⟩ := h2
    refine ⟨_, by simp [wipeE]; rfl, ?_⟩
    have eq : ∀ st, pEq (eNs way) (.tup []) st = .ok (.bl (iL way).isEmpty) st := fun st => by rw [pEq_sm (n := 1) (k := 1) (sm_eNs way) (by simp [sm_tup 0]) (by omega) (by omega), eNs_iL, eqv_tup_nil]
    cases way with
    | nil =>
      change tidy _ _ = Res.ok (eH h) _
      simp [eq, iL]
    | cons a way =>
      have x0 : ∀ st, pIx (eNs (a :: way)) (.int 0) st = .ok (.int a) st := fun st => pIx_tup (atI_zero _ _)
      change tidy _ _ = Res.ok (.int a) _
      simp [eq, iL, x0]
  · simp [zipD_length]; omega
theorem w_turned_back {st : Sto} {s : State} {ways : List (List Nat)} {roots : List Nat} (M : MomentOk s ways roots) : f_turned_back [eS s] st = .ok (eWeb (webBy s.counts s.ties ways)) st := by
  have hwb := w_web_by (st := st ++ [.lst (ways.map eNs)]) (q := st.length) (by simp) M.tl M.ft
  have ha := w_all_ways (st := st) M.hl M.wy
  have hn : f_need_state [eS s] st = .ok .non st := (w_need_state (st := st) (sm_eS s)).trans (if_pos M.st)
  have key : ∀ fN fB fA : List D → Sto → Res D, fN [eS s] st = .ok .non st → fA [eS s] st = .ok (.loc st.length) (st ++ [.lst (ways.map eNs)]) → fB [eS s, .loc st.length] (st ++ [.lst (ways.map eNs)]) = .ok (eWeb (webBy s.counts s.ties ways)) (st ++ [.lst (ways.map eNs)]) →
    runF 1 1 (mm_turned_back fN fB fA) [eS s] st = .ok (eWeb (webBy s.counts s.ties ways)) st := by
    intro fN fB fA hn ha hwb
    simp [mm_turned_back, runF_ap, startE, hn, ha, hwb]
  exact key _ _ _ hn ha hwb
theorem w_roots_of {st : Sto} {s : State} {ways : List (List Nat)} {roots : List Nat} (M : MomentOk s ways roots) : f_roots_of [eS s] st = .ok (eNs roots) st := by
  have hwb := w_roots_by (st := st ++ [.lst (ways.map eNs)]) (q := st.length) (by simp) (by have := M.hl; omega) M.wy.1 M.rl M.rt
  have ha := w_all_ways (st := st) M.hl M.wy
  have hn : f_need_state [eS s] st = .ok .non st := (w_need_state (st := st) (sm_eS s)).trans (if_pos M.st)
  have key : ∀ fN fB fA : List D → Sto → Res D, fN [eS s] st = .ok .non st → fA [eS s] st = .ok (.loc st.length) (st ++ [.lst (ways.map eNs)]) → fB [eS s, .loc st.length] (st ++ [.lst (ways.map eNs)]) = .ok (eNs roots) (st ++ [.lst (ways.map eNs)]) →
    runF 1 1 (mm_roots_of fN fB fA) [eS s] st = .ok (eNs roots) st := by
    intro fN fB fA hn ha hwb
    simp [mm_roots_of, runF_ap, startE, hn, ha, hwb]
  exact key _ _ _ hn ha hwb
end TB.K20

end

/-! ## K20C -/
section
set_option linter.all false
set_option autoImplicit false
set_option maxRecDepth 100000
namespace TB.K20
open PySem

def drawEnd : SM := sSeq (sSet 6 (e2 pMod (e2 pAdd (e2 pAdd (e2 pMul (e2 pMod (eV 5) (eC (.int 2147483629))) (eC (.int 48271))) (e2 pMul (e2 pMul (eC (.int 69621)) (eV 2)) (eV 2))) (eC (.int 104729))) (eC (.int 2147483647)))) (sSeq (sSet 6 (e2 pMod (e2 pMul (eV 6) (e2 pAdd (eC (.int 16807)) (e2 pMul (eC (.int 2)) (eV 2)))) (eC (.int 2147483629)))) (sRet (e2 pMod (e2 pFdiv (e2 pMod (e2 pMul (eV 6) (eV 6)) (eC (.int 1000000007))) (eC (.int 7))) (eV 1))))
theorem v_drawEnd {many k cell : Int} {x0 x3 x4 x6 : Option D} {st : Sto} (hk : 0 ≤ k) (hk2 : k ≤ 1000000000) (h1 : 0 < many) : ∃ j : Nat, drawEnd [x0, some (.int many), some (.int k), x3, x4, some (.int cell), x6] st = .ret (.int j) st ∧ (j : Int) < many := by
  have vk : ∀ x6, IE (eV 2) [x0, some (.int many), some (.int k), x3, x4, some (.int cell), x6] st 1000000000 := fun x6 => IE.v (by simp) hk hk2
  have a1 := IE.mod (a := e2 pAdd (e2 pAdd (e2 pMul (e2 pMod (eV 5) (eC (.int 2147483629))) (eC (.int 48271))) (e2 pMul (e2 pMul (eC (.int 69621)) (eV 2)) (eV 2))) (eC (.int 104729))) (b := eC (.int 2147483647)) (r := [x0, some (.int many), some (.int k), x3, x4, some (.int cell), x6]) (st := st)
    (IE.ex (IE.add (IE.add (IE.mul (IE.mod ⟨cell, by simp⟩ (eC_ap _ _ _) (by omega)) (IE.c 48271 (by omega)) (by omega) (by omega)) (IE.mul (IE.mul (IE.c 69621 (by omega)) (vk x6) (by omega) (by omega)) (vk x6) (by omega) (by omega))) (IE.c 104729 (by omega)))) (eC_ap _ _ _) (by omega)
  obtain ⟨n1, q1, h3, h4⟩ := a1
  have a2 := IE.mod (a := e2 pMul (eV 6) (e2 pAdd (eC (.int 16807)) (e2 pMul (eC (.int 2)) (eV 2)))) (b := eC (.int 2147483629)) (r := [x0, some (.int many), some (.int k), x3, x4, some (.int cell), some (.int n1)]) (st := st)
    (IE.ex (IE.mul (IE.v (i := 6) (z := n1) (by simp) h3 h4) (IE.add (IE.c 16807 (by omega)) (IE.mul (IE.c 2 (by omega)) (vk _) (by omega) (by omega))) (by omega) (by omega))) (eC_ap _ _ _) (by omega)
  obtain ⟨n2, q2, h5, h6⟩ := a2
  have v6 : IE (eV 6) [x0, some (.int many), some (.int k), x3, x4, some (.int cell), some (.int n2)] st (2147483629 - 1) := IE.v (by simp) h5 h6
  have a3 := IE.mod (a := e2 pFdiv (e2 pMod (e2 pMul (eV 6) (eV 6)) (eC (.int 1000000007))) (eC (.int 7))) (b := eV 1) (r := [x0, some (.int many), some (.int k), x3, x4, some (.int cell), some (.int n2)]) (st := st) (z := many)
    (IE.ex (IE.div (IE.mod (IE.ex (IE.mul v6 v6 (by omega) (by omega))) (eC_ap _ _ _) (by omega)) (by omega) (by omega))) (by simp) h1
  obtain ⟨n3, q3, h7, h8⟩ := a3
  refine ⟨n3.toNat, ?_, by omega⟩
  have : ((n3.toNat : Nat) : Int) = n3 := by omega
  rw [this, drawEnd, sSeq_ap, sSet_ap, q1]
  simp only [tidy_ok, thenS_ok]
  rw [if_pos (by simp)]
  simp only [List.set_cons_succ, List.set_cons_zero, thenS_nx, sSeq_ap, sSet_ap, q2, tidy_ok, thenS_ok]
  rw [if_pos (by simp)]
  simp only [List.set_cons_succ, List.set_cons_zero, thenS_nx, sRet_ap, q3, thenS_ok]
theorem v_draw {sc : List Int} {k : Int} {rs : List Int} {b w : Int} {ex : Sto} {many : Int} (hr : rs.length = sc.length) (hk : 0 ≤ k) (hk2 : k ≤ 1000000000) (h1 : 0 < many) (h2 : many < 1000000) :
    ∃ (j : Nat) (rs' : List Int), f__law_draw [.loc 0, .int many] (mS sc k rs b w ++ ex) = .ok (.int j) (mS sc (k + 1) rs' b w ++ ex) ∧ (j : Int) < many ∧ rs'.length = sc.length := by
  have hat := m_at sc k rs b w ex
  have sat := s_at sc k rs b w ex (k + 1)
  have mscr := m_script sc (k + 1) rs b w ex
  have mrest := m_rest sc (k + 1) rs b w ex
  have mrestE := m_rest sc (k + 1) rs b w (ex ++ [.lst []])
  have mr1 := mS_1 sc (k + 1) rs b w ex
  rw [← List.append_assoc] at mrestE
  have ebr : pNe (.loc 1) (.loc (mS sc (k + 1) rs b w ++ ex).length) ((mS sc (k + 1) rs b w ++ ex) ++ [.lst []]) = .ok (.bl (!rs.isEmpty)) ((mS sc (k + 1) rs b w ++ ex) ++ [.lst []]) := by
    rw [pNe_lst_nil (n := 0) (by omega) (lstAt_app mr1) (smL_ints 0 rs) (lst_end _ _)]
    cases rs <;> rfl
  have ebs : pNe (.lstv (sc.map .int)) (.loc (mS sc (k + 1) rs b w ++ ex).length) ((mS sc (k + 1) rs b w ++ ex) ++ [.lst []]) = .ok (.bl (!sc.isEmpty)) ((mS sc (k + 1) rs b w ++ ex) ++ [.lst []]) := pNe_lstv_nil (lst_end _ _)
  have go : ∀ cell : Int, ∃ j : Nat, drawEnd [some (.loc 0), some (.int many), some (.int k), some (.lstv (sc.map .int)), some (.int 0), some (.int cell), none] (mS sc (k + 1) rs b w ++ ex) = .ret (.int j) (mS sc (k + 1) rs b w ++ ex) ∧ (j : Int) < many := fun cell => v_drawEnd hk hk2 h1
  have hlen : (mS sc (k + 1) rs b w ++ ex).length = (mS sc k rs b w ++ ex).length := by simp [mS]
  by_cases hs : sc = []
  · have hrs : rs = [] := List.eq_nil_of_length_eq_zero (by rw [hr, hs]; rfl)
    obtain ⟨j, hj, hl⟩ := go 0
    refine ⟨j, rs, ?_, hl, hr⟩
    rw [f__law_draw, runF_ap _ (show ([.loc 0, .int many] : List D).length = 2 from rfl), m__law_draw, ← drawEnd]
    generalize drawEnd = dE at hj
    generalize mS sc (k + 1) rs b w ++ ex = S1 at *
    generalize mS sc k rs b w ++ ex = S0 at *
    have q1 : rs.isEmpty = true := by rw [hrs]; rfl
    have q2 : sc.isEmpty = true := by rw [hs]; rfl
    have tl : ∀ d, tidy S0 (.ok d S1) = .ok d S1 := fun d => tidy_len S0 d (Nat.le_of_eq hlen)
    simp [startE, hat, sat, mscr, mrest, ebr, ebs, q1, q2, hj, tl]
  · have hpos : 0 < sc.length := List.length_pos_iff.mpr hs
    have q1 : rs.isEmpty = false := by cases rs with
      | nil => simp at hr; omega
      | cons _ _ => rfl
    have q2 : sc.isEmpty = false := by cases sc with
      | nil => exact absurd rfl hs
      | cons _ _ => rfl
    have e0 := Int.emod_nonneg k (show (sc.length : Int) ≠ 0 by omega)
    have e1 := Int.emod_lt_of_pos k (show (0 : Int) < sc.length by omega)
    obtain ⟨i, hi⟩ : ∃ i : Nat, (i : Int) = k % sc.length := ⟨(k % sc.length).toNat, by omega⟩
    have him : ∀ st, pMod (.int k) (.int sc.length) st = .ok (.int i) st := fun st => by rw [pMod_int (by omega), hi]
    have hir : i < rs.length := by omega
    have his : i < sc.length := by omega
    have ixr : ∀ js, pIx (.loc 1) (.int i) ((mS sc (k + 1) rs b w ++ ex) ++ js) = .ok (.int (rs[i])) ((mS sc (k + 1) rs b w ++ ex) ++ js) := fun js => pIx_lst (lstAt_app mr1) (atI_nat (by simp [hir]))
    have ixs : ∀ st, pIx (.lstv (sc.map .int)) (.int i) st = .ok (.int (sc[i])) st := fun st => pIx_lstv (atI_nat (by simp [his]))
    have srest := s_rest sc (k + 1) rs b w ex (i := i) (rs[i] / many) hir
    have hlen2 : (mS sc (k + 1) (rs.set i (rs[i] / many)) b w ++ ex).length = (mS sc k rs b w ++ ex).length := by simp [mS]
    have lns : ∀ st, bLen [.lstv (sc.map .int)] st = .ok (.int sc.length) st := fun st => by simp
    by_cases hleft : 0 < rs[i]
    · have f1 := Int.emod_nonneg (rs[i]) (show many ≠ 0 by omega)
      have f2 := Int.emod_lt_of_pos (rs[i]) h1
      refine ⟨(rs[i] % many).toNat, rs.set i (rs[i] / many), ?_, by omega, by simp [hr]⟩
      have hz : (((rs[i] % many).toNat : Nat) : Int) = rs[i] % many := by omega
      rw [hz, f__law_draw, runF_ap _ (show ([.loc 0, .int many] : List D).length = 2 from rfl), m__law_draw, ← drawEnd]
      generalize drawEnd = dE
      generalize mS sc (k + 1) (rs.set i (rs[i] / many)) b w ++ ex = S2 at *
      generalize mS sc (k + 1) rs b w ++ ex = S1 at *
      generalize mS sc k rs b w ++ ex = S0 at *
      generalize hqq : rs[i] = v at *
      have tl : ∀ d, tidy S0 (.ok d S2) = .ok d S2 := fun d => tidy_len S0 d (Nat.le_of_eq hlen2)
      simp [startE, hat, sat, mscr, mrest, mrestE, ebr, ebs, q1, q2, tl, him, ixr, srest, hleft, pMod_int h1, pFdiv_int h1 (show many < 1073741824 by omega)]
    · obtain ⟨j, hj, hl⟩ := v_drawEnd (cell := sc[i]) (x0 := some (.loc 0)) (x3 := some (.lstv (sc.map .int))) (x4 := some (.int (rs[i]))) (x6 := none) (st := mS sc (k + 1) rs b w ++ ex) hk hk2 h1
      refine ⟨j, rs, ?_, hl, hr⟩
      rw [f__law_draw, runF_ap _ (show ([.loc 0, .int many] : List D).length = 2 from rfl), m__law_draw, ← drawEnd]
      generalize drawEnd = dE at hj
      generalize mS sc (k + 1) rs b w ++ ex = S1 at *
      generalize mS sc k rs b w ++ ex = S0 at *
      generalize hqq : rs[i] = v at *
      have tl : ∀ d, tidy S0 (.ok d S1) = .ok d S1 := fun d => tidy_len S0 d (Nat.le_of_eq hlen)
      simp [startE, hat, sat, mscr, mrest, mrestE, ebr, ebs, q1, q2, tl, him, ixr, ixs, hleft, hj]

theorem v_of {sc : List Int} {k : Int} {rs : List Int} {b w : Int} {ex : Sto} {p : Nat} {xs : List D} (hr : rs.length = sc.length) (hk : 0 ≤ k) (hk2 : k ≤ 1000000000) (hx : xs ≠ []) (hx2 : xs.length < 1000000)
    (hp : ∀ k rs, lstAt (mS sc k rs b w ++ ex) p = some xs) : ∃ (j : Nat) (rs' : List Int) (d : D), f__law_of [.loc 0, .loc p] (mS sc k rs b w ++ ex) = .ok d (mS sc (k + 1) rs' b w ++ ex) ∧ xs[j]? = some d ∧ rs'.length = sc.length := by
  have hl := List.length_pos_iff.mpr hx
  obtain ⟨j, rs', e, h1, h2⟩ := v_draw (b := b) (w := w) (ex := ex) hr hk hk2 (show (0 : Int) < xs.length by omega) (show (xs.length : Int) < 1000000 by omega)
  have hj : j < xs.length := by omega
  refine ⟨j, rs', xs[j], ?_, List.getElem?_eq_getElem hj, h2⟩
  have key : ∀ fD : List D → Sto → Res D, fD [.loc 0, .int xs.length] (mS sc k rs b w ++ ex) = .ok (.int j) (mS sc (k + 1) rs' b w ++ ex) → runF 2 2 (mm__law_of fD) [.loc 0, .loc p] (mS sc k rs b w ++ ex) = .ok xs[j] (mS sc (k + 1) rs' b w ++ ex) := by
    intro fD e
    have hp1 := hp k rs
    have hlen : (mS sc (k + 1) rs' b w ++ ex).length = (mS sc k rs b w ++ ex).length := by simp [mS]
    have ix : pIx (.loc p) (.int j) (mS sc (k + 1) rs' b w ++ ex) = .ok xs[j] (mS sc (k + 1) rs' b w ++ ex) := pIx_lst (hp (k + 1) rs') (atI_nat (List.getElem?_eq_getElem hj))
    generalize mS sc (k + 1) rs' b w ++ ex = S1 at *
    generalize mS sc k rs b w ++ ex = S0 at *
    have tl : ∀ d, tidy S0 (.ok d S1) = .ok d S1 := fun d => tidy_len S0 d (Nat.le_of_eq hlen)
    simp [mm__law_of, runF_ap, startE, bLen_loc hp1, e, ix, tl]
  exact key _ e
def webIn (fD : List D → Sto → Res D) : SM := sSeq (sSet 8 (eN fD (aCons (eV 0) (aCons (e2 pAdd (eV 3) (eC (.int 1))) aNil)))) (sExp (eMt isLstD mAppend (eV 6) (aCons (eIf (tB (e2 pLt (eV 8) (eV 3))) (eV 8) (eC .non)) aNil)))
def webRow (fD : List D → Sto → Res D) : SM := sSeq (sSet 6 (eN mkLst aNil)) (sSeq (sFor (gV 7) (iFn iRange1 (aCons (eN fD (aCons (eV 0) (aCons (eV 2) aNil))) aNil)) (webIn fD)) (sExp (eMt isLstD mAppend (eV 4) (aCons (eN bTuple (aCons (eV 6) aNil)) aNil))))
def envG (most t n : Int) (L : Nat) (x5 x6 x7 x8 : Option D) : Env := [some (.loc 0), some (.int most), some (.int t), some (.int n), some (.loc L), x5, x6, x7, x8]
section
variable {sc : List Int} {b w : Int} {ex : Sto} {fD : List D → Sto → Res D}
theorem v_webIn (hD : DrawOk sc b w fD) {k : Int} {rs : List Int} {most t : Int} {n M L : Nat} {B : Sto} {row : List Tie} {x5 x7 x8 : Option D} {T : Nat} (hr : rs.length = sc.length) (hk : 0 ≤ k) (hk2 : k ≤ 900000000) (hn : n ≤ 60) (hM : M = 2 + B.length) (hrow : RowOk n T row) (hT : T ≤ 100) :
    ∃ (rs' : List Int) (x8' : Option D) (tie : Tie), webIn fD (envG most t n L x5 (some (.loc M)) x7 x8) (mS sc k rs b w ++ (B ++ [.lst (row.map eTie)])) = .nx (envG most t n L x5 (some (.loc M)) x7 x8') (mS sc (k + 1) rs' b w ++ (B ++ [.lst ((row ++ [tie]).map eTie)])) ∧ rs'.length = sc.length ∧ (∀ m, tie = some m → m < n) := by
  obtain ⟨j, rs', e, h1, h2⟩ := hD k rs (B ++ [.lst (row.map eTie)]) ((n : Int) + 1) hr hk (by omega) (by omega) (by omega)
  have hM' : M = (mS sc (k + 1) rs' b w ++ B).length := by rw [mS_app]; exact hM
  have tl : ∀ d, tidy (mS sc k rs b w ++ (B ++ [.lst (row.map eTie)])) (.ok d (mS sc (k + 1) rs' b w ++ (B ++ [.lst (row.map eTie)]))) = .ok d (mS sc (k + 1) rs' b w ++ (B ++ [.lst (row.map eTie)])) := fun d => tidy_len _ _ (by simp)
  have ap : ∀ y, mAppend (.loc M) [y] (mS sc (k + 1) rs' b w ++ (B ++ [.lst (row.map eTie)])) = .ok .non (mS sc (k + 1) rs' b w ++ (B ++ [.lst (row.map eTie ++ [y])])) := fun y => by
    rw [← List.append_assoc, ap_mid hM' (by simp [LINE_eq]; have := hrow.1; omega), List.append_assoc]
  have il : isLstD (.loc M) (mS sc (k + 1) rs' b w ++ (B ++ [.lst (row.map eTie)])) = true := by rw [← List.append_assoc]; exact is_mid hM'
  have tl2 : ∀ y, tidy (mS sc (k + 1) rs' b w ++ (B ++ [.lst (row.map eTie)])) (.ok .non (mS sc (k + 1) rs' b w ++ (B ++ [.lst (row.map eTie ++ [y])]))) = .ok .non (mS sc (k + 1) rs' b w ++ (B ++ [.lst (row.map eTie ++ [y])])) := fun d => tidy_len _ _ (by simp)
  by_cases hj : (j : Int) < n
  · refine ⟨rs', some (.int j), some j, ?_, h2, fun m hm => by cases hm; omega⟩
    rw [List.map_append]
    generalize mS sc k rs b w ++ (B ++ [.lst (row.map eTie)]) = S0 at *
    generalize hS1 : mS sc (k + 1) rs' b w ++ (B ++ [.lst (row.map eTie)]) = S1 at *
    simp only [webIn, envG, sSeq_ap, sSet_ap, eN_ap, aCons_ap, aNil_ap, eV_ap, eC_ap, e2_ap, List.getElem?_cons_zero, List.getElem?_cons_succ, Res.bind_ok, pAdd_int, e, tl, thenS_ok]
    rw [if_pos (by simp)]
    simp only [List.set_cons_succ, List.set_cons_zero, thenS_nx, sExp_ap, eMt_ap, eV_ap, List.getElem?_cons_zero, List.getElem?_cons_succ, Res.bind_ok, il, if_true, aCons_ap, aNil_ap, eIf_ap, tB_ap, e2_ap, pLt_int, isBl_bl, decide_eq_true hj, ap, tl2, thenS_ok]
    rfl
  · refine ⟨rs', some (.int j), none, ?_, h2, fun m hm => by cases hm⟩
    rw [List.map_append]
    generalize mS sc k rs b w ++ (B ++ [.lst (row.map eTie)]) = S0 at *
    generalize hS1 : mS sc (k + 1) rs' b w ++ (B ++ [.lst (row.map eTie)]) = S1 at *
    simp only [webIn, envG, sSeq_ap, sSet_ap, eN_ap, aCons_ap, aNil_ap, eV_ap, eC_ap, e2_ap, List.getElem?_cons_zero, List.getElem?_cons_succ, Res.bind_ok, pAdd_int, e, tl, thenS_ok]
    rw [if_pos (by simp)]
    simp only [List.set_cons_succ, List.set_cons_zero, thenS_nx, sExp_ap, eMt_ap, eV_ap, eC_ap, List.getElem?_cons_zero, List.getElem?_cons_succ, Res.bind_ok, il, if_true, aCons_ap, aNil_ap, eIf_ap, tB_ap, e2_ap, pLt_int, isBl_bl, decide_eq_false hj, Bool.false_eq_true, if_false, ap, tl2, thenS_ok]
    rfl
theorem v_webRow (hD : DrawOk sc b w fD) {k : Int} {rs : List Int} {most t : Int} {n L : Nat} {cells : Sto} {rows : Web} {x5 x6 x7 x8 : Option D} (hr : rs.length = sc.length) (hk : 0 ≤ k) (hk2 : k ≤ 800000000) (hn : n ≤ 60) (ht : 0 < t) (ht2 : t ≤ 100) (hL : L = 2 + ex.length) (hrl : rows.length ≤ 60) :
    ∃ (k' : Int) (rs' : List Int) (x6' x7' x8' : Option D) (row : List Tie) (cells' : Sto), webRow fD (envG most t n L x5 x6 x7 x8) (mS sc k rs b w ++ (ex ++ .lst (rows.map eRow) :: cells)) = .nx (envG most t n L x5 x6' x7' x8') (mS sc k' rs' b w ++ (ex ++ .lst ((rows ++ [row]).map eRow) :: cells')) ∧
      rs'.length = sc.length ∧ k ≤ k' ∧ k' ≤ k + 1 + t ∧ RowOk n (t.toNat - 1) row := by
  have hB : ex ++ .lst (rows.map eRow) :: cells = ex ++ (.lst (rows.map eRow) :: cells) := rfl
  obtain ⟨j, rs1, e, h1, h2⟩ := hD k rs ((ex ++ .lst (rows.map eRow) :: cells) ++ [.lst []]) t hr hk (by omega) ht (by omega)
  have hM : (mS sc k rs b w ++ (ex ++ .lst (rows.map eRow) :: cells)).length = 2 + (ex ++ .lst (rows.map eRow) :: cells).length := (mS_app ..)
  have hr1 : iFn iRange1 (aCons (eN fD (aCons (eV 0) (aCons (eV 2) aNil))) aNil) (envG most t n L x5 (some (.loc (2 + (ex ++ .lst (rows.map eRow) :: cells).length))) x7 x8) (mS sc k rs b w ++ ((ex ++ .lst (rows.map eRow) :: cells) ++ [.lst []])) = .ok ⟨rangeD 0 j, []⟩ (mS sc (k + 1) rs1 b w ++ ((ex ++ .lst (rows.map eRow) :: cells) ++ [.lst []])) := by
    have := iFn_r1 (as := aCons (eN fD (aCons (eV 0) (aCons (eV 2) aNil))) aNil) (r := envG most t n L x5 (some (.loc (2 + (ex ++ .lst (rows.map eRow) :: cells).length))) x7 x8) (b := (j : Int)) (st := mS sc k rs b w ++ ((ex ++ .lst (rows.map eRow) :: cells) ++ [.lst []])) (st' := mS sc (k + 1) rs1 b w ++ ((ex ++ .lst (rows.map eRow) :: cells) ++ [.lst []])) (by simp only [aCons_ap, aNil_ap, eN_ap, eV_ap, envG, List.getElem?_cons_zero, List.getElem?_cons_succ, Res.bind_ok, e]) (by omega) (by omega)
    simpa using this
  obtain ⟨r', st', e2, row, k2, rs2, x7', x8', hlen, hk3, hk4, hrs2, hrow, rfl, rfl⟩ := forL_inv (hs := []) (g := gV 7) (b := webIn fD) (xs := rangeD 0 j)
    (fun i r st => ∃ (row : List Tie) (k2 : Int) (rs2 : List Int) (x7' x8' : Option D), row.length = i ∧ k + 1 ≤ k2 ∧ k2 ≤ k + 1 + i ∧ rs2.length = sc.length ∧ (∀ x ∈ row, ∀ m, x = some m → m < n) ∧
      r = envG most t n L x5 (some (.loc (2 + (ex ++ .lst (rows.map eRow) :: cells).length))) x7' x8' ∧ st = mS sc k2 rs2 b w ++ ((ex ++ .lst (rows.map eRow) :: cells) ++ [.lst (row.map eTie)]))
    (r := envG most t n L x5 (some (.loc (2 + (ex ++ .lst (rows.map eRow) :: cells).length))) x7 x8) (st := mS sc (k + 1) rs1 b w ++ ((ex ++ .lst (rows.map eRow) :: cells) ++ [.lst []]))
    ⟨[], k + 1, rs1, x7, x8, rfl, by omega, by omega, h2, by simp, rfl, rfl⟩ (fun _ _ _ _ _ => rfl) (by
      rintro i r st x hx ⟨row, k2, rs2, x7', x8', hlen, hk3, hk4, hrs2, hrow, rfl, rfl⟩
      have hij : i < j := by have := (List.getElem?_eq_some_iff.mp hx).1; simpa [rangeD] using this
      obtain ⟨rs3, x8'', tie, e3, h3, h4⟩ := v_webIn hD (k := k2) (rs := rs2) (most := most) (t := t) (n := n) (M := 2 + (ex ++ .lst (rows.map eRow) :: cells).length) (L := L) (B := ex ++ .lst (rows.map eRow) :: cells) (row := row) (x5 := x5) (x7 := some x) (x8 := x8') (T := 100) hrs2 (by omega) (by omega) hn rfl ⟨by omega, hrow⟩ (by omega)
      refine ⟨envG most t n L x5 (some (.loc (2 + (ex ++ .lst (rows.map eRow) :: cells).length))) (some x) x8', _, _, _, by simp only [gV_ap]; rw [if_pos (by simp [envG])]; rfl, e3, row ++ [tie], k2 + 1, rs3, some x, x8'', by simp [hlen], by omega, by omega, h3, ?_, rfl, rfl⟩
      intro y hy m hm
      rcases List.mem_append.mp hy with hy | hy
      · exact hrow y hy m hm
      · simp at hy; subst hy; exact h4 m hm)
  have hjl : (rangeD 0 j).length = j := rangeD_len 0 j
  rw [hjl] at hlen hk4
  have hA : L = (mS sc k2 rs2 b w ++ ex).length := by rw [mS_app]; exact hL
  have hAM : 2 + (ex ++ Cell.lst (rows.map eRow) :: cells).length = (mS sc k2 rs2 b w ++ (ex ++ .lst (rows.map eRow) :: cells)).length := (mS_app ..).symm
  refine ⟨k2, rs2, some (.loc (2 + (ex ++ .lst (rows.map eRow) :: cells).length)), x7', x8', row, cells ++ [.lst (row.map eTie)], ?_, hrs2, by omega, by omega, by omega, hrow⟩
  have tp : bTuple [.loc (2 + (ex ++ Cell.lst (rows.map eRow) :: cells).length)] (mS sc k2 rs2 b w ++ ((ex ++ .lst (rows.map eRow) :: cells) ++ [.lst (row.map eTie)])) = .ok (eRow row) (mS sc k2 rs2 b w ++ ((ex ++ .lst (rows.map eRow) :: cells) ++ [.lst (row.map eTie)])) := by
    rw [← List.append_assoc]; exact tup_mid hAM
  have sh : mS sc k2 rs2 b w ++ ((ex ++ Cell.lst (rows.map eRow) :: cells) ++ [.lst (row.map eTie)]) = (mS sc k2 rs2 b w ++ ex) ++ .lst (rows.map eRow) :: (cells ++ [.lst (row.map eTie)]) := by simp
  have ap : mAppend (.loc L) [eRow row] (mS sc k2 rs2 b w ++ ((ex ++ .lst (rows.map eRow) :: cells) ++ [.lst (row.map eTie)])) = .ok .non (mS sc k2 rs2 b w ++ (ex ++ .lst ((rows ++ [row]).map eRow) :: (cells ++ [.lst (row.map eTie)]))) := by
    rw [sh, ap_mid hA (by simp [LINE_eq]; omega)]
    simp
  have il : isLstD (.loc L) (mS sc k2 rs2 b w ++ ((ex ++ .lst (rows.map eRow) :: cells) ++ [.lst (row.map eTie)])) = true := by rw [sh]; exact is_mid hA
  have tl : tidy (mS sc k2 rs2 b w ++ ((ex ++ Cell.lst (rows.map eRow) :: cells) ++ [.lst (row.map eTie)])) (.ok .non (mS sc k2 rs2 b w ++ (ex ++ .lst ((rows ++ [row]).map eRow) :: (cells ++ [.lst (row.map eTie)])))) = .ok .non (mS sc k2 rs2 b w ++ (ex ++ .lst ((rows ++ [row]).map eRow) :: (cells ++ [.lst (row.map eTie)]))) := tidy_len _ _ (by simp)
  have tn : tidy (mS sc k rs b w ++ (ex ++ .lst (rows.map eRow) :: cells)) (.ok (.loc (mS sc k rs b w ++ (ex ++ .lst (rows.map eRow) :: cells)).length) ((mS sc k rs b w ++ (ex ++ .lst (rows.map eRow) :: cells)) ++ [.lst []])) = .ok (.loc (2 + (ex ++ .lst (rows.map eRow) :: cells).length)) (mS sc k rs b w ++ ((ex ++ .lst (rows.map eRow) :: cells) ++ [.lst []])) := by
    rw [tidy_new0, hM, List.append_assoc]
  have hst : (envG most t n L x5 x6 x7 x8).set 6 (some (.loc (2 + (ex ++ Cell.lst (rows.map eRow) :: cells).length))) = envG most t n L x5 (some (.loc (2 + (ex ++ .lst (rows.map eRow) :: cells).length))) x7 x8 := rfl
  rw [webRow, sSeq_ap, sSet_ap, eN_ap, aNil_ap, Res.bind_ok, mkLst_nil, tn, thenS_ok, if_pos (by simp [envG]), thenS_nx, hst, sSeq_ap, sFor_ap, hr1, thenS_ok, e2, thenS_nx, sExp_ap, eMt_ap]
  have e4 : eV 4 (envG most t n L x5 (some (.loc (2 + (ex ++ Cell.lst (rows.map eRow) :: cells).length))) x7' x8') (mS sc k2 rs2 b w ++ ((ex ++ .lst (rows.map eRow) :: cells) ++ [.lst (row.map eTie)])) = .ok (.loc L) (mS sc k2 rs2 b w ++ ((ex ++ .lst (rows.map eRow) :: cells) ++ [.lst (row.map eTie)])) := rfl
  have e6 : eV 6 (envG most t n L x5 (some (.loc (2 + (ex ++ Cell.lst (rows.map eRow) :: cells).length))) x7' x8') (mS sc k2 rs2 b w ++ ((ex ++ .lst (rows.map eRow) :: cells) ++ [.lst (row.map eTie)])) = .ok (.loc (2 + (ex ++ Cell.lst (rows.map eRow) :: cells).length)) (mS sc k2 rs2 b w ++ ((ex ++ .lst (rows.map eRow) :: cells) ++ [.lst (row.map eTie)])) := rfl
  rw [e4]
  simp only [Res.bind_ok, il, if_true, aCons_ap, aNil_ap, eN_ap, e6, tp, ap, tl, thenS_ok]
end
section
variable {sc : List Int} {b w : Int} {ex : Sto}
theorem v_web {fD : List D → Sto → Res D} (hD : DrawOk sc b w fD) (hex : ex.all (Cell.under (2 + ex.length)) = true) {k : Int} {rs : List Int} {most t : Int} (hr : rs.length = sc.length) (hk : 0 ≤ k) (hk2 : k ≤ 500000000) (hm : 0 < most) (hm2 : most ≤ 60) (ht : 0 < t) (ht2 : t ≤ 100) :
    ∃ (k' : Int) (rs' : List Int) (web : Web), runF 3 9 (mm__law_web fD) [.loc 0, .int most, .int t] (mS sc k rs b w ++ ex) = .ok (eWeb web) (mS sc k' rs' b w ++ ex) ∧ rs'.length = sc.length ∧ k ≤ k' ∧ k' ≤ k + 10000 ∧
      1 ≤ web.length ∧ (web.length : Int) ≤ most ∧ ∀ row ∈ web, RowOk web.length (t.toNat - 1) row := by
  obtain ⟨j, rs1, e, h1, h2⟩ := hD k rs ex most hr hk (by omega) hm (by omega)
  have hn : ((1 : Int) + j) = ((1 + j : Nat) : Int) := by omega
  have t1 : tidy (mS sc k rs b w ++ ex) (.ok (.int ((1 + j : Nat) : Int)) (mS sc (k + 1) rs1 b w ++ ex)) = .ok (.int ((1 + j : Nat) : Int)) (mS sc (k + 1) rs1 b w ++ ex) := tidy_len _ _ (by simp)
  have hL : (mS sc (k + 1) rs1 b w ++ ex).length = 2 + ex.length := mS_app ..
  have t2 : tidy (mS sc (k + 1) rs1 b w ++ ex) (.ok (.loc (mS sc (k + 1) rs1 b w ++ ex).length) ((mS sc (k + 1) rs1 b w ++ ex) ++ [.lst []])) = .ok (.loc (2 + ex.length)) (mS sc (k + 1) rs1 b w ++ (ex ++ [.lst []])) := by
    rw [tidy_new0, hL, List.append_assoc]
  have hit : iFn iRange1 (aCons (eV 3) aNil) (envG most t ((1 + j : Nat) : Int) (2 + ex.length) none none none none) (mS sc (k + 1) rs1 b w ++ (ex ++ [.lst []])) = .ok ⟨rangeD 0 (1 + j), []⟩ (mS sc (k + 1) rs1 b w ++ (ex ++ [.lst []])) := by
    have := iFn_r1 (as := aCons (eV 3) aNil) (r := envG most t ((1 + j : Nat) : Int) (2 + ex.length) none none none none) (b := ((1 + j : Nat) : Int)) (st := mS sc (k + 1) rs1 b w ++ (ex ++ [.lst []])) (st' := mS sc (k + 1) rs1 b w ++ (ex ++ [.lst []])) rfl (by omega) (by omega)
    rwa [Int.toNat_natCast] at this
  obtain ⟨r', st', eL, rows, k2, rs2, x5, x6, x7, x8, cells, hlen, hk3, hk4, hrs2, hrow, rfl, rfl⟩ := forL_inv (hs := []) (g := gV 5) (b := webRow fD) (xs := rangeD 0 (1 + j))
    (fun i r st => ∃ (rows : Web) (k2 : Int) (rs2 : List Int) (x5 x6 x7 x8 : Option D) (cells : Sto), rows.length = i ∧ k + 1 ≤ k2 ∧ k2 ≤ k + 1 + 101 * i ∧ rs2.length = sc.length ∧ (∀ row ∈ rows, RowOk (1 + j) (t.toNat - 1) row) ∧
      r = envG most t ((1 + j : Nat) : Int) (2 + ex.length) x5 x6 x7 x8 ∧ st = mS sc k2 rs2 b w ++ (ex ++ .lst (rows.map eRow) :: cells))
    (r := envG most t ((1 + j : Nat) : Int) (2 + ex.length) none none none none) (st := mS sc (k + 1) rs1 b w ++ (ex ++ [.lst []]))
    ⟨[], k + 1, rs1, none, none, none, none, [], rfl, by omega, by omega, h2, by simp, rfl, rfl⟩ (fun _ _ _ _ _ => rfl) (by
      rintro i r st x hx ⟨rows, k2, rs2, x5, x6, x7, x8, cells, hlen, hk3, hk4, hrs2, hrow, rfl, rfl⟩
      have hij : i < 1 + j := by have := (List.getElem?_eq_some_iff.mp hx).1; simpa [rangeD] using this
      obtain ⟨k3, rs3, x6', x7', x8', row, cells', e3, h3, h4, h5, h6⟩ := v_webRow (ex := ex) hD (k := k2) (rs := rs2) (most := most) (t := t) (n := 1 + j) (L := 2 + ex.length) (cells := cells) (rows := rows) (x5 := some x) (x6 := x6) (x7 := x7) (x8 := x8) hrs2 (by omega) (by omega) (by omega) ht ht2 rfl (by omega)
      refine ⟨envG most t ((1 + j : Nat) : Int) (2 + ex.length) (some x) x6 x7 x8, _, _, _, by simp only [gV_ap]; rw [if_pos (by simp [envG])]; rfl, e3, rows ++ [row], k3, rs3, some x, x6', x7', x8', cells', by simp [hlen], by omega, by omega, h3, ?_, rfl, rfl⟩
      intro y hy
      rcases List.mem_append.mp hy with hy | hy
      · exact hrow y hy
      · simp at hy; subst hy; exact h6)
  have hjl : (rangeD 0 (1 + j)).length = 1 + j := rangeD_len 0 _
  rw [hjl] at hlen hk4
  have hA : 2 + ex.length = (mS sc k2 rs2 b w ++ ex).length := (mS_app ..).symm
  have tp : bTuple [.loc (2 + ex.length)] (mS sc k2 rs2 b w ++ (ex ++ .lst (rows.map eRow) :: cells)) = .ok (eWeb rows) (mS sc k2 rs2 b w ++ (ex ++ .lst (rows.map eRow) :: cells)) := by
    rw [← List.append_assoc]; exact tup_mid hA
  refine ⟨k2, rs2, rows, ?_, hrs2, by omega, by omega, by omega, by omega, ?_⟩
  · have hst0 : startE 9 [.loc 0, .int most, .int t] = [some (.loc 0), some (.int most), some (.int t), none, none, none, none, none, none] := rfl
    have hst1 : (([some (.loc 0), some (.int most), some (.int t), none, none, none, none, none, none].set 3 (some (.int ((1 + j : Nat) : Int)))).set 4 (some (.loc (2 + ex.length))) : Env) = envG most t ((1 + j : Nat) : Int) (2 + ex.length) none none none none := rfl
    have x1 : (e2 pAdd (eC (.int 1)) (eN fD (aCons (eV 0) (aCons (eV 1) aNil)))) [some (.loc 0), some (.int most), some (.int t), none, none, none, none, none, none] (mS sc k rs b w ++ ex) = .ok (.int ((1 + j : Nat) : Int)) (mS sc (k + 1) rs1 b w ++ ex) := by
      simp only [e2_ap, eC_ap, eN_ap, aCons_ap, aNil_ap, eV_ap, List.getElem?_cons_zero, List.getElem?_cons_succ, Res.bind_ok, e, pAdd_int, hn]
    rw [runF_ap _ (show ([.loc 0, .int most, .int t] : List D).length = 3 from rfl), hst0]
    show tidy _ (sSeq (sSet 3 (e2 pAdd (eC (.int 1)) (eN fD (aCons (eV 0) (aCons (eV 1) aNil))))) (sSeq (sSet 4 (eN mkLst aNil)) (sSeq (sFor (gV 5) (iFn iRange1 (aCons (eV 3) aNil)) (webRow fD)) (sRet (eN bTuple (aCons (eV 4) aNil))))) _ _).end = _
    rw [sSeq_ap, sSet_ap, x1, t1, thenS_ok, if_pos (by simp), thenS_nx, sSeq_ap, sSet_ap, eN_ap, aNil_ap, Res.bind_ok, mkLst_nil, t2, thenS_ok, if_pos (by simp), thenS_nx, hst1, sSeq_ap, sFor_ap, hit, thenS_ok, eL, thenS_nx]
    have e4 : eV 4 (envG most t ((1 + j : Nat) : Int) (2 + ex.length) x5 x6 x7 x8) (mS sc k2 rs2 b w ++ (ex ++ .lst (rows.map eRow) :: cells)) = .ok (.loc (2 + ex.length)) (mS sc k2 rs2 b w ++ (ex ++ .lst (rows.map eRow) :: cells)) := rfl
    rw [sRet_ap, eN_ap, aCons_ap, e4]
    simp only [Res.bind_ok, aNil_ap, tp, thenS_ok, end_ret]
    exact tidy_mS hex (und_eWeb _ _)
  · rw [hlen]; exact hrow
end
end TB.K20

end

/-! ## K20D -/
section
set_option linter.all false
set_option autoImplicit false
set_option maxRecDepth 100000
namespace TB.K20
open PySem

section
variable {sc : List Int} {b w : Int} {ex : Sto}
def envR (web : D) (most : Int) (L : Nat) (x4 : Option D) : Env := [some (.loc 0), some web, some (.int most), some (.loc L), x4]
theorem v_roots {fD : List D → Sto → Res D} (hD : DrawOk sc b w fD) (hex : ex.all (Cell.under (2 + ex.length)) = true) {k : Int} {rs : List Int} {most : Nat} {web : Web} (hr : rs.length = sc.length) (hk : 0 ≤ k) (hk2 : k ≤ 500000000) (hm : 0 < most) (hm2 : most ≤ 60) (hw : 0 < web.length) (hw2 : web.length ≤ 60) :
    ∃ (k' : Int) (rs' : List Int) (roots : List Nat), runF 3 5 (mm__law_roots fD) [.loc 0, eWeb web, .int most] (mS sc k rs b w ++ ex) = .ok (.ptup (iL roots)) (mS sc k' rs' b w ++ ex) ∧ rs'.length = sc.length ∧ k ≤ k' ∧ k' ≤ k + 100 ∧
      1 ≤ roots.length ∧ roots.length ≤ most ∧ roots.Nodup ∧ ∀ r ∈ roots, r < web.length := by
  have hmin : (0 : Int) < (min most web.length : Nat) := by omega
  have bmin : ∀ st, bMin [.int most, .int web.length] st = .ok (.int (min most web.length : Nat)) st := fun st => by
    simp only [bMin]
    congr 2
    split <;> omega
  obtain ⟨c, rs1, e, h1, h2⟩ := hD k rs (ex ++ [Cell.lst (iL (List.range web.length))]) _ hr hk (by omega) hmin (by omega)
  have hL : (mS sc k rs b w ++ ex).length = 2 + ex.length := mS_app ..
  have hrgD : rangeD 0 web.length = iL (List.range web.length) := by
    simp only [rangeD, iL]
    refine List.map_congr_left fun i _ => ?_
    rw [Int.zero_add]
  have blr : bListRg (.int web.length) (mS sc k rs b w ++ ex) = .ok (.loc (2 + ex.length)) (mS sc k rs b w ++ (ex ++ [Cell.lst (iL (List.range web.length))])) := by
    simp only [bListRg]
    rw [if_pos ⟨by simp [LINE_eq] <;> omega, by simp [LINE_eq] <;> omega⟩, hL, Int.toNat_natCast, hrgD, List.append_assoc]
  have t1 : tidy (mS sc k rs b w ++ ex) (.ok (.loc (2 + ex.length)) (mS sc k rs b w ++ (ex ++ [Cell.lst (iL (List.range web.length))]))) = .ok (.loc (2 + ex.length)) (mS sc k rs b w ++ (ex ++ [Cell.lst (iL (List.range web.length))])) := by
    rw [← List.append_assoc, ← hL]; exact tidy_new0 _ _
  have hit : iFn iRange1 (aCons (e2 pAdd (eC (.int 1)) (eN fD (aCons (eV 0) (aCons (eN bMin (aCons (eV 2) (aCons (eN bLen (aCons (eV 1) aNil)) aNil))) aNil)))) aNil) (envR (eWeb web) most (2 + ex.length) none) (mS sc k rs b w ++ (ex ++ [Cell.lst (iL (List.range web.length))])) = .ok ⟨rangeD 0 (1 + c), []⟩ (mS sc (k + 1) rs1 b w ++ (ex ++ [Cell.lst (iL (List.range web.length))])) := by
    have := iFn_r1 (as := aCons (e2 pAdd (eC (.int 1)) (eN fD (aCons (eV 0) (aCons (eN bMin (aCons (eV 2) (aCons (eN bLen (aCons (eV 1) aNil)) aNil))) aNil)))) aNil) (r := envR (eWeb web) most (2 + ex.length) none) (b := ((1 + c : Nat) : Int)) (st := mS sc k rs b w ++ (ex ++ [Cell.lst (iL (List.range web.length))])) (st' := mS sc (k + 1) rs1 b w ++ (ex ++ [Cell.lst (iL (List.range web.length))]))
      (by
        have : (1 : Int) + c = ((1 + c : Nat) : Int) := by omega
        simp only [aCons_ap, aNil_ap, e2_ap, eC_ap, eN_ap, eV_ap, envR, List.getElem?_cons_zero, List.getElem?_cons_succ, Res.bind_ok, len_eWeb, bmin, e, pAdd_int, this]) (by omega) (by omega)
    rwa [Int.toNat_natCast] at this
  have hp : (mS sc (k + 1) rs1 b w ++ (ex ++ [Cell.lst (iL (List.range web.length))])).length = 3 + ex.length := by rw [mS_app]; simp <;> omega
  obtain ⟨acc, s, eL, picked, left, k2, rs2, rfl, hpl, hsum, hnd, hall, hk3, hk4, hrs2, rfl⟩ := lcL_inv (hs := []) (g := gV 4) (e := eMt isLstD mPop (eV 3) (aCons (eN fD (aCons (eV 0) (aCons (eN bLen (aCons (eV 3) aNil)) aNil))) aNil)) (r := envR (eWeb web) most (2 + ex.length) none) (p := 3 + ex.length) (xs := rangeD 0 (1 + c))
    (fun i acc s => ∃ (picked left : List Nat) (k2 : Int) (rs2 : List Int), acc = iL picked ∧ picked.length = i ∧ picked.length + left.length = web.length ∧ (picked ++ left).Nodup ∧ (∀ x ∈ picked ++ left, x < web.length) ∧ k + 1 ≤ k2 ∧ k2 ≤ k + 1 + i ∧ rs2.length = sc.length ∧
      s = mS sc k2 rs2 b w ++ (ex ++ [Cell.lst (iL left), Cell.lst (iL picked)]))
    (st := (mS sc (k + 1) rs1 b w ++ (ex ++ [Cell.lst (iL (List.range web.length))])) ++ [Cell.lst []])
    ⟨[], List.range web.length, k + 1, rs1, rfl, rfl, by simp, by simpa using List.nodup_range, by simp, by omega, by omega, h2, by simp [iL]⟩ (fun _ _ _ _ _ => rfl) (by
      rintro i acc s x hx ⟨picked, left, k2, rs2, rfl, hpl, hsum, hnd, hall, hk3, hk4, hrs2, rfl⟩
      have hij : i < 1 + c := by have := (List.getElem?_eq_some_iff.mp hx).1; simpa [rangeD] using this
      have hleft : 0 < left.length := by omega
      obtain ⟨j, rs3, e3, h3, h4⟩ := hD k2 rs2 (ex ++ [Cell.lst (iL left), Cell.lst (iL picked)]) (left.length : Nat) hrs2 (by omega) (by omega) (by omega) (by omega)
      have hj : j < left.length := by omega
      have at3 : ∀ k rs, lstAt (mS sc k rs b w ++ (ex ++ [Cell.lst (iL left), Cell.lst (iL picked)])) (2 + ex.length) = some (iL left) := fun k rs => by
        rw [← List.append_assoc]; exact at_mid (mS_app ..).symm
      have pop : mPop (.loc (2 + ex.length)) [.int j] (mS sc (k2 + 1) rs3 b w ++ (ex ++ [Cell.lst (iL left), Cell.lst (iL picked)])) = .ok (.int (left[j] : Nat)) (mS sc (k2 + 1) rs3 b w ++ (ex ++ [Cell.lst (iL (left.eraseIdx j)), Cell.lst (iL picked)])) := by
        rw [mPop_at (xs := iL left) (y := .int (left[j] : Nat)) (at3 ..) (by simp [iL, hj]) (by simp [iL]; omega)]
        congr 1
        rw [← List.append_assoc, ← List.append_assoc, List.set_append_right _ _ (by rw [mS_app]; omega)]
        have : 2 + ex.length - (mS sc (k2 + 1) rs3 b w ++ ex).length = 0 := by rw [mS_app]; omega
        rw [this]
        simp [iL_erase]
      have hperm : (picked ++ [left[j]] ++ left.eraseIdx j).Perm (picked ++ left) := by
        rw [List.append_assoc]
        exact List.Perm.append_left _ (erase_perm _ _ hj)
      refine ⟨envR (eWeb web) most (2 + ex.length) (some x), _, .int (left[j] : Nat), mS sc (k2 + 1) rs3 b w ++ (ex ++ [Cell.lst (iL (left.eraseIdx j)), Cell.lst (iL picked)]), by simp only [gV_ap]; rw [if_pos (by simp [envR])]; rfl, ?_, ?_, by simp [iL]; omega, picked ++ [left[j]], left.eraseIdx j, k2 + 1, rs3, by simp [iL], by simp [hpl], ?_, ?_, ?_, by omega, by omega, h4, ?_⟩
      · have v3 : ∀ st, eV 3 (envR (eWeb web) most (2 + ex.length) (some x)) st = .ok (.loc (2 + ex.length)) st := fun _ => rfl
        have v0 : ∀ st, eV 0 (envR (eWeb web) most (2 + ex.length) (some x)) st = .ok (.loc 0) st := fun _ => rfl
        have il : isLstD (.loc (2 + ex.length)) (mS sc k2 rs2 b w ++ (ex ++ [Cell.lst (iL left), Cell.lst (iL picked)])) = true := isLst_ap (at3 ..)
        have ll : bLen [.loc (2 + ex.length)] (mS sc k2 rs2 b w ++ (ex ++ [Cell.lst (iL left), Cell.lst (iL picked)])) = .ok (.int (left.length : Nat)) (mS sc k2 rs2 b w ++ (ex ++ [Cell.lst (iL left), Cell.lst (iL picked)])) := by rw [bLen_loc (at3 ..)]; simp [iL]
        simp only [eMt_ap, v3, v0, Res.bind_ok, il, if_true, aCons_ap, aNil_ap, eN_ap, ll, e3, pop]
        exact tidy_len _ _ (by rw [mS_app, mS_app]; simp)
      · have : 3 + ex.length = (mS sc (k2 + 1) rs3 b w ++ (ex ++ [Cell.lst (iL (left.eraseIdx j))])).length := by rw [mS_app]; simp <;> omega
        have sh : mS sc (k2 + 1) rs3 b w ++ (ex ++ [Cell.lst (iL (left.eraseIdx j)), Cell.lst (iL picked)]) = (mS sc (k2 + 1) rs3 b w ++ (ex ++ [Cell.lst (iL (left.eraseIdx j))])) ++ [Cell.lst (iL picked)] := by simp
        rw [sh]
        exact get_end this
      · rw [List.length_append, List.length_eraseIdx_of_lt hj]; simp; omega
      · exact hperm.nodup_iff.mpr hnd
      · intro y hy
        exact hall y (hperm.mem_iff.mp hy)
      · have : 3 + ex.length = (mS sc (k2 + 1) rs3 b w ++ (ex ++ [Cell.lst (iL (left.eraseIdx j))])).length := by rw [mS_app]; simp <;> omega
        have sh : mS sc (k2 + 1) rs3 b w ++ (ex ++ [Cell.lst (iL (left.eraseIdx j)), Cell.lst (iL picked)]) = (mS sc (k2 + 1) rs3 b w ++ (ex ++ [Cell.lst (iL (left.eraseIdx j))])) ++ [Cell.lst (iL picked)] := by simp
        rw [sh, set_end this]
        simp [iL])
  have hjl : (rangeD 0 (1 + c)).length = 1 + c := rangeD_len 0 _
  rw [hjl] at hpl hk4
  refine ⟨k2, rs2, picked, ?_, hrs2, by omega, by omega, by omega, by omega, (List.nodup_append.mp hnd).1, fun r hr => hall r (List.mem_append_left _ hr)⟩
  have hlc : eLc [4] (gV 4) (iFn iRange1 (aCons (e2 pAdd (eC (.int 1)) (eN fD (aCons (eV 0) (aCons (eN bMin (aCons (eV 2) (aCons (eN bLen (aCons (eV 1) aNil)) aNil))) aNil)))) aNil)) tYes (eMt isLstD mPop (eV 3) (aCons (eN fD (aCons (eV 0) (aCons (eN bLen (aCons (eV 3) aNil)) aNil))) aNil)) (envR (eWeb web) most (2 + ex.length) none) (mS sc k rs b w ++ (ex ++ [Cell.lst (iL (List.range web.length))])) = .ok (.loc (3 + ex.length)) (mS sc k2 rs2 b w ++ (ex ++ [Cell.lst (iL left), Cell.lst (iL picked)])) := by
    have hwp : wipeE (envR (eWeb web) most (2 + ex.length) none) [4] = envR (eWeb web) most (2 + ex.length) none := rfl
    rw [eLc_ap, hit, Res.bind_ok, hwp, hp, eL]
    rfl
  have tp : bTupleP [.loc (3 + ex.length)] (mS sc k2 rs2 b w ++ (ex ++ [Cell.lst (iL left), Cell.lst (iL picked)])) = .ok (.ptup (iL picked)) (mS sc k2 rs2 b w ++ (ex ++ [Cell.lst (iL left), Cell.lst (iL picked)])) := by
    have : 3 + ex.length = (mS sc k2 rs2 b w ++ (ex ++ [Cell.lst (iL left)])).length := by rw [mS_app]; simp <;> omega
    have sh : mS sc k2 rs2 b w ++ (ex ++ [Cell.lst (iL left), Cell.lst (iL picked)]) = (mS sc k2 rs2 b w ++ (ex ++ [Cell.lst (iL left)])) ++ [Cell.lst (iL picked)] := by simp
    rw [sh, this]
    simp only [bTupleP, lstVal, lst_end]
  have hst0 : startE 5 [.loc 0, eWeb web, .int most] = [some (.loc 0), some (eWeb web), some (.int most), none, none] := rfl
  have hst1 : ([some (.loc 0), some (eWeb web), some (.int most), none, none].set 3 (some (.loc (2 + ex.length))) : Env) = envR (eWeb web) most (2 + ex.length) none := rfl
  have x1 : (e1 bListRg (eN bLen (aCons (eV 1) aNil))) [some (.loc 0), some (eWeb web), some (.int most), none, none] (mS sc k rs b w ++ ex) = .ok (.loc (2 + ex.length)) (mS sc k rs b w ++ (ex ++ [Cell.lst (iL (List.range web.length))])) := by
    simp only [e1_ap, eN_ap, aCons_ap, aNil_ap, eV_ap, List.getElem?_cons_zero, List.getElem?_cons_succ, Res.bind_ok, len_eWeb, blr]
  rw [runF_ap _ (show ([.loc 0, eWeb web, .int most] : List D).length = 3 from rfl), hst0, mm__law_roots, sSeq_ap, sSet_ap, x1, t1, thenS_ok, if_pos (by simp), thenS_nx, hst1, sRet_ap, eN_ap, aCons_ap, hlc]
  simp only [Res.bind_ok, aNil_ap, tp, thenS_ok, end_ret]
  refine tidy_mS hex ?_
  rw [D.under]
  exact smL_under _ _ (smL_iL 0 picked)
end
end TB.K20

end

/-! ## K20F -/
section
set_option linter.all false
set_option autoImplicit false
set_option maxRecDepth 100000
namespace TB.K20
open PySem

theorem v_begun {st : Sto} {web : Web} {roots : List Nat} (hw : web.length ≤ 60) (hr : roots.length ≤ 60) : f__law_begun [eWeb web, .ptup (iL roots)] st = .ok (eKept (marks0 web.length roots) (stands0 roots)) st := by
  have hl1 : eLc [3] (gV 3) (iFn iRange1 (aCons (eN bLen (aCons (eV 0) aNil)) aNil)) tYes (eIf (tB (e2 pIn (eV 3) (eW (eV 1)))) (e2 pAdd (eMt isPtD mPIndex (eV 1) (aCons (eV 3) aNil)) (eC (.int 1))) (eC (.int 0))) [some (eWeb web), some (.ptup (iL roots)), none, none, none] st =
      .ok (.loc st.length) (st ++ [.lst (iL (marks0 web.length roots))]) := by
    rw [eLc_map (i := ⟨rangeD 0 web.length, []⟩) (fun d => match d with
      | .int v => .int ((if v.toNat ∈ roots then roots.idxOf v.toNat + 1 else 0 : Nat) : Int)
      | _ => .non)]
    · refine congrArg (fun z => Res.ok (D.loc st.length) (st ++ [Cell.lst z])) ?_
      simp only [rangeD, iL, marks0, List.map_map]
      refine List.map_congr_left fun i _ => ?_
      simp
    · have := iFn_r1 (as := aCons (eN bLen (aCons (eV 0) aNil)) aNil) (r := [some (eWeb web), some (.ptup (iL roots)), none, none, none]) (st := st) (st' := st) (b := (web.length : Nat)) (by simp) (by omega) (by omega)
      rwa [Int.toNat_natCast] at this
    · simp
    · intro x hx acc
      obtain ⟨v, hv, rfl⟩ : ∃ v : Nat, v < web.length ∧ x = .int v := by
        obtain ⟨v, hv, rfl⟩ := rangeD_ex hx
        exact ⟨v, hv, congrArg D.int (by omega)⟩
      refine ⟨_, by simp [wipeE]; rfl, ?_⟩
      have hin : ∀ st, pIn (.int v) (.tup (iL roots)) st = .ok (.bl (decide (v ∈ roots))) st := fun st => pIn_tup
      by_cases hm : v ∈ roots
      · have hix : ∀ st, mPIndex (.ptup (iL roots)) [.int v] st = .ok (.int (roots.idxOf v : Nat)) st := fun st => mPIndex_iL hm
        simp [hin, hm, hix]
      · simp [hin, hm]
    · simp [rangeD_len]; omega
  have hl2 : ∀ (x2 : Option D) (st : Sto), eLc [4] (gV 4) (iVal (eW (eV 1))) tYes (eN mkTup (aCons (eN mkTup (aCons (eV 4) (aCons (eC (.int 0)) aNil))) aNil)) [some (eWeb web), some (.ptup (iL roots)), x2, none, none] st = .ok (.loc st.length) (st ++ [.lst ((stands0 roots).map eSt)]) := fun x2 st => by
    rw [eLc_map (i := ⟨iL roots, []⟩) (fun d => .tup [.tup [d, .int 0]])]
    · refine congrArg (fun z => Res.ok (D.loc st.length) (st ++ [Cell.lst z])) ?_
      simp [iL, stands0, eSt, eP]
    · simp
    · simp
    · intro x hx acc
      refine ⟨_, by simp [wipeE]; rfl, ?_⟩
      simp
    · simp [iL]; omega
  have tp : bTuple [.loc st.length] (st ++ [.lst (iL (marks0 web.length roots))]) = .ok (eNs (marks0 web.length roots)) (st ++ [.lst (iL (marks0 web.length roots))]) := by simp only [bTuple, lstVal, lst_end, eNs_iL]
  have tp2 : bTuple [.loc st.length] (st ++ [.lst ((stands0 roots).map eSt)]) = .ok (.tup ((stands0 roots).map eSt)) (st ++ [.lst ((stands0 roots).map eSt)]) := by simp only [bTuple, lstVal, lst_end]
  have hu : D.underL st.length ((stands0 roots).map eSt) = true := by
    refine smL_under (n := 2) _ _ (smL_iff.mpr fun x hx => ?_)
    obtain ⟨s, _, rfl⟩ := List.mem_map.mp hx
    exact sm_eSt s
  simp [f__law_begun, runF_ap, m__law_begun, startE, hl1, hl2, tp, tp2, hu, eKept]
theorem v_next {st : Sto} {web : Web} {marks : List Nat} {stands : List Stand} {i w node count : Nat} {ahead : Stand} {row : List Tie} (hw : w = i + 1) (hs : stands[i]? = some (ahead ++ [(node, count)])) (hrow : web[node]? = some row) (hc : count ≤ row.length)
    (hin : ∀ t, t ∈ row → ∀ m, t = some m → m < marks.length) (ha : ahead.length ≤ 100) (hsl : stands.length ≤ 60) (hml : marks.length ≤ 60) :
    ∃ deed n, D.sm n deed = true ∧ f__law_next [eWeb web, eKept marks stands, .int w] st = .ok (.tup [deed, eKept (nextK web marks stands i ahead node count).1 (nextK web marks stands i ahead node count).2]) st := by
  have hi := (List.getElem?_eq_some_iff.mp hs).1
  have hg : web.getD node [] = row := by rw [List.getD_eq_getElem?_getD, hrow]; rfl
  have hw1 : (w : Int) - 1 = i := by omega
  have x1 : ∀ st, pIx (.tup (stands.map eSt)) (.int i) st = .ok (eSt (ahead ++ [(node, count)])) st := fun st => ix_tupM st (f := eSt) hs
  have x2 : ∀ st, pEq (eSt (ahead ++ [(node, count)])) (.tup []) st = .ok (.bl false) st := fun st => by rw [eqv_eSt]; simp
  have x3 : ∀ st, pIx (eSt (ahead ++ [(node, count)])) (.int (-1)) st = .ok (.tup [.int node, .int count]) st := fun st => by
    rw [eSt, List.map_append]; exact pIx_tup (atI_last _ _)
  have x4 : ∀ st, pSl (eSt (ahead ++ [(node, count)])) none (some (-1)) st = .ok (eSt ahead) st := fun st => by
    rw [eSt, pSl_tup, cut_last]; simp [eSt]
  have x5 : ∀ st, pIx (eWeb web) (.int node) st = .ok (eRow row) st := fun st => ix_eWeb st hrow
  have a1 : ∀ st, pEq (eSt ahead) (.tup []) st = .ok (.bl ahead.isEmpty) st := fun st => eqv_eSt ahead st
  have a2 : ∀ st, pNe (eSt ahead) (.tup []) st = .ok (.bl (!ahead.isEmpty)) st := fun st => nev_eSt ahead st
  have c1 : cutD (stands.map eSt) none (some (i : Int)) = (stands.map eSt).take i := cut_take _ _
  have c2 : cutD (stands.map eSt) (some (w : Int)) none = (stands.map eSt).drop (i + 1) := by rw [cut_drop, hw]
  have p1 : ∀ (s' : Stand) st, pAdd (.tup ((stands.map eSt).take i)) (.tup [eSt s']) st = .ok (.tup ((stands.map eSt).take i ++ [eSt s'])) st := fun s' st => pAdd_tup (by simp [LINE_eq]; omega)
  have p2 : ∀ (s' : Stand) st, pAdd (.tup ((stands.map eSt).take i ++ [eSt s'])) (.tup ((stands.map eSt).drop (i + 1))) st = .ok (.tup ((stands.map eSt).set i (eSt s'))) st := fun s' st => by
    rw [pAdd_tup (by simp [LINE_eq]; omega), take_set_drop (by simpa using hi)]
  by_cases hcl : count = row.length
  · have hn : row[count]? = none := List.getElem?_eq_none (by omega)
    have hcl' : ((count : Nat) : Int) == (row.length : Nat) := by simp [hcl]
    rcases List.eq_nil_or_concat ahead with rfl | ⟨ah, p, hcc⟩
    · refine ⟨.tup [.str "stop", .int node], 2, by simp [sm_tup 1] <;> decide +kernel, ?_⟩
      have hK : nextK web marks stands i [] node count = (marks, stands.set i []) := by
        simp only [nextK, hg, hn]
        simp
      rw [hK]
      simp only [List.nil_append] at x1 x2 x3 x4
      subst hcl
      simp [f__law_next, runF_ap, m__law_next, startE, eKept, hw1, x1, x2, x3, x4, x5, a1, a2, c1, c2, p1, p2]
    · try rw [List.concat_eq_append] at hcc
      subst hcc
      obtain ⟨pm, pc⟩ := p
      have y1 : ∀ st, pIx (eSt (ah ++ [(pm, pc)])) (.int (-1)) st = .ok (.tup [.int pm, .int pc]) st := fun st => by
        rw [eSt, List.map_append]; exact pIx_tup (atI_last _ _)
      have y2 : ∀ st, pSl (eSt (ah ++ [(pm, pc)])) none (some (-1)) st = .ok (eSt ah) st := fun st => by
        rw [eSt, pSl_tup, cut_last]; simp [eSt]
      have y3 : ∀ st, pIx (.tup [.int pm, .int pc]) (.int 0) st = .ok (.int pm) st := fun st => pIx_tupN (i := 0) rfl
      have y4 : ∀ st, pIx (.tup [.int pm, .int pc]) (.int 1) st = .ok (.int pc) st := fun st => pIx_tupN (i := 1) rfl
      have y5 : ∀ st, pAdd (eSt ah) (.tup [.tup [.int pm, .int (pc + 1)]]) st = .ok (eSt (ah ++ [(pm, pc + 1)])) st := fun st => by
        rw [eSt, pAdd_tup (by simp [LINE_eq] at ha ⊢; omega)]; simp [eSt, eP]
      refine ⟨.tup [.str "up", .int node], 2, by simp [sm_tup 1] <;> decide +kernel, ?_⟩
      have hK : nextK web marks stands i (ah ++ [(pm, pc)]) node count = (marks, stands.set i (ah ++ [(pm, pc + 1)])) := by
        simp only [nextK, hg, hn]
        simp
      rw [hK]
      subst hcl
      simp only [List.append_assoc, List.cons_append, List.nil_append] at x1 x2 x3 x4
      simp [f__law_next, runF_ap, m__law_next, startE, eKept, hw1, x1, x2, x3, x4, x5, a1, a2, c1, c2, p1, p2, y1, y2, y3, y4, y5]
  · have hcl' : ¬ ((count : Nat) : Int) = (row.length : Nat) := by omega
    have hlt : count < row.length := by omega
    have hn : row[count]? = some row[count] := List.getElem?_eq_getElem hlt
    have x6 : ∀ st, pIx (eRow row) (.int count) st = .ok (eTie row[count]) st := fun st => ix_eRow st hn
    have y5 : ∀ st, pAdd (eSt ahead) (.tup [.tup [.int node, .int (count + 1)]]) st = .ok (eSt (ahead ++ [(node, count + 1)])) st := fun st => by
      rw [eSt, pAdd_tup (by simp [LINE_eq]; omega)]; simp [eSt, eP]
    cases htie : row[count] with
    | none =>
      refine ⟨.tup [.str "skip", .int node, .int count], 2, by simp [sm_tup 1] <;> decide +kernel, ?_⟩
      have hK : nextK web marks stands i ahead node count = (marks, stands.set i (ahead ++ [(node, count + 1)])) := by simp only [nextK, hg, hn, htie]
      rw [hK]
      simp [f__law_next, runF_ap, m__law_next, startE, eKept, hw1, x1, x2, x3, x4, x5, x6, htie, hcl', c1, c2, p1, p2, y5]
    | some tie =>
      have hti : tie < marks.length := hin _ (List.getElem_mem hlt) tie htie
      have x7 : ∀ st, pIx (eNs marks) (.int tie) st = .ok (.int (marks[tie] : Nat)) st := fun st => ix_eNs st (List.getElem?_eq_getElem hti)
      have hgm : marks.getD tie 0 = marks[tie] := by rw [List.getD_eq_getElem?_getD, List.getElem?_eq_getElem hti]; rfl
      by_cases hmk : 0 < marks[tie]
      · refine ⟨.tup [.str "skip", .int node, .int count], 2, by simp [sm_tup 1] <;> decide +kernel, ?_⟩
        have hK : nextK web marks stands i ahead node count = (marks, stands.set i (ahead ++ [(node, count + 1)])) := by simp only [nextK, hg, hn, htie, hgm, hmk, if_true, if_false]
        have hmk' : (0 : Int) < (marks[tie] : Nat) := by omega
        rw [hK]
        simp [f__law_next, runF_ap, m__law_next, startE, eKept, hw1, x1, x2, x3, x4, x5, x6, x7, htie, hcl', hmk, c1, c2, p1, p2, y5]
      · refine ⟨.tup [.str "down", .int node, .int count], 2, by simp [sm_tup 1] <;> decide +kernel, ?_⟩
        have hK : nextK web marks stands i ahead node count = (marks.set tie (i + 1), stands.set i (ahead ++ [(node, count)] ++ [(tie, 0)])) := by simp only [nextK, hg, hn, htie, hgm, hmk, if_true, if_false]
        have z1 : cutD (iL marks) none (some (tie : Int)) = (iL marks).take tie := cut_take _ _
        have z2 : cutD (iL marks) (some ((tie : Int) + 1)) none = (iL marks).drop (tie + 1) := cut_drop _ (tie + 1)
        have z3 : ∀ st, pAdd (.tup ((iL marks).take tie)) (.tup [.int w]) st = .ok (.tup ((iL marks).take tie ++ [.int w])) st := fun st => pAdd_tup (by simp [LINE_eq, iL]; omega)
        have z4 : ∀ st, pAdd (.tup ((iL marks).take tie ++ [.int w])) (.tup ((iL marks).drop (tie + 1))) st = .ok (eNs (marks.set tie (i + 1))) st := fun st => by
          rw [pAdd_tup (by simp [LINE_eq, iL]; omega), take_set_drop (by simpa [iL] using hti), eNs_iL]
          simp [iL, hw]
        have z5 : ∀ st, pAdd (eSt (ahead ++ [(node, count)])) (.tup [.tup [.int tie, .int 0]]) st = .ok (eSt (ahead ++ [(node, count)] ++ [(tie, 0)])) st := fun st => by
          rw [eSt, pAdd_tup (by simp [LINE_eq]; omega)]; simp [eSt, eP]
        rw [hK]
        have sl1 : ∀ st, pSl (eNs marks) none (some (tie : Int)) st = .ok (.tup ((iL marks).take tie)) st := fun st => by rw [eNs_iL, pSl_tup, z1]
        have sl2 : ∀ st, pSl (eNs marks) (some ((tie : Int) + 1)) none st = .ok (.tup ((iL marks).drop (tie + 1))) st := fun st => by rw [eNs_iL, pSl_tup, z2]
        simp only [List.append_assoc] at z5 ⊢
        simp [f__law_next, runF_ap, m__law_next, startE, eKept, hw1, x1, x2, x3, x4, x5, x6, x7, htie, hcl', hmk, c1, c2, p1, p2, sl1, sl2, z3, z4, z5]
end TB.K20

end

/-! ## K20G -/
section
set_option linter.all false
set_option autoImplicit false
set_option maxRecDepth 100000
namespace TB.K20
open PySem

def stIn : SM := sSeq (sAsg (gSub fStore (eV 6) (eV 12)) (eV 13)) (sIf (tB (e2 pLt (e2 pAdd (eV 11) (eC (.int 1))) (eN bLen (aCons (eV 9) aNil)))) (sSeq (sAsg (gSub fStore (e2 pIx (eV 5) (eV 12)) (eV 13)) (eV 10)) (sSet 10 (eV 12))) sSkip)
def stOut : SM := sSeq (sSet 10 (eC .non)) (sSeq (sFor (gTup [gV 11, gTup [gV 12, gV 13]]) (iFn iEnumF (aCons (eV 9) aNil)) stIn) (sExp (eMt isLstD mAppend (eV 7) (aCons (eIf (tB (e2 pNe (eV 9) (eN mkTup aNil))) (eN mkTup (aCons (e2 pIx (e2 pIx (eV 9) (e1 pNeg (eC (.int 1)))) (eC (.int 0))) (aCons (eV 10) aNil))) (eV 8)) aNil))))
def envT (W R K M S : D) (L n : Nat) (x8 : Option D) (stand : Stand) (x10 x11 x12 x13 : Option D) : Env := [some W, some R, some K, some M, some S, some (.loc L), some (.loc (L + 1 + n)), some (.loc (L + 2 + n)), x8, some (eSt stand), x10, x11, x12, x13, none]
theorem rows_cs {st : Sto} {t : Web} {n : Nat} {cs : List D} {hs : List Cell} (hn : t.length = n) : (st ++ (rowsS st.length t ++ (.lst cs :: hs))) = (st ++ rowsS st.length t) ++ .lst cs :: hs ∧ st.length + 1 + n = (st ++ rowsS st.length t).length := by
  constructor
  · simp
  · simp [rowsS, hn]; omega
theorem v_stIn {st : Sto} {web : Web} {W R K M S : D} {n k m c : Nat} {stand : Stand} {b : Tie} {t : Web} {cs : List Nat} {hs : List D} {x8 : Option D} (hn : t.length = n) (hcs : cs.length = n) (hk : k < stand.length)
    (hm : ∃ row, t[m]? = some row ∧ (k + 1 < stand.length → c < row.length)) :
    stIn (envT W R K M S st.length n x8 stand (some (eTie b)) (some (.int k)) (some (.int m)) (some (.int c))) (st ++ (rowsS st.length t ++ [.lst (iL cs), .lst hs])) =
      .nx (envT W R K M S st.length n x8 stand (some (eTie (if k + 1 < stand.length then some m else b))) (some (.int k)) (some (.int m)) (some (.int c))) (st ++ (rowsS st.length (if k + 1 < stand.length then set2 t m c b else t) ++ [.lst (iL (cs.set m c)), .lst hs])) := by
  obtain ⟨row, h1, h2⟩ := hm
  have hml : m < n := by rw [← hn]; exact (List.getElem?_eq_some_iff.mp h1).1
  have f1 : fStore (.loc (st.length + 1 + n)) (.int m) (.int c) (st ++ (rowsS st.length t ++ [.lst (iL cs), .lst hs])) = .ok () (st ++ (rowsS st.length t ++ [.lst (iL (cs.set m c)), .lst hs])) := by
    obtain ⟨q1, q2⟩ := rows_cs (st := st) (t := t) (cs := iL cs) (hs := [.lst hs]) hn
    rw [q1, fStore_ints q2 (by omega), ← (rows_cs (st := st) (t := t) (cs := iL (cs.set m c)) (hs := [.lst hs]) hn).1]
  by_cases hlt : k + 1 < stand.length
  · have hlt' : (k : Int) + 1 < (stand.length : Nat) := by omega
    have f2 := rows_ix (st := st) (ex := [.lst (iL (cs.set m c)), .lst hs]) (w := t) rfl (show m < t.length by omega)
    have f3 := rows_st (st := st) (ex := [.lst (iL (cs.set m c)), .lst hs]) (w := t) (t := b) rfl h1 (h2 hlt)
    generalize hS0 : st ++ (rowsS st.length t ++ [.lst (iL cs), .lst hs]) = S0 at *
    generalize hS1 : st ++ (rowsS st.length t ++ [.lst (iL (cs.set m c)), .lst hs]) = S1 at *
    rw [if_pos hlt, if_pos hlt]
    generalize hS2 : st ++ (rowsS st.length (set2 t m c b) ++ [.lst (iL (cs.set m c)), .lst hs]) = S2 at *
    simp [stIn, envT, f1, f2, f3, hlt']
  · have hlt' : ¬ (k : Int) + 1 < (stand.length : Nat) := by omega
    generalize hS0 : st ++ (rowsS st.length t ++ [.lst (iL cs), .lst hs]) = S0 at *
    rw [if_neg hlt, if_neg hlt]
    generalize hS1 : st ++ (rowsS st.length t ++ [.lst (iL (cs.set m c)), .lst hs]) = S1 at *
    simp [stIn, envT, f1, hlt']
theorem enum_eSt (s : Stand) (k : Nat) : (enumD 0 (s.map eP))[k]? = (s[k]?).map fun p => .tup [.int k, .tup [.int p.1, .int p.2]] := by
  rw [enumD_get, List.getElem?_map]
  cases s[k]? <;> simp [eP]
theorem v_stOut {st : Sto} {web : Web} {W R K M S : D} {n root : Nat} {stand : Stand} {x10 : Option D} {t : Web} {cs : List Nat} {hs : List Here} {x11 x12 x13 : Option D} (hn : t.length = n) (hcs : cs.length = n) (hsh : shape t = shape web) (hin : StandIn web stand) (hhs : hs.length ≤ 60) :
    ∃ x10' x11' x12' x13', stOut (envT W R K M S st.length n (some (.int root)) stand x10 x11 x12 x13) (st ++ (rowsS st.length t ++ [.lst (iL cs), .lst (hs.map eH)])) =
      .nx (envT W R K M S st.length n (some (.int root)) stand x10' x11' x12' x13') (st ++ (rowsS st.length (putS stand (t, cs, none)).1 ++ [.lst (iL (putS stand (t, cs, none)).2.1), .lst ((hs ++ [hereOf root stand (putS stand (t, cs, none)).2.2]).map eH)])) := by
  have hit : iFn iEnumF (aCons (eV 9) aNil) (envT W R K M S st.length n (some (.int root)) stand (some .non) x11 x12 x13) (st ++ (rowsS st.length t ++ [.lst (iL cs), .lst (hs.map eH)])) = .ok ⟨enumD 0 (stand.map eP), []⟩ (st ++ (rowsS st.length t ++ [.lst (iL cs), .lst (hs.map eH)])) := rfl
  obtain ⟨r', st', e, t', cs', b', x11', x12', x13', hq, hn', hcs', rfl, rfl⟩ := forL_inv (hs := []) (g := gTup [gV 11, gTup [gV 12, gV 13]]) (b := stIn) (xs := enumD 0 (stand.map eP))
    (fun k r s1 => ∃ (t' : Web) (cs' : List Nat) (b' : Tie) (x11' x12' x13' : Option D), (putS (stand.drop k) (t', cs', b') = putS stand (t, cs, none) ∧ shape t' = shape web) ∧ t'.length = n ∧ cs'.length = n ∧
      r = envT W R K M S st.length n (some (.int root)) stand (some (eTie b')) x11' x12' x13' ∧ s1 = st ++ (rowsS st.length t' ++ [.lst (iL cs'), .lst (hs.map eH)]))
    (r := envT W R K M S st.length n (some (.int root)) stand (some .non) x11 x12 x13) (st := st ++ (rowsS st.length t ++ [.lst (iL cs), .lst (hs.map eH)]))
    ⟨t, cs, none, x11, x12, x13, ⟨rfl, hsh⟩, hn, hcs, rfl, rfl⟩ (fun _ _ _ _ _ => rfl) (by
      rintro k r s1 x hx ⟨t', cs', b', x11', x12', x13', ⟨hq, hsh'⟩, hn', hcs', rfl, rfl⟩
      rw [enum_eSt, Option.map_eq_some_iff] at hx
      obtain ⟨⟨m, c⟩, hp, rfl⟩ := hx
      have hk := (List.getElem?_eq_some_iff.mp hp).1
      obtain ⟨row, h1, h2⟩ := hin.2 k m c hp
      obtain ⟨row', h3, h4⟩ := shape_row hsh'.symm h1
      have e3 := v_stIn (st := st) (web := web) (W := W) (R := R) (K := K) (M := M) (S := S) (n := n) (k := k) (m := m) (c := c) (stand := stand) (b := b') (t := t') (cs := cs') (hs := hs.map eH) (x8 := some (.int root)) hn' hcs' hk ⟨row', h3, fun h => by have := h2 h; omega⟩
      have hdr : stand.drop k = (m, c) :: stand.drop (k + 1) := by
        rw [List.drop_eq_getElem_cons hk]
        have := (List.getElem?_eq_some_iff.mp hp).2
        rw [this]
      have hnil : (stand.drop (k + 1) = []) ↔ ¬ (k + 1 < stand.length) := by rw [List.drop_eq_nil_iff]; omega
      refine ⟨envT W R K M S st.length n (some (.int root)) stand (some (eTie b')) (some (.int k)) (some (.int m)) (some (.int c)), st ++ (rowsS st.length t' ++ [.lst (iL cs'), .lst (hs.map eH)]), _, _, by simp [envT], e3, if k + 1 < stand.length then set2 t' m c b' else t', cs'.set m c, if k + 1 < stand.length then some m else b', _, _, _, ⟨?_, ?_⟩, ?_, by simpa using hcs', rfl, rfl⟩
      · rw [← hq, hdr, putS]
        by_cases hlt : k + 1 < stand.length
        · rw [if_pos hlt, if_pos hlt, if_neg (by rw [hnil]; omega)]
        · rw [if_neg hlt, if_neg hlt, if_pos (by rw [hnil]; omega)]
      · split
        · rw [shape_set2]; exact hsh'
        · exact hsh'
      · split
        · rw [set2_len]; exact hn'
        · exact hn')
  have hle : (enumD 0 (stand.map eP)).length = stand.length := by rw [enumD_length]; simp
  rw [hle, List.drop_length] at hq
  have hfin : putS stand (t, cs, none) = (t', cs', b') := hq.1.symm
  rw [hfin]
  refine ⟨some (eTie b'), x11', x12', x13', ?_⟩
  have hA : st.length + 2 + n = ((st ++ rowsS st.length t') ++ [Cell.lst (iL cs')]).length := by simp [rowsS, hn']; omega
  have sh : ∀ z, st ++ (rowsS st.length t' ++ [Cell.lst (iL cs'), .lst z]) = ((st ++ rowsS st.length t') ++ [Cell.lst (iL cs')]) ++ .lst z :: [] := fun z => by simp
  have ap : ∀ h : Here, mAppend (.loc (st.length + 2 + n)) [eH h] (st ++ (rowsS st.length t' ++ [.lst (iL cs'), .lst (hs.map eH)])) = .ok .non (st ++ (rowsS st.length t' ++ [.lst (iL cs'), .lst ((hs ++ [h]).map eH)])) := fun h => by
    rw [sh, ap_mid hA (by simp [LINE_eq]; omega), sh]; simp
  have il : isLstD (.loc (st.length + 2 + n)) (st ++ (rowsS st.length t' ++ [.lst (iL cs'), .lst (hs.map eH)])) = true := by rw [sh]; exact is_mid hA
  have tl : ∀ h : Here, tidy (st ++ (rowsS st.length t' ++ [Cell.lst (iL cs'), .lst (hs.map eH)])) (.ok .non (st ++ (rowsS st.length t' ++ [.lst (iL cs'), .lst ((hs ++ [h]).map eH)]))) = .ok .non (st ++ (rowsS st.length t' ++ [.lst (iL cs'), .lst ((hs ++ [h]).map eH)])) := fun h => tidy_len _ _ (by simp)
  have hset : (envT W R K M S st.length n (some (.int root)) stand x10 x11 x12 x13).set 10 (some .non) = envT W R K M S st.length n (some (.int root)) stand (some .non) x11 x12 x13 := rfl
  rw [stOut, sSeq_ap, sSet_ap, eC_ap, tidy_ok, thenS_ok, if_pos (by simp [envT]), thenS_nx, hset, sSeq_ap, sFor_ap, hit, thenS_ok, e, thenS_nx]
  have ap1 := ap (hereOf root stand b')
  have tl1 := tl (hereOf root stand b')
  generalize hS0 : st ++ (rowsS st.length t' ++ [.lst (iL cs'), .lst (hs.map eH)]) = S0 at *
  generalize hS1 : st ++ (rowsS st.length t' ++ [.lst (iL cs'), .lst ((hs ++ [hereOf root stand b']).map eH)]) = S1 at *
  rcases List.eq_nil_or_concat stand with h0 | ⟨ah, p, hcc⟩
  · subst h0
    simp only [hereOf, List.getLast?_nil, eH] at ap1 tl1
    simp [envT, nev_eSt, il, ap1, tl1]
  · try rw [List.concat_eq_append] at hcc
    subst hcc
    have hh : hereOf root (ah ++ [p]) b' = .on p.1 b' := by simp [hereOf]
    rw [hh] at ap1
    have y1 : ∀ st, pIx (eSt (ah ++ [p])) (.int (-1)) st = .ok (.tup [.int p.1, .int p.2]) st := fun st => by
      rw [eSt, List.map_append]; exact pIx_tup (atI_last _ _)
    have y3 : ∀ st, pIx (.tup [.int p.1, .int p.2]) (.int 0) st = .ok (.int p.1) st := fun st => pIx_tupN (i := 0) rfl
    simp only [eH] at ap1
    simp [envT, nev_eSt, il, ap1, tl1, y1, y3]

theorem v_state {st : Sto} {web : Web} {roots marks : List Nat} {stands : List Stand} (hl : web.length ≤ 60) (hrl : roots.length ≤ 60) (hin : ∀ s ∈ stands, StandIn web s) : f__law_state [eWeb web, .tup (iL roots), eKept marks stands] st = .ok (eS (stateOf web roots marks stands)) st := by
  have hrows : tidy st (eLc [14] (gV 14) (iVal (eV 0)) tYes (eN bList (aCons (eV 14) aNil)) [some (eWeb web), some (.tup (iL roots)), some (eKept marks stands), some (eNs marks), some (.tup (stands.map eSt)), none, none, none, none, none, none, none, none, none, none] st) = .ok (.loc st.length) (st ++ rowsS st.length web) := by
    rw [eLc_new (i := ⟨web.map eRow, []⟩) itemsD]
    · rw [rowsS_of, tidy_rows]
    · simp [eWeb]
    · rfl
    · intro x hx s'
      obtain ⟨row, _, rfl⟩ := List.mem_map.mp hx
      refine ⟨_, by simp [wipeE]; rfl, ?_⟩
      simp [bList, seqVal, eRow, itemsD]
    · simp; omega
  have hzero : tidy (st ++ rowsS st.length web) ((e2 pMul (eN mkLst (aCons (eC (.int 0)) aNil)) (eN bLen (aCons (eV 0) aNil))) [some (eWeb web), some (.tup (iL roots)), some (eKept marks stands), some (eNs marks), some (.tup (stands.map eSt)), some (.loc st.length), none, none, none, none, none, none, none, none, none] (st ++ rowsS st.length web)) =
      .ok (.loc (st.length + 1 + web.length)) (st ++ (rowsS st.length web ++ [.lst (iL (List.replicate web.length 0))])) := by
    have hA : (st ++ rowsS st.length web).length = st.length + 1 + web.length := by simp [rowsS]; omega
    have e1 : mkLst [.int 0] (st ++ rowsS st.length web) = .ok (.loc (st ++ rowsS st.length web).length) ((st ++ rowsS st.length web) ++ [.lst [.int 0]]) := mkLst_ap _ _ (by simp [LINE_eq])
    have e2' : pMul (.loc (st ++ rowsS st.length web).length) (.int (web.length : Nat)) ((st ++ rowsS st.length web) ++ [.lst [.int 0]]) = .ok (.loc ((st ++ rowsS st.length web) ++ [Cell.lst [.int 0]]).length) (((st ++ rowsS st.length web) ++ [.lst [.int 0]]) ++ [.lst (iL (List.replicate web.length 0))]) := by
      simp only [pMul, lst_end]
      rw [if_pos ⟨by omega, by omega, by simp [LINE_eq]; omega⟩]
      have : (List.replicate ((web.length : Nat) : Int).toNat [D.int 0]).flatten = iL (List.replicate web.length 0) := by
        rw [Int.toNat_natCast]
        generalize web.length = z
        induction z with
        | zero => rfl
        | succ z ih => simp only [List.replicate_succ, List.flatten_cons, ih, iL, List.map_cons, List.singleton_append]; rfl
      rw [this]
    have e3 : (e2 pMul (eN mkLst (aCons (eC (.int 0)) aNil)) (eN bLen (aCons (eV 0) aNil))) [some (eWeb web), some (.tup (iL roots)), some (eKept marks stands), some (eNs marks), some (.tup (stands.map eSt)), some (.loc st.length), none, none, none, none, none, none, none, none, none] (st ++ rowsS st.length web) = .ok (.loc ((st ++ rowsS st.length web) ++ [Cell.lst [.int 0]]).length) ((st ++ rowsS st.length web) ++ ([.lst [.int 0]] ++ [.lst (iL (List.replicate web.length 0))])) := by
      simp only [e2_ap, eN_ap, aCons_ap, aNil_ap, eC_ap, Res.bind_ok, e1, eV_ap, List.getElem?_cons_zero, len_eWeb, e2']
      simp only [List.append_assoc]
    rw [e3, tidy_loc (c := .lst (iL (List.replicate web.length 0)))]
    · rw [hA, List.append_assoc]
    · rw [← List.append_assoc]; exact get_end rfl
    · simp
    · simp only [Cell.under]; exact smL_under _ _ (smL_iL 0 _)
  have hcs : (List.replicate web.length 0).length = web.length := by simp
  have hB : (st ++ (rowsS st.length web ++ [Cell.lst (iL (List.replicate web.length 0))])).length = st.length + 2 + web.length := by simp [rowsS]; omega
  have hheres : tidy (st ++ (rowsS st.length web ++ [.lst (iL (List.replicate web.length 0))])) (mkLst [] (st ++ (rowsS st.length web ++ [.lst (iL (List.replicate web.length 0))]))) = .ok (.loc (st.length + 2 + web.length)) (st ++ (rowsS st.length web ++ [.lst (iL (List.replicate web.length 0)), .lst []])) := by
    rw [mkLst_nil, tidy_new0, hB]; simp
  have hit : iFn iZipF (aCons (eW (eV 1)) (aCons (eV 4) aNil)) [some (eWeb web), some (.tup (iL roots)), some (eKept marks stands), some (eNs marks), some (.tup (stands.map eSt)), some (.loc st.length), some (.loc (st.length + 1 + web.length)), some (.loc (st.length + 2 + web.length)), none, none, none, none, none, none, none] (st ++ (rowsS st.length web ++ [.lst (iL (List.replicate web.length 0)), .lst []])) = .ok ⟨(roots.zip stands).map fun p => D.tup [.int p.1, eSt p.2], []⟩ (st ++ (rowsS st.length web ++ [.lst (iL (List.replicate web.length 0)), .lst []])) := by
    rw [← zip_eSt]; rfl
  obtain ⟨r', st', e, t', cs', hs', hq, hsh', hcs', hhl, x8, x9, x10, x11, x12, x13, rfl, rfl⟩ := forL_inv (hs := []) (g := gTup [gV 8, gV 9]) (b := stOut) (xs := (roots.zip stands).map fun p => D.tup [.int p.1, eSt p.2])
    (fun k r s1 => ∃ (t' : Web) (cs' : List Nat) (hs' : List Here), putAll ((roots.zip stands).drop k) (t', cs', hs') = putAll (roots.zip stands) (web, List.replicate web.length 0, []) ∧ shape t' = shape web ∧ cs'.length = web.length ∧ hs'.length = k ∧ ∃ x8 x9 x10 x11 x12 x13 : Option D,
      r = [some (eWeb web), some (.tup (iL roots)), some (eKept marks stands), some (eNs marks), some (.tup (stands.map eSt)), some (.loc st.length), some (.loc (st.length + 1 + web.length)), some (.loc (st.length + 2 + web.length)), x8, x9, x10, x11, x12, x13, none] ∧ s1 = st ++ (rowsS st.length t' ++ [.lst (iL cs'), .lst (hs'.map eH)]))
    (r := [some (eWeb web), some (.tup (iL roots)), some (eKept marks stands), some (eNs marks), some (.tup (stands.map eSt)), some (.loc st.length), some (.loc (st.length + 1 + web.length)), some (.loc (st.length + 2 + web.length)), none, none, none, none, none, none, none]) (st := st ++ (rowsS st.length web ++ [.lst (iL (List.replicate web.length 0)), .lst []]))
    ⟨web, _, [], rfl, rfl, hcs, rfl, none, none, none, none, none, none, rfl, rfl⟩ (fun _ _ _ _ _ => rfl) (by
      rintro k r s1 x hx ⟨t', cs', hs', hq, hsh', hcs', hhl, x8, x9, x10, x11, x12, x13, rfl, rfl⟩
      rw [List.getElem?_map, Option.map_eq_some_iff] at hx
      obtain ⟨⟨root, stand⟩, hp, rfl⟩ := hx
      have hk := (List.getElem?_eq_some_iff.mp hp).1
      have hk2 : k < roots.length := by rw [List.length_zip] at hk; omega
      have hmem : stand ∈ stands := by
        have := List.mem_of_getElem? hp
        exact (List.of_mem_zip this).2
      have htl : t'.length = web.length := by simpa [shape] using congrArg List.length hsh'
      have hdr : (roots.zip stands).drop k = (root, stand) :: (roots.zip stands).drop (k + 1) := by
        rw [List.drop_eq_getElem_cons hk]
        rw [(List.getElem?_eq_some_iff.mp hp).2]
      have ps := putS_shape stand t' cs' none
      obtain ⟨x10', x11', x12', x13', e3⟩ := v_stOut (st := st) (web := web) (W := eWeb web) (R := .tup (iL roots)) (K := eKept marks stands) (M := eNs marks) (S := .tup (stands.map eSt)) (n := web.length) (root := root) (stand := stand) (x10 := x10) (t := t') (cs := cs') (hs := hs') (x11 := x11) (x12 := x12) (x13 := x13) htl hcs' hsh' (hin stand hmem) (by omega)
      refine ⟨envT (eWeb web) (.tup (iL roots)) (eKept marks stands) (eNs marks) (.tup (stands.map eSt)) st.length web.length (some (.int root)) stand x10 x11 x12 x13, st ++ (rowsS st.length t' ++ [.lst (iL cs'), .lst (hs'.map eH)]), _, _, by simp [envT], e3, (putS stand (t', cs', none)).1, (putS stand (t', cs', none)).2.1, hs' ++ [hereOf root stand (putS stand (t', cs', none)).2.2], ?_, ps.1.trans hsh', ps.2.trans hcs', by simp [hhl], some (.int root), some (eSt stand), x10', x11', x12', x13', rfl, rfl⟩
      rw [← hq, hdr, putAll])
  have hzl : ((roots.zip stands).map fun p => D.tup [.int p.1, eSt p.2]).length = (roots.zip stands).length := by simp
  rw [hzl, List.drop_length, putAll] at hq
  have htl : t'.length = web.length := by simpa [shape] using congrArg List.length hsh'
  have hS : stateOf web roots marks stands = ⟨t', marks, cs', hs'⟩ := by simp only [stateOf, ← hq]
  rw [hS]
  have hback := rows_back (st := st) (ex := [.lst (iL cs'), .lst (hs'.map eH)]) (w := t') (r := [some (eWeb web), some (.tup (iL roots)), some (eKept marks stands), some (eNs marks), some (.tup (stands.map eSt)), some (.loc st.length), some (.loc (st.length + 1 + web.length)), some (.loc (st.length + 2 + web.length)), x8, x9, x10, x11, x12, x13, none]) (j := 5) (v := 14) rfl (by simp) (by omega) (by omega)
  have tp1 : bTuple [.loc (st ++ (rowsS st.length t' ++ [Cell.lst (iL cs'), .lst (hs'.map eH)])).length] ((st ++ (rowsS st.length t' ++ [.lst (iL cs'), .lst (hs'.map eH)])) ++ [.lst (t'.map eRow)]) = .ok (eWeb t') ((st ++ (rowsS st.length t' ++ [.lst (iL cs'), .lst (hs'.map eH)])) ++ [.lst (t'.map eRow)]) := by
    simp only [bTuple, lstVal, lst_end]; rfl
  have tp2 : bTuple [.loc (st.length + 1 + web.length)] ((st ++ (rowsS st.length t' ++ [.lst (iL cs'), .lst (hs'.map eH)])) ++ [.lst (t'.map eRow)]) = .ok (eNs cs') ((st ++ (rowsS st.length t' ++ [.lst (iL cs'), .lst (hs'.map eH)])) ++ [.lst (t'.map eRow)]) := by
    have hA : st.length + 1 + web.length = (st ++ rowsS st.length t').length := by simp [rowsS, htl]; omega
    have sh : (st ++ (rowsS st.length t' ++ [Cell.lst (iL cs'), .lst (hs'.map eH)])) ++ [Cell.lst (t'.map eRow)] = (st ++ rowsS st.length t') ++ .lst (iL cs') :: [.lst (hs'.map eH), .lst (t'.map eRow)] := by simp
    rw [sh, tup_mid hA]; rfl
  have tp3 : bTuple [.loc (st.length + 2 + web.length)] ((st ++ (rowsS st.length t' ++ [.lst (iL cs'), .lst (hs'.map eH)])) ++ [.lst (t'.map eRow)]) = .ok (.tup (hs'.map eH)) ((st ++ (rowsS st.length t' ++ [.lst (iL cs'), .lst (hs'.map eH)])) ++ [.lst (t'.map eRow)]) := by
    have hA : st.length + 2 + web.length = ((st ++ rowsS st.length t') ++ [Cell.lst (iL cs')]).length := by simp [rowsS, htl]; omega
    have sh : (st ++ (rowsS st.length t' ++ [Cell.lst (iL cs'), .lst (hs'.map eH)])) ++ [Cell.lst (t'.map eRow)] = ((st ++ rowsS st.length t') ++ [Cell.lst (iL cs')]) ++ .lst (hs'.map eH) :: [.lst (t'.map eRow)] := by simp
    rw [sh, tup_mid hA]
  have fin : tidy st (.ok (eS ⟨t', marks, cs', hs'⟩) ((st ++ (rowsS st.length t' ++ [Cell.lst (iL cs'), .lst (hs'.map eH)])) ++ [.lst (t'.map eRow)])) = .ok (eS ⟨t', marks, cs', hs'⟩) st := by
    rw [List.append_assoc]; exact tidy_junk _ _ _ (und_eS _ _)
  have hst0 : startE 15 [eWeb web, .tup (iL roots), eKept marks stands] = [some (eWeb web), some (.tup (iL roots)), some (eKept marks stands), none, none, none, none, none, none, none, none, none, none, none, none] := rfl
  have hasg : sAsg (gTup [gV 3, gV 4]) (eV 2) [some (eWeb web), some (.tup (iL roots)), some (eKept marks stands), none, none, none, none, none, none, none, none, none, none, none, none] st = .nx [some (eWeb web), some (.tup (iL roots)), some (eKept marks stands), some (eNs marks), some (.tup (stands.map eSt)), none, none, none, none, none, none, none, none, none, none] st := by
    simp [eKept]
  rw [f__law_state, runF_ap _ (show ([eWeb web, .tup (iL roots), eKept marks stands] : List D).length = 3 from rfl), hst0, m__law_state]
  rw [sSeq_ap, hasg, thenS_nx, sSeq_ap, sSet_ap, hrows, thenS_ok, if_pos (by simp), thenS_nx]
  simp only [List.set_cons_succ, List.set_cons_zero]
  rw [sSeq_ap, sSet_ap, hzero, thenS_ok, if_pos (by simp), thenS_nx]
  simp only [List.set_cons_succ, List.set_cons_zero]
  rw [sSeq_ap, sSet_ap, eN_ap, aNil_ap, Res.bind_ok, hheres, thenS_ok, if_pos (by simp), thenS_nx]
  simp only [List.set_cons_succ, List.set_cons_zero]
  rw [sSeq_ap, sFor_ap, hit, thenS_ok]
  show tidy st ((forL [] (gTup [gV 8, gV 9]) stOut _ _ _).thenS _).end = _
  rw [e, thenS_nx, sRet_ap, eN_ap, aCons_ap, eN_ap, aCons_ap, hback]
  simp only [Res.bind_ok, aNil_ap, tp1, aCons_ap, eV_ap, eN_ap, List.getElem?_cons_succ, List.getElem?_cons_zero, tp2, tp3, mkT4, thenS_ok, end_ret]
  exact fin
end TB.K20

end

/-! ## K20I -/
section
set_option linter.all false
set_option autoImplicit false
set_option maxRecDepth 100000
namespace TB.K20
open PySem

theorem call2 {f : List D → Sto → Res D} {L : EM} {env : Env} {S5 S6 S7 : Sto} {d a b : D} (hv : env[0]? = some (some a)) (hL : L env S5 = .ok b S6) (h : f [a, b] S6 = .ok d S7) : (eN f (aCons (eV 0) (aCons L aNil))) env S5 = .ok d S7 := by
  simp [hv, hL, h]
section
variable {sc : List Int}
theorem v_turn {fD fO : List D → Sto → Res D} (hD : ∀ b w, DrawOk sc b w fD) (hO : OfOk sc fO) {ex : Sto} (hex : ex.all (Cell.under (2 + ex.length)) = true) {k b : Int} {rs : List Int} {iw : Nat} {marks : List Nat} {stands : List Stand} (hr : rs.length = sc.length) (hk : 0 ≤ k) (hk2 : k ≤ 500000000)
    (hw : iw < stands.length) (hsl : stands.length ≤ 60) (hne : ∃ (i : Nat) (s : Stand), stands[i]? = some s ∧ s ≠ []) :
    ∃ (k' b' : Int) (rs' : List Int) (i : Nat) (s : Stand), runF 2 3 (mm__law_turn fD fO) [.loc 0, eKept marks stands] (mS sc k rs b ((iw : Int) + 1) ++ ex) = .ok (.int ((i : Int) + 1)) (mS sc k' rs' b' ((i : Int) + 1) ++ ex) ∧ rs'.length = sc.length ∧ k ≤ k' ∧ k' ≤ k + 3 ∧ stands[i]? = some s ∧ s ≠ [] := by
  have hkept : ∀ st, pIx (eKept marks stands) (.int 1) st = .ok (.tup (stands.map eSt)) st := fun st => pIx_tupN (i := 1) rfl
  have hix : ∀ (i : Nat) (s : Stand) st, stands[i]? = some s → pIx (.tup (stands.map eSt)) (.int i) st = .ok (eSt s) st := fun i s st h => ix_tupM st (f := eSt) h
  -- the end: the burst goes down by one
  have tail : ∀ (k' b' : Int) (rs' : List Int) (i : Nat) (x2 : Option D), (sSeq (sAsg (gSub fStore (eV 0) (eC (.str "burst"))) (e2 pSub (e2 pIx (eV 0) (eC (.str "burst"))) (eC (.int 1)))) (sRet (e2 pIx (eV 0) (eC (.str "walker"))))) [some (.loc 0), some (eKept marks stands), x2] (mS sc k' rs' b' ((i : Int) + 1) ++ ex) = .ret (.int ((i : Int) + 1)) (mS sc k' rs' (b' - 1) ((i : Int) + 1) ++ ex) := fun k' b' rs' i x2 => by
    have q1 := m_burst sc k' rs' b' ((i : Int) + 1) ex
    have q2 := s_burst sc k' rs' b' ((i : Int) + 1) ex (b' - 1)
    have q3 := m_walker sc k' rs' (b' - 1) ((i : Int) + 1) ex
    generalize mS sc k' rs' b' ((i : Int) + 1) ++ ex = S0 at *
    generalize mS sc k' rs' (b' - 1) ((i : Int) + 1) ++ ex = S1 at *
    simp [q1, q2, q3]
  have fin : ∀ (k' b' : Int) (rs' : List Int) (i : Nat), tidy (mS sc k rs b ((iw : Int) + 1) ++ ex) (.ok (.int ((i : Int) + 1)) (mS sc k' rs' b' ((i : Int) + 1) ++ ex)) = .ok (.int ((i : Int) + 1)) (mS sc k' rs' b' ((i : Int) + 1) ++ ex) := fun k' b' rs' i => tidy_len _ _ (by rw [mS_app, mS_app]; omega)
  -- a new burst, a new walker
  have redraw : ∃ (k' b' : Int) (rs' : List Int) (i : Nat) (s : Stand), (sSeq (sAsg (gSub fStore (eV 0) (eC (.str "burst"))) (e2 pAdd (eC (.int 1)) (eN fD (aCons (eV 0) (aCons (e2 pIx (eN mkLst (aCons (eC (.int 1)) (aCons (eC (.int 3)) (aCons (eC (.int 9)) aNil)))) (eN fD (aCons (eV 0) (aCons (eC (.int 3)) aNil)))) aNil))))) (sAsg (gSub fStore (eV 0) (eC (.str "walker"))) (eN fO (aCons (eV 0) (aCons (eLc [2] (gV 2) (iFn iRange2 (aCons (eC (.int 1)) (aCons (e2 pAdd (eN bLen (aCons (e2 pIx (eV 1) (eC (.int 1))) aNil)) (eC (.int 1))) aNil))) (tB (e2 pNe (e2 pIx (e2 pIx (eV 1) (eC (.int 1))) (e2 pSub (eV 2) (eC (.int 1)))) (eN mkTup aNil))) (eV 2)) aNil))))) [some (.loc 0), some (eKept marks stands), none] (mS sc k rs b ((iw : Int) + 1) ++ ex) =
      .nx [some (.loc 0), some (eKept marks stands), none] (mS sc k' rs' b' ((i : Int) + 1) ++ ex) ∧ rs'.length = sc.length ∧ k ≤ k' ∧ k' ≤ k + 3 ∧ stands[i]? = some s ∧ s ≠ [] := by
    obtain ⟨j1, rs1, e1, h1, h2⟩ := hD b ((iw : Int) + 1) k rs (ex ++ [.lst (iL [1, 3, 9])]) 3 hr hk (by omega) (by omega) (by omega)
    have hj : ∃ z : Nat, L2.atI (iL [1, 3, 9]) (j1 : Int) = some (.int z) ∧ 0 < z ∧ z ≤ 9 := by
      have : j1 = 0 ∨ j1 = 1 ∨ j1 = 2 := by omega
      rcases this with rfl | rfl | rfl
      · exact ⟨1, rfl, by omega, by omega⟩
      · exact ⟨3, rfl, by omega, by omega⟩
      · exact ⟨9, rfl, by omega, by omega⟩
    obtain ⟨z, hz1, hz2, hz3⟩ := hj
    obtain ⟨j2, rs2, e2', h3, h4⟩ := hD b ((iw : Int) + 1) (k + 1) rs1 (ex ++ [.lst (iL [1, 3, 9])]) z h2 (by omega) (by omega) (by omega) (by omega)
    have mk : mkLst [.int 1, .int 3, .int 9] (mS sc k rs b ((iw : Int) + 1) ++ ex) = .ok (.loc (2 + ex.length)) (mS sc k rs b ((iw : Int) + 1) ++ (ex ++ [.lst (iL [1, 3, 9])])) := by
      rw [mkLst_ap _ _ (by simp [LINE_eq]), mS_app, List.append_assoc]; rfl
    have ix : pIx (.loc (2 + ex.length)) (.int j1) (mS sc (k + 1) rs1 b ((iw : Int) + 1) ++ (ex ++ [.lst (iL [1, 3, 9])])) = .ok (.int z) (mS sc (k + 1) rs1 b ((iw : Int) + 1) ++ (ex ++ [.lst (iL [1, 3, 9])])) := by
      refine pIx_lst ?_ hz1
      rw [← List.append_assoc]; exact at_mid (mS_app ..).symm
    have td1 : tidy (mS sc k rs b ((iw : Int) + 1) ++ ex) (.ok (.int (1 + (j2 : Int))) (mS sc (k + 1 + 1) rs2 b ((iw : Int) + 1) ++ (ex ++ [.lst (iL [1, 3, 9])]))) = .ok (.int (1 + (j2 : Int))) (mS sc (k + 1 + 1) rs2 b ((iw : Int) + 1) ++ ex) := tidy_mS hex (by simp)
    have sb := s_burst sc (k + 1 + 1) rs2 b ((iw : Int) + 1) ex (1 + (j2 : Int))
    -- the walkers that go on
    have hlc : eLc [2] (gV 2) (iFn iRange2 (aCons (eC (.int 1)) (aCons (e2 pAdd (eN bLen (aCons (e2 pIx (eV 1) (eC (.int 1))) aNil)) (eC (.int 1))) aNil))) (tB (e2 pNe (e2 pIx (e2 pIx (eV 1) (eC (.int 1))) (e2 pSub (eV 2) (eC (.int 1)))) (eN mkTup aNil))) (eV 2) [some (.loc 0), some (eKept marks stands), none] (mS sc (k + 1 + 1) rs2 (1 + (j2 : Int)) ((iw : Int) + 1) ++ ex) =
        .ok (.loc (2 + ex.length)) (mS sc (k + 1 + 1) rs2 (1 + (j2 : Int)) ((iw : Int) + 1) ++ (ex ++ [.lst (((rangeD 1 stands.length).filter fun d => match d with
          | .int v => !(stands.getD (v - 1).toNat []).isEmpty
          | _ => false).map id)])) := by
      rw [eLc_mapF (i := ⟨rangeD 1 stands.length, []⟩) id (fun d => match d with
          | .int v => !(stands.getD (v - 1).toNat []).isEmpty
          | _ => false), mS_app, List.append_assoc]
      · have q := iFn_r2 (as := aCons (eC (.int 1)) (aCons (e2 pAdd (eN bLen (aCons (e2 pIx (eV 1) (eC (.int 1))) aNil)) (eC (.int 1))) aNil)) (r := [some (.loc 0), some (eKept marks stands), none]) (st := mS sc (k + 1 + 1) rs2 (1 + (j2 : Int)) ((iw : Int) + 1) ++ ex) (st' := mS sc (k + 1 + 1) rs2 (1 + (j2 : Int)) ((iw : Int) + 1) ++ ex) (a := 1) (b := stands.length + 1) (by
          generalize mS sc (k + 1 + 1) rs2 (1 + (j2 : Int)) ((iw : Int) + 1) ++ ex = S0
          simp [hkept]) (by omega) (by omega) (by omega) (by omega)
        have q2 : ((stands.length : Int) + 1 - 1).toNat = stands.length := by omega
        rw [q2] at q
        exact q
      · simp
      · intro x hx acc
        obtain ⟨v, hv, rfl⟩ := rangeD_ex hx
        have hm1 : (1 : Int) + v - 1 = v := by omega
        have hget : stands[v]? = some stands[v] := List.getElem?_eq_getElem hv
        have hx1 := fun st => hix v _ st hget
        refine ⟨_, by simp [wipeE]; rfl, ?_⟩
        have hgd : stands.getD ((1 : Int) + v - 1).toNat [] = stands[v] := by rw [hm1, Int.toNat_natCast, List.getD_eq_getElem?_getD, hget]; rfl
        simp only [hgd]
        simp [hkept, hm1, hx1, nev_eSt]
      · simp [rangeD_len]; omega
    have hfil : ∀ d ∈ ((rangeD 1 stands.length).filter fun d => match d with
          | .int v => !(stands.getD (v - 1).toNat []).isEmpty
          | _ => false).map id, ∃ (i : Nat) (s : Stand), d = .int ((i : Int) + 1) ∧ stands[i]? = some s ∧ s ≠ [] := by
      intro d hd
      rw [List.map_id, List.mem_filter] at hd
      obtain ⟨hd1, hd2⟩ := hd
      obtain ⟨v, hv, rfl⟩ := rangeD_ex hd1
      have hget : stands[v]? = some stands[v] := List.getElem?_eq_getElem hv
      have hm1 : (1 : Int) + v - 1 = v := by omega
      have hgd : stands.getD ((1 : Int) + v - 1).toNat [] = stands[v] := by rw [hm1, Int.toNat_natCast, List.getD_eq_getElem?_getD, hget]; rfl
      simp only [hgd] at hd2
      exact ⟨v, stands[v], congrArg D.int (by omega), hget, fun z => by rw [z] at hd2; simp at hd2⟩
    have hnil : ((rangeD 1 stands.length).filter fun d => match d with
          | .int v => !(stands.getD (v - 1).toNat []).isEmpty
          | _ => false).map id ≠ [] := by
      obtain ⟨i, s, hs, hs2⟩ := hne
      have hi := (List.getElem?_eq_some_iff.mp hs).1
      have hmem : D.int (1 + (i : Int)) ∈ ((rangeD 1 stands.length).filter fun d => match d with
          | .int v => !(stands.getD (v - 1).toNat []).isEmpty
          | _ => false).map id := by
        rw [List.map_id, List.mem_filter]
        refine ⟨by simp only [rangeD, List.mem_map, List.mem_range]; exact ⟨i, hi, rfl⟩, ?_⟩
        have hm1 : (1 : Int) + i - 1 = i := by omega
        have hgd : stands.getD ((1 : Int) + i - 1).toNat [] = s := by rw [hm1, Int.toNat_natCast, List.getD_eq_getElem?_getD, hs]; rfl
        simp only [hgd]
        cases s with
        | nil => exact absurd rfl hs2
        | cons _ _ => rfl
      intro z
      rw [z] at hmem
      cases hmem
    have hlen : (((rangeD 1 stands.length).filter fun d => match d with
          | .int v => !(stands.getD (v - 1).toNat []).isEmpty
          | _ => false).map id).length < 1000000 := by
      have := List.length_filter_le (fun d => match d with
          | .int v => !(stands.getD (v - 1).toNat []).isEmpty
          | _ => false) (rangeD 1 stands.length)
      rw [rangeD_len] at this
      rw [List.length_map]
      omega
    generalize hxs : ((rangeD 1 stands.length).filter fun d => match d with
          | .int v => !(stands.getD (v - 1).toNat []).isEmpty
          | _ => false).map id = xs at *
    obtain ⟨j3, rs3, d, e3, h5, h6⟩ := hO (1 + (j2 : Int)) ((iw : Int) + 1) (k + 1 + 1) rs2 (ex ++ [.lst xs]) (2 + ex.length) xs h4 (by omega) (by omega) hnil hlen (fun k rs => by rw [← List.append_assoc]; exact at_mid (mS_app ..).symm)
    obtain ⟨i, s, rfl, hi1, hi2⟩ := hfil d (List.mem_of_getElem? h5)
    have td2 : tidy (mS sc (k + 1 + 1) rs2 (1 + (j2 : Int)) ((iw : Int) + 1) ++ ex) (.ok (.int ((i : Int) + 1)) (mS sc (k + 1 + 1 + 1) rs3 (1 + (j2 : Int)) ((iw : Int) + 1) ++ (ex ++ [.lst xs]))) = .ok (.int ((i : Int) + 1)) (mS sc (k + 1 + 1 + 1) rs3 (1 + (j2 : Int)) ((iw : Int) + 1) ++ ex) := tidy_mS hex (by simp)
    have sw := s_walker sc (k + 1 + 1 + 1) rs3 (1 + (j2 : Int)) ((iw : Int) + 1) ex ((i : Int) + 1)
    refine ⟨k + 1 + 1 + 1, 1 + (j2 : Int), rs3, i, s, ?_, h6, by omega, by omega, hi1, hi2⟩
    generalize eLc [2] (gV 2) (iFn iRange2 (aCons (eC (.int 1)) (aCons (e2 pAdd (eN bLen (aCons (e2 pIx (eV 1) (eC (.int 1))) aNil)) (eC (.int 1))) aNil))) (tB (e2 pNe (e2 pIx (e2 pIx (eV 1) (eC (.int 1))) (e2 pSub (eV 2) (eC (.int 1)))) (eN mkTup aNil))) (eV 2) = L at hlc ⊢
    generalize mS sc k rs b ((iw : Int) + 1) ++ ex = S0 at *
    generalize mS sc k rs b ((iw : Int) + 1) ++ (ex ++ [.lst (iL [1, 3, 9])]) = S1 at *
    generalize mS sc (k + 1) rs1 b ((iw : Int) + 1) ++ (ex ++ [.lst (iL [1, 3, 9])]) = S2 at *
    generalize mS sc (k + 1 + 1) rs2 b ((iw : Int) + 1) ++ (ex ++ [.lst (iL [1, 3, 9])]) = S3 at *
    generalize mS sc (k + 1 + 1) rs2 b ((iw : Int) + 1) ++ ex = S4 at *
    generalize mS sc (k + 1 + 1) rs2 (1 + (j2 : Int)) ((iw : Int) + 1) ++ ex = S5 at *
    generalize mS sc (k + 1 + 1) rs2 (1 + (j2 : Int)) ((iw : Int) + 1) ++ (ex ++ [.lst xs]) = S6 at *
    generalize mS sc (k + 1 + 1 + 1) rs3 (1 + (j2 : Int)) ((iw : Int) + 1) ++ (ex ++ [.lst xs]) = S7 at *
    generalize mS sc (k + 1 + 1 + 1) rs3 (1 + (j2 : Int)) ((iw : Int) + 1) ++ ex = S8 at *
    generalize mS sc (k + 1 + 1 + 1) rs3 (1 + (j2 : Int)) ((i : Int) + 1) ++ ex = S9 at *
    have A1 : (e2 pAdd (eC (.int 1)) (eN fD (aCons (eV 0) (aCons (e2 pIx (eN mkLst (aCons (eC (.int 1)) (aCons (eC (.int 3)) (aCons (eC (.int 9)) aNil)))) (eN fD (aCons (eV 0) (aCons (eC (.int 3)) aNil)))) aNil)))) [some (.loc 0), some (eKept marks stands), none] S0 = .ok (.int (1 + (j2 : Int))) S3 := by
      have B1 : (eN mkLst (aCons (eC (.int 1)) (aCons (eC (.int 3)) (aCons (eC (.int 9)) aNil)))) [some (.loc 0), some (eKept marks stands), none] S0 = .ok (.loc (2 + ex.length)) S1 := mk
      have B2 : (eN fD (aCons (eV 0) (aCons (eC (.int 3)) aNil))) [some (.loc 0), some (eKept marks stands), none] S1 = .ok (.int j1) S2 := e1
      have B3 : (e2 pIx (eN mkLst (aCons (eC (.int 1)) (aCons (eC (.int 3)) (aCons (eC (.int 9)) aNil)))) (eN fD (aCons (eV 0) (aCons (eC (.int 3)) aNil)))) [some (.loc 0), some (eKept marks stands), none] S0 = .ok (.int z) S2 := by
        rw [e2_ap, B1, Res.bind_ok, B2, Res.bind_ok, ix]
      have B4 : (eN fD (aCons (eV 0) (aCons (e2 pIx (eN mkLst (aCons (eC (.int 1)) (aCons (eC (.int 3)) (aCons (eC (.int 9)) aNil)))) (eN fD (aCons (eV 0) (aCons (eC (.int 3)) aNil)))) aNil))) [some (.loc 0), some (eKept marks stands), none] S0 = .ok (.int j2) S3 := by
        rw [eN_ap, aCons_ap]
        show ((aCons (e2 pIx _ _) aNil _ S0).bind _).bind fD = _
        rw [aCons_ap, B3]
        exact e2'
      rw [e2_ap, eC_ap, Res.bind_ok, B4]
      rfl
    have A2 : (eN fO (aCons (eV 0) (aCons L aNil))) [some (.loc 0), some (eKept marks stands), none] S5 = .ok (.int ((i : Int) + 1)) S7 := by
      exact call2 rfl hlc e3
    have C1 : sAsg (gSub fStore (eV 0) (eC (.str "burst"))) (e2 pAdd (eC (.int 1)) (eN fD (aCons (eV 0) (aCons (e2 pIx (eN mkLst (aCons (eC (.int 1)) (aCons (eC (.int 3)) (aCons (eC (.int 9)) aNil)))) (eN fD (aCons (eV 0) (aCons (eC (.int 3)) aNil)))) aNil)))) [some (.loc 0), some (eKept marks stands), none] S0 = .nx [some (.loc 0), some (eKept marks stands), none] S5 := by
      rw [sAsg_ap, A1, td1, thenS_ok]
      show (((fStore (.loc 0) (.str "burst") (.int (1 + (j2 : Int))) S4).bind _).thenS _ _ : SRes) = _
      rw [sb]
      rfl
    have C2 : sAsg (gSub fStore (eV 0) (eC (.str "walker"))) (eN fO (aCons (eV 0) (aCons L aNil))) [some (.loc 0), some (eKept marks stands), none] S5 = .nx [some (.loc 0), some (eKept marks stands), none] S9 := by
      rw [sAsg_ap, A2, td2, thenS_ok]
      show (((fStore (.loc 0) (.str "walker") (.int ((i : Int) + 1)) S8).bind _).thenS _ _ : SRes) = _
      rw [sw]
      rfl
    rw [sSeq_ap, C1, thenS_nx]
    exact C2
  obtain ⟨sw0, hsw0⟩ : ∃ s, stands[iw]? = some s := ⟨_, List.getElem?_eq_getElem hw⟩
  have q1 := m_burst sc k rs b ((iw : Int) + 1) ex
  have q2 := m_walker sc k rs b ((iw : Int) + 1) ex
  have q3 : (iw : Int) + 1 - 1 = iw := by omega
  have q4 := fun st => hix iw sw0 st hsw0
  have cond : (tOr (tB (e2 pEq (e2 pIx (eV 0) (eC (.str "burst"))) (eC (.int 0)))) (tB (e2 pEq (e2 pIx (e2 pIx (eV 1) (eC (.int 1))) (e2 pSub (e2 pIx (eV 0) (eC (.str "walker"))) (eC (.int 1)))) (eN mkTup aNil)))) [some (.loc 0), some (eKept marks stands), none] (mS sc k rs b ((iw : Int) + 1) ++ ex) = .ok (b == 0 || sw0.isEmpty) (mS sc k rs b ((iw : Int) + 1) ++ ex) := by
    generalize mS sc k rs b ((iw : Int) + 1) ++ ex = S0 at *
    cases hb : (b == 0) <;> simp [q1, q2, hkept, q3, q4, eqv_eSt, hb]
  have hst : startE 3 [.loc 0, eKept marks stands] = [some (.loc 0), some (eKept marks stands), none] := rfl
  rw [runF_ap _ (show ([.loc 0, eKept marks stands] : List D).length = 2 from rfl), hst, mm__law_turn, sSeq_ap, sIf_ap, cond, thenS_ok]
  by_cases hc : (b == 0 || sw0.isEmpty) = true
  · obtain ⟨k', b', rs', i, s, e, h1, h2, h3, h4, h5⟩ := redraw
    refine ⟨k', b' - 1, rs', i, s, ?_, h1, h2, h3, h4, h5⟩
    rw [if_pos hc, e, thenS_nx, tail, end_ret, fin]
  · refine ⟨k, b - 1, rs, iw, sw0, ?_, hr, by omega, by omega, hsw0, fun z => ?_⟩
    · rw [if_neg hc, sSkip_ap, thenS_nx, tail, end_ret, fin]
    · rw [z] at hc; simp at hc
end
end TB.K20

end

/-! ## K20J -/
section
set_option linter.all false
set_option autoImplicit false
set_option maxRecDepth 100000
namespace TB.K20
open PySem

theorem v_word_place {st : Sto} : f__law_word [.exc "OutOfPlace" []] st = .ok (.tup [.str "place"]) st := by
  have a1 : ∀ st, bIsiX xcs [.exc "OutOfPlace" [], .tup [.gl "BadOrder", .gl "BadPaper", .gl "BadRow", .gl "BadSharing", .gl "BadWeb", .gl "TooGreat"]] st = .ok (.bl false) st := fun st => by
    have : excSub xcs (.tup [.gl "BadOrder", .gl "BadPaper", .gl "BadRow", .gl "BadSharing", .gl "BadWeb", .gl "TooGreat"]) "OutOfPlace" = some false := by decide +kernel
    simp only [bIsiX, this]
  have a2 : ∀ st, bIsiX xcs [.exc "OutOfPlace" [], .ty "ValueError"] st = .ok (.bl true) st := fun st => by
    have : excSub xcs (.ty "ValueError") "OutOfPlace" = some true := by decide +kernel
    simp only [bIsiX, this]
  have a3 : ∀ st, bIsiX xcs [.exc "OutOfPlace" [], .gl "BadState"] st = .ok (.bl false) st := fun st => by
    have : excSub xcs (.gl "BadState") "OutOfPlace" = some false := by decide +kernel
    simp only [bIsiX, this]
  have a4 : ∀ st, bIsiX xcs [.exc "OutOfPlace" [], .gl "OutOfPlace"] st = .ok (.bl true) st := fun st => by
    have : excSub xcs (.gl "OutOfPlace") "OutOfPlace" = some true := by decide +kernel
    simp only [bIsiX, this]
  have m6 : ∀ (a b c d e f : D) st, mkTup [a, b, c, d, e, f] st = .ok (.tup [a, b, c, d, e, f]) st := fun a b c d e f st => if_pos (by simp [LINE])
  simp [f__law_word, runF_ap, m__law_word, startE, isNonD, a1, a2, a3, a4, m6]
theorem v_word_state {st : Sto} : f__law_word [.exc "BadState" [.non]] st = .ok (.tup [.str "state", .non]) st := by
  have a1 : ∀ st, bIsiX xcs [.exc "BadState" [.non], .tup [.gl "BadOrder", .gl "BadPaper", .gl "BadRow", .gl "BadSharing", .gl "BadWeb", .gl "TooGreat"]] st = .ok (.bl false) st := fun st => by
    have : excSub xcs (.tup [.gl "BadOrder", .gl "BadPaper", .gl "BadRow", .gl "BadSharing", .gl "BadWeb", .gl "TooGreat"]) "BadState" = some false := by decide +kernel
    simp only [bIsiX, this]
  have a2 : ∀ st, bIsiX xcs [.exc "BadState" [.non], .ty "ValueError"] st = .ok (.bl true) st := fun st => by
    have : excSub xcs (.ty "ValueError") "BadState" = some true := by decide +kernel
    simp only [bIsiX, this]
  have a3 : ∀ st, bIsiX xcs [.exc "BadState" [.non], .gl "BadState"] st = .ok (.bl true) st := fun st => by
    have : excSub xcs (.gl "BadState") "BadState" = some true := by decide +kernel
    simp only [bIsiX, this]
  have a4 : ∀ st, bIsiX xcs [.exc "BadState" [.non], .gl "OutOfPlace"] st = .ok (.bl false) st := fun st => by
    have : excSub xcs (.gl "OutOfPlace") "BadState" = some false := by decide +kernel
    simp only [bIsiX, this]
  have a5 : ∀ st, aFld xcs "node" (.exc "BadState" [.non]) st = .ok .non st := fun st => by
    have e1 : ((excFld "BadState").zip [D.non]).lookup ("node" : Str) = some D.non := by decide +kernel
    have e2 : xcs.contains "BadState" = true := by decide +kernel
    simp only [aFld, e1, e2, if_true]
  have m6 : ∀ (a b c d e f : D) st, mkTup [a, b, c, d, e, f] st = .ok (.tup [a, b, c, d, e, f]) st := fun a b c d e f st => if_pos (by simp [LINE])
  simp [f__law_word, runF_ap, m__law_word, startE, isNonD, a1, a2, a3, a4, a5, m6]
theorem tryAs_exc {sub : Str → Option Bool} {b : SM} {i j : Nat} {r r1 : Env} {st s1 : Sto} {c : Str} {fs : List D} (h : b r st = .exc c fs r1 s1) (hs : sub c = some true) (hl : i < r1.length ∧ j < r1.length) : sTryAs sub b i j r st = .nx (((r1.set i (some (.exc c fs))).set j (some (.exc c fs))).set i none) s1 := by
  unfold sTryAs
  rw [h]
  simp only [hs]
  rw [if_pos hl]
theorem v_way_refused {st : Sto} {s o word : D} {c : Str} {fs : List D} (he : f_way_of [s, o] st = .exc c fs st) (hs : excSub xcs (.gl "WebError") c = some true) (hw : f__law_word [.exc c fs] st = .ok word st) : f__law_way_refused [s, o] st = .ok word st := by
  have key : ∀ fW fL : List D → Sto → Res D, fW [s, o] st = .exc c fs st → fL [.exc c fs] st = .ok word st → runF 2 4 (mm__law_way_refused fW fL) [s, o] st = .ok word st := by
    intro fW fL h1 h2
    have ht := tryAs_exc (sub := excSub xcs (.gl "WebError")) (b := sExp (eN fW (aCons (eV 0) (aCons (eV 1) aNil)))) (i := 3) (j := 2) (r := [some s, some o, some .non, none]) (r1 := [some s, some o, some .non, none]) (st := st) (s1 := st) (c := c) (fs := fs) (by simp [h1]) hs (by simp)
    simp [mm__law_way_refused, runF_ap, startE, ht, h2]
  exact key _ _ he hw
theorem v_refused {st : Sto} {x : Str} {o word : D} {c : Str} {fs : List D} {F : List D → Sto → Res D} (hx : ([("turned_back", f_turned_back), ("roots_of", f_roots_of)] : Tbl).lookup x = some F) (he : F [o] st = .exc c fs st) (hs : excSub xcs (.gl "WebError") c = some true) (hw : f__law_word [.exc c fs] st = .ok word st) :
    f__law_refused [.gl x, o] st = .ok word st := by
  have key : ∀ fT fR fL : List D → Sto → Res D, ([("turned_back", fT), ("roots_of", fR)] : Tbl).lookup x = some F → fL [.exc c fs] st = .ok word st → runF 2 4 (mm__law_refused fT fR fL) [.gl x, o] st = .ok word st := by
    intro fT fR fL hx h2
    have hc : eCallL 0 [("turned_back", fT), ("roots_of", fR)] (aCons (eV 1) aNil) [some (.gl x), some o, some .non, none] st = .exc c fs st := by
      unfold eCallL
      simp only [List.getElem?_cons_zero, hx, aCons_ap, aNil_ap, eV_ap, List.getElem?_cons_succ, Res.bind_ok, he]
    have ht := tryAs_exc (sub := excSub xcs (.gl "WebError")) (b := sExp (eCallL 0 [("turned_back", fT), ("roots_of", fR)] (aCons (eV 1) aNil))) (i := 3) (j := 2) (r := [some (.gl x), some o, some .non, none]) (r1 := [some (.gl x), some o, some .non, none]) (st := st) (s1 := st) (c := c) (fs := fs) (by rw [sExp_ap, hc]; simp) hs (by simp)
    simp [mm__law_refused, runF_ap, startE, ht, h2]
  exact key _ _ _ hx hw
/-- no state, said of anything that may stand there -/
def NoState (st : Sto) (d : D) : Prop := f_need_state [d] st = .exc "BadState" [.non] st
theorem no_sm {st : Sto} {d : D} {n : Nat} (h : D.sm n d = true) (h2 : isStateD d = false) : NoState st d := by
  unfold NoState
  rw [w_need_state h, h2]; rfl
theorem no_lst {st : Sto} {p : Nat} {xs : List D} (h : lstAt st p = some xs) : NoState st (.loc p) := by
  have ht : tyN st (.loc p) = some "list" := by simp only [tyN, lstAt_some h]
  have hi : bIsiX xcs [.loc p, .ty "tuple"] st = .ok (.bl false) st := isi_tup (d := .loc p) (by rw [ht]; rfl)
  have hs : f_is_state [.loc p] st = .ok (.bl false) st := by
    rw [f_is_state, runF_ap _ (show ([.loc p] : List D).length = 1 from rfl), m_is_state]
    have : startE 6 [.loc p] = [some (.loc p), none, none, none, none, none] := rfl
    rw [this]
    simp [hi]
  unfold NoState
  have key : ∀ fS : List D → Sto → Res D, fS [.loc p] st = .ok (.bl false) st → runF 1 1 (mm_need_state fS) [.loc p] st = .exc "BadState" [.non] st := by
    intro fS h
    simp [mm_need_state, runF_ap, startE, h]
  exact key _ hs
theorem no_way {st : Sto} {d o : D} (h : NoState st d) : f_way_of [d, o] st = .exc "BadState" [.non] st := by
  unfold NoState at h
  have key : ∀ fN fW fB : List D → Sto → Res D, fN [d] st = .exc "BadState" [.non] st → runF 2 2 (mm_way_of fN fW fB) [d, o] st = .exc "BadState" [.non] st := by
    intro fN fW fB h
    simp [mm_way_of, runF_ap, startE, h]
  exact key _ _ _ h
theorem no_turned {st : Sto} {d : D} (h : NoState st d) : f_turned_back [d] st = .exc "BadState" [.non] st := by
  unfold NoState at h
  have key : ∀ fN fW fB : List D → Sto → Res D, fN [d] st = .exc "BadState" [.non] st → runF 1 1 (mm_turned_back fN fW fB) [d] st = .exc "BadState" [.non] st := by
    intro fN fW fB h
    simp [mm_turned_back, runF_ap, startE, h]
  exact key _ _ _ h
theorem no_roots {st : Sto} {d : D} (h : NoState st d) : f_roots_of [d] st = .exc "BadState" [.non] st := by
  unfold NoState at h
  have key : ∀ fN fW fB : List D → Sto → Res D, fN [d] st = .exc "BadState" [.non] st → runF 1 1 (mm_roots_of fN fW fB) [d] st = .exc "BadState" [.non] st := by
    intro fN fW fB h
    simp [mm_roots_of, runF_ap, startE, h]
  exact key _ _ _ h
theorem odd_way {st : Sto} {s : State} {o : D} (hS : isStateD (eS s) = true) (ht : (tyN st o).isSome = true) (ho : amg o 1 s.heres.length = false) : f_way_of [eS s, o] st = .exc "OutOfPlace" [] st := by
  have h1 : f_need_state [eS s] st = .ok .non st := (w_need_state (sm_eS s)).trans (if_pos hS)
  have h2 : f_need_walker [eS s, o] st = .exc "OutOfPlace" [] st := by rw [w_need_walker ht, ho]; rfl
  have key : ∀ fN fW fB : List D → Sto → Res D, fN [eS s] st = .ok .non st → fW [eS s, o] st = .exc "OutOfPlace" [] st → runF 2 2 (mm_way_of fN fW fB) [eS s, o] st = .exc "OutOfPlace" [] st := by
    intro fN fW fB h1 h2
    simp [mm_way_of, runF_ap, startE, h1, h2]
  exact key _ _ _ h1 h2
theorem web_err (c : Str) (h : c = "BadState" ∨ c = "OutOfPlace") : excSub xcs (.gl "WebError") c = some true := by
  rcases h with rfl | rfl <;> decide +kernel
end TB.K20

end

/-! ## K20K -/
section
set_option linter.all false
set_option autoImplicit false
set_option maxRecDepth 100000
namespace TB.K20
open PySem

section
variable {sc : List Int} {b w : Int} {web : Web} {roots marks : List Nat} {stands : List Stand}
def envS (web : Web) (roots marks : List Nat) (stands : List Stand) (x6 x7 x8 x9 x10 x11 : Option D) : Env := [some (.loc 0), some (eWeb web), some (.tup (iL roots)), some (eKept marks stands), some (eS (stateOf web roots marks stands)), some (.str (eS (stateOf web roots marks stands)).py.shown), x6, x7, x8, x9, x10, x11, none, none]
def srIn (fW : List D → Sto → Res D) : SM := sIf (tB (e2 pNe (eN bRepr (aCons (eN fW (aCons (eV 4) (aCons (e2 pAdd (eV 7) (eC (.int 1))) aNil))) aNil)) (eN bRepr (aCons (eN bTuple (aCons (eLc [12, 13] (gTup [gV 12, gV 13]) (iVal (eV 8)) tYes (eV 12)) aNil)) aNil)))) (sRet (eC (.bl false))) sSkip
def srLoop (fW fT fR : List D → Sto → Res D) : SM := sFor (gV 6) (iFn iRange1 (aCons (eC (.int 2)) aNil)) (sSeq (sFor (gTup [gV 7, gV 8]) (iFn iEnumF (aCons (e2 pIx (eV 3) (eC (.int 1))) aNil)) (srIn fW)) (sIf (tOr (tB (e2 pNe (eN bRepr (aCons (eN fT (aCons (eV 4) aNil)) aNil)) (eN bRepr (aCons (eV 1) aNil)))) (tB (e2 pNe (eN bRepr (aCons (eN fR (aCons (eV 4) aNil)) aNil)) (eN bRepr (aCons (eW (eV 2)) aNil))))) (sRet (eC (.bl false))) sSkip))
theorem v_srIn {fW : List D → Sto → Res D} (G : Good web roots marks stands) (hW : ∀ (i : Nat) (s : Stand) st, stands[i]? = some s → fW [eS (stateOf web roots marks stands), .int ((i : Int) + 1)] st = .ok (eNs (s.map Prod.fst)) st) {i : Nat} {s : Stand} (hs : stands[i]? = some s) (x6 : Option D) (st : Sto) :
    srIn fW (envS web roots marks stands x6 (some (.int i)) (some (eSt s)) none none none) st = .nx (envS web roots marks stands x6 (some (.int i)) (some (eSt s)) none none none) (st ++ [.lst (iL (s.map Prod.fst))]) := by
  have hm := List.mem_of_getElem? hs
  have hlc : eLc [12, 13] (gTup [gV 12, gV 13]) (iVal (eV 8)) tYes (eV 12) (envS web roots marks stands x6 (some (.int i)) (some (eSt s)) none none none) st = .ok (.loc st.length) (st ++ [.lst (iL (s.map Prod.fst))]) := by
    rw [eLc_map (i := ⟨s.map eP, []⟩) (fun d => match d with
      | .tup [n, _] => n
      | _ => .non)]
    · refine congrArg (fun z => Res.ok (D.loc st.length) (st ++ [Cell.lst z])) ?_
      simp [iL, eP]
    · rfl
    · simp
    · intro x hx acc
      obtain ⟨p, hp, rfl⟩ := List.mem_map.mp hx
      refine ⟨envS web roots marks stands x6 (some (.int i)) (some (eSt s)) none none none |>.set 12 (some (.int p.1)) |>.set 13 (some (.int p.2)), by simp [wipeE, envS, eP], ?_⟩
      simp [envS, eP]
    · have := G.standLen hm; simp; omega
  have tp : bTuple [.loc st.length] (st ++ [.lst (iL (s.map Prod.fst))]) = .ok (eNs (s.map Prod.fst)) (st ++ [.lst (iL (s.map Prod.fst))]) := by
    simp only [bTuple, lstVal, lst_end]; rfl
  have rp := G.wayRp hm
  have hw := hW i s st hs
  have h7 : (e2 pAdd (eV 7) (eC (.int 1))) (envS web roots marks stands x6 (some (.int i)) (some (eSt s)) none none none) st = .ok (.int ((i : Int) + 1)) st := rfl
  have hE : ∀ st, eV 4 (envS web roots marks stands x6 (some (.int i)) (some (eSt s)) none none none) st = .ok (eS (stateOf web roots marks stands)) st := fun _ => rfl
  generalize envS web roots marks stands x6 (some (.int i)) (some (eSt s)) none none none = E at *
  generalize eS (stateOf web roots marks stands) = SS at *
  generalize eNs (s.map Prod.fst) = NN at *
  have c1 : (eN bRepr (aCons (eN fW (aCons (eV 4) (aCons (e2 pAdd (eV 7) (eC (.int 1))) aNil))) aNil)) E st = .ok (.str NN.py.shown) st := by
    simp only [eN_ap, aCons_ap, aNil_ap, hE, h7, Res.bind_ok, hw, rp.ap]
  have c2 : (eN bRepr (aCons (eN bTuple (aCons (eLc [12, 13] (gTup [gV 12, gV 13]) (iVal (eV 8)) tYes (eV 12)) aNil)) aNil)) E st = .ok (.str NN.py.shown) (st ++ [.lst (iL (s.map Prod.fst))]) := by
    simp only [eN_ap, aCons_ap, aNil_ap, hlc, Res.bind_ok, tp, rp.ap]
  have c3 : (tB (e2 pNe (eN bRepr (aCons (eN fW (aCons (eV 4) (aCons (e2 pAdd (eV 7) (eC (.int 1))) aNil))) aNil)) (eN bRepr (aCons (eN bTuple (aCons (eLc [12, 13] (gTup [gV 12, gV 13]) (iVal (eV 8)) tYes (eV 12)) aNil)) aNil)))) E st = .ok false (st ++ [.lst (iL (s.map Prod.fst))]) := by
    rw [tB_ap, e2_ap, c1, Res.bind_ok, c2, Res.bind_ok, pNe_str, Res.bind_ok, isBl_bl, decide_eq_true rfl]
    rfl
  rw [srIn, sIf_ap, c3, thenS_ok, if_neg (by decide), sSkip_ap]
theorem v_srLoop {fW fT fR : List D → Sto → Res D} (G : Good web roots marks stands) (hW : ∀ (i : Nat) (s : Stand) st, stands[i]? = some s → fW [eS (stateOf web roots marks stands), .int ((i : Int) + 1)] st = .ok (eNs (s.map Prod.fst)) st)
    (hT : ∀ st, fT [eS (stateOf web roots marks stands)] st = .ok (eWeb web) st) (hR : ∀ st, fR [eS (stateOf web roots marks stands)] st = .ok (eNs roots) st) (A : Sto) :
    ∃ js x6 x7 x8, Junk js ∧ srLoop fW fT fR (envS web roots marks stands none none none none none none) A = .nx (envS web roots marks stands x6 x7 x8 none none none) (A ++ js) := by
  have inner : ∀ (x6 x7 x8 : Option D) (js : Sto), Junk js → ∃ js' x7' x8', Junk js' ∧ sFor (gTup [gV 7, gV 8]) (iFn iEnumF (aCons (e2 pIx (eV 3) (eC (.int 1))) aNil)) (srIn fW) (envS web roots marks stands x6 x7 x8 none none none) (A ++ js) = .nx (envS web roots marks stands x6 x7' x8' none none none) (A ++ js') := by
    intro x6 x7 x8 js hj
    have hit : iFn iEnumF (aCons (e2 pIx (eV 3) (eC (.int 1))) aNil) (envS web roots marks stands x6 x7 x8 none none none) (A ++ js) = .ok ⟨enumD 0 (stands.map eSt), []⟩ (A ++ js) := rfl
    obtain ⟨r', st', e, js', x7', x8', hj', rfl, rfl⟩ := forL_inv (hs := []) (g := gTup [gV 7, gV 8]) (b := srIn fW) (xs := enumD 0 (stands.map eSt))
      (fun k r st => ∃ (js' : Sto) (x7' x8' : Option D), Junk js' ∧ r = envS web roots marks stands x6 x7' x8' none none none ∧ st = A ++ js') (r := envS web roots marks stands x6 x7 x8 none none none) (st := A ++ js) ⟨js, x7, x8, hj, rfl, rfl⟩ (fun _ _ _ _ _ => rfl) (by
        rintro k r st x hx ⟨js', x7', x8', hj', rfl, rfl⟩
        rw [enumD_get, List.getElem?_map] at hx
        cases hs : stands[k]? with
        | none => rw [hs] at hx; cases hx
        | some s =>
          rw [hs] at hx
          simp at hx
          subst hx
          refine ⟨envS web roots marks stands x6 (some (.int k)) (some (eSt s)) none none none, A ++ js', _, _, by simp [envS], v_srIn G hW hs x6 (A ++ js'), js' ++ [.lst (iL (s.map Prod.fst))], _, _, hj'.add (smL_iL 0 _), rfl, by simp⟩)
    refine ⟨js', x7', x8', hj', ?_⟩
    rw [sFor_ap, hit, thenS_ok]
    exact e
  have rpw := G.webRp
  have rpr := G.rootsRp
  have check : ∀ (x6 x7 x8 : Option D) (st : Sto), (sIf (tOr (tB (e2 pNe (eN bRepr (aCons (eN fT (aCons (eV 4) aNil)) aNil)) (eN bRepr (aCons (eV 1) aNil)))) (tB (e2 pNe (eN bRepr (aCons (eN fR (aCons (eV 4) aNil)) aNil)) (eN bRepr (aCons (eW (eV 2)) aNil))))) (sRet (eC (.bl false))) sSkip) (envS web roots marks stands x6 x7 x8 none none none) st = .nx (envS web roots marks stands x6 x7 x8 none none none) st := by
    intro x6 x7 x8 st
    have hE4 : ∀ st, eV 4 (envS web roots marks stands x6 x7 x8 none none none) st = .ok (eS (stateOf web roots marks stands)) st := fun _ => rfl
    have hE1 : ∀ st, eV 1 (envS web roots marks stands x6 x7 x8 none none none) st = .ok (eWeb web) st := fun _ => rfl
    have hE2 : ∀ st, eW (eV 2) (envS web roots marks stands x6 x7 x8 none none none) st = .ok (eNs roots) st := fun _ => rfl
    have hT' := hT
    have hR' := hR
    generalize envS web roots marks stands x6 x7 x8 none none none = E at *
    generalize eS (stateOf web roots marks stands) = SS at *
    generalize eWeb web = WW at *
    generalize eNs roots = NN at *
    have c1 : (tB (e2 pNe (eN bRepr (aCons (eN fT (aCons (eV 4) aNil)) aNil)) (eN bRepr (aCons (eV 1) aNil)))) E st = .ok false st := by
      simp only [tB_ap, e2_ap, eN_ap, aCons_ap, aNil_ap, hE4, hE1, Res.bind_ok, hT', rpw.ap, pNe_str, isBl_bl]
      simp
    have c2 : (tB (e2 pNe (eN bRepr (aCons (eN fR (aCons (eV 4) aNil)) aNil)) (eN bRepr (aCons (eW (eV 2)) aNil)))) E st = .ok false st := by
      simp only [tB_ap, e2_ap, eN_ap, aCons_ap, aNil_ap, hE4, hE2, Res.bind_ok, hR', rpr.ap, pNe_str, isBl_bl]
      simp
    rw [sIf_ap, tOr_ap, c1, Res.bind_ok, if_neg (by decide), c2, thenS_ok, if_neg (by decide), sSkip_ap]
  have hit : iFn iRange1 (aCons (eC (.int 2)) aNil) (envS web roots marks stands none none none none none none) A = .ok ⟨rangeD 0 2, []⟩ A := by
    have := iFn_r1 (as := aCons (eC (.int 2)) aNil) (r := envS web roots marks stands none none none none none none) (b := ((2 : Nat) : Int)) (st := A) (st' := A) rfl (by omega) (by omega)
    rwa [Int.toNat_natCast] at this
  obtain ⟨r', st', e, js', x6', x7', x8', hj', rfl, rfl⟩ := forL_inv (hs := []) (g := gV 6) (b := sSeq (sFor (gTup [gV 7, gV 8]) (iFn iEnumF (aCons (e2 pIx (eV 3) (eC (.int 1))) aNil)) (srIn fW)) (sIf (tOr (tB (e2 pNe (eN bRepr (aCons (eN fT (aCons (eV 4) aNil)) aNil)) (eN bRepr (aCons (eV 1) aNil)))) (tB (e2 pNe (eN bRepr (aCons (eN fR (aCons (eV 4) aNil)) aNil)) (eN bRepr (aCons (eW (eV 2)) aNil))))) (sRet (eC (.bl false))) sSkip)) (xs := rangeD 0 2)
    (fun k r st => ∃ (js' : Sto) (x6' x7' x8' : Option D), Junk js' ∧ r = envS web roots marks stands x6' x7' x8' none none none ∧ st = A ++ js') (r := envS web roots marks stands none none none none none none) (st := A) ⟨[], none, none, none, Junk.nil, rfl, by simp⟩ (fun _ _ _ _ _ => rfl) (by
      rintro k r st x hx ⟨js', x6', x7', x8', hj', rfl, rfl⟩
      obtain ⟨js2, x72, x82, hj2, e2⟩ := inner (some x) x7' x8' js' hj'
      refine ⟨envS web roots marks stands (some x) x7' x8' none none none, A ++ js', envS web roots marks stands (some x) x72 x82 none none none, A ++ js2, by simp [envS], ?_, js2, _, _, _, hj2, rfl, rfl⟩
      rw [sSeq_ap, e2, thenS_nx, check])
  refine ⟨js', x6', x7', x8', hj', ?_⟩
  rw [srLoop, sFor_ap, hit, thenS_ok]
  exact e
end
end TB.K20

end

/-! ## K20L -/
section
set_option linter.all false
set_option autoImplicit false
set_option maxRecDepth 100000
namespace TB.K20
open PySem

section
variable {sc : List Int} {b w : Int} {web : Web} {roots marks : List Nat} {stands : List Stand}
def oddA : EM := eN mkLst (aCons (eC (.int 0)) (aCons (e2 pAdd (eN bLen (aCons (eW (eV 2)) aNil)) (eC (.int 1))) (aCons (e1 pNeg (eC (.int 1))) (aCons (eC .non) (aCons (eC (.bl true)) (aCons (eC (.str "1")) (aCons (eN mkTup (aCons (eC (.int 1)) aNil)) (aCons (eN mkLst (aCons (eC (.int 1)) aNil)) (aCons (e2 pPow (eC (.int 10)) (eC (.int 30))) aNil)))))))))
def nonA : EM := eN mkLst (aCons (eC .non) (aCons (eN mkTup aNil) (aCons (eSl (eV 4) oN (oS (eC (.int 3)))) (aCons (e2 pAdd (eV 4) (eN mkTup (aCons (eN mkTup aNil) aNil))) (aCons (eN bList (aCons (eV 4) aNil)) (aCons (eC (.str "state")) (aCons (e2 pIx (eV 4) (eC (.int 0))) (aCons (eN mkTup (aCons (eV 4) aNil)) (aCons (eC (.int 5)) aNil)))))))))
theorem mkL9 (a b c d e f g h i : D) (st : Sto) : mkLst [a, b, c, d, e, f, g, h, i] st = .ok (.loc st.length) (st ++ [.lst [a, b, c, d, e, f, g, h, i]]) := mkLst_ap _ _ (by simp [LINE])
theorem mkL1 (a : D) (st : Sto) : mkLst [a] st = .ok (.loc st.length) (st ++ [.lst [a]]) := mkLst_ap _ _ (by simp [LINE])
theorem v_oddA (x6 x7 x8 : Option D) (st : Sto) : oddA (envS web roots marks stands x6 x7 x8 none none none) st = .ok (.loc (st.length + 1)) (st ++ [.lst [.int 1], .lst [.int 0, .int (roots.length + 1), .int (-1), .non, .bl true, .str "1", .tup [.int 1], .loc st.length, .int (10 ^ 30)]]) := by
  have p1 : ∀ st, pPow (.int 10) (.int 30) st = .ok (.int (10 ^ 30)) st := fun st => by
    have : (30 : Int).toNat = 30 := rfl
    simp only [pPow]
    rw [if_pos ⟨by omega, by omega, by decide⟩, this]
  have v2 : ∀ st, eW (eV 2) (envS web roots marks stands x6 x7 x8 none none none) st = .ok (.tup (iL roots)) st := fun _ => rfl
  have hl : (iL roots).length = roots.length := by simp [iL]
  generalize envS web roots marks stands x6 x7 x8 none none none = E at *
  simp only [oddA, eN_ap, aCons_ap, aNil_ap, eC_ap, e2_ap, e1_ap, v2, Res.bind_ok, bLen_tup, pAdd_int, pNeg_int, mkT1, mkL1, p1, mkL9, hl, List.length_append, List.length_cons, List.length_nil, List.append_assoc, List.cons_append, List.nil_append]
theorem v_nonA (x6 x7 x8 x9 : Option D) (st : Sto) : nonA (envS web roots marks stands x6 x7 x8 x9 none none) st = .ok (.loc (st.length + 1)) (st ++ [.lst [eWeb (stateOf web roots marks stands).ties, eNs (stateOf web roots marks stands).marks, eNs (stateOf web roots marks stands).counts, .tup ((stateOf web roots marks stands).heres.map eH)],
    .lst [.non, .tup [], .tup [eWeb (stateOf web roots marks stands).ties, eNs (stateOf web roots marks stands).marks, eNs (stateOf web roots marks stands).counts], .tup [eWeb (stateOf web roots marks stands).ties, eNs (stateOf web roots marks stands).marks, eNs (stateOf web roots marks stands).counts, .tup ((stateOf web roots marks stands).heres.map eH), .tup []], .loc st.length, .str "state", eWeb (stateOf web roots marks stands).ties, .tup [eS (stateOf web roots marks stands)], .int 5]]) := by
  have v4 : ∀ st, eV 4 (envS web roots marks stands x6 x7 x8 x9 none none) st = .ok (eS (stateOf web roots marks stands)) st := fun _ => rfl
  generalize envS web roots marks stands x6 x7 x8 x9 none none = E at *
  generalize stateOf web roots marks stands = S at *
  have s1 : ∀ st, pSl (eS S) none (some 3) st = .ok (.tup [eWeb S.ties, eNs S.marks, eNs S.counts]) st := fun st => by
    have : cutD [eWeb S.ties, eNs S.marks, eNs S.counts, .tup (S.heres.map eH)] none (some ((3 : Nat) : Int)) = [eWeb S.ties, eNs S.marks, eNs S.counts] := by rw [cut_take]; rfl
    rw [eS, pSl_tup]
    exact congrArg (fun z => Res.ok (D.tup z) st) this
  have s2 : ∀ st, pAdd (eS S) (.tup [.tup []]) st = .ok (.tup [eWeb S.ties, eNs S.marks, eNs S.counts, .tup (S.heres.map eH), .tup []]) st := fun st => by
    rw [eS, pAdd_tup (by simp [LINE_eq])]; rfl
  have s3 : ∀ st, bList [eS S] st = .ok (.loc st.length) (st ++ [.lst [eWeb S.ties, eNs S.marks, eNs S.counts, .tup (S.heres.map eH)]]) := fun st => rfl
  have s4 : ∀ st, pIx (eS S) (.int 0) st = .ok (eWeb S.ties) st := fun st => pIx_tupN (i := 0) rfl
  simp only [nonA, eN_ap, aCons_ap, aNil_ap, eC_ap, e2_ap, eSl_ap, oN_ap, oS_ap, v4, Res.bind_ok, mkT0, mkT1, s1, s2, s3, s4, mkL9, List.length_append, List.length_cons, List.length_nil, List.append_assoc, List.cons_append, List.nil_append]
/-- a draw from a list laid just now: what comes of it -/
theorem v_pick {fO : List D → Sto → Res D} (hO : OfOk sc fO) {k : Int} {rs : List Int} {js : Sto} {cell xs : List D} {n : Nat} (hj : Junk js) (hr : rs.length = sc.length) (hk : 0 ≤ k) (hk2 : k ≤ 900000000) (hne : xs ≠ []) (hxl : xs.length < 1000000) (hcell : D.smL n cell = true)
    (hx : ∀ d ∈ xs, d = .loc (2 + js.length) ∨ ∃ m, D.sm m d = true) {E : Env} {L : EM} (hE : E[0]? = some (some (.loc 0))) (hL : L E (mS sc k rs b w ++ js) = .ok (.loc (2 + js.length + 1)) (mS sc k rs b w ++ (js ++ [.lst cell, .lst xs]))) :
    ∃ (rs' : List Int) (js' : Sto) (d : D), tidy (mS sc k rs b w ++ js) ((eN fO (aCons (eV 0) (aCons L aNil))) E (mS sc k rs b w ++ js)) = .ok d (mS sc (k + 1) rs' b w ++ js') ∧ rs'.length = sc.length ∧ Junk js' ∧
      d ∈ xs ∧ ((d ≠ .loc (2 + js.length) ∧ js' = js) ∨ (d = .loc (2 + js.length) ∧ js' = js ++ [.lst cell])) := by
  obtain ⟨j, rs', d, e, h1, h2⟩ := hO b w k rs (js ++ [.lst cell, .lst xs]) (2 + js.length + 1) xs hr hk (by omega) hne hxl (fun k rs => by
    have : mS sc k rs b w ++ (js ++ [.lst cell, .lst xs]) = (mS sc k rs b w ++ (js ++ [.lst cell])) ++ .lst xs :: [] := by simp
    rw [this]
    exact at_mid (by rw [mS_app]; simp; omega))
  have hm := List.mem_of_getElem? h1
  have hc := call2 (f := fO) hE hL e
  have hA : (mS sc k rs b w ++ js).length = 2 + js.length := mS_app ..
  have hA' : (mS sc (k + 1) rs' b w ++ js).length = 2 + js.length := mS_app ..
  rw [hc]
  have hsh : mS sc (k + 1) rs' b w ++ (js ++ [Cell.lst cell, .lst xs]) = (mS sc (k + 1) rs' b w ++ js) ++ [.lst cell, .lst xs] := by simp
  by_cases hd : d = .loc (2 + js.length)
  · refine ⟨rs', js ++ [.lst cell], d, ?_, h2, hj.add hcell, hm, .inr ⟨hd, rfl⟩⟩
    rw [hd, hsh, tidy_ml (c := .lst cell) (hA'.trans hA.symm) (by rw [hA]; exact mSJ_under hj _) (by rw [List.getElem?_append_right (by omega)]; simp [hA']) (by omega) (by exact smL_under _ _ hcell), hA, List.append_assoc]
  · refine ⟨rs', js, d, ?_, h2, hj, hm, .inl ⟨hd, rfl⟩⟩
    rcases hx d hm with h | ⟨m, h⟩
    · exact absurd h hd
    · rw [hsh]
      exact tidy_mod _ _ _ (hA'.trans hA.symm) (by rw [hA]; exact mSJ_under hj _) (sm_under _ _ h)
/-- what the odd walkers are -/
def OddOk (sc : List Int) (b w : Int) (n : Nat) (js : Sto) (o : D) : Prop := amg o 1 n = false ∧ ∀ k rs more, (tyN (mS sc k rs b w ++ (js ++ more)) o).isSome = true
def NonOk (sc : List Int) (b w : Int) (js : Sto) (o : D) : Prop := ∀ k rs more, NoState (mS sc k rs b w ++ (js ++ more)) o
theorem v_odd {fO : List D → Sto → Res D} (hO : OfOk sc fO) {k : Int} {rs : List Int} {js : Sto} (hj : Junk js) (hr : rs.length = sc.length) (hk : 0 ≤ k) (hk2 : k ≤ 900000000) (hrl : roots.length ≤ 6) (x6 x7 x8 : Option D) :
    ∃ (rs' : List Int) (js' : Sto) (d : D), tidy (mS sc k rs b w ++ js) ((eN fO (aCons (eV 0) (aCons oddA aNil))) (envS web roots marks stands x6 x7 x8 none none none) (mS sc k rs b w ++ js)) = .ok d (mS sc (k + 1) rs' b w ++ js') ∧ rs'.length = sc.length ∧ Junk js' ∧ OddOk sc b w roots.length js' d := by
  have hL := v_oddA (web := web) (roots := roots) (marks := marks) (stands := stands) x6 x7 x8 (mS sc k rs b w ++ js)
  rw [mS_app, List.append_assoc] at hL
  have hstr : PyData.strOk "1" = true := by decide +kernel
  obtain ⟨rs', js', d, e, h1, h2, hm, hor⟩ := v_pick hO (b := b) (w := w) (cell := [.int 1]) (n := 0) hj hr hk hk2 (by simp) (by simp) (by simp) (fun d hd => by
    simp only [List.mem_cons, List.not_mem_nil, or_false] at hd
    rcases hd with rfl | rfl | rfl | rfl | rfl | rfl | rfl | rfl | rfl
    · exact .inr ⟨0, by simp⟩
    · exact .inr ⟨0, by simp⟩
    · exact .inr ⟨0, by simp⟩
    · exact .inr ⟨0, by simp⟩
    · exact .inr ⟨0, by simp⟩
    · exact .inr ⟨0, by rw [sm_str]; exact hstr⟩
    · exact .inr ⟨1, by simp [sm_tup 0]⟩
    · exact .inl rfl
    · exact .inr ⟨0, by simp⟩) (E := envS web roots marks stands x6 x7 x8 none none none) rfl hL
  refine ⟨rs', js', d, e, h1, h2, ?_⟩
  rcases hor with ⟨hd, rfl⟩ | ⟨rfl, rfl⟩
  · simp only [List.mem_cons, List.not_mem_nil, or_false] at hm
    rcases hm with rfl | rfl | rfl | rfl | rfl | rfl | rfl | rfl | rfl
    · exact ⟨by simp [amg], fun _ _ _ => rfl⟩
    · exact ⟨by simp [amg]; omega, fun _ _ _ => rfl⟩
    · exact ⟨by simp [amg], fun _ _ _ => rfl⟩
    · exact ⟨rfl, fun _ _ _ => rfl⟩
    · exact ⟨rfl, fun _ _ _ => rfl⟩
    · exact ⟨rfl, fun _ _ _ => rfl⟩
    · exact ⟨rfl, fun _ _ _ => rfl⟩
    · exact absurd rfl hd
    · refine ⟨?_, fun _ _ _ => rfl⟩
      have : ¬ ((10 : Int) ^ 30 ≤ roots.length) := by omega
      simp only [amg, this, decide_false, Bool.and_false]
  · refine ⟨rfl, fun k rs more => ?_⟩
    have hsh : mS sc k rs b w ++ ((js ++ [Cell.lst [.int 1]]) ++ more) = (mS sc k rs b w ++ js) ++ .lst [.int 1] :: more := by simp
    have := lstAt_some (at_mid (A := mS sc k rs b w ++ js) (B := more) (xs := [D.int 1]) (mS_app sc k rs b w js).symm)
    rw [hsh]
    simp only [tyN, this]
    rfl
theorem v_non {fO : List D → Sto → Res D} (hO : OfOk sc fO) {k : Int} {rs : List Int} {js : Sto} (hj : Junk js) (hr : rs.length = sc.length) (hk : 0 ≤ k) (hk2 : k ≤ 900000000) (x6 x7 x8 x9 : Option D) :
    ∃ (rs' : List Int) (js' : Sto) (d : D), tidy (mS sc k rs b w ++ js) ((eN fO (aCons (eV 0) (aCons nonA aNil))) (envS web roots marks stands x6 x7 x8 x9 none none) (mS sc k rs b w ++ js)) = .ok d (mS sc (k + 1) rs' b w ++ js') ∧ rs'.length = sc.length ∧ Junk js' ∧ NonOk sc b w js' d ∧ ∃ more, js' = js ++ more := by
  have hL := v_nonA (web := web) (roots := roots) (marks := marks) (stands := stands) x6 x7 x8 x9 (mS sc k rs b w ++ js)
  rw [mS_app, List.append_assoc] at hL
  generalize hS : stateOf web roots marks stands = S at *
  have hstr : PyData.strOk "state" = true := by decide +kernel
  have w1 := sm_mono (k := 9) _ (by omega) (sm_eWeb S.ties)
  have w2 := sm_mono (k := 9) _ (by omega) (sm_eNs S.marks)
  have w3 := sm_mono (k := 9) _ (by omega) (sm_eNs S.counts)
  have w4 : D.sm 9 (.tup (S.heres.map eH)) = true := by
    rw [sm_tup 8, smL_iff]
    intro x hx
    obtain ⟨h, _, rfl⟩ := List.mem_map.mp hx
    exact sm_mono _ (by omega) (sm_eH h)
  have w5 := sm_mono (k := 9) _ (by omega) (sm_eS S)
  have w6 : D.sm 9 (.tup []) = true := by rw [sm_tup 8]; rfl
  have hcell : D.smL 9 [eWeb S.ties, eNs S.marks, eNs S.counts, .tup (S.heres.map eH)] = true := by simp only [smL_cons, w1, w2, w3, w4, smL_nil, Bool.and_self]
  have t3 : D.sm 10 (.tup [eWeb S.ties, eNs S.marks, eNs S.counts]) = true := by rw [sm_tup 9]; simp only [smL_cons, w1, w2, w3, smL_nil, Bool.and_self]
  have t5 : D.sm 10 (.tup [eWeb S.ties, eNs S.marks, eNs S.counts, .tup (S.heres.map eH), .tup []]) = true := by rw [sm_tup 9]; simp only [smL_cons, w1, w2, w3, w4, w6, smL_nil, Bool.and_self]
  have t1 : D.sm 10 (.tup [eS S]) = true := by rw [sm_tup 9]; simp only [smL_cons, w5, smL_nil, Bool.and_self]
  obtain ⟨rs', js', d, e, h1, h2, hm, hor⟩ := v_pick hO (b := b) (w := w) (cell := [eWeb S.ties, eNs S.marks, eNs S.counts, .tup (S.heres.map eH)]) (n := 9) hj hr hk hk2 (by simp) (by simp) hcell (fun d hd => by
    simp only [List.mem_cons, List.not_mem_nil, or_false] at hd
    rcases hd with rfl | rfl | rfl | rfl | rfl | rfl | rfl | rfl | rfl
    · exact .inr ⟨0, by simp⟩
    · exact .inr ⟨9, w6⟩
    · exact .inr ⟨10, t3⟩
    · exact .inr ⟨10, t5⟩
    · exact .inl rfl
    · exact .inr ⟨0, by rw [sm_str]; exact hstr⟩
    · exact .inr ⟨9, w1⟩
    · exact .inr ⟨10, t1⟩
    · exact .inr ⟨0, by simp⟩) (E := envS web roots marks stands x6 x7 x8 x9 none none) rfl hL
  refine ⟨rs', js', d, e, h1, h2, ?_, ?_⟩
  · rcases hor with ⟨hd, rfl⟩ | ⟨rfl, rfl⟩
    · simp only [List.mem_cons, List.not_mem_nil, or_false] at hm
      rcases hm with rfl | rfl | rfl | rfl | rfl | rfl | rfl | rfl | rfl
      · exact fun _ _ _ => no_sm (n := 0) (by simp) rfl
      · exact fun _ _ _ => no_sm w6 rfl
      · exact fun _ _ _ => no_sm t3 rfl
      · exact fun _ _ _ => no_sm t5 rfl
      · exact absurd rfl hd
      · exact fun _ _ _ => no_sm (n := 0) (by rw [sm_str]; exact hstr) rfl
      · exact fun _ _ _ => no_sm w1 (noStateWeb _)
      · exact fun _ _ _ => no_sm t1 rfl
      · exact fun _ _ _ => no_sm (n := 0) (by simp) rfl
    · intro k rs more
      have hsh : mS sc k rs b w ++ ((js ++ [Cell.lst [eWeb S.ties, eNs S.marks, eNs S.counts, .tup (S.heres.map eH)]]) ++ more) = (mS sc k rs b w ++ js) ++ .lst [eWeb S.ties, eNs S.marks, eNs S.counts, .tup (S.heres.map eH)] :: more := by simp
      rw [hsh]
      exact no_lst (at_mid (mS_app sc k rs b w js).symm)
  · rcases hor with ⟨_, rfl⟩ | ⟨_, rfl⟩
    · exact ⟨[], by simp⟩
    · exact ⟨_, rfl⟩
end
end TB.K20

end

/-! ## K20N -/
section
set_option linter.all false
set_option autoImplicit false
set_option maxRecDepth 100000
namespace TB.K20
open PySem

section
variable {sc : List Int} {b w : Int} {web : Web} {roots marks : List Nat} {stands : List Stand}
abbrev dP : D := .tup [.str "place"]
abbrev dQ : D := .tup [.str "state", .non]
def srEnd (fW fR : List D → Sto → Res D) : SM := sSeq (sSet 11 (eN mkLst (aCons (eN fW (aCons (eV 4) (aCons (eV 9) aNil))) (aCons (eN fW (aCons (eV 10) (aCons (eV 9) aNil))) aNil)))) (sSeq (sSet 11 (e2 pAdd (eV 11) (eN mkLst (aCons (eN fR (aCons (eC (.gl "turned_back")) (aCons (eV 10) aNil))) (aCons (eN fR (aCons (eC (.gl "roots_of")) (aCons (eV 10) aNil))) aNil))))) (sRet (eAnd (e2 pEq (eV 11) (e2 pAdd (eN mkLst (aCons (eN mkTup (aCons (eC (.str "place")) aNil)) aNil)) (e2 pMul (eN mkLst (aCons (eN mkTup (aCons (eC (.str "state")) (aCons (eC .non) aNil))) aNil)) (eC (.int 3))))) (e2 pEq (eN bRepr (aCons (eV 4) aNil)) (eV 5)))))
theorem mkL2 (a c : D) (st : Sto) : mkLst [a, c] st = .ok (.loc st.length) (st ++ [.lst [a, c]]) := mkLst_ap _ _ (by simp [LINE])
theorem sm_PQ : D.smL 3 [dP, dQ, dQ, dQ] = true := by decide +kernel
theorem v_srEnd {fW fR : List D → Sto → Res D} {o d : D} {A : Sto} (G : Good web roots marks stands) (x6 x7 x8 : Option D)
    (h1 : fW [eS (stateOf web roots marks stands), o] A = .ok dP A) (h2 : fW [d, o] A = .ok dQ A)
    (h3 : ∀ more, fR [.gl "turned_back", d] (A ++ more) = .ok dQ (A ++ more)) (h4 : ∀ more, fR [.gl "roots_of", d] (A ++ more) = .ok dQ (A ++ more)) :
    ∃ js, srEnd fW fR (envS web roots marks stands x6 x7 x8 (some o) (some d) none) A = .ret (.bl true) (A ++ js) := by
  have rp := G.stateRp
  -- the first two
  have v4 : ∀ x11 st, eV 4 (envS web roots marks stands x6 x7 x8 (some o) (some d) x11) st = .ok (eS (stateOf web roots marks stands)) st := fun _ _ => rfl
  have v5 : ∀ x11 st, eV 5 (envS web roots marks stands x6 x7 x8 (some o) (some d) x11) st = .ok (.str (eS (stateOf web roots marks stands)).py.shown) st := fun _ _ => rfl
  have v9 : ∀ x11 st, eV 9 (envS web roots marks stands x6 x7 x8 (some o) (some d) x11) st = .ok o st := fun _ _ => rfl
  have v10 : ∀ x11 st, eV 10 (envS web roots marks stands x6 x7 x8 (some o) (some d) x11) st = .ok d st := fun _ _ => rfl
  have v11 : ∀ z st, eV 11 (envS web roots marks stands x6 x7 x8 (some o) (some d) (some z)) st = .ok z st := fun _ _ => rfl
  have set11 : ∀ x11 z, (envS web roots marks stands x6 x7 x8 (some o) (some d) x11).set 11 (some z) = envS web roots marks stands x6 x7 x8 (some o) (some d) (some z) := fun _ _ => rfl
  have len11 : ∀ x11, 11 < (envS web roots marks stands x6 x7 x8 (some o) (some d) x11).length := fun _ => by simp [envS]
  generalize eS (stateOf web roots marks stands) = SS at *
  generalize hEE : envS web roots marks stands x6 x7 x8 (some o) (some d) = EE at *
  have a1 : (eN mkLst (aCons (eN fW (aCons (eV 4) (aCons (eV 9) aNil))) (aCons (eN fW (aCons (eV 10) (aCons (eV 9) aNil))) aNil))) (EE none) A = .ok (.loc A.length) (A ++ [.lst [dP, dQ]]) := by
    simp only [eN_ap, aCons_ap, aNil_ap, v4, v9, v10, Res.bind_ok, h1, h2, mkL2]
  -- the other two
  have a2 : (e2 pAdd (eV 11) (eN mkLst (aCons (eN fR (aCons (eC (.gl "turned_back")) (aCons (eV 10) aNil))) (aCons (eN fR (aCons (eC (.gl "roots_of")) (aCons (eV 10) aNil))) aNil)))) (EE (some (.loc A.length))) (A ++ [.lst [dP, dQ]]) = .ok (.loc (A.length + 2)) ((A ++ [.lst [dP, dQ]]) ++ [.lst [dQ, dQ], .lst [dP, dQ, dQ, dQ]]) := by
    have hB : (A ++ [Cell.lst [dP, dQ]]).length = A.length + 1 := by simp
    have l1 : lstAt ((A ++ [Cell.lst [dP, dQ]]) ++ [.lst [dQ, dQ]]) A.length = some [dP, dQ] := lstAt_app (lst_end _ _)
    have l2 : lstAt ((A ++ [Cell.lst [dP, dQ]]) ++ [.lst [dQ, dQ]]) (A.length + 1) = some [dQ, dQ] := by rw [← hB]; exact lst_end _ _
    have ad : pAdd (.loc A.length) (.loc (A.length + 1)) ((A ++ [Cell.lst [dP, dQ]]) ++ [.lst [dQ, dQ]]) = .ok (.loc (A.length + 2)) ((A ++ [.lst [dP, dQ]]) ++ [.lst [dQ, dQ], .lst [dP, dQ, dQ, dQ]]) := by
      simp only [pAdd, l1, l2]
      rw [if_pos (by simp [LINE])]
      simp
    simp only [e2_ap, v11, Res.bind_ok, eN_ap, aCons_ap, aNil_ap, eC_ap, v10, h3, h4, mkL2, hB, ad]
  have t2 : tidy (A ++ [Cell.lst [dP, dQ]]) (.ok (.loc (A.length + 2)) ((A ++ [.lst [dP, dQ]]) ++ [.lst [dQ, dQ], .lst [dP, dQ, dQ, dQ]])) = .ok (.loc (A.length + 1)) ((A ++ [.lst [dP, dQ]]) ++ [.lst [dP, dQ, dQ, dQ]]) := by
    rw [tidy_loc (c := .lst [dP, dQ, dQ, dQ])]
    · simp
    · rw [List.getElem?_append_right (by simp)]; simp
    · simp
    · exact smL_under _ _ sm_PQ
  -- what is due
  have B : ∃ q js, (e2 pAdd (eN mkLst (aCons (eN mkTup (aCons (eC (.str "place")) aNil)) aNil)) (e2 pMul (eN mkLst (aCons (eN mkTup (aCons (eC (.str "state")) (aCons (eC .non) aNil))) aNil)) (eC (.int 3)))) (EE (some (.loc (A.length + 1)))) ((A ++ [.lst [dP, dQ]]) ++ [.lst [dP, dQ, dQ, dQ]]) = .ok (.loc q) (((A ++ [.lst [dP, dQ]]) ++ [.lst [dP, dQ, dQ, dQ]]) ++ js) ∧ lstAt (((A ++ [Cell.lst [dP, dQ]]) ++ [.lst [dP, dQ, dQ, dQ]]) ++ js) q = some [dP, dQ, dQ, dQ] := by
    generalize (A ++ [Cell.lst [dP, dQ]]) ++ [.lst [dP, dQ, dQ, dQ]] = C
    have m1 : pMul (.loc (C.length + 1)) (.int 3) (C ++ [.lst [dP], .lst [dQ]]) = .ok (.loc (C.length + 2)) (C ++ [.lst [dP], .lst [dQ], .lst [dQ, dQ, dQ]]) := by
      have l1 : lstAt (C ++ [Cell.lst [dP], .lst [dQ]]) (C.length + 1) = some [dQ] := by
        have : C ++ [Cell.lst [dP], .lst [dQ]] = (C ++ [.lst [dP]]) ++ [.lst [dQ]] := by simp
        rw [this]; exact at_mid (by simp)
      have t3 : (3 : Int).toNat = 3 := rfl
      simp only [pMul, l1, t3]
      rw [if_pos ⟨by omega, by omega, by simp [LINE]⟩]
      simp [List.replicate_succ]
    have ad : pAdd (.loc C.length) (.loc (C.length + 2)) (C ++ [.lst [dP], .lst [dQ], .lst [dQ, dQ, dQ]]) = .ok (.loc (C.length + 3)) (C ++ [.lst [dP], .lst [dQ], .lst [dQ, dQ, dQ], .lst [dP, dQ, dQ, dQ]]) := by
      have l1 : lstAt (C ++ [Cell.lst [dP], .lst [dQ], .lst [dQ, dQ, dQ]]) C.length = some [dP] := lst_mid
      have l2 : lstAt (C ++ [Cell.lst [dP], .lst [dQ], .lst [dQ, dQ, dQ]]) (C.length + 2) = some [dQ, dQ, dQ] := by
        have : C ++ [Cell.lst [dP], .lst [dQ], .lst [dQ, dQ, dQ]] = (C ++ [.lst [dP], .lst [dQ]]) ++ [.lst [dQ, dQ, dQ]] := by simp
        rw [this]; exact at_mid (by simp)
      simp only [pAdd, l1, l2]
      rw [if_pos (by simp [LINE])]
      simp
    refine ⟨C.length + 3, [.lst [dP], .lst [dQ], .lst [dQ, dQ, dQ], .lst [dP, dQ, dQ, dQ]], ?_, ?_⟩
    · have hC : (C ++ [Cell.lst [dP]]).length = C.length + 1 := by simp
      simp only [e2_ap, eN_ap, aCons_ap, aNil_ap, eC_ap, Res.bind_ok, mkT1, mkT2, mkL1, hC]
      rw [List.append_assoc]
      show ((pMul (.loc (C.length + 1)) (.int 3) (C ++ [.lst [dP], .lst [dQ]])).bind fun y s2 => pAdd (.loc C.length) y s2) = _
      rw [m1, Res.bind_ok, ad]
    · have : C ++ [Cell.lst [dP], .lst [dQ], .lst [dQ, dQ, dQ], .lst [dP, dQ, dQ, dQ]] = (C ++ [.lst [dP], .lst [dQ], .lst [dQ, dQ, dQ]]) ++ [.lst [dP, dQ, dQ, dQ]] := by simp
      rw [this]; exact at_mid (by simp)
  obtain ⟨q, js, b1, b2⟩ := B
  have lq : lstAt (((A ++ [Cell.lst [dP, dQ]]) ++ [.lst [dP, dQ, dQ, dQ]]) ++ js) (A.length + 1) = some [dP, dQ, dQ, dQ] := lstAt_app (by
    have : A.length + 1 = (A ++ [Cell.lst [dP, dQ]]).length := by simp
    rw [this]; exact lst_end _ _)
  have ee : pEq (.loc (A.length + 1)) (.loc q) (((A ++ [Cell.lst [dP, dQ]]) ++ [.lst [dP, dQ, dQ, dQ]]) ++ js) = .ok (.bl true) (((A ++ [Cell.lst [dP, dQ]]) ++ [.lst [dP, dQ, dQ, dQ]]) ++ js) := by
    have hok := sm60L (n := 3) (by omega) sm_PQ
    simp only [pEq]
    rw [datum_lst lq sm_PQ, datum_lst b2 sm_PQ]
    simp only [hok, Bool.and_self, if_true]
    have : D.eqv (.lstv [dP, dQ, dQ, dQ]) (.lstv [dP, dQ, dQ, dQ]) = true := eqv_self _ hok
    rw [this]
  refine ⟨[.lst [dP, dQ], .lst [dP, dQ, dQ, dQ]] ++ js, ?_⟩
  rw [srEnd, sSeq_ap, sSet_ap, a1, tidy_new0, thenS_ok, if_pos (len11 _), set11, thenS_nx, sSeq_ap, sSet_ap, a2, t2, thenS_ok, if_pos (len11 _), set11, thenS_nx, sRet_ap, eAnd_ap]
  have x1 : (e2 pEq (eV 11) (e2 pAdd (eN mkLst (aCons (eN mkTup (aCons (eC (.str "place")) aNil)) aNil)) (e2 pMul (eN mkLst (aCons (eN mkTup (aCons (eC (.str "state")) (aCons (eC .non) aNil))) aNil)) (eC (.int 3))))) (EE (some (.loc (A.length + 1)))) ((A ++ [.lst [dP, dQ]]) ++ [.lst [dP, dQ, dQ, dQ]]) = .ok (.bl true) (((A ++ [.lst [dP, dQ]]) ++ [.lst [dP, dQ, dQ, dQ]]) ++ js) := by
    rw [e2_ap, v11, Res.bind_ok, b1, Res.bind_ok, ee]
  have x2 : ∀ st, (e2 pEq (eN bRepr (aCons (eV 4) aNil)) (eV 5)) (EE (some (.loc (A.length + 1)))) st = .ok (.bl true) st := fun st => by
    simp only [e2_ap, eN_ap, aCons_ap, aNil_ap, v4, v5, Res.bind_ok, rp.ap, pEq_str]
    simp
  rw [x1, Res.bind_ok, isBl_bl, Res.bind_ok, if_pos rfl, x2, thenS_ok]
  simp
theorem v_state_right {k : Int} {rs : List Int} (G : Good web roots marks stands) (hD : ∀ b w, DrawOk sc b w f__law_draw) (hO : OfOk sc f__law_of) (hr : rs.length = sc.length) (hk : 0 ≤ k) (hk2 : k ≤ 500000000) :
    ∃ (rs' : List Int), f__law_state_right [.loc 0, eWeb web, .tup (iL roots), eKept marks stands] (mS sc k rs b w) = .ok (.bl true) (mS sc (k + 2) rs' b w) ∧ rs'.length = sc.length := by
  have hS : ∀ st, f__law_state [eWeb web, .tup (iL roots), eKept marks stands] st = .ok (eS (stateOf web roots marks stands)) st := fun st => v_state G.n2 (by have := G.r6; omega) G.standIn
  have M := G.moment
  have hW : ∀ (i : Nat) (s : Stand) st, stands[i]? = some s → f_way_of [eS (stateOf web roots marks stands), .int ((i : Int) + 1)] st = .ok (eNs (s.map Prod.fst)) st := fun i s st hs => by
    have hil : i < roots.length := by rw [← G.rl]; exact (List.getElem?_eq_some_iff.mp hs).1
    have hh : (stateOf web roots marks stands).heres[i]? = some (hereOf roots[i] s (behS s none)) := by
      rw [G.stateEq]
      simp only [List.getElem?_map]
      have : (roots.zip stands)[i]? = some (roots[i], s) := by rw [List.getElem?_zip_eq_some]; exact ⟨List.getElem?_eq_getElem hil, hs⟩
      rw [this]; rfl
    have := w_way_of (st := st) (w := i + 1) G.isState rfl hh (G.backOk (List.getElem?_eq_getElem hil) hs)
    rwa [Int.natCast_add] at this
  have hT : ∀ st, f_turned_back [eS (stateOf web roots marks stands)] st = .ok (eWeb web) st := fun st => by
    have := w_turned_back (st := st) M
    rwa [G.webBack] at this
  have hR : ∀ st, f_roots_of [eS (stateOf web roots marks stands)] st = .ok (eNs roots) st := fun st => w_roots_of M
  have hwr : ∀ (st : Sto) (o : D), (tyN st o).isSome = true → amg o 1 roots.length = false → f__law_way_refused [eS (stateOf web roots marks stands), o] st = .ok dP st := fun st o h1 h2 =>
    v_way_refused (odd_way G.isState h1 (by rw [G.heresLen]; exact h2)) (web_err _ (.inr rfl)) v_word_place
  have hwn : ∀ (st : Sto) (d o : D), NoState st d → f__law_way_refused [d, o] st = .ok dQ st := fun st d o h => v_way_refused (no_way h) (web_err _ (.inl rfl)) v_word_state
  have hrt : ∀ (st : Sto) (d : D), NoState st d → f__law_refused [.gl "turned_back", d] st = .ok dQ st := fun st d h => v_refused (F := f_turned_back) (by rw [look_put]; exact if_pos rfl) (no_turned h) (web_err _ (.inl rfl)) v_word_state
  have hrr : ∀ (st : Sto) (d : D), NoState st d → f__law_refused [.gl "roots_of", d] st = .ok dQ st := fun st d h => v_refused (F := f_roots_of) (by rw [look_put, if_neg (by decide), look_put]; exact if_pos rfl) (no_roots h) (web_err _ (.inl rfl)) v_word_state
  have key : ∀ fS fW fT fR fO fA fB : List D → Sto → Res D, (∀ st, fS [eWeb web, .tup (iL roots), eKept marks stands] st = .ok (eS (stateOf web roots marks stands)) st) →
      (∀ (i : Nat) (s : Stand) st, stands[i]? = some s → fW [eS (stateOf web roots marks stands), .int ((i : Int) + 1)] st = .ok (eNs (s.map Prod.fst)) st) → (∀ st, fT [eS (stateOf web roots marks stands)] st = .ok (eWeb web) st) → (∀ st, fR [eS (stateOf web roots marks stands)] st = .ok (eNs roots) st) → OfOk sc fO →
      (∀ (st : Sto) (o : D), (tyN st o).isSome = true → amg o 1 roots.length = false → fA [eS (stateOf web roots marks stands), o] st = .ok dP st) → (∀ (st : Sto) (d o : D), NoState st d → fA [d, o] st = .ok dQ st) →
      (∀ (st : Sto) (d : D), NoState st d → fB [.gl "turned_back", d] st = .ok dQ st) → (∀ (st : Sto) (d : D), NoState st d → fB [.gl "roots_of", d] st = .ok dQ st) →
      ∃ (rs' : List Int), runF 4 14 (mm__law_state_right fS fW fT fR fO fA fB) [.loc 0, eWeb web, .tup (iL roots), eKept marks stands] (mS sc k rs b w) = .ok (.bl true) (mS sc (k + 2) rs' b w) ∧ rs'.length = sc.length := by
    intro fS fW fT fR fO fA fB hS hW hT hR hO hwr hwn hrt hrr
    obtain ⟨js1, x6, x7, x8, hj1, eLp⟩ := v_srLoop (fW := fW) (fT := fT) (fR := fR) G hW hT hR (mS sc k rs b w)
    obtain ⟨rs1, js2, o, e9, h1, hj2, ho⟩ := v_odd (web := web) (roots := roots) (marks := marks) (stands := stands) (b := b) (w := w) hO hj1 hr hk (by omega) G.r6 x6 x7 x8
    obtain ⟨rs2, js3, d, e10, h2, hj3, hd, more, hmore⟩ := v_non (web := web) (roots := roots) (marks := marks) (stands := stands) (b := b) (w := w) (k := k + 1) hO hj2 h1 (by omega) (by omega) x6 x7 x8 (some o)
    have ho' : (tyN (mS sc (k + 1 + 1) rs2 b w ++ js3) o).isSome = true := by rw [hmore]; exact ho.2 _ _ _
    have hd' : ∀ m, NoState ((mS sc (k + 1 + 1) rs2 b w ++ js3) ++ m) d := fun m => by rw [List.append_assoc]; exact hd _ _ _
    have hd0 := hd' []
    rw [List.append_nil] at hd0
    obtain ⟨js4, eEnd⟩ := v_srEnd (fW := fA) (fR := fB) (o := o) (d := d) (A := mS sc (k + 1 + 1) rs2 b w ++ js3) G x6 x7 x8 (hwr _ _ ho' ho.1) (hwn _ _ _ hd0) (fun m => hrt _ _ (hd' m)) (fun m => hrr _ _ (hd' m))
    refine ⟨rs2, ?_, h2⟩
    have hst0 : startE 14 [.loc 0, eWeb web, .tup (iL roots), eKept marks stands] = [some (.loc 0), some (eWeb web), some (.tup (iL roots)), some (eKept marks stands), none, none, none, none, none, none, none, none, none, none] := rfl
    have c4 : sSet 4 (eN fS (aCons (eV 1) (aCons (eW (eV 2)) (aCons (eV 3) aNil)))) [some (.loc 0), some (eWeb web), some (.tup (iL roots)), some (eKept marks stands), none, none, none, none, none, none, none, none, none, none] (mS sc k rs b w) = .nx [some (.loc 0), some (eWeb web), some (.tup (iL roots)), some (eKept marks stands), some (eS (stateOf web roots marks stands)), none, none, none, none, none, none, none, none, none] (mS sc k rs b w) := by
      have wk : D.weak (.tup (iL roots)) = .tup (iL roots) := rfl
      generalize eS (stateOf web roots marks stands) = SS at *
      generalize mS sc k rs b w = S0 at *
      simp [wk, hS]
    have c5 : sSet 5 (eN bRepr (aCons (eV 4) aNil)) [some (.loc 0), some (eWeb web), some (.tup (iL roots)), some (eKept marks stands), some (eS (stateOf web roots marks stands)), none, none, none, none, none, none, none, none, none] (mS sc k rs b w) = .nx (envS web roots marks stands none none none none none none) (mS sc k rs b w) := by
      have rp := G.stateRp
      unfold envS
      generalize eS (stateOf web roots marks stands) = SS at *
      generalize mS sc k rs b w = S0 at *
      simp [rp.ap]
    have c9 : sSet 9 (eN fO (aCons (eV 0) (aCons oddA aNil))) (envS web roots marks stands x6 x7 x8 none none none) (mS sc k rs b w ++ js1) = .nx (envS web roots marks stands x6 x7 x8 (some o) none none) (mS sc (k + 1) rs1 b w ++ js2) := by
      rw [sSet_ap, e9, thenS_ok, if_pos (by simp [envS])]; rfl
    have c10 : sSet 10 (eN fO (aCons (eV 0) (aCons nonA aNil))) (envS web roots marks stands x6 x7 x8 (some o) none none) (mS sc (k + 1) rs1 b w ++ js2) = .nx (envS web roots marks stands x6 x7 x8 (some o) (some d) none) (mS sc (k + 1 + 1) rs2 b w ++ js3) := by
      rw [sSet_ap, e10, thenS_ok, if_pos (by simp [envS])]; rfl
    have fin : tidy (mS sc k rs b w) (.ok (.bl true) ((mS sc (k + 1 + 1) rs2 b w ++ js3) ++ js4)) = .ok (.bl true) (mS sc (k + 2) rs2 b w) := by
      have := tidy_mS (sc := sc) (k := k) (k' := k + 1 + 1) (rs := rs) (rs' := rs2) (b := b) (b' := b) (w := w) (w' := w) (ex := []) (js := js3 ++ js4) (d := .bl true) rfl (by simp)
      simp only [List.append_nil, List.nil_append] at this
      rw [List.append_assoc, this]
      have : k + 1 + 1 = k + 2 := by omega
      rw [this]
    rw [runF_ap _ (show ([.loc 0, eWeb web, .tup (iL roots), eKept marks stands] : List D).length = 4 from rfl), hst0]
    show tidy _ (sSeq (sSet 4 (eN fS (aCons (eV 1) (aCons (eW (eV 2)) (aCons (eV 3) aNil))))) (sSeq (sSet 5 (eN bRepr (aCons (eV 4) aNil))) (sSeq (srLoop fW fT fR) (sSeq (sSet 9 (eN fO (aCons (eV 0) (aCons oddA aNil)))) (sSeq (sSet 10 (eN fO (aCons (eV 0) (aCons nonA aNil)))) (srEnd fA fB))))) _ _).end = _
    rw [sSeq_ap, c4, thenS_nx, sSeq_ap, c5, thenS_nx, sSeq_ap, eLp, thenS_nx, sSeq_ap, c9, thenS_nx, sSeq_ap, c10, thenS_nx, eEnd, end_ret, fin]
  exact key _ _ _ _ _ _ _ hS hW hT hR hO hwr hwn hrt hrr
end
end TB.K20

end

/-! ## K20O -/
section
set_option linter.all false
set_option autoImplicit false
set_option maxRecDepth 100000
namespace TB.K20
open PySem

theorem v_started {ns : List Int} (hl : ns.length ≤ 63) (hb : ∀ z ∈ ns, PySem.Builtin.Int.intBits z ≤ 1048576) : ∃ rs : List Int, f__law_started [.lstv (ns.map .int)] [] = .ok (.loc 0) [.dct (mD0 ns), .lst (rs.map .int)] ∧ rs.length = ns.length := by
  refine ⟨ns.map fun z => z * (if (10 : Int) ^ 18 ≤ z then 1 else 0), ?_, by simp⟩
  have hlc : eLc [1] (gV 1) (iVal (eV 0)) tYes (e2 pMul (eV 1) (eN bInt (aCons (e2 pGe (eV 1) (e2 pPow (eC (.int 10)) (eC (.int 18)))) aNil))) [some (.lstv (ns.map .int)), none] [.dct []] = .ok (.loc 1) ([Cell.dct []] ++ [.lst ((ns.map fun z => z * (if (10 : Int) ^ 18 ≤ z then 1 else 0)).map .int)]) := by
    have := eLc_map (own := [1]) (g := gV 1) (im := iVal (eV 0)) (e := e2 pMul (eV 1) (eN bInt (aCons (e2 pGe (eV 1) (e2 pPow (eC (.int 10)) (eC (.int 18)))) aNil))) (r := [some (.lstv (ns.map .int)), none]) (st := [.dct []]) (i := ⟨ns.map .int, []⟩) (fun d => match d with
      | .int z => .int (z * (if (10 : Int) ^ 18 ≤ z then 1 else 0))
      | _ => .non) rfl (fun _ => rfl) (by
        intro x hx acc
        obtain ⟨z, hz, rfl⟩ := List.mem_map.mp hx
        refine ⟨[some (.lstv (ns.map .int)), some (.int z)], rfl, ?_⟩
        generalize [Cell.dct []] ++ [Cell.lst acc] = S0
        have p1 : pPow (.int 10) (.int 18) S0 = .ok (.int (10 ^ 18)) S0 := by
          have : (18 : Int).toNat = 18 := rfl
          simp only [pPow]
          rw [if_pos ⟨by omega, by omega, by decide⟩, this]
        have hz2 := log2_big (hb z hz)
        have p2 : ∀ c : Int, c = 0 ∨ c = 1 → pMul (.int z) (.int c) S0 = .ok (.int (z * c)) S0 := fun c hc => if_pos (by
          have : c.natAbs.log2 = 0 := by rcases hc with rfl | rfl <;> decide
          omega)
        by_cases hc : (10 : Int) ^ 18 ≤ z
        · have e1 : (e2 pMul (eV 1) (eN bInt (aCons (e2 pGe (eV 1) (e2 pPow (eC (.int 10)) (eC (.int 18)))) aNil))) [some (.lstv (ns.map .int)), some (.int z)] S0 = .ok (.int (z * 1)) S0 := by
            simp only [e2_ap, eV_ap, List.getElem?_cons_succ, List.getElem?_cons_zero, Res.bind_ok, eN_ap, aCons_ap, aNil_ap, eC_ap, p1, pGe_int, decide_eq_true hc, bInt, if_true, p2 1 (.inr rfl)]
          rw [e1, tidy_ok]
          simp only [if_pos hc]
        · have e1 : (e2 pMul (eV 1) (eN bInt (aCons (e2 pGe (eV 1) (e2 pPow (eC (.int 10)) (eC (.int 18)))) aNil))) [some (.lstv (ns.map .int)), some (.int z)] S0 = .ok (.int (z * 0)) S0 := by
            simp only [e2_ap, eV_ap, List.getElem?_cons_succ, List.getElem?_cons_zero, Res.bind_ok, eN_ap, aCons_ap, aNil_ap, eC_ap, p1, pGe_int, decide_eq_false hc, bInt, Bool.false_eq_true, if_false, p2 0 (.inl rfl)]
          rw [e1, tidy_ok]
          simp only [if_neg hc]) (by simp; omega)
    rw [this]
    refine congrArg (fun z => Res.ok (D.loc 1) ([Cell.dct []] ++ [Cell.lst z])) ?_
    simp
  have hst0 : startE 2 [.lstv (ns.map .int)] = [some (.lstv (ns.map .int)), none] := rfl
  generalize (ns.map fun z => z * (if (10 : Int) ^ 18 ≤ z then 1 else 0)) = rs at *
  have hargs : (aCons (eV 0) (aCons (eC (.int 0)) (aCons (eLc [1] (gV 1) (iVal (eV 0)) tYes (e2 pMul (eV 1) (eN bInt (aCons (e2 pGe (eV 1) (e2 pPow (eC (.int 10)) (eC (.int 18)))) aNil)))) aNil))) [some (.lstv (ns.map .int)), none] [.dct []] = .ok [.lstv (ns.map .int), .int 0, .loc 1] ([Cell.dct []] ++ [.lst (rs.map .int)]) := by
    rw [aCons_ap, eV_ap]
    simp only [List.getElem?_cons_zero, Res.bind_ok]
    rw [aCons_ap, eC_ap, Res.bind_ok, aCons_ap, hlc]
    rfl
  have hdisp : eDisp [.str "script", .str "at", .str "rest"] (aCons (eV 0) (aCons (eC (.int 0)) (aCons (eLc [1] (gV 1) (iVal (eV 0)) tYes (e2 pMul (eV 1) (eN bInt (aCons (e2 pGe (eV 1) (e2 pPow (eC (.int 10)) (eC (.int 18)))) aNil)))) aNil))) [some (.lstv (ns.map .int)), none] [] = .ok (.loc 0) [.dct (mD0 ns), .lst (rs.map .int)] := by
    unfold eDisp
    rw [List.nil_append, hargs, Res.bind_ok, if_pos ⟨rfl, rfl, by decide, rfl⟩]
    rfl
  rw [f__law_started, runF_ap _ (show ([.lstv (ns.map .int)] : List D).length = 1 from rfl), hst0, m__law_started, sRet_ap, hdisp, thenS_ok, end_ret]
  rw [tidy_def, if_neg (by simp)]
  simp [prefOk, D.under, Cell.under, mD0]
section
variable {ns : List Int}
def envL (web : Web) (roots : List Nat) (x2 x5 x6 : Option D) : Env := [some (.lstv (ns.map .int)), some (.loc 0), x2, some (eWeb web), some (.ptup (iL roots)), x5, x6]
def lawBody (fWeb fOf fRoots fBegun fSR fNext fTurn : List D → Sto → Res D) : SM := sSeq (sExp (eMt isDctD mUpdate (eV 1) (aCons (eDisp [.str "burst", .str "walker"] (aCons (eC (.int 0)) (aCons (eC (.int 1)) aNil))) aNil))) (sSeq (sSet 3 (eN fWeb (aCons (eV 1) (aCons (eN fOf (aCons (eV 1) (aCons (eN mkLst (aCons (eC (.int 7)) (aCons (eC (.int 7)) (aCons (eC (.int 7)) (aCons (eC (.int 13)) aNil))))) aNil))) (aCons (eC (.int 5)) aNil))))) (sSeq (sSet 4 (eN fRoots (aCons (eV 1) (aCons (eV 3) (aCons (eC (.int 3)) aNil))))) (sSeq (sSet 5 (eN fBegun (aCons (eV 3) (aCons (eV 4) aNil)))) (sSeq (sWhile 1000000 (tB (e2 pNe (e2 pIx (eV 5) (eC (.int 1))) (e2 pMul (eN mkTup (aCons (eN mkTup aNil) aNil)) (eN bLen (aCons (eW (eV 4)) aNil))))) (sSeq (sIf (tNot (tTr (eN fSR (aCons (eV 1) (aCons (eV 3) (aCons (eW (eV 4)) (aCons (eV 5) aNil))))))) (sRet (eC (.bl false))) sSkip) (sSeq (sSet 6 (eN fNext (aCons (eV 3) (aCons (eV 5) (aCons (eN fTurn (aCons (eV 1) (aCons (eV 5) aNil))) aNil))))) (sSet 5 (eIf (tB (e2 pIsN (eV 6) (eC .non))) (eV 5) (e2 pIx (eV 6) (eC (.int 1)))))))) (sIf (tNot (tTr (eN fSR (aCons (eV 1) (aCons (eV 3) (aCons (eW (eV 4)) (aCons (eV 5) aNil))))))) (sRet (eC (.bl false))) sSkip)))))
/-- what the law's own defs do -/
structure LawFs (ns : List Int) (fWeb fOf fRoots fBegun fSR fNext fTurn : List D → Sto → Res D) : Prop where
  web : ∀ (b w : Int) (ex : Sto), ex.all (Cell.under (2 + ex.length)) = true → ∀ (k : Int) (rs : List Int) (most : Int), rs.length = ns.length → 0 ≤ k → k ≤ 500000000 → 0 < most → most ≤ 60 →
    ∃ (k' : Int) (rs' : List Int) (web : Web), fWeb [.loc 0, .int most, .int 5] (mS ns k rs b w ++ ex) = .ok (eWeb web) (mS ns k' rs' b w ++ ex) ∧ rs'.length = ns.length ∧ k ≤ k' ∧ k' ≤ k + 10000 ∧ 1 ≤ web.length ∧ (web.length : Int) ≤ most ∧ ∀ row ∈ web, RowOk web.length 4 row
  of : OfOk ns fOf
  roots : ∀ (b w k : Int) (rs : List Int) (web : Web), rs.length = ns.length → 0 ≤ k → k ≤ 500000000 → 0 < web.length → web.length ≤ 60 →
    ∃ (k' : Int) (rs' : List Int) (roots : List Nat), fRoots [.loc 0, eWeb web, .int 3] (mS ns k rs b w) = .ok (.ptup (iL roots)) (mS ns k' rs' b w) ∧ rs'.length = ns.length ∧ k ≤ k' ∧ k' ≤ k + 100 ∧ 1 ≤ roots.length ∧ roots.length ≤ 3 ∧ roots.Nodup ∧ ∀ r ∈ roots, r < web.length
  begun : ∀ (web : Web) (roots : List Nat) (st : Sto), web.length ≤ 60 → roots.length ≤ 60 → fBegun [eWeb web, .ptup (iL roots)] st = .ok (eKept (marks0 web.length roots) (stands0 roots)) st
  right : ∀ (b w k : Int) (rs : List Int) (web : Web) (roots marks : List Nat) (stands : List Stand), Good web roots marks stands → rs.length = ns.length → 0 ≤ k → k ≤ 500000000 →
    ∃ rs' : List Int, fSR [.loc 0, eWeb web, .tup (iL roots), eKept marks stands] (mS ns k rs b w) = .ok (.bl true) (mS ns (k + 2) rs' b w) ∧ rs'.length = ns.length
  next : ∀ (web : Web) (roots marks : List Nat) (stands : List Stand) (i node count : Nat) (ahead : Stand) (st : Sto), Good web roots marks stands → stands[i]? = some (ahead ++ [(node, count)]) →
    ∃ deed n, D.sm n deed = true ∧ fNext [eWeb web, eKept marks stands, .int ((i : Int) + 1)] st = .ok (.tup [deed, eKept (nextK web marks stands i ahead node count).1 (nextK web marks stands i ahead node count).2]) st
  turn : ∀ (k b : Int) (rs : List Int) (iw : Nat) (marks : List Nat) (stands : List Stand), rs.length = ns.length → 0 ≤ k → k ≤ 500000000 → iw < stands.length → stands.length ≤ 60 → (∃ (i : Nat) (s : Stand), stands[i]? = some s ∧ s ≠ []) →
    ∃ (k' b' : Int) (rs' : List Int) (i : Nat) (s : Stand), fTurn [.loc 0, eKept marks stands] (mS ns k rs b ((iw : Int) + 1)) = .ok (.int ((i : Int) + 1)) (mS ns k' rs' b' ((i : Int) + 1)) ∧ rs'.length = ns.length ∧ k ≤ k' ∧ k' ≤ k + 3 ∧ stands[i]? = some s ∧ s ≠ []
theorem v_check {fSR : List D → Sto → Res D} {web : Web} {roots : List Nat} {x2 x6 : Option D} {kd : D} {S0 S1 : Sto} (h : fSR [.loc 0, eWeb web, .tup (iL roots), kd] S0 = .ok (.bl true) S1) :
    sIf (tNot (tTr (eN fSR (aCons (eV 1) (aCons (eV 3) (aCons (eW (eV 4)) (aCons (eV 5) aNil))))))) (sRet (eC (.bl false))) sSkip (envL (ns := ns) web roots x2 (some kd) x6) S0 = .nx (envL (ns := ns) web roots x2 (some kd) x6) S1 := by
  have c : (tNot (tTr (eN fSR (aCons (eV 1) (aCons (eV 3) (aCons (eW (eV 4)) (aCons (eV 5) aNil))))))) (envL (ns := ns) web roots x2 (some kd) x6) S0 = .ok false S1 := by
    have e1 : (eN fSR (aCons (eV 1) (aCons (eV 3) (aCons (eW (eV 4)) (aCons (eV 5) aNil))))) (envL (ns := ns) web roots x2 (some kd) x6) S0 = .ok (.bl true) S1 := h
    rw [tNot_ap, tTr_ap, e1]
    rfl
  rw [sIf_ap, c, thenS_ok, if_neg (by decide), sSkip_ap]
theorem v_walk {fWeb fOf fRoots fBegun fSR fNext fTurn : List D → Sto → Res D} (F : LawFs ns fWeb fOf fRoots fBegun fSR fNext fTurn) {web : Web} {roots marks : List Nat} {stands : List Stand} (G : Good web roots marks stands) {k b : Int} {rs : List Int} (x2 x6 : Option D) (hr : rs.length = ns.length) (hk : 0 ≤ k) (hk2 : k ≤ 100000000) :
    ∃ (marks' : List Nat) (stands' : List Stand) (k' b' w' : Int) (rs' : List Int) (x6' : Option D), Good web roots marks' stands' ∧ rs'.length = ns.length ∧ k ≤ k' ∧ k' ≤ k + 100000 ∧
      sWhile 1000000 (tB (e2 pNe (e2 pIx (eV 5) (eC (.int 1))) (e2 pMul (eN mkTup (aCons (eN mkTup aNil) aNil)) (eN bLen (aCons (eW (eV 4)) aNil))))) (sSeq (sIf (tNot (tTr (eN fSR (aCons (eV 1) (aCons (eV 3) (aCons (eW (eV 4)) (aCons (eV 5) aNil))))))) (sRet (eC (.bl false))) sSkip) (sSeq (sSet 6 (eN fNext (aCons (eV 3) (aCons (eV 5) (aCons (eN fTurn (aCons (eV 1) (aCons (eV 5) aNil))) aNil))))) (sSet 5 (eIf (tB (e2 pIsN (eV 6) (eC .non))) (eV 5) (e2 pIx (eV 6) (eC (.int 1)))))))
        (envL (ns := ns) web roots x2 (some (eKept marks stands)) x6) (mS ns k rs b 1) = .nx (envL (ns := ns) web roots x2 (some (eKept marks' stands')) x6') (mS ns k' rs' b' w') := by
  have hK := G.left_le
  obtain ⟨m', r', st', s1, e, ⟨marks', stands', k', b', iw', rs', x6', hG, hm, hlt, hr', hk', hkb, rfl, rfl⟩, hc⟩ := whileL_dec (c := tB (e2 pNe (e2 pIx (eV 5) (eC (.int 1))) (e2 pMul (eN mkTup (aCons (eN mkTup aNil) aNil)) (eN bLen (aCons (eW (eV 4)) aNil))))) (b := sSeq (sIf (tNot (tTr (eN fSR (aCons (eV 1) (aCons (eV 3) (aCons (eW (eV 4)) (aCons (eV 5) aNil))))))) (sRet (eC (.bl false))) sSkip) (sSeq (sSet 6 (eN fNext (aCons (eV 3) (aCons (eV 5) (aCons (eN fTurn (aCons (eV 1) (aCons (eV 5) aNil))) aNil))))) (sSet 5 (eIf (tB (e2 pIsN (eV 6) (eC .non))) (eV 5) (e2 pIx (eV 6) (eC (.int 1)))))))
    (fun m r st => ∃ (marks' : List Nat) (stands' : List Stand) (k' b' : Int) (iw' : Nat) (rs' : List Int) (x6' : Option D), Good web roots marks' stands' ∧ leftK web marks' stands' = m ∧ iw' < stands'.length ∧ rs'.length = ns.length ∧ k ≤ k' ∧ k' + 5 * m ≤ k + 5 * (leftK web marks stands) ∧
      r = envL (ns := ns) web roots x2 (some (eKept marks' stands')) x6' ∧ st = mS ns k' rs' b' ((iw' : Int) + 1)) (by
      rintro m r st ⟨marks', stands', k', b', iw', rs', x6', hG, hm, hlt, hr', hk', hkb, rfl, rfl⟩
      have hsl : stands'.length ≤ 60 := by rw [hG.rl]; have := hG.r6; omega
      have hkept : ∀ st, pIx (eKept marks' stands') (.int 1) st = .ok (.tup (stands'.map eSt)) st := fun st => pIx_tupN (i := 1) rfl
      have hcond : (tB (e2 pNe (e2 pIx (eV 5) (eC (.int 1))) (e2 pMul (eN mkTup (aCons (eN mkTup aNil) aNil)) (eN bLen (aCons (eW (eV 4)) aNil))))) (envL (ns := ns) web roots x2 (some (eKept marks' stands')) x6') (mS ns k' rs' b' ((iw' : Int) + 1)) = .ok (!stands'.all List.isEmpty) (mS ns k' rs' b' ((iw' : Int) + 1)) := by
        have v5 : ∀ st, eV 5 (envL (ns := ns) web roots x2 (some (eKept marks' stands')) x6') st = .ok (eKept marks' stands') st := fun _ => rfl
        have v4 : ∀ st, eW (eV 4) (envL (ns := ns) web roots x2 (some (eKept marks' stands')) x6') st = .ok (.tup (iL roots)) st := fun _ => rfl
        have hl : (iL roots).length = stands'.length := by simp [iL, hG.rl]
        generalize mS ns k' rs' b' ((iw' : Int) + 1) = S0 at *
        have m1 : pMul (.tup [.tup []]) (.int (stands'.length : Nat)) S0 = .ok (.tup (List.replicate stands'.length (.tup []))) S0 := by
          simp only [pMul]
          rw [if_pos ⟨by omega, by omega, by simp⟩, Int.toNat_natCast, flat_one]
        have n1 : pNe (.tup (stands'.map eSt)) (.tup (List.replicate stands'.length (.tup []))) S0 = .ok (.bl (!stands'.all List.isEmpty)) S0 := by
          rw [pNe_sm (n := 3) (k := 2) (by rw [sm_tup 2, smL_iff]; intro x hx; obtain ⟨s, _, rfl⟩ := List.mem_map.mp hx; exact sm_eSt s) (by rw [sm_tup 1, smL_iff]; intro x hx; rw [List.eq_of_mem_replicate hx]; rfl) (by omega) (by omega), eqv_stands]
        generalize envL (ns := ns) web roots x2 (some (eKept marks' stands')) x6' = E at *
        simp only [tB_ap, e2_ap, v5, Res.bind_ok, eC_ap, hkept, eN_ap, aCons_ap, aNil_ap, mkT0, mkT1, v4, bLen_tup, hl, m1, n1, isBl_bl]
      refine ⟨_, _, hcond, fun hgo => ?_⟩
      have hne : ∃ (i : Nat) (s : Stand), stands'[i]? = some s ∧ s ≠ [] := by
        have : ¬ stands'.all List.isEmpty = true := by
          intro z; rw [z] at hgo; cases hgo
        rw [List.all_eq_true] at this
        have ⟨s, hs⟩ : ∃ s, ¬ (s ∈ stands' → s.isEmpty = true) := Classical.not_forall.mp this
        have hs1 : s ∈ stands' := Classical.byContradiction fun z => hs fun y => absurd y z
        obtain ⟨i, hi⟩ := List.getElem?_of_mem hs1
        exact ⟨i, s, hi, fun z => hs fun _ => by rw [z]; rfl⟩
      have hm0 : (m : Int) ≤ 10000 := by have := hG.left_le; omega
      obtain ⟨rs1, q1, h1⟩ := F.right b' ((iw' : Int) + 1) k' rs' web roots marks' stands' hG hr' (by omega) (by omega)
      obtain ⟨k2, b2, rs2, i, s, q2, h2, h3, h4, hi, hs⟩ := F.turn (k' + 2) b' rs1 iw' marks' stands' h1 (by omega) (by omega) hlt hsl hne
      rcases List.eq_nil_or_concat s with h0 | ⟨ahead, p, hcc⟩
      · exact absurd h0 hs
      try rw [List.concat_eq_append] at hcc
      subst hcc
      obtain ⟨node, count⟩ := p
      obtain ⟨deed, n, hdd, q3⟩ := F.next web roots marks' stands' i node count ahead (mS ns k2 rs2 b2 ((i : Int) + 1)) hG hi
      obtain ⟨hG2, hlt2⟩ := hG.next hi
      have hil : i < (nextK web marks' stands' i ahead node count).2.length := by
        rw [hG2.rl, ← hG.rl]; exact (List.getElem?_eq_some_iff.mp hi).1
      refine ⟨leftK web (nextK web marks' stands' i ahead node count).1 (nextK web marks' stands' i ahead node count).2, envL (ns := ns) web roots x2 (some (eKept (nextK web marks' stands' i ahead node count).1 (nextK web marks' stands' i ahead node count).2)) (some (.tup [deed, eKept (nextK web marks' stands' i ahead node count).1 (nextK web marks' stands' i ahead node count).2])), mS ns k2 rs2 b2 ((i : Int) + 1), by omega, ?_, _, _, k2, b2, i, rs2, _, hG2, rfl, hil, h2, by omega, by omega, rfl, rfl⟩
      have t6 : tidy (mS ns (k' + 2) rs1 b' ((iw' : Int) + 1)) (.ok (.tup [deed, eKept (nextK web marks' stands' i ahead node count).1 (nextK web marks' stands' i ahead node count).2]) (mS ns k2 rs2 b2 ((i : Int) + 1))) = .ok (.tup [deed, eKept (nextK web marks' stands' i ahead node count).1 (nextK web marks' stands' i ahead node count).2]) (mS ns k2 rs2 b2 ((i : Int) + 1)) := tidy_len _ _ (by rw [mS_len, mS_len]; exact Nat.le_refl _)
      rw [sSeq_ap, v_check q1, thenS_nx]
      generalize eKept (nextK web marks' stands' i ahead node count).1 (nextK web marks' stands' i ahead node count).2 = K2 at *
      have a6 : (eN fNext (aCons (eV 3) (aCons (eV 5) (aCons (eN fTurn (aCons (eV 1) (aCons (eV 5) aNil))) aNil)))) (envL (ns := ns) web roots x2 (some (eKept marks' stands')) x6') (mS ns (k' + 2) rs1 b' ((iw' : Int) + 1)) = .ok (.tup [deed, K2]) (mS ns k2 rs2 b2 ((i : Int) + 1)) := by
        have v1 : ∀ st, eV 1 (envL (ns := ns) web roots x2 (some (eKept marks' stands')) x6') st = .ok (.loc 0) st := fun _ => rfl
        have v3 : ∀ st, eV 3 (envL (ns := ns) web roots x2 (some (eKept marks' stands')) x6') st = .ok (eWeb web) st := fun _ => rfl
        have v5 : ∀ st, eV 5 (envL (ns := ns) web roots x2 (some (eKept marks' stands')) x6') st = .ok (eKept marks' stands') st := fun _ => rfl
        generalize envL (ns := ns) web roots x2 (some (eKept marks' stands')) x6' = E at *
        simp only [eN_ap, aCons_ap, aNil_ap, v1, v3, v5, Res.bind_ok, q2, q3]
      have hset6 : (envL (ns := ns) web roots x2 (some (eKept marks' stands')) x6').set 6 (some (.tup [deed, K2])) = envL (ns := ns) web roots x2 (some (eKept marks' stands')) (some (.tup [deed, K2])) := rfl
      have a5 : ∀ st, (eIf (tB (e2 pIsN (eV 6) (eC .non))) (eV 5) (e2 pIx (eV 6) (eC (.int 1)))) (envL (ns := ns) web roots x2 (some (eKept marks' stands')) (some (.tup [deed, K2]))) st = .ok K2 st := fun st => by
        have v6 : ∀ st, eV 6 (envL (ns := ns) web roots x2 (some (eKept marks' stands')) (some (.tup [deed, K2]))) st = .ok (.tup [deed, K2]) st := fun _ => rfl
        have ix : ∀ st, pIx (.tup [deed, K2]) (.int 1) st = .ok K2 st := fun st => pIx_tupN (i := 1) rfl
        generalize envL (ns := ns) web roots x2 (some (eKept marks' stands')) (some (.tup [deed, K2])) = E at *
        simp only [eIf_ap, tB_ap, e2_ap, v6, Res.bind_ok, eC_ap, pIsN_non, isNonD, isBl_bl, Bool.false_eq_true, if_false, ix]
      rw [sSeq_ap, sSet_ap, a6, t6, thenS_ok, if_pos (by simp [envL]), thenS_nx, hset6, sSet_ap, a5, tidy_ok, thenS_ok, if_pos (by simp [envL])]
      rfl) 1000000 (leftK web marks stands) (envL (ns := ns) web roots x2 (some (eKept marks stands)) x6) (mS ns k rs b 1)
    ⟨marks, stands, k, b, 0, rs, x6, G, rfl, by rw [G.rl]; exact G.r1, hr, by omega, by omega, rfl, by simp⟩ (by omega)
  have hs1 : s1 = mS ns k' rs' b' ((iw' : Int) + 1) := by
    have hkept : ∀ st, pIx (eKept marks' stands') (.int 1) st = .ok (.tup (stands'.map eSt)) st := fun st => pIx_tupN (i := 1) rfl
    have v5 : ∀ st, eV 5 (envL (ns := ns) web roots x2 (some (eKept marks' stands')) x6') st = .ok (eKept marks' stands') st := fun _ => rfl
    have v4 : ∀ st, eW (eV 4) (envL (ns := ns) web roots x2 (some (eKept marks' stands')) x6') st = .ok (.tup (iL roots)) st := fun _ => rfl
    have hsl : stands'.length ≤ 60 := by rw [hG.rl]; have := hG.r6; omega
    have hl : (iL roots).length = stands'.length := by simp [iL, hG.rl]
    generalize mS ns k' rs' b' ((iw' : Int) + 1) = S0 at *
    have m1 : pMul (.tup [.tup []]) (.int (stands'.length : Nat)) S0 = .ok (.tup (List.replicate stands'.length (.tup []))) S0 := by
      simp only [pMul]
      rw [if_pos ⟨by omega, by omega, by simp⟩, Int.toNat_natCast, flat_one]
    have n1 : pNe (.tup (stands'.map eSt)) (.tup (List.replicate stands'.length (.tup []))) S0 = .ok (.bl (!stands'.all List.isEmpty)) S0 := by
      rw [pNe_sm (n := 3) (k := 2) (by rw [sm_tup 2, smL_iff]; intro x hx; obtain ⟨s, _, rfl⟩ := List.mem_map.mp hx; exact sm_eSt s) (by rw [sm_tup 1, smL_iff]; intro x hx; rw [List.eq_of_mem_replicate hx]; rfl) (by omega) (by omega), eqv_stands]
    generalize envL (ns := ns) web roots x2 (some (eKept marks' stands')) x6' = E at *
    simp only [tB_ap, e2_ap, v5, Res.bind_ok, eC_ap, hkept, eN_ap, aCons_ap, aNil_ap, mkT0, mkT1, v4, bLen_tup, hl, m1, n1, isBl_bl] at hc
    injection hc with _ h
    exact h.symm
  subst hs1
  exact ⟨marks', stands', k', b', _, rs', x6', hG, hr', hk', by omega, e⟩
end
end TB.K20

end

/-! ## K20Q -/
section
set_option linter.all false
set_option autoImplicit false
set_option maxRecDepth 100000
namespace TB.K20
open PySem

section
variable {ns : List Int}
theorem v_upd {kv : List (D × D)} {R : List Int} {k : Int} {E : Env} (hE : E[1]? = some (some (.loc 0))) (hm : mergeD kv [(.str "burst", .int 0), (.str "walker", .int 1)] = mD ns k 0 1) (hkl : kv.length ≤ 5) :
    sExp (eMt isDctD mUpdate (eV 1) (aCons (eDisp [.str "burst", .str "walker"] (aCons (eC (.int 0)) (aCons (eC (.int 1)) aNil))) aNil)) E [.dct kv, .lst (R.map .int)] = .nx E (mS ns k R 0 1) := by
  have hd : eDisp [.str "burst", .str "walker"] (aCons (eC (.int 0)) (aCons (eC (.int 1)) aNil)) E [.dct kv, .lst (R.map .int)] = .ok (.loc 2) [.dct kv, .lst (R.map .int), .dct [(.str "burst", .int 0), (.str "walker", .int 1)]] := by
    have ha : (aCons (eC (.int 0)) (aCons (eC (.int 1)) aNil)) E ([.dct kv, .lst (R.map .int)] ++ [.dct []]) = .ok [.int 0, .int 1] ([.dct kv, .lst (R.map .int)] ++ [.dct []]) := rfl
    unfold eDisp
    rw [ha, Res.bind_ok, if_pos ⟨rfl, rfl, by decide, rfl⟩]
    rfl
  have hv : eV 1 E [.dct kv, .lst (R.map .int)] = .ok (.loc 0) [.dct kv, .lst (R.map .int)] := by
    unfold eV; rw [hE]
  have hu : mUpdate (.loc 0) [.loc 2] [.dct kv, .lst (R.map .int), .dct [(.str "burst", .int 0), (.str "walker", .int 1)]] = .ok .non ([.dct (mD ns k 0 1), .lst (R.map .int)] ++ [.dct [(.str "burst", .int 0), (.str "walker", .int 1)]]) := by
    have h1 : dctOf [.dct kv, .lst (R.map .int), .dct [(.str "burst", .int 0), (.str "walker", .int 1)]] (.loc 0) = some kv := rfl
    have h2 : dctOf [.dct kv, .lst (R.map .int), .dct [(.str "burst", .int 0), (.str "walker", .int 1)]] (.loc 2) = some [(.str "burst", .int 0), (.str "walker", .int 1)] := rfl
    simp only [mUpdate]
    rw [if_neg (by decide), h1, h2]
    simp only []
    rw [if_pos (by simp [LINE_eq]; omega), hm]
    rfl
  have hi : isDctD (.loc 0) [.dct kv, .lst (R.map .int)] = true := rfl
  have ht : tidy [.dct kv, .lst (R.map .int)] (.ok .non ([.dct (mD ns k 0 1), .lst (R.map .int)] ++ [.dct [(.str "burst", .int 0), (.str "walker", .int 1)]])) = .ok .non [.dct (mD ns k 0 1), .lst (R.map .int)] := tidy_mod _ _ _ rfl (mS_under ns k R 0 1 0) rfl
  have ha : (aCons (eDisp [.str "burst", .str "walker"] (aCons (eC (.int 0)) (aCons (eC (.int 1)) aNil))) aNil) E [.dct kv, .lst (R.map .int)] = .ok [.loc 2] [.dct kv, .lst (R.map .int), .dct [(.str "burst", .int 0), (.str "walker", .int 1)]] := by
    rw [aCons_ap, hd]; rfl
  rw [sExp_ap, eMt_ap, hv, Res.bind_ok, if_pos hi, ha, Res.bind_ok, hu, ht]
  rfl
variable {fWeb fOf fRoots fBegun fSR fNext fTurn : List D → Sto → Res D}
theorem v_body (F : LawFs ns fWeb fOf fRoots fBegun fSR fNext fTurn) {kv : List (D × D)} {R : List Int} {k : Int} {x2 x3 x4 x5 x6 : Option D} (hm : mergeD kv [(.str "burst", .int 0), (.str "walker", .int 1)] = mD ns k 0 1) (hkl : kv.length ≤ 5) (hr : R.length = ns.length) (hk : 0 ≤ k) (hk2 : k ≤ 90000000) :
    ∃ (k' b' w' : Int) (rs' : List Int) (x3' x4' x5' x6' : Option D), rs'.length = ns.length ∧ k ≤ k' ∧ k' ≤ k + 200000 ∧
      lawBody fWeb fOf fRoots fBegun fSR fNext fTurn [some (.lstv (ns.map .int)), some (.loc 0), x2, x3, x4, x5, x6] [.dct kv, .lst (R.map .int)] = .nx [some (.lstv (ns.map .int)), some (.loc 0), x2, x3', x4', x5', x6'] (mS ns k' rs' b' w') := by
  have u := v_upd (ns := ns) (k := k) (R := R) (kv := kv) (E := [some (.lstv (ns.map .int)), some (.loc 0), x2, x3, x4, x5, x6]) rfl hm hkl
  -- the web
  have hex : ([.lst (iL [7, 7, 7, 13])] : Sto).all (Cell.under (2 + ([.lst (iL [7, 7, 7, 13])] : Sto).length)) = true := rfl
  obtain ⟨j, rs1, d, qo, hj, h1⟩ := F.of 0 1 k R [.lst (iL [7, 7, 7, 13])] 2 (iL [7, 7, 7, 13]) hr hk (by omega) (by decide) (by decide) (fun _ _ => rfl)
  have hd : d = .int 7 ∨ d = .int 13 := by
    have := List.mem_of_getElem? hj
    simp [iL] at this
    omega
  obtain ⟨most, hmost, hmo⟩ : ∃ m : Int, d = .int m ∧ (0 < m ∧ m ≤ 13) := by rcases hd with rfl | rfl <;> exact ⟨_, rfl, by decide, by decide⟩
  subst hmost
  obtain ⟨k2, rs2, web, qw, h2, hk3, hk4, hw1, hw2, hrow⟩ := F.web 0 1 [.lst (iL [7, 7, 7, 13])] hex (k + 1) rs1 most h1 (by omega) (by omega) hmo.1 (by omega)
  have a3 : (eN fWeb (aCons (eV 1) (aCons (eN fOf (aCons (eV 1) (aCons (eN mkLst (aCons (eC (.int 7)) (aCons (eC (.int 7)) (aCons (eC (.int 7)) (aCons (eC (.int 13)) aNil))))) aNil))) (aCons (eC (.int 5)) aNil)))) [some (.lstv (ns.map .int)), some (.loc 0), x2, x3, x4, x5, x6] (mS ns k R 0 1) = .ok (eWeb web) (mS ns k2 rs2 0 1 ++ [.lst (iL [7, 7, 7, 13])]) := by
    have v1 : ∀ st, eV 1 [some (.lstv (ns.map .int)), some (.loc 0), x2, x3, x4, x5, x6] st = .ok (.loc 0) st := fun _ => rfl
    have l1 : (eN mkLst (aCons (eC (.int 7)) (aCons (eC (.int 7)) (aCons (eC (.int 7)) (aCons (eC (.int 13)) aNil))))) [some (.lstv (ns.map .int)), some (.loc 0), x2, x3, x4, x5, x6] (mS ns k R 0 1) = .ok (.loc 2) (mS ns k R 0 1 ++ [.lst (iL [7, 7, 7, 13])]) := rfl
    generalize mS ns k R 0 1 ++ [.lst (iL [7, 7, 7, 13])] = S1 at *
    generalize mS ns k2 rs2 0 1 ++ [.lst (iL [7, 7, 7, 13])] = S2 at *
    generalize mS ns k R 0 1 = S0 at *
    generalize [some (.lstv (ns.map .int)), some (.loc 0), x2, x3, x4, x5, x6] = E at *
    have a1 : (eN fOf (aCons (eV 1) (aCons (eN mkLst (aCons (eC (.int 7)) (aCons (eC (.int 7)) (aCons (eC (.int 7)) (aCons (eC (.int 13)) aNil))))) aNil))) E S0 = .ok (.int most) (mS ns (k + 1) rs1 0 1 ++ [.lst (iL [7, 7, 7, 13])]) := by
      rw [eN_ap, aCons_ap, v1, Res.bind_ok, aCons_ap, l1]
      exact qo
    rw [eN_ap, aCons_ap, v1, Res.bind_ok, aCons_ap, a1]
    exact qw
  have t3 : tidy (mS ns k R 0 1) (.ok (eWeb web) (mS ns k2 rs2 0 1 ++ [.lst (iL [7, 7, 7, 13])])) = .ok (eWeb web) (mS ns k2 rs2 0 1) := by
    have := tidy_mS (sc := ns) (k := k) (k' := k2) (rs := R) (rs' := rs2) (b := 0) (b' := 0) (w := 1) (w' := 1) (ex := []) (js := [.lst (iL [7, 7, 7, 13])]) (d := eWeb web) rfl (und_eWeb _ _)
    simpa using this
  -- the roots
  obtain ⟨k3, rs3, roots, qr, h3, hk5, hk6, hr1, hr2, hnd, hlt⟩ := F.roots 0 1 k2 rs2 web h2 (by omega) (by omega) (by omega) (by omega)
  have t4 : tidy (mS ns k2 rs2 0 1) (.ok (.ptup (iL roots)) (mS ns k3 rs3 0 1)) = .ok (.ptup (iL roots)) (mS ns k3 rs3 0 1) := tidy_len _ _ (by rw [mS_len, mS_len]; exact Nat.le_refl _)
  have a4 : (eN fRoots (aCons (eV 1) (aCons (eV 3) (aCons (eC (.int 3)) aNil)))) [some (.lstv (ns.map .int)), some (.loc 0), x2, some (eWeb web), x4, x5, x6] (mS ns k2 rs2 0 1) = .ok (.ptup (iL roots)) (mS ns k3 rs3 0 1) := qr
  -- the kept at the beginning
  have qb := F.begun web roots (mS ns k3 rs3 0 1) (by omega) (by omega)
  have a5 : (eN fBegun (aCons (eV 3) (aCons (eV 4) aNil))) [some (.lstv (ns.map .int)), some (.loc 0), x2, some (eWeb web), some (.ptup (iL roots)), x5, x6] (mS ns k3 rs3 0 1) = .ok (eKept (marks0 web.length roots) (stands0 roots)) (mS ns k3 rs3 0 1) := qb
  have G := good0 (web := web) (roots := roots) hw1 (by omega) (fun row hr => ⟨by have := (hrow row hr).1; omega, (hrow row hr).2⟩) hr1 (by omega) hnd hlt
  obtain ⟨marks', stands', k4, b4, w4, rs4, x6', G', h4, hk7, hk8, qwalk⟩ := v_walk F G (k := k3) (b := 0) (rs := rs3) x2 x6 h3 (by omega) (by omega)
  obtain ⟨rs5, qlast, h5⟩ := F.right b4 w4 k4 rs4 web roots marks' stands' G' h4 (by omega) (by omega)
  refine ⟨k4 + 2, b4, w4, rs5, some (eWeb web), some (.ptup (iL roots)), some (eKept marks' stands'), x6', h5, by omega, by omega, ?_⟩
  have s3 : ([some (.lstv (ns.map .int)), some (.loc 0), x2, x3, x4, x5, x6] : Env).set 3 (some (eWeb web)) = [some (.lstv (ns.map .int)), some (.loc 0), x2, some (eWeb web), x4, x5, x6] := rfl
  have s4 : ([some (.lstv (ns.map .int)), some (.loc 0), x2, some (eWeb web), x4, x5, x6] : Env).set 4 (some (.ptup (iL roots))) = [some (.lstv (ns.map .int)), some (.loc 0), x2, some (eWeb web), some (.ptup (iL roots)), x5, x6] := rfl
  have s5 : ([some (.lstv (ns.map .int)), some (.loc 0), x2, some (eWeb web), some (.ptup (iL roots)), x5, x6] : Env).set 5 (some (eKept (marks0 web.length roots) (stands0 roots))) = envL (ns := ns) web roots x2 (some (eKept (marks0 web.length roots) (stands0 roots))) x6 := rfl
  unfold lawBody
  rw [sSeq_ap, u, thenS_nx, sSeq_ap, sSet_ap, a3, t3, thenS_ok, if_pos (by simp), s3, thenS_nx, sSeq_ap, sSet_ap, a4, t4, thenS_ok, if_pos (by simp), s4, thenS_nx, sSeq_ap, sSet_ap, a5, tidy_ok, thenS_ok, if_pos (by simp), s5, thenS_nx, sSeq_ap, qwalk, thenS_nx, v_check qlast]
  rfl
theorem v_lawAll {fStart : List D → Sto → Res D} (F : LawFs ns fWeb fOf fRoots fBegun fSR fNext fTurn) {rs : List Int} (hs : fStart [.lstv (ns.map .int)] [] = .ok (.loc 0) [.dct (mD0 ns), .lst (rs.map .int)]) (hr : rs.length = ns.length) :
    ∃ st, runF 1 7 (mm_law fStart fWeb fOf fRoots fBegun fSR fNext fTurn) [.lstv (ns.map .int)] [] = .ok (.bl true) st := by
  have hst0 : startE 7 [.lstv (ns.map .int)] = [some (.lstv (ns.map .int)), none, none, none, none, none, none] := rfl
  have hmx : (if (2 : Int) < (if (ns.length : Int) < 6 then (ns.length : Int) else 6) then (if (ns.length : Int) < 6 then (ns.length : Int) else 6) else 2) ≤ 6 := by split <;> split <;> omega
  have hE : ∀ st, (aCons (eN bMax (aCons (eC (.int 2)) (aCons (eN bMin (aCons (eC (.int 6)) (aCons (eN bLen (aCons (eV 0) aNil)) aNil))) aNil))) aNil) [some (.lstv (ns.map .int)), some (.loc 0), none, none, none, none, none] st = .ok [.int (if (2 : Int) < (if (ns.length : Int) < 6 then (ns.length : Int) else 6) then (if (ns.length : Int) < 6 then (ns.length : Int) else 6) else 2)] st := fun st => by
    have hl : bLen [.lstv (ns.map .int)] st = .ok (.int ns.length) st := by simp [bLen, seqVal]
    simp only [aCons_ap, eN_ap, aNil_ap, eV_ap, eC_ap, List.getElem?_cons_zero, Res.bind_ok, hl]
    simp only [bMin, Res.bind_ok, bMax]
  have hit := iFn_r1 (hE [.dct (mD0 ns), .lst (rs.map .int)]) (by split <;> split <;> omega) (by omega)
  generalize (if (2 : Int) < (if (ns.length : Int) < 6 then (ns.length : Int) else 6) then (if (ns.length : Int) < 6 then (ns.length : Int) else 6) else 2) = N at *
  obtain ⟨r', st', qf, k, rs', x2, x3, x4, x5, x6, h1, h2, h3, h4, rfl, _⟩ := forL_inv (hs := []) (g := gV 2) (b := lawBody fWeb fOf fRoots fBegun fSR fNext fTurn) (xs := rangeD 0 N.toNat)
    (fun i r st => ∃ (k : Int) (rs' : List Int) (x2 x3 x4 x5 x6 : Option D), rs'.length = ns.length ∧ 0 ≤ k ∧ k ≤ 200000 * i ∧ i ≤ 6 ∧ r = [some (.lstv (ns.map .int)), some (.loc 0), x2, x3, x4, x5, x6] ∧
      (st = [.dct (mD0 ns), .lst (rs'.map .int)] ∧ k = 0 ∨ ∃ b w, st = mS ns k rs' b w))
    (r := [some (.lstv (ns.map .int)), some (.loc 0), none, none, none, none, none]) (st := [.dct (mD0 ns), .lst (rs.map .int)])
    ⟨0, rs, none, none, none, none, none, hr, by omega, by omega, by omega, rfl, .inl ⟨rfl, rfl⟩⟩ (fun _ _ _ _ _ => rfl) (by
      rintro i r st x hx ⟨k, rs', x2, x3, x4, x5, x6, h1, h2, h3, h4, rfl, hst⟩
      have hil : i < 6 := by
        have := (List.getElem?_eq_some_iff.mp hx).1
        simp [rangeD] at this
        omega
      obtain ⟨kv, hst2, hm, hkl⟩ : ∃ kv, st = [.dct kv, .lst (rs'.map .int)] ∧ mergeD kv [(.str "burst", .int 0), (.str "walker", .int 1)] = mD ns k 0 1 ∧ kv.length ≤ 5 := by
        rcases hst with ⟨rfl, rfl⟩ | ⟨b, w, rfl⟩
        · exact ⟨mD0 ns, rfl, merge0 ns, by simp [mD0]⟩
        · exact ⟨mD ns k b w, rfl, merge1 ns k b w, by simp [mD]⟩
      subst hst2
      obtain ⟨k', b', w', rs2, x3', x4', x5', x6', g1, g2, g3, qq⟩ := v_body F (x2 := some x) (x3 := x3) (x4 := x4) (x5 := x5) (x6 := x6) hm hkl h1 h2 (by omega)
      exact ⟨[some (.lstv (ns.map .int)), some (.loc 0), some x, x3, x4, x5, x6], _, _, _, rfl, qq, k', rs2, _, _, _, _, _, g1, by omega, by omega, by omega, rfl, .inr ⟨b', w', rfl⟩⟩)
  have a1 : (eN fStart (aCons (eV 0) aNil)) [some (.lstv (ns.map .int)), none, none, none, none, none, none] [] = .ok (.loc 0) [.dct (mD0 ns), .lst (rs.map .int)] := hs
  have t1 : tidy [] (.ok (.loc 0) [.dct (mD0 ns), .lst (rs.map .int)]) = .ok (.loc 0) [.dct (mD0 ns), .lst (rs.map .int)] := by
    rw [tidy_def, if_neg (by simp)]
    simp [prefOk, D.under, Cell.under, mD0]
  have s1 : ([some (.lstv (ns.map .int)), none, none, none, none, none, none] : Env).set 1 (some (.loc 0)) = [some (.lstv (ns.map .int)), some (.loc 0), none, none, none, none, none] := rfl
  have qb : mm_law fStart fWeb fOf fRoots fBegun fSR fNext fTurn [some (.lstv (ns.map .int)), none, none, none, none, none, none] [] = .ret (.bl true) st' := by
    show sSeq _ (sSeq (sFor _ _ (lawBody fWeb fOf fRoots fBegun fSR fNext fTurn)) _) _ _ = _
    rw [sSeq_ap, sSet_ap, a1, t1, thenS_ok, if_pos (by simp), s1, thenS_nx, sSeq_ap, sFor_ap, hit, thenS_ok]
    show (forL [] _ _ _ _ _).thenS _ = _
    rw [qf, thenS_nx, sRet_ap, eC_ap, thenS_ok]
  rw [runF_ap _ (show ([.lstv (ns.map .int)] : List D).length = 1 from rfl), hst0, qb, end_ret, tidy_def]
  repeat' split
  all_goals first | exact ⟨_, rfl⟩ | contradiction
end
end TB.K20

end

/-! ## K20P -/
section
set_option linter.all false
set_option autoImplicit false
set_option maxRecDepth 100000
namespace TB.K20
open PySem

theorem lawFs (ns : List Int) : LawFs ns f__law_web f__law_of f__law_roots f__law_begun f__law_state_right f__law_next f__law_turn where
  web := fun b w ex hex k rs most hr hk hk2 hm hm2 => v_web (t := 5) (fun k rs ex many hr hk hk2 h1 h2 => v_draw hr hk hk2 h1 h2) hex hr hk hk2 hm hm2 (by omega) (by omega)
  of := fun b w k rs ex p xs hr hk hk2 hx hx2 hp => v_of hr hk hk2 hx hx2 hp
  roots := fun b w k rs web hr hk hk2 h1 h2 => by
    have := v_roots (sc := ns) (b := b) (w := w) (ex := []) (most := 3) (fD := f__law_draw) (fun k rs ex many hr hk hk2 h1 h2 => v_draw hr hk hk2 h1 h2) rfl hr hk hk2 (by omega) (by omega) h1 h2
    simp only [List.append_nil] at this
    exact this
  begun := fun web roots st h1 h2 => v_begun h1 h2
  right := fun b w k rs web roots marks stands G hr hk hk2 => v_state_right G (fun b w k rs ex many hr hk hk2 h1 h2 => v_draw hr hk hk2 h1 h2) (fun b w k rs ex p xs hr hk hk2 hx hx2 hp => v_of hr hk hk2 hx hx2 hp) hr hk hk2
  next := fun web roots marks stands i node count ahead st G hi => by
    have hm := List.mem_of_getElem? hi
    obtain ⟨row, h1, h2⟩ := G.sc _ hm (node, count) (by simp)
    have hrw := G.rw_ row (List.mem_of_getElem? h1)
    have hl := G.standLen hm
    rw [List.length_append] at hl
    obtain ⟨deed, n, h3, h4⟩ := v_next (st := st) (w := i + 1) rfl hi h1 h2 (fun t ht m hm => by rw [G.ml]; exact hrw.2 t ht m hm) (by omega) (by rw [G.rl]; have := G.r6; omega) (by rw [G.ml]; exact G.n2)
    refine ⟨deed, n, h3, ?_⟩
    rw [Int.natCast_add] at h4
    exact h4
  turn := fun k b rs iw marks stands hr hk hk2 hw hsl hne => by
    have := v_turn (sc := ns) (ex := []) (fD := f__law_draw) (fO := f__law_of) (fun b w k rs ex many hr hk hk2 h1 h2 => v_draw hr hk hk2 h1 h2) (fun b w k rs ex p xs hr hk hk2 hx hx2 hp => v_of hr hk hk2 hx hx2 hp) rfl (b := b) (marks := marks) hr hk hk2 hw hsl hne
    simp only [List.append_nil] at this
    exact this
theorem plain (ns : List Int) (h : ns.length ≤ 63) (h2 : ∀ z ∈ ns, PySem.Builtin.Int.intBits z ≤ 1048576) : ∃ st, f_law [.lstv (ns.map TB.D.int)] [] = .ok (.bl true) st := by
  obtain ⟨rs, hs, hr⟩ := v_started h h2
  exact v_lawAll (lawFs ns) hs hr
end TB.K20

end

/-! ## K20E -/
set_option linter.all false
set_option autoImplicit false
set_option maxRecDepth 100000
set_option maxHeartbeats 0
open PySem PySem.W PySem.Calls PyProof.Rows
theorem PySem.Challenge.cw_turnback_k20_ways_back_holds : PySem.Challenge.rw_turnback_k20_ways_back.Holds := by
  w_on; o_law
  refine HandSHeadRun.head_any (r := OpenLaw.row PySem.Challenge.rw_turnback_k20_ways_back) (q := view (OpenLaw.row PySem.Challenge.rw_turnback_k20_ways_back).prog [51]) (H := TB.K20.hk) (ob := TB.K20.ob) (M := 6000) (loose := TB.K20.loose) (d := HandSHeadRun.topDef (OpenLaw.row PySem.Challenge.rw_turnback_k20_ways_back).prog 51) (kwd := []) TB.K20.ob_eq
    (by kernel_rfl) (fun s => by kernel_rfl) TB.K20.run (by kernel_rfl) (by kernel_rfl) (by kernel_rfl) (by rfl) (by first | assumption | decide +kernel) (by decide +kernel) ⟨rfl, rfl, rfl, rfl, rfl, by decide +kernel⟩ ?hw ?hc
  case hw => w_witness2
  case hc =>
    refine TB.law_end (l := PySem.Challenge.rw_turnback_k20_ways_back) (n := 63) (k := 10) (x := "_law_script") rfl (by decide) (by kernel_rfl) ⟨rfl, by decide, by decide⟩ ?F
    intro w mg fa h Y G hmg0
    obtain ⟨K, KX, c0⟩ := Y
    have hmg : mg ("law" : PySem.Str) = some (.ref fa) := by
      have e : (HandSHeadRun.topDef (OpenLaw.row PySem.Challenge.rw_turnback_k20_ways_back).prog 51).name = ("law" : PySem.Str) := by kernel_rfl
      rw [← e]
      exact hmg0
    have c : TB.K20.CS K mg := ⟨c0, h, KX, G⟩
    obtain ⟨fd, hb, hF⟩ := TB.K20.law_def (P := (PySem.Challenge.rw_turnback_k20_ways_back).prog) (w := w) c
    have e := hmg.symm.trans (c.glo 33)
    cases e
    exact ⟨K, fd, TB.gx K, TB.K20.f_law, rfl, KX, hb, TB.K20.plain, fun base _ _ => hF base⟩

