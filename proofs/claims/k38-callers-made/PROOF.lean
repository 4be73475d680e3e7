import PyProof.Rows.All
import Wide.All
import OpenK.AllK
import Wide.FinOn
import KE.KStateDown
import HandS.ForMost
import HandS.ForExc
import HandS.Defaults
import HandS.Flow
import HandS.TupAny
import HandS.Deep
import HandS.Wide
import HandS.IsInst
import KE.DataEq
import HandS.MakeKw
import HandS.MakeKwOnly
import KE.GoesMore
import HandS.Iter
import HandS.SlotsOwn
import HandS.TupLe
import HandS.Head0
import HandS.Head1
import HandS.Head2
import HandS.HeadEnd
import HandS.HeadHook1
import HandS.HeadHook2
import HandS.Words
import HandS.WordsExc
import HandS.More
import HandS.Ends
import HandS.Text
import HandS.Codes
import KE.KExcSuper
import KE.KExcPX
import HandS.ExcInit
import HandS.ExcField
import HandS.ExcIs
import KE.KExcIs
import PySem.Challenge.RW_oncedefaults_k38_callers_made
set_option Elab.async false
set_option linter.all false
set_option maxRecDepth 100000
/-! Mir, part A: the plain side. Values without addresses, a store of mutable things, a small monad, and what each construct does there. -/
namespace Mir
open PySem

/-- a value: what cannot change is a tree; what can change lies in the store, at a number -/
inductive PV where
  | non | bl (b : Bool) | int (i : Int) | str (l : List Nat)
  | tup (xs : List PV) | lst (xs : List PV) | ro (xs : List PV)
  | dic (ks vs : List PV)
  | ins (c : Nat) (vs : List PV)
  | loc (n : Nat) | fn (i : Nat) | cls (c : Nat) | ty (n : String)
  deriving Inhabited

abbrev Store := List PV
inductive Res (α : Type) where
  | ok (a : α) (s : Store) | exc (e : PV) (s : Store) | stuck
def Res.bind {α β : Type} (r : Res α) (k : α → Store → Res β) : Res β := match r with
  | .ok a s => k a s
  | .exc e s => .exc e s
  | .stuck => .stuck
@[simp] theorem Res.bind_ok {α β : Type} (a : α) (s : Store) (k : α → Store → Res β) : (Res.ok a s).bind k = k a s := rfl
@[simp] theorem Res.bind_exc {α β : Type} (e : PV) (s : Store) (k : α → Store → Res β) : (Res.exc e s).bind k = .exc e s := rfl
@[simp] theorem Res.bind_stuck {α β : Type} (k : α → Store → Res β) : (Res.stuck : Res α).bind k = .stuck := rfl
theorem Res.bind_assoc {α β γ : Type} (r : Res α) (k : α → Store → Res β) (l : β → Store → Res γ) : (r.bind k).bind l = r.bind fun a s => (k a s).bind l := by
  cases r <;> rfl

inductive Fl where
  | next | ret (v : PV) | brk | cont
abbrev Env := List (Option PV)
abbrev EM := Env → Store → Res PV
abbrev TM := Env → Store → Res Bool
abbrev AM := Env → Store → Res (List PV)
abbrev SM := Env → Store → Res (Env × Fl)
abbrev O1 := PV → Store → Res PV
abbrev O2 := PV → PV → Store → Res PV
abbrev ON := List PV → Store → Res PV
abbrev sz : Nat := 16777216
def ofO {α : Type} (o : Option α) (s : Store) : Res α := match o with
  | some a => .ok a s
  | none => .stuck
@[simp] theorem ofO_some {α : Type} (a : α) (s : Store) : ofO (some a) s = .ok a s := rfl
@[simp] theorem ofO_none {α : Type} (s : Store) : ofO (none : Option α) s = .stuck := rfl

/-! ### which places a value names -/
mutual
/-- all the places that it names lie below b -/
def lb (b : Nat) : PV → Bool
  | .tup xs => lbs b xs
  | .lst xs => lbs b xs
  | .ro xs => lbs b xs
  | .dic ks vs => lbs b ks && lbs b vs
  | .ins _ vs => lbs b vs
  | .loc n => decide (n < b)
  | _ => true
def lbs (b : Nat) : List PV → Bool
  | [] => true
  | x :: xs => lb b x && lbs b xs
end
@[simp] theorem lb_non (b : Nat) : lb b .non = true := by simp [lb]
@[simp] theorem lb_bl (b : Nat) (k : Bool) : lb b (.bl k) = true := by simp [lb]
@[simp] theorem lb_int (b : Nat) (k : Int) : lb b (.int k) = true := by simp [lb]
@[simp] theorem lb_str (b : Nat) (k : List Nat) : lb b (.str k) = true := by simp [lb]
@[simp] theorem lb_fn (b : Nat) (k : Nat) : lb b (.fn k) = true := by simp [lb]
@[simp] theorem lb_cls (b : Nat) (k : Nat) : lb b (.cls k) = true := by simp [lb]
@[simp] theorem lb_ty (b : Nat) (k : String) : lb b (.ty k) = true := by simp [lb]
@[simp] theorem lb_tup (b : Nat) (xs : List PV) : lb b (.tup xs) = lbs b xs := by simp [lb]
@[simp] theorem lb_lst (b : Nat) (xs : List PV) : lb b (.lst xs) = lbs b xs := by simp [lb]
@[simp] theorem lb_ro (b : Nat) (xs : List PV) : lb b (.ro xs) = lbs b xs := by simp [lb]
@[simp] theorem lb_dic (b : Nat) (ks vs : List PV) : lb b (.dic ks vs) = (lbs b ks && lbs b vs) := by simp [lb]
@[simp] theorem lb_ins (b c : Nat) (vs : List PV) : lb b (.ins c vs) = lbs b vs := by simp [lb]
@[simp] theorem lb_loc (b n : Nat) : lb b (.loc n) = decide (n < b) := by simp [lb]
@[simp] theorem lbs_nil (b : Nat) : lbs b [] = true := by simp [lbs]
@[simp] theorem lbs_cons (b : Nat) (x : PV) (xs : List PV) : lbs b (x :: xs) = (lb b x && lbs b xs) := by simp [lbs]
theorem lbs_all (b : Nat) : ∀ xs : List PV, lbs b xs = xs.all (lb b)
  | [] => by simp
  | x :: xs => by simp [lbs_all b xs]
@[simp] theorem lbs_append (b : Nat) (xs ys : List PV) : lbs b (xs ++ ys) = (lbs b xs && lbs b ys) := by simp [lbs_all]
theorem lbs_iff {b : Nat} {xs : List PV} : lbs b xs = true ↔ ∀ x ∈ xs, lb b x = true := by simp [lbs_all]
mutual
theorem lb_mono {b c : Nat} (h : b ≤ c) : ∀ v : PV, lb b v = true → lb c v = true
  | .non, _ => by simp
  | .bl _, _ => by simp
  | .int _, _ => by simp
  | .str _, _ => by simp
  | .fn _, _ => by simp
  | .cls _, _ => by simp
  | .ty _, _ => by simp
  | .loc n, e => by simp at *; omega
  | .tup xs, e => by simp at *; exact lbs_mono h xs e
  | .lst xs, e => by simp at *; exact lbs_mono h xs e
  | .ro xs, e => by simp at *; exact lbs_mono h xs e
  | .dic ks vs, e => by simp at *; exact ⟨lbs_mono h ks e.1, lbs_mono h vs e.2⟩
  | .ins _ vs, e => by simp at *; exact lbs_mono h vs e
theorem lbs_mono {b c : Nat} (h : b ≤ c) : ∀ xs : List PV, lbs b xs = true → lbs c xs = true
  | [], _ => by simp
  | x :: xs, e => by simp at *; exact ⟨lb_mono h x e.1, lbs_mono h xs e.2⟩
end

/-! ### reading -/
/-- what stands behind a value: of a place, its content -/
def deref (s : Store) : PV → PV
  | .loc n => s.getD n .non
  | v => v
/-- the items of a list or a tuple -/
def itemsOf (s : Store) (v : PV) : Option (List PV) := match deref s v with
  | .tup xs => some xs
  | .lst xs => some xs
  | .ro xs => some xs
  | _ => none
def truthV (s : Store) (v : PV) : Option Bool := match deref s v with
  | .non => some false
  | .bl b => some b
  | .int i => some (i != 0)
  | .str l => if l.length ≤ sz then some (!l.isEmpty) else none
  | .tup xs => some (!xs.isEmpty)
  | .lst xs => some (!xs.isEmpty)
  | .ro xs => some (!xs.isEmpty)
  | .dic ks _ => some (!ks.isEmpty)
  | _ => none

/-! ### combinators: expressions -/
def eVar (i : Nat) : EM := fun σ s => match σ[i]? with
  | some (some v) => .ok v s
  | _ => .stuck
def eC (v : PV) : EM := fun _ s => .ok v s
/-- what is raised is not carried further -/
def noX {α : Type} (r : Res α) : Res α := match r with
  | .ok a s => .ok a s
  | _ => .stuck
@[simp] theorem noX_ok {α : Type} (a : α) (s : Store) : noX (.ok a s) = .ok a s := rfl
@[simp] theorem noX_exc {α : Type} (a : PV) (s : Store) : noX (.exc a s : Res α) = .stuck := rfl
@[simp] theorem noX_stuck {α : Type} : noX (.stuck : Res α) = .stuck := rfl
def eOp1 (f : O1) (a : EM) : EM := fun σ s => (a σ s).bind fun x s1 => noX (f x s1)
def eOp2 (f : O2) (a b : EM) : EM := fun σ s => (a σ s).bind fun x s1 => (b σ s1).bind fun y s2 => noX (f x y s2)
def aNil : AM := fun _ s => .ok [] s
def aCons (a : EM) (r : AM) : AM := fun σ s => (a σ s).bind fun x s1 => (r σ s1).bind fun xs s2 => .ok (x :: xs) s2
def eCall (f : ON) (a : AM) : EM := fun σ s => (a σ s).bind f
/-- a built-in: it raises nothing here -/
def eBlt (f : ON) (a : AM) : EM := fun σ s => (a σ s).bind fun xs s1 => noX (f xs s1)
def eTup (a : AM) : EM := fun σ s => (a σ s).bind fun xs s1 => .ok (.tup xs) s1
/-- a new list, held as a tree -/
def eLst (a : AM) : EM := fun σ s => (a σ s).bind fun xs s1 => .ok (.lst xs) s1
def eIf (t : TM) (a b : EM) : EM := fun σ s => (t σ s).bind fun k s1 => if k = true then a σ s1 else b σ s1
def eAnd (a b : EM) : EM := fun σ s => (a σ s).bind fun x s1 => (ofO (truthV s1 x) s1).bind fun k s2 => if k = true then b σ s2 else .ok x s2
def eOr (a b : EM) : EM := fun σ s => (a σ s).bind fun x s1 => (ofO (truthV s1 x) s1).bind fun k s2 => if k = true then .ok x s2 else b σ s2
def eNot (a : EM) : EM := fun σ s => (a σ s).bind fun x s1 => (ofO (truthV s1 x) s1).bind fun k s2 => .ok (.bl !k) s2
def eNotB (a : EM) : EM := fun σ s => (a σ s).bind fun x s1 => match x with
  | .bl k => .ok (.bl !k) s1
  | _ => .stuck
def qOf (a : EM) : TM := fun σ s => (a σ s).bind fun x s1 => ofO (truthV s1 x) s1
/-- a test that is a comparison: its value is True or False -/
def qBl (a : EM) : TM := fun σ s => (a σ s).bind fun x s1 => match x with
  | .bl k => .ok k s1
  | _ => .stuck
def qAnd (a b : TM) : TM := fun σ s => (a σ s).bind fun k s1 => if k = true then b σ s1 else .ok false s1
def qOr (a b : TM) : TM := fun σ s => (a σ s).bind fun k s1 => if k = true then .ok true s1 else b σ s1
def qNot (a : TM) : TM := fun σ s => (a σ s).bind fun k s1 => .ok (!k) s1
/-- a ? b ? c, two comparisons, b asked once -/
def eChain (f g : O2) (a b c : EM) : EM := fun σ s => (a σ s).bind fun x s1 => (b σ s1).bind fun y s2 => (noX (f x y s2)).bind fun z s3 => match z with
  | .bl true => (c σ s3).bind fun u s4 => noX (g y u s4)
  | .bl false => .ok (.bl false) s3
  | _ => .stuck

/-! ### iteration: the items, and what must hold of the store at each turn -/
structure Walk where
  items : List PV
  /-- the place that is walked, if there is one, with its content -/
  at_ : Option (Nat × PV)
def Walk.ok (w : Walk) (s : Store) : Prop := match w.at_ with
  | none => True
  | some (n, c) => s[n]? = some c
abbrev IM := Env → Store → Res Walk
/-- a target: stores a value in the slots -/
abbrev GM := PV → Env → Store → Res Env
def gName (i : Nat) : GM := fun v σ s => .ok (σ.set i (some v)) s
def gNames (is : List Nat) : List PV → Env → Store → Res Env := fun vs σ s => match is, vs with
  | [], [] => .ok σ s
  | i :: is, v :: vs => gNames is vs (σ.set i (some v)) s
  | _, _ => .stuck
def gTup (is : List Nat) : GM := fun v σ s => match v with
  | .tup xs => gNames is xs σ s
  | _ => .stuck
def wipe (σ : Env) : List Nat → Env
  | [] => σ
  | v :: vs => (wipe σ vs).set v none
open Classical in
/-- the items one by one -/
noncomputable def compGo (w : Walk) (g : GM) (t : TM) (e : EM) (σ : Env) : List PV → List PV → Store → Res (List PV)
  | [], acc, s => if w.ok s then .ok acc s else .stuck
  | x :: xs, acc, s => if w.ok s then (noX (g x σ s)).bind fun σ1 s1 => (noX (t σ1 s1)).bind fun k s2 => if k = true then (noX (e σ1 s2)).bind fun y s3 => compGo w g t e σ xs (acc ++ [y]) s3 else compGo w g t e σ xs acc s2 else .stuck
noncomputable def aComp (it : IM) (g : GM) (t : TM) (e : EM) (own : List Nat) : AM := fun σ s => (it σ s).bind fun w s1 => compGo w g t e (wipe σ own) w.items [] s1
def qYes : TM := fun _ s => .ok true s
open Classical in
noncomputable def forGo (w : Walk) (g : GM) (b : SM) (keep : Env → Env) : List PV → Env → Store → Res (Env × Fl)
  | [], σ, s => if w.ok s then .ok (σ, .next) s else .stuck
  | x :: xs, σ, s => if w.ok s then (g x σ s).bind fun σ1 s1 => (b σ1 s1).bind fun r s2 => match r.2 with
      | .next => forGo w g b keep xs (keep r.1) s2
      | .cont => forGo w g b keep xs (keep r.1) s2
      | .brk => .ok (keep r.1, .next) s2
      | .ret v => .ok (r.1, .ret v) s2 else .stuck
/-- slots that held nothing ahead of a loop are forgotten behind each turn -/
def keepAs : Env → Env → Env
  | none :: r, _ :: q => none :: keepAs r q
  | some _ :: r, x :: q => x :: keepAs r q
  | _, q => q
noncomputable def sFor (it : IM) (g : GM) (b : SM) : SM := fun σ s => (it σ s).bind fun w s1 => forGo w g b (keepAs σ) w.items σ s1

/-! ### statements -/
def sNext : SM := fun σ s => .ok (σ, .next) s
def sBrk : SM := fun σ s => .ok (σ, .brk) s
def sCont : SM := fun σ s => .ok (σ, .cont) s
def sSeq (a b : SM) : SM := fun σ s => (a σ s).bind fun r s1 => match r.2 with
  | .next => b r.1 s1
  | f => .ok (r.1, f) s1
def sAsg (e : EM) (g : GM) : SM := fun σ s => (e σ s).bind fun v s1 => (g v σ s1).bind fun σ1 s2 => .ok (σ1, .next) s2
/-- a list of one's own, at a new place -/
def ePl (e : AM) : EM := fun σ s => (e σ s).bind fun xs s1 => .ok (.loc s1.length) (s1 ++ [.lst xs])
/-- x = a list of one's own: it goes to a new place -/
def sNew (e : AM) (i : Nat) : SM := fun σ s => (e σ s).bind fun xs s1 => .ok (σ.set i (some (.loc s1.length)), .next) (s1 ++ [.lst xs])
def sExp (e : EM) : SM := fun σ s => (e σ s).bind fun _ s1 => .ok (σ, .next) s1
def sRet (e : EM) : SM := fun σ s => (e σ s).bind fun v s1 => .ok (σ, .ret v) s1
/-- return a list of one's own, as a place -/
def sRetL (e : AM) : SM := fun σ s => (e σ s).bind fun xs s1 => .ok (σ, .ret (.loc s1.length)) (s1 ++ [.lst xs])
def sRetN : SM := fun σ s => .ok (σ, .ret .non) s
def sIf (t : TM) (a b : SM) : SM := fun σ s => (t σ s).bind fun k s1 => if k = true then a σ s1 else b σ s1
def sStuck : SM := fun _ _ => .stuck
/-- two names at once: a, b = e1, e2 -/
def sPar (a : AM) (i j : Nat) : SM := fun σ s => (a σ s).bind fun xs s1 => match xs with
  | [x, y] => .ok ((σ.set i (some x)).set j (some y), .next) s1
  | _ => .stuck

/-! ### what a def does -/
/-- what stood before the call stands as it was, or names none of the call's own places -/
def Kept (base : Nat) (old new : Store) : Prop := ∀ i, i < base → new[i]? = old[i]? ∨ ∃ c, new[i]? = some c ∧ lb base c = true
open Classical in
/-- a call's end: its own places are dropped; what it hands back, if it lies there, becomes a tree -/
noncomputable def finV (old : Store) (v : PV) (s : Store) : Res PV :=
  if Kept old.length old s ∧ old.length ≤ s.length then
    match v with
    | .loc n => if n < old.length then .ok v (s.take old.length) else match s[n]? with
      | some c => if lb old.length c = true then .ok c (s.take old.length) else .stuck
      | none => .stuck
    | v => if lb old.length v = true then .ok v (s.take old.length) else .stuck
  else .stuck
open Classical in
/-- .. a list of its own is handed on as a place -/
noncomputable def finL (old : Store) (v : PV) (s : Store) : Res PV :=
  if Kept old.length old s ∧ old.length ≤ s.length then
    match v with
    | .loc n => if n < old.length then .stuck else match s[n]? with
      | some (.lst xs) => if lbs old.length xs = true then .ok (.loc old.length) (s.take old.length ++ [.lst xs]) else .stuck
      | _ => .stuck
    | _ => .stuck
  else .stuck
open Classical in
noncomputable def finX (old : Store) (e : PV) (s : Store) : Res PV :=
  if Kept old.length old s ∧ old.length ≤ s.length ∧ lb old.length e = true then .exc e (s.take old.length) else .stuck
noncomputable def runDef (fin : Store → PV → Store → Res PV) (n : Nat) (b : SM) : ON := fun vs s => match b (vs.map some ++ List.replicate (n - vs.length) none) s with
  | .ok (_, .ret v) s1 => fin s v s1
  | .ok (_, .next) s1 => fin s .non s1
  | .ok _ _ => .stuck
  | .exc e s1 => finX s e s1
  | .stuck => .stuck

/-! ### operations by values -/
def eqL (f : PV → PV → Bool) : List PV → List PV → Bool
  | [], [] => true
  | x :: xs, y :: ys => f x y && eqL f xs ys
  | _, _ => false
/-- == of data, to a depth -/
def eqF : Nat → PV → PV → Bool
  | _, .non, .non => true
  | _, .bl a, .bl b => a == b
  | _, .bl a, .int j => (if a then 1 else 0) == j
  | _, .int i, .bl b => i == (if b then 1 else 0)
  | _, .int i, .int j => i == j
  | _, .str a, .str b => a == b
  | n + 1, .tup xs, .tup ys => eqL (eqF n) xs ys
  | n + 1, .lst xs, .lst ys => eqL (eqF n) xs ys
  | n + 1, .lst xs, .ro ys => eqL (eqF n) xs ys
  | n + 1, .ro xs, .lst ys => eqL (eqF n) xs ys
  | n + 1, .ro xs, .ro ys => eqL (eqF n) xs ys
  | _, _, _ => false
/-- data of a depth -/
def isD : Nat → PV → Bool
  | _, .non => true
  | _, .bl _ => true
  | _, .int _ => true
  | _, .str _ => true
  | n + 1, .tup xs => xs.all (isD n)
  | n + 1, .lst xs => xs.all (isD n)
  | n + 1, .ro xs => xs.all (isD n)
  | _, _ => false
abbrev dp : Nat := 12
def pyAdd : O2 := fun x y s => match x, y with
  | .int i, .int j => .ok (.int (i + j)) s
  | .str a, .str b => if a.length + b.length ≤ sz then .ok (.str (a ++ b)) s else .stuck
  | .tup a, .tup b => if a.length + b.length ≤ sz then .ok (.tup (a ++ b)) s else .stuck
  | x, y => match deref s x, deref s y with
    | .lst a, .lst b => if a.length + b.length ≤ sz then .ok (.lst (a ++ b)) s else .stuck
    | _, _ => .stuck
def pySub : O2 := fun x y s => match x, y with
  | .int i, .int j => .ok (.int (i - j)) s
  | _, _ => .stuck
def pyMul : O2 := fun x y s => match x, y with
  | .int i, .int j => if (-(2 ^ 64) < i ∧ i < 2 ^ 64) ∨ (-(2 ^ 64) < j ∧ j < 2 ^ 64) then .ok (.int (i * j)) s else .stuck
  | _, _ => .stuck
def pyMod : O2 := fun x y s => match x, y with
  | .int i, .int j => if 0 < j then .ok (.int (i % j)) s else .stuck
  | _, _ => .stuck
def pyFdiv : O2 := fun x y s => match x, y with
  | .int i, .int j => if 0 < j ∧ j < 2 ^ 128 then .ok (.int (i / j)) s else .stuck
  | _, _ => .stuck
def pyPow : O2 := fun x y s => match x, y with
  | .int i, .int j => if 0 ≤ j ∧ j ≤ 1000000 ∧ i.natAbs < 2 ^ 64 then .ok (.int (i ^ j.toNat)) s else .stuck
  | _, _ => .stuck
def pyNeg : O1 := fun x s => match x with
  | .int i => .ok (.int (-i)) s
  | _ => .stuck
def pyLt : O2 := fun x y s => match x, y with
  | .int i, .int j => .ok (.bl (decide (i < j))) s
  | .str a, .str b => .ok (.bl (decide (a < b))) s
  | _, _ => .stuck
def pyLe : O2 := fun x y s => match x, y with
  | .int i, .int j => .ok (.bl (decide (i ≤ j))) s
  | _, _ => .stuck
def pyGt : O2 := fun x y s => match x, y with
  | .int i, .int j => .ok (.bl (decide (j < i))) s
  | _, _ => .stuck
def pyGe : O2 := fun x y s => match x, y with
  | .int i, .int j => .ok (.bl (decide (j ≤ i))) s
  | _, _ => .stuck
/-- == and != of data -/
def pyEq : O2 := fun x y s => if isD dp (deref s x) && isD dp (deref s y) then .ok (.bl (eqF dp (deref s x) (deref s y))) s else .stuck
def pyNe : O2 := fun x y s => if isD dp (deref s x) && isD dp (deref s y) then .ok (.bl (!eqF dp (deref s x) (deref s y))) s else .stuck
/-- x in y -/
def inP (s : Store) (x y : PV) : Option Bool := match x, y with
  | .str [c], .str l => some (decide (c ∈ l))
  | x, y => match itemsOf s y with
    | some xs => if isD dp x && xs.all (isD dp) then some (xs.any fun z => eqF dp z x) else none
    | none => none
def pyIn : O2 := fun x y s => (ofO (inP s x y) s).bind fun k s => .ok (.bl k) s
def pyNotIn : O2 := fun x y s => (ofO (inP s x y) s).bind fun k s => .ok (.bl !k) s
/-- is None, is True, is False -/
def pyIs (c : PV) : O1 := fun x s => match c, x with
  | .non, .non => .ok (.bl true) s
  | .bl a, .bl b => .ok (.bl (a == b)) s
  | .non, _ => .ok (.bl false) s
  | .bl _, _ => .stuck
  | _, _ => .stuck
/-- the place of an index -/
def ixP (n : Nat) (i : Int) : Option Nat := if 0 ≤ i then (if i < n then some i.toNat else none) else if -(n : Int) ≤ i then some (i + n).toNat else none
def atP {α : Type} (xs : List α) (i : Int) : Option α := (ixP xs.length i).bind fun j => xs[j]?
def pyIdx : O2 := fun x y s => match y with
  | .int i => (match x with
    | .str l => if l.length ≤ sz then (ofO (atP l i) s).bind fun c s => .ok (.str [c]) s else .stuck
    | x => match itemsOf s x with
      | some xs => ofO (atP xs i) s
      | none => .stuck)
  | _ => .stuck
/-- len of what can be told -/
def lenP (s : Store) (x : PV) : Option Nat := match x with
  | .str l => if l.length ≤ sz then some l.length else none
  | x => (itemsOf s x).map (·.length)
def bLen : ON := fun vs s => match vs with
  | [x] => (ofO (lenP s x) s).bind fun n s => .ok (.int (n : Nat)) s
  | _ => .stuck
/-- slices -/
def sIxP (n d : Nat) : Option Int → Nat
  | none => d
  | some v => if v < 0 then (v + (n : Int)).toNat else min v.toNat n
def cutP {α : Type} (xs : List α) (lo hi : Option Int) : List α := (xs.drop (sIxP xs.length 0 lo)).take (sIxP xs.length xs.length hi - sIxP xs.length 0 lo)
abbrev OM := Env → Store → Res (Option Int)
def oNone : OM := fun _ s => .ok none s
def oSome (a : EM) : OM := fun σ s => (a σ s).bind fun x s1 => match x with
  | .int i => .ok (some i) s1
  | _ => .stuck
/-- a slice's value: of a text, a tuple, a list -/
def sliceV (s : Store) (x : PV) (lo hi : Option Int) : Option PV := match x with
  | .str l => if l.length ≤ sz then some (.str (cutP l lo hi)) else none
  | .tup xs => some (.tup (cutP xs lo hi))
  | x => match deref s x with
    | .lst xs => some (.lst (cutP xs lo hi))
    | .ro xs => some (.lst (cutP xs lo hi))
    | _ => none
def eSlice (a : EM) (lo hi : OM) : EM := fun σ s => (a σ s).bind fun x s1 => (lo σ s1).bind fun l s2 => (hi σ s2).bind fun u s3 => ofO (sliceV s3 x l u) s3
/-! ### built-ins -/
def bAbs : ON := fun vs s => match vs with
  | [.int i] => .ok (.int (if i < 0 then -i else i)) s
  | _ => .stuck
def bMax : ON := fun vs s => match vs with
  | [.int i, .int j] => .ok (.int (if j > i then j else i)) s
  | _ => .stuck
def bMin : ON := fun vs s => match vs with
  | [.int i, .int j] => .ok (.int (if j < i then j else i)) s
  | _ => .stuck
def bInt : ON := fun vs s => match vs with
  | [.int i] => .ok (.int i) s
  | [.bl k] => .ok (.int (if k then 1 else 0)) s
  | _ => .stuck
def blsOf : List PV → Option (List Bool)
  | [] => some []
  | .bl k :: r => (blsOf r).map (k :: ·)
  | _ => none
def bAll : ON := fun vs s => match vs with
  | [x] => (ofO ((itemsL s x).bind blsOf) s).bind fun ks s => .ok (.bl (ks.all id)) s
  | _ => .stuck
where itemsL (s : Store) (x : PV) : Option (List PV) := match deref s x with
  | .lst xs => some xs
  | .ro xs => some xs
  | _ => none
def bAny : ON := fun vs s => match vs with
  | [x] => (ofO ((bAll.itemsL s x).bind blsOf) s).bind fun ks s => .ok (.bl (ks.any id)) s
  | _ => .stuck
def bTuple : ON := fun vs s => match vs with
  | [x] => (ofO (itemsOf s x) s).bind fun xs s => .ok (.tup xs) s
  | _ => .stuck
/-- a list of one's own, as a new tree -/
def bList : ON := fun vs s => match vs with
  | [x] => (ofO (itemsOf s x) s).bind fun xs s => .ok (.lst xs) s
  | _ => .stuck
def strsOf : List PV → Option (List (List Nat))
  | [] => some []
  | .str k :: r => (strsOf r).map (k :: ·)
  | _ => none
def insS (x : List Nat) : List (List Nat) → List (List Nat)
  | [] => [x]
  | y :: r => if y < x then y :: insS x r else x :: y :: r
def sortS : List (List Nat) → List (List Nat)
  | [] => []
  | x :: r => insS x (sortS r)
def bSorted : ON := fun vs s => match vs with
  | [x] => (ofO ((bAll.itemsL s x).bind strsOf) s).bind fun ks s => if ks.length < 64 then .ok (.lst ((sortS ks).map .str)) s else .stuck
  | _ => .stuck
/-- the class of a value, a class asked for: a built-in one, an own one -/
inductive Tg where
  | t (n : String) | c (n : Nat)
  deriving DecidableEq
def tgOf (s : Store) (x : PV) : Option Tg := match deref s x with
  | .non => some (.t "NoneType")
  | .bl _ => some (.t "bool")
  | .int _ => some (.t "int")
  | .str _ => some (.t "str")
  | .tup _ => some (.t "tuple")
  | .lst _ => some (.t "list")
  | .dic _ _ => some (.t "dict")
  | .ins c _ => some (.c c)
  | _ => none
/-- isinstance: tab tells the answers -/
def bIsi (tab : List ((Tg × Tg) × Bool)) : ON := fun vs s => match vs with
  | [x, .ty n] => (ofO ((tgOf s x).bind fun g => tab.lookup (g, .t n)) s).bind fun k s => .ok (.bl k) s
  | [x, .cls c] => (ofO ((tgOf s x).bind fun g => tab.lookup (g, .c c)) s).bind fun k s => .ok (.bl k) s
  | _ => .stuck
/-- attributes: an instance of the class c holds the first of its fields, in their order; tab tells where a name stands -/
def eFld (tab : List (Nat × Nat)) (o : EM) : EM := fun σ s => (o σ s).bind fun x s1 => match deref s1 x with
  | .ins c vs => (match tab.lookup c with
    | some i => ofO vs[i]? s1
    | none => .stuck)
  | _ => .stuck
def putF (i : Nat) (v : PV) (vs : List PV) : Option (List PV) := if i < vs.length then some (vs.set i v) else if i = vs.length then some (vs ++ [v]) else none
def sSetF (tab : List (Nat × Nat)) (o e : EM) : SM := fun σ s => (e σ s).bind fun v s1 => (o σ s1).bind fun x s2 => match x with
  | .loc n => (match s2[n]? with
    | some (.ins c vs) => (match tab.lookup c with
      | some i => (match putF i v vs with
        | some vs' => .ok (σ, .next) (s2.set n (.ins c vs'))
        | none => .stuck)
      | none => .stuck)
    | _ => .stuck)
  | _ => .stuck
/-- xs[i] = e -/
def sSetI (o i e : EM) : SM := fun σ s => (e σ s).bind fun v s1 => (o σ s1).bind fun x s2 => (i σ s2).bind fun k s3 => match x, k with
  | .loc n, .int j => (match s3[n]? with
    | some (.lst xs) => (match ixP xs.length j with
      | some m => .ok (σ, .next) (s3.set n (.lst (xs.set m v)))
      | none => .stuck)
    | _ => .stuck)
  | _, _ => .stuck
/-- methods of a list that changes -/
abbrev OMt := PV → List PV → Store → Res PV
def mAppend : OMt := fun x vs s => match x, vs with
  | .loc n, [v] => (match s[n]? with
    | some (.lst xs) => if xs.length < sz then .ok .non (s.set n (.lst (xs ++ [v]))) else .stuck
    | _ => .stuck)
  | _, _ => .stuck
def mExtend : OMt := fun x vs s => match x, vs with
  | .loc n, [v] => (match s[n]?, deref s v with
    | some (.lst xs), .lst ys => if xs.length + ys.length ≤ sz then .ok .non (s.set n (.lst (xs ++ ys))) else .stuck
    | _, _ => .stuck)
  | _, _ => .stuck
def mPop : OMt := fun x vs s => match x, vs with
  | .loc n, [.int i] => (match s[n]? with
    | some (.lst xs) => if 0 ≤ i ∧ i < 2 ^ 62 then (ofO xs[i.toNat]? s).bind fun v s => .ok v (s.set n (.lst (xs.eraseIdx i.toNat))) else .stuck
    | _ => .stuck)
  | _, _ => .stuck
def isL (s : Store) (x : PV) : Bool := match deref s x with
  | .lst _ => true
  | _ => false
def eMt (f : OMt) (o : EM) (a : AM) : EM := fun σ s => (o σ s).bind fun x s1 => if isL s1 x = true then (a σ s1).bind fun vs s2 => noX (f x vs s2) else .stuck
/-- x op= e of a name -/
def sAug (f : O2) (i : Nat) (e : EM) : SM := fun σ s => match σ[i]? with
  | some (some x) => (e σ s).bind fun y s1 => (noX (f x y s1)).bind fun z s2 => .ok (σ.set i (some z), .next) s2
  | _ => .stuck

/-! ### calls of defs, classes, methods -/
/-- f(.., k = ..): what is written by position, then by name -/
def eCallK (f : List PV → List PV → Store → Res PV) (a kw : AM) : EM := fun σ s => (a σ s).bind fun vs s1 => (kw σ s1).bind fun zs s2 => f vs zs s2
/-- a new instance at a place of its own, then __init__ -/
noncomputable def newOf (c : Nat) (fin : Store → PV → Store → Res PV) (f : List PV → List PV → Store → Res PV) : List PV → List PV → Store → Res PV := fun vs zs s =>
  match f (.loc s.length :: vs) zs (s ++ [.ins c []]) with
  | .ok .non s1 => fin s (.loc s.length) s1
  | .ok _ _ => .stuck
  | .exc e s1 => finX s e s1
  | .stuck => .stuck
/-- nothing is dropped -/
def finN (_ : Store) (v : PV) (s : Store) : Res PV := .ok v s
/-- the class of an instance -/
def clsOf (s : Store) (x : PV) : Option Nat := match deref s x with
  | .ins c _ => some c
  | _ => none
/-- o.m(..) -/
def eMeth (tab : List (Nat × (List PV → List PV → Store → Res PV))) (o : EM) (a kw : AM) : EM := fun σ s => (o σ s).bind fun x s1 => match (clsOf s1 x).bind fun c => tab.lookup c with
  | some f => (a σ s1).bind fun vs s2 => (kw σ s2).bind fun zs s3 => f (x :: vs) zs s3
  | none => .stuck
end Mir
/-! Mir, part B: how the plain side lies in the layer's heap: F holds what cannot change any more, io the places of the store. -/
namespace Mir
open PySem PySem.Spec PyProof.Rows L2

/-- where the classes and defs stand; the fields of a class, in the order of their making -/
structure Le (F : Hp) (io : List Addr) (F' : Hp) (io' : List Addr) : Prop where
  fm : ∀ a u, F a = some u → F' a = some u
  im : ∃ m, io' = io ++ m
structure Tb where
  ca : Nat → Addr
  fa : Nat → Addr
  fl : Nat → List Str
  /-- what else is known of the slots (an exception that is held), and stays so -/
  gh : Hp → List Addr → L2.St → Prop
  ghm : ∀ F io F' io' σ, Le F io F' io' → gh F io σ → gh F' io' σ
/-- nothing else -/
class NoGh (T : Tb) : Prop where
  free : ∀ F io σ, T.gh F io σ
/-- the slot i may be stored in -/
class GhSet (T : Tb) (i : Nat) : Prop where
  st : ∀ F io σ v, T.gh F io σ → T.gh F io (σ.set i v)
instance {T : Tb} {i : Nat} [NoGh T] : GhSet T i := ⟨fun _ _ _ _ _ => NoGh.free _ _ _⟩

abbrev St8 (l : List Nat) : Str := ⟨l.toArray⟩
mutual
inductive R (K : PySem.W.Frag) (T : Tb) (F : Hp) (io : List Addr) : PV → V → Prop
  | non : R K T F io .non .non
  | bl (b : Bool) : R K T F io (.bl b) (.bl b)
  | int (i : Int) : R K T F io (.int i) (.int i)
  | str (l : List Nat) : R K T F io (.str l) (.str (St8 l))
  | tup {a : Addr} {xs : List PV} {vs : List V} : SqT K F a vs → Rs K T F io xs vs → R K T F io (.tup xs) (.ref a)
  | lst {a : Addr} {xs : List PV} {vs : List V} : F a = some (.lst vs) → Rs K T F io xs vs → R K T F io (.lst xs) (.ref a)
  | ro {a : Addr} {xs : List PV} {vs : List V} : SqL K F a vs → Rs K T F io xs vs → R K T F io (.ro xs) (.ref a)
  | dic {a : Addr} {ks vs : List PV} {kvs : List (Key × V)} : F a = some (.dK kvs) → Rs K T F io ks (kvs.map fun p => kV p.1) → Rs K T F io vs (kvs.map (·.2)) → R K T F io (.dic ks vs) (.ref a)
  | ins {a dx : Addr} {c : Nat} {vs : List PV} {fv : List (Str × V)} : F a = some (.ins (T.ca c) dx fv) → fv.map (·.1) = (T.fl c).take vs.length → Rs K T F io vs (fv.map (·.2)) → R K T F io (.ins c vs) (.ref a)
  | loc {a : Addr} {n : Nat} : io[n]? = some a → R K T F io (.loc n) (.ref a)
  | fn (i : Nat) : R K T F io (.fn i) (.ref (T.fa i))
  | cls (c : Nat) : R K T F io (.cls c) (.ref (T.ca c))
  | ty (n : String) : R K T F io (.ty n) (.ty n)
inductive Rs (K : PySem.W.Frag) (T : Tb) (F : Hp) (io : List Addr) : List PV → List V → Prop
  | nil : Rs K T F io [] []
  | cons {x : PV} {v : V} {xs : List PV} {vs : List V} : R K T F io x v → Rs K T F io xs vs → Rs K T F io (x :: xs) (v :: vs)
end
section
variable {K : PySem.W.Frag} {T : Tb} {F F' F'' : Hp} {io io' io'' : List Addr}
theorem Le.refl : Le F io F io := ⟨fun _ _ h => h, [], by simp⟩
theorem Le.trans (a : Le F io F' io') (b : Le F' io' F'' io'') : Le F io F'' io'' := by
  obtain ⟨m, rfl⟩ := a.im
  obtain ⟨m', rfl⟩ := b.im
  exact ⟨fun x u h => b.fm x u (a.fm x u h), m ++ m', by simp⟩
theorem rd_mono (h : ∀ a u, F a = some u → F' a = some u) {a : Addr} {u : HO} (r : Rd F a u) : Rd F' a u := by
  rcases r with r | ⟨o, r⟩
  · exact .inl (h _ _ r)
  · exact .inr ⟨o, h _ _ r⟩
theorem sqL_mono (h : ∀ a u, F a = some u → F' a = some u) {a : Addr} {xs : List V} (r : SqL K F a xs) : SqL K F' a xs := by
  rcases r with r | r
  · exact .inl (rd_mono h r)
  · exact .inr r
theorem sqT_mono (h : ∀ a u, F a = some u → F' a = some u) {a : Addr} {xs : List V} (r : SqT K F a xs) : SqT K F' a xs := by
  rcases r with r | r
  · exact .inl (rd_mono h r)
  · exact .inr r
mutual
theorem R.monoG (h : ∀ a u, F a = some u → F' a = some u) (hi : ∀ (n : Nat) (a : Addr), io[n]? = some a → io'[n]? = some a) : ∀ (x : PV) (v : V), R K T F io x v → R K T F' io' x v
  | .non, _, r => by cases r; exact .non
  | .bl _, _, r => by cases r; exact .bl _
  | .int _, _, r => by cases r; exact .int _
  | .str _, _, r => by cases r; exact .str _
  | .fn _, _, r => by cases r; exact .fn _
  | .cls _, _, r => by cases r; exact .cls _
  | .ty _, _, r => by cases r; exact .ty _
  | .loc _, _, r => by cases r with | loc e => exact .loc (hi _ _ e)
  | .tup xs, _, r => by cases r with | tup e q => exact .tup (sqT_mono h e) (Rs.monoG h hi xs _ q)
  | .lst xs, _, r => by cases r with | lst e q => exact .lst (h _ _ e) (Rs.monoG h hi xs _ q)
  | .ro xs, _, r => by cases r with | ro e q => exact .ro (sqL_mono h e) (Rs.monoG h hi xs _ q)
  | .dic ks vs, _, r => by cases r with | dic e q1 q2 => exact .dic (h _ _ e) (Rs.monoG h hi ks _ q1) (Rs.monoG h hi vs _ q2)
  | .ins _ vs, _, r => by cases r with | ins e e2 q => exact .ins (h _ _ e) e2 (Rs.monoG h hi vs _ q)
theorem Rs.monoG (h : ∀ a u, F a = some u → F' a = some u) (hi : ∀ (n : Nat) (a : Addr), io[n]? = some a → io'[n]? = some a) : ∀ (xs : List PV) (vs : List V), Rs K T F io xs vs → Rs K T F' io' xs vs
  | [], _, r => by cases r; exact .nil
  | x :: xs, _, r => by cases r with | cons a b => exact .cons (R.monoG h hi x _ a) (Rs.monoG h hi xs _ b)
end
theorem Le.ix (l : Le F io F' io') : ∀ (n : Nat) (a : Addr), io[n]? = some a → io'[n]? = some a := fun n a e => by
  obtain ⟨m, rfl⟩ := l.im
  rw [List.getElem?_append_left (List.getElem?_eq_some_iff.mp e).1]
  exact e
theorem R.mono (l : Le F io F' io') {x : PV} {v : V} (r : R K T F io x v) : R K T F' io' x v := R.monoG l.fm l.ix _ _ r
theorem Rs.mono (l : Le F io F' io') {xs : List PV} {vs : List V} (r : Rs K T F io xs vs) : Rs K T F' io' xs vs := Rs.monoG l.fm l.ix _ _ r
mutual
theorem R.cut {b : Nat} (hi : ∀ (n : Nat) (a : Addr), n < b → io[n]? = some a → io'[n]? = some a) : ∀ (x : PV) (v : V), lb b x = true → R K T F io x v → R K T F io' x v
  | .non, _, _, r => by cases r; exact .non
  | .bl _, _, _, r => by cases r; exact .bl _
  | .int _, _, _, r => by cases r; exact .int _
  | .str _, _, _, r => by cases r; exact .str _
  | .fn _, _, _, r => by cases r; exact .fn _
  | .cls _, _, _, r => by cases r; exact .cls _
  | .ty _, _, _, r => by cases r; exact .ty _
  | .loc n, _, z, r => by cases r with | loc e => exact .loc (hi _ _ (by simpa using z) e)
  | .tup xs, _, z, r => by cases r with | tup e q => exact .tup e (Rs.cut hi xs _ (by simpa using z) q)
  | .lst xs, _, z, r => by cases r with | lst e q => exact .lst e (Rs.cut hi xs _ (by simpa using z) q)
  | .ro xs, _, z, r => by cases r with | ro e q => exact .ro e (Rs.cut hi xs _ (by simpa using z) q)
  | .dic ks vs, _, z, r => by
    have z' : lbs b ks = true ∧ lbs b vs = true := by simpa using z
    cases r with | dic e q1 q2 => exact .dic e (Rs.cut hi ks _ z'.1 q1) (Rs.cut hi vs _ z'.2 q2)
  | .ins _ vs, _, z, r => by cases r with | ins e e2 q => exact .ins e e2 (Rs.cut hi vs _ (by simpa using z) q)
theorem Rs.cut {b : Nat} (hi : ∀ (n : Nat) (a : Addr), n < b → io[n]? = some a → io'[n]? = some a) : ∀ (xs : List PV) (vs : List V), lbs b xs = true → Rs K T F io xs vs → Rs K T F io' xs vs
  | [], _, _, r => by cases r; exact .nil
  | x :: xs, _, z, r => by
    have z' : lb b x = true ∧ lbs b xs = true := by simpa using z
    cases r with | cons a b => exact .cons (R.cut hi x _ z'.1 a) (Rs.cut hi xs _ z'.2 b)
end
mutual
theorem R.lb : ∀ (x : PV) (v : V), R K T F io x v → Mir.lb io.length x = true
  | .non, _, _ => by simp
  | .bl _, _, _ => by simp
  | .int _, _, _ => by simp
  | .str _, _, _ => by simp
  | .fn _, _, _ => by simp
  | .cls _, _, _ => by simp
  | .ty _, _, _ => by simp
  | .loc n, _, r => by cases r with | loc e => simpa using (List.getElem?_eq_some_iff.mp e).1
  | .tup xs, _, r => by cases r with | tup e q => simpa using Rs.lb xs _ q
  | .lst xs, _, r => by cases r with | lst e q => simpa using Rs.lb xs _ q
  | .ro xs, _, r => by cases r with | ro e q => simpa using Rs.lb xs _ q
  | .dic ks vs, _, r => by cases r with | dic e q1 q2 => simpa using ⟨Rs.lb ks _ q1, Rs.lb vs _ q2⟩
  | .ins _ vs, _, r => by cases r with | ins e e2 q => simpa using Rs.lb vs _ q
theorem Rs.lb : ∀ (xs : List PV) (vs : List V), Rs K T F io xs vs → lbs io.length xs = true
  | [], _, _ => by simp
  | x :: xs, _, r => by cases r with | cons a b => simpa using ⟨R.lb x _ a, Rs.lb xs _ b⟩
end
theorem Rs.length : ∀ {xs : List PV} {vs : List V}, Rs K T F io xs vs → xs.length = vs.length
  | [], _, r => by cases r; rfl
  | _ :: _, _, r => by cases r with | cons a b => simp [Rs.length b]
theorem Rs.get : ∀ {xs : List PV} {vs : List V} {i : Nat} {x : PV}, Rs K T F io xs vs → xs[i]? = some x → ∃ v, vs[i]? = some v ∧ R K T F io x v
  | [], _, i, x, r, e => by simp at e
  | y :: ys, _, 0, x, r, e => by
    cases r with | cons a b =>
    simp at e; subst e
    exact ⟨_, rfl, a⟩
  | y :: ys, _, i + 1, x, r, e => by
    cases r with | cons a b =>
    obtain ⟨v, e1, e2⟩ := Rs.get (i := i) (x := x) b (by simpa using e)
    exact ⟨v, by simpa using e1, e2⟩
theorem Rs.get' {xs : List PV} {vs : List V} {i : Nat} {v : V} (r : Rs K T F io xs vs) (e : vs[i]? = some v) : ∃ x, xs[i]? = some x ∧ R K T F io x v := by
  have hl : i < xs.length := by rw [r.length]; exact (List.getElem?_eq_some_iff.mp e).1
  obtain ⟨v', e1, e2⟩ := r.get (x := xs[i]) (List.getElem?_eq_getElem hl)
  rw [e] at e1; cases e1
  exact ⟨_, List.getElem?_eq_getElem hl, e2⟩
theorem Rs.append : ∀ {xs ys : List PV} {vs ws : List V}, Rs K T F io xs vs → Rs K T F io ys ws → Rs K T F io (xs ++ ys) (vs ++ ws)
  | [], _, _, _, r, q => by cases r; exact q
  | _ :: _, _, _, _, r, q => by cases r with | cons a b => exact .cons a (Rs.append b q)
theorem Rs.take : ∀ {xs : List PV} {vs : List V} (n : Nat), Rs K T F io xs vs → Rs K T F io (xs.take n) (vs.take n)
  | _, _, 0, _ => .nil
  | [], _, _ + 1, r => by cases r; exact .nil
  | _ :: _, _, n + 1, r => by cases r with | cons a b => exact .cons a (Rs.take n b)
theorem Rs.drop : ∀ {xs : List PV} {vs : List V} (n : Nat), Rs K T F io xs vs → Rs K T F io (xs.drop n) (vs.drop n)
  | _, _, 0, r => r
  | [], _, _ + 1, r => by cases r; exact .nil
  | _ :: _, _, n + 1, r => by cases r with | cons a b => exact Rs.drop n b
theorem Rs.set {x : PV} {v : V} (q : R K T F io x v) : ∀ {xs : List PV} {vs : List V} (n : Nat), Rs K T F io xs vs → Rs K T F io (xs.set n x) (vs.set n v)
  | [], _, _, r => by cases r; exact .nil
  | _ :: _, _, 0, r => by cases r with | cons a b => exact .cons q b
  | _ :: _, _, n + 1, r => by cases r with | cons a b => exact .cons a (Rs.set q n b)
theorem Rs.eraseIdx : ∀ {xs : List PV} {vs : List V} (n : Nat), Rs K T F io xs vs → Rs K T F io (xs.eraseIdx n) (vs.eraseIdx n)
  | [], _, _, r => by cases r; exact .nil
  | _ :: _, _, 0, r => by cases r with | cons a b => exact b
  | _ :: _, _, n + 1, r => by cases r with | cons a b => exact .cons a (Rs.eraseIdx n b)
theorem Rs.ints : ∀ {ns : List Int} {vs : List V}, Rs K T F io (ns.map PV.int) vs → vs = ns.map V.int
  | [], _, r => by cases r; rfl
  | _ :: _, _, r => by cases r with | cons a b => cases a; rw [Rs.ints b]; rfl
theorem Rs.of_ints : ∀ (ns : List Int), Rs K T F io (ns.map PV.int) (ns.map V.int)
  | [] => .nil
  | _ :: ns => .cons (.int _) (Rs.of_ints ns)

/-! ### the store in the heap -/
inductive RO (K : PySem.W.Frag) (T : Tb) (F : Hp) (io : List Addr) : PV → HO → Prop
  | lst {xs : List PV} {vs : List V} : Rs K T F io xs vs → RO K T F io (.lst xs) (.lst vs)
  | dic {ks vs : List PV} {kvs : List (Key × V)} : Rs K T F io ks (kvs.map fun p => kV p.1) → Rs K T F io vs (kvs.map (·.2)) → RO K T F io (.dic ks vs) (.dK kvs)
  | ins {dx : Addr} {c : Nat} {vs : List PV} {fv : List (Str × V)} : fv.map (·.1) = (T.fl c).take vs.length → Rs K T F io vs (fv.map (·.2)) → RO K T F io (.ins c vs) (.ins (T.ca c) dx fv)
theorem RO.mono (l : Le F io F' io') {c : PV} {o : HO} (r : RO K T F io c o) : RO K T F' io' c o := by
  cases r with
  | lst q => exact .lst (q.mono l)
  | dic q1 q2 => exact .dic (q1.mono l) (q2.mono l)
  | ins e q => exact .ins e (q.mono l)
theorem RO.cut {b : Nat} (hi : ∀ (n : Nat) (a : Addr), n < b → io[n]? = some a → io'[n]? = some a) {c : PV} {o : HO} (z : Mir.lb b c = true) (r : RO K T F io c o) : RO K T F io' c o := by
  cases r with
  | lst q => exact .lst (Rs.cut hi _ _ (by simpa using z) q)
  | dic q1 q2 =>
    rw [lb_dic, Bool.and_eq_true] at z
    exact .dic (Rs.cut hi _ _ z.1 q1) (Rs.cut hi _ _ z.2 q2)
  | ins e q => exact .ins e (Rs.cut hi _ _ (by simpa using z) q)
theorem RO.lb {c : PV} {o : HO} (r : RO K T F io c o) : Mir.lb io.length c = true := by
  cases r with
  | lst q => simpa using Rs.lb _ _ q
  | dic q1 q2 => simpa using ⟨Rs.lb _ _ q1, Rs.lb _ _ q2⟩
  | ins e q => simpa using Rs.lb _ _ q
/-- a thing of the store, as a tree at its address -/
theorem RO.tree {c : PV} {o : HO} {a : Addr} (r : RO K T F io c o) (h : F a = some o) : R K T F io c (.ref a) := by
  cases r with
  | lst q => exact .lst h q
  | dic q1 q2 => exact .dic h q1 q2
  | ins e q => exact .ins h e q

structure RS (K : PySem.W.Frag) (T : Tb) (P : Hp) (F : Hp) (io : List Addr) (s : Store) (H : Hp) : Prop where
  len : s.length = io.length
  nd : io.Nodup
  sub : ∀ a u, F a = some u → H a = some u
  dis : ∀ a ∈ io, F a = none
  cell : ∀ (n : Nat) (c : PV), s[n]? = some c → ∃ a o, io[n]? = some a ∧ H a = some o ∧ RO K T F io c o
  /-- what others hold is kept -/
  kept : ∀ a o, P a = some o → H a = some o ∧ F a = none ∧ a ∉ io
structure RE (K : PySem.W.Frag) (T : Tb) (F : Hp) (io : List Addr) (e : Env) (σ : L2.St) : Prop where
  len : e.length = σ.length
  at_ : ∀ (i : Nat) (x : PV), e[i]? = some (some x) → ∃ v, σ[i]? = some (some v) ∧ R K T F io x v
  gh : T.gh F io σ
theorem RE.mono (l : Le F io F' io') {e : Env} {σ : L2.St} (r : RE K T F io e σ) : RE K T F' io' e σ :=
  ⟨r.len, fun i x h => let ⟨v, h1, h2⟩ := r.at_ i x h; ⟨v, h1, h2.mono l⟩, T.ghm _ _ _ _ _ l r.gh⟩
theorem RE.set {e : Env} {σ : L2.St} {x : PV} {v : V} (r : RE K T F io e σ) (q : R K T F io x v) (i : Nat) [GhSet T i] : RE K T F io (e.set i (some x)) (σ.set i (some v)) := by
  refine ⟨by simp [r.len], fun j y h => ?_, GhSet.st _ _ _ _ r.gh⟩
  by_cases hj : j = i
  · subst hj
    have hl : j < e.length := by simpa using (List.getElem?_eq_some_iff.mp h).1
    rw [List.getElem?_set_self hl] at h
    cases h
    exact ⟨v, by rw [List.getElem?_set_self (r.len ▸ hl)], q⟩
  · rw [List.getElem?_set_ne (Ne.symm hj)] at h ⊢
    exact r.at_ j y h
/-- slots may be forgotten -/
theorem RE.weak {e e' : Env} {σ : L2.St} (r : RE K T F io e σ) (hl : e'.length = e.length) (h : ∀ (i : Nat) (x : PV), e'[i]? = some (some x) → e[i]? = some (some x)) : RE K T F io e' σ :=
  ⟨hl.trans r.len, fun i x q => r.at_ i x (h i x q), r.gh⟩
section
variable {s : Store} {P H H' : Hp}
/-- new things that no place holds -/
theorem RS.grow (r : RS K T P F io s H) {p : Addr} {o : HO} (hp : H p = none) : Le F io (upd F p o) io ∧ RS K T P (upd F p o) io s (upd H p o) := by
  have fp : F p = none := by
    cases e : F p with
    | none => rfl
    | some u => rw [r.sub _ _ e] at hp; cases hp
  have l : Le F io (upd F p o) io := ⟨fun a u h => by rw [upd_ne (ne_of_none h fp)]; exact h, [], by simp⟩
  have np : ∀ a ∈ io, a ≠ p := fun a ha => by
    obtain ⟨n, hn, e⟩ := List.getElem_of_mem ha
    obtain ⟨a', o', e1, e2, _⟩ := r.cell n (s[n]'(by rw [r.len]; exact hn)) (List.getElem?_eq_getElem _)
    rw [List.getElem?_eq_getElem hn, e] at e1
    cases e1
    exact ne_of_none e2 hp
  refine ⟨l, r.len, r.nd, fun a u h => ?_, fun a ha => ?_, fun n c h => ?_, fun a u h => ?_⟩
  · by_cases ha : a = p
    · subst ha; rw [upd_same] at h ⊢; exact h
    · rw [upd_ne ha] at h ⊢; exact r.sub a u h
  · rw [upd_ne (np a ha)]; exact r.dis a ha
  · obtain ⟨a, o', e1, e2, e3⟩ := r.cell n c h
    exact ⟨a, o', e1, by rw [upd_ne (ne_of_none e2 hp)]; exact e2, e3.mono l⟩
  · obtain ⟨h1, h2, h3⟩ := r.kept a u h
    have hap := ne_of_none h1 hp
    exact ⟨by rw [upd_ne hap]; exact h1, by rw [upd_ne hap]; exact h2, h3⟩
theorem RS.free (r : RS K T P F io s H) {p : Addr} (hp : H p = none) : F p = none ∧ p ∉ io := by
  refine ⟨?_, fun hm => ?_⟩
  · cases e : F p with
    | none => rfl
    | some u => rw [r.sub _ _ e] at hp; cases hp
  · obtain ⟨n, hn, e⟩ := List.getElem_of_mem hm
    obtain ⟨a', o', e1, e2, _⟩ := r.cell n (s[n]'(by rw [r.len]; exact hn)) (List.getElem?_eq_getElem _)
    rw [List.getElem?_eq_getElem hn, e] at e1
    cases e1
    rw [hp] at e2; cases e2
/-- a new place -/
theorem RS.push (r : RS K T P F io s H) {p : Addr} {o : HO} {c : PV} (hp : H p = none) (q : RO K T F io c o) : Le F io F (io ++ [p]) ∧ RS K T P F (io ++ [p]) (s ++ [c]) (upd H p o) := by
  obtain ⟨fp, np⟩ := r.free hp
  have l : Le F io F (io ++ [p]) := ⟨fun _ _ h => h, [p], rfl⟩
  refine ⟨l, by simp [r.len], ?_, fun a u h => ?_, fun a ha => ?_, fun n c' h => ?_, fun a u h => ?_⟩
  · rw [List.nodup_append]
    exact ⟨r.nd, by simp, fun a ha b hb e => by simp at hb; subst hb; subst e; exact np ha⟩
  · rw [upd_ne (ne_of_none h fp)]; exact r.sub a u h
  · rcases List.mem_append.mp ha with ha | ha
    · exact r.dis a ha
    · simp at ha; subst ha; exact fp
  · by_cases hn : n < s.length
    · rw [List.getElem?_append_left hn] at h
      obtain ⟨a, o', e1, e2, e3⟩ := r.cell n c' h
      exact ⟨a, o', l.ix _ _ e1, by rw [upd_ne (ne_of_none e2 hp)]; exact e2, e3.mono l⟩
    · have hl := (List.getElem?_eq_some_iff.mp h).1
      have e : n = s.length := by simp at hl; omega
      subst e
      simp at h; subst h
      exact ⟨p, o, by rw [r.len]; simp, upd_same, q.mono l⟩
  · obtain ⟨h1, h2, h3⟩ := r.kept a u h
    have hap := ne_of_none h1 hp
    refine ⟨by rw [upd_ne hap]; exact h1, h2, fun hm => ?_⟩
    rcases List.mem_append.mp hm with hm | hm
    · exact h3 hm
    · exact hap (by simpa using hm)
/-- a place is written -/
theorem RS.put (r : RS K T P F io s H) {n : Nat} {a : Addr} {o : HO} {c : PV} (ha : io[n]? = some a) (q : RO K T F io c o) : RS K T P F io (s.set n c) (upd H a o) := by
  have hm : a ∈ io := List.mem_of_getElem? ha
  refine ⟨by simp [r.len], r.nd, fun b u h => ?_, r.dis, fun m c' h => ?_, fun b u h => ?_⟩
  · have hb : b ≠ a := fun e => by subst e; rw [r.dis _ hm] at h; cases h
    rw [upd_ne hb]; exact r.sub b u h
  · by_cases hmn : m = n
    · subst hmn
      have hl : m < s.length := by simpa using (List.getElem?_eq_some_iff.mp h).1
      rw [List.getElem?_set_self hl] at h
      cases h
      exact ⟨a, o, ha, upd_same, q⟩
    · rw [List.getElem?_set_ne (Ne.symm hmn)] at h
      obtain ⟨b, o', e1, e2, e3⟩ := r.cell m c' h
      have hb : b ≠ a := fun e => by
        subst e
        obtain ⟨h1, h2⟩ := List.getElem?_eq_some_iff.mp e1
        obtain ⟨h3, h4⟩ := List.getElem?_eq_some_iff.mp ha
        exact hmn ((List.getElem_inj r.nd).mp (h2.trans h4.symm))
      exact ⟨b, o', e1, by rw [upd_ne hb]; exact e2, e3⟩
  · obtain ⟨h1, h2, h3⟩ := r.kept b u h
    have hb : b ≠ a := fun e => by subst e; exact h3 hm
    exact ⟨by rw [upd_ne hb]; exact h1, h2, h3⟩
theorem RS.loc (r : RS K T P F io s H) {n : Nat} {a : Addr} {c : PV} (ha : io[n]? = some a) (hc : s[n]? = some c) : ∃ o, H a = some o ∧ RO K T F io c o := by
  obtain ⟨b, o, e1, e2, e3⟩ := r.cell n c hc
  rw [ha] at e1; cases e1
  exact ⟨o, e2, e3⟩
theorem RS.tup (r : RS K T P F io s H) {a : Addr} {vs : List V} (q : SqT K F a vs) : SqT K H a vs := sqT_mono r.sub q
theorem RS.lst (r : RS K T P F io s H) {a : Addr} {vs : List V} (q : SqL K F a vs) : SqL K H a vs := sqL_mono r.sub q
theorem RS.seq {x : PV} {v : V} {xs : List PV} (r : RS K T P F io s H) (q : R K T F io x v) (e : itemsOf s x = some xs) : ∃ a vs, v = .ref a ∧ (SqL K H a vs ∨ SqT K H a vs) ∧ Rs K T F io xs vs := by
  cases q with
  | tup h1 h2 => simp [itemsOf, deref] at e; subst e; exact ⟨_, _, rfl, .inr (r.tup h1), h2⟩
  | lst h1 h2 => simp [itemsOf, deref] at e; subst e; exact ⟨_, _, rfl, .inl (.of (r.sub _ _ h1)), h2⟩
  | ro h1 h2 => simp [itemsOf, deref] at e; subst e; exact ⟨_, _, rfl, .inl (r.lst h1), h2⟩
  | @loc a n h1 =>
    have hn : n < s.length := by rw [r.len]; exact (List.getElem?_eq_some_iff.mp h1).1
    obtain ⟨o, e2, e3⟩ := r.loc h1 (List.getElem?_eq_getElem hn)
    have ed : deref s (.loc n) = s[n] := by simp [deref, List.getD, List.getElem?_eq_getElem hn]
    simp only [itemsOf, ed] at e
    generalize s[n] = c at e e3
    cases e3 with
    | lst q3 => simp at e; subst e; exact ⟨_, _, rfl, .inl (.of e2), q3⟩
    | _ => simp at e
  | _ => simp [itemsOf, deref] at e
end
end
end Mir
/-! Mir, part C: what it means that an expression does what its plain function does; the rules of structure. -/
namespace Mir
open PySem PySem.Spec PyProof.Rows L2

/-- an exception, and the plain value that tells it -/
def RX (K : PySem.W.Frag) (T : Tb) (F : Hp) (io : List Addr) (e : PV) (cls : Value) (d : Option Addr) : Prop :=
  ∃ c vs, e = .ins c vs ∧ cls = .ref (T.ca c) ∧ (vs ≠ [] → ∃ dd fv, d = some dd ∧ F dd = some (.xd fv) ∧ fv.map (·.1) = (T.fl c).take vs.length ∧ Rs K T F io vs (fv.map (·.2)))
section
variable {K : PySem.W.Frag} {T : Tb} {P F F' : Hp} {io io' : List Addr}
theorem RX.mono (l : Le F io F' io') {e : PV} {cls : Value} {d : Option Addr} (r : RX K T F io e cls d) : RX K T F' io' e cls d := by
  obtain ⟨c, vs, e1, e2, h⟩ := r
  refine ⟨c, vs, e1, e2, fun hn => ?_⟩
  obtain ⟨dd, fv, h1, h2, h3, h4⟩ := h hn
  exact ⟨dd, fv, h1, l.fm _ _ h2, h3, h4.mono l⟩
end

/-- what is wanted behind a computation of the plain side -/
def Post {α β : Type} (K : PySem.W.Frag) (T : Tb) (P : Hp) (rel : Hp → List Addr → α → β → Prop) (W : Value → Option Addr → Hp → Prop) (F : Hp) (io : List Addr) (r : Res α) (Q : β → Hp → Prop) : Prop := match r with
  | .ok x s => ∀ F' io' y H', Le F io F' io' → rel F' io' x y → RS K T P F' io' s H' → Q y H'
  | .exc e s => ∀ F' io' cls d H', Le F io F' io' → RX K T F' io' e cls d → RS K T P F' io' s H' → W cls d H'
  | .stuck => False
section
variable {K : PySem.W.Frag} {T : Tb} {α β γ δ : Type} {rel : Hp → List Addr → α → β → Prop} {rel' : Hp → List Addr → γ → δ → Prop} {W : Value → Option Addr → Hp → Prop} {P F F' : Hp} {io io' : List Addr}
theorem Post.le (l : Le F io F' io') {r : Res α} {Q : β → Hp → Prop} (h : Post K T P rel W F io r Q) : Post K T P rel W F' io' r Q := by
  cases r with
  | ok x s => exact fun F2 io2 y H' l2 hr hs => h F2 io2 y H' (l.trans l2) hr hs
  | exc e s => exact fun F2 io2 cls d H' l2 hr hs => h F2 io2 cls d H' (l.trans l2) hr hs
  | stuck => exact h
theorem Post.mono {r : Res α} {Q Q' : β → Hp → Prop} (h : Post K T P rel W F io r Q) (hq : ∀ y H, Q y H → Q' y H) : Post K T P rel W F io r Q' := by
  cases r with
  | ok x s => exact fun F2 io2 y H' l2 hr hs => hq _ _ (h F2 io2 y H' l2 hr hs)
  | exc e s => exact h
  | stuck => exact h
/-- what stands behind the first of two -/
def Mid (K : PySem.W.Frag) (T : Tb) (P : Hp) (rel : Hp → List Addr → α → β → Prop) (F : Hp) (io : List Addr) (y : β) (H : Hp) (Z : Hp → List Addr → α → Store → Prop) : Prop :=
  ∃ F1 io1 x s1, Le F io F1 io1 ∧ rel F1 io1 x y ∧ RS K T P F1 io1 s1 H ∧ Z F1 io1 x s1
theorem Post.bind {r : Res α} {k : α → Store → Res γ} {Q : δ → Hp → Prop} (h : Post K T P rel' W F io (r.bind k) Q) :
    Post K T P rel W F io r fun y H1 => Mid K T P rel F io y H1 fun F1 io1 x s1 => Post K T P rel' W F1 io1 (k x s1) Q := by
  cases r with
  | ok x s => exact fun F1 io1 y H1 l hr hs => ⟨F1, io1, x, s, l, hr, hs, Post.le l h⟩
  | exc e s => exact h
  | stuck => exact h
theorem Post.ok_of {x : α} {s : Store} {Q : β → Hp → Prop} (h : Post K T P rel W F io (.ok x s) Q) {y : β} {H : Hp} {F' : Hp} {io' : List Addr} (l : Le F io F' io') (hr : rel F' io' x y) (hs : RS K T P F' io' s H) : Q y H := h F' io' y H l hr hs
end

/-- the relations in use -/
abbrev rV (K : PySem.W.Frag) (T : Tb) : Hp → List Addr → PV → V → Prop := fun F io x v => R K T F io x v
abbrev rL (K : PySem.W.Frag) (T : Tb) : Hp → List Addr → List PV → List V → Prop := fun F io x v => Rs K T F io x v
abbrev rB : Hp → List Addr → Bool → Bool → Prop := fun _ _ a b => a = b
abbrev rU : Hp → List Addr → PV → Unit → Prop := fun _ _ _ _ => True

/-- the readings -/
def tE (K : PySem.W.Frag) (T : Tb) (W : WX) (m : EM) : TE := fun σ H Q => ∃ P F io e s, RE K T F io e σ ∧ RS K T P F io s H ∧ Post K T P (rV K T) (fun c d H' => W c d σ H') F io (m e s) Q
def tL (K : PySem.W.Frag) (T : Tb) (W : WX) (m : AM) : TA := fun σ H Q => ∃ P F io e s, RE K T F io e σ ∧ RS K T P F io s H ∧ Post K T P (rL K T) (fun c d H' => W c d σ H') F io (m e s) Q
def tQ (K : PySem.W.Frag) (T : Tb) (W : WX) (m : TM) : TT := fun σ H Q => ∃ P F io e s, RE K T F io e σ ∧ RS K T P F io s H ∧ Post K T P rB (fun c d H' => W c d σ H') F io (m e s) Q
/-- a new list: it lies at an address that nothing names yet -/
def NewL (K : PySem.W.Frag) (T : Tb) (P : Hp) (W : Value → Option Addr → Hp → Prop) (F : Hp) (io : List Addr) (r : Res (List PV)) (Q : VK) : Prop := match r with
  | .ok xs s => ∀ F' io' a vs H', Le F io F' io' → Rs K T F' io' xs vs → RS K T P F' io' s H' → H' a = none → Q (.ref a) (upd H' a (.lst vs))
  | .exc e s => ∀ F' io' cls d H', Le F io F' io' → RX K T F' io' e cls d → RS K T P F' io' s H' → W cls d H'
  | .stuck => False
def tF (K : PySem.W.Frag) (T : Tb) (W : WX) (m : AM) : TE := fun σ H Q => ∃ P F io e s, RE K T F io e σ ∧ RS K T P F io s H ∧ NewL K T P (fun c d H' => W c d σ H') F io (m e s) Q
/-- statements -/
def PostS (K : PySem.W.Frag) (T : Tb) (P : Hp) (W : WX) (F : Hp) (io : List Addr) (r : Res (Env × Fl)) (D : Ends) : Prop := match r with
  | .ok (e, .next) s => ∀ F' io' σ H', Le F io F' io' → RE K T F' io' e σ → RS K T P F' io' s H' → D.nx σ H'
  | .ok (e, .brk) s => ∀ F' io' σ H', Le F io F' io' → RE K T F' io' e σ → RS K T P F' io' s H' → D.bk σ H'
  | .ok (e, .cont) s => ∀ F' io' σ H', Le F io F' io' → RE K T F' io' e σ → RS K T P F' io' s H' → D.ct σ H'
  | .ok (_, .ret x) s => ∀ F' io' v H', Le F io F' io' → R K T F' io' x v → RS K T P F' io' s H' → D.rt v H'
  | .exc e s => ∀ F' io' cls d σ H', Le F io F' io' → RX K T F' io' e cls d → RS K T P F' io' s H' → W cls d σ H'
  | .stuck => False
def tS (K : PySem.W.Frag) (T : Tb) (W : WX) (m : SM) : TS := fun D σ H => ∃ P F io e s, RE K T F io e σ ∧ RS K T P F io s H ∧ PostS K T P W F io (m e s) D
section
variable {K : PySem.W.Frag} {T : Tb} {W : WX} {P F F' : Hp} {io io' : List Addr}
theorem PostS.le (l : Le F io F' io') {r : Res (Env × Fl)} {D : Ends} (h : PostS K T P W F io r D) : PostS K T P W F' io' r D := by
  cases r with
  | ok x s =>
    obtain ⟨e, f⟩ := x
    cases f <;> exact fun F2 io2 y H' l2 hr hs => h F2 io2 y H' (l.trans l2) hr hs
  | exc e s => exact fun F2 io2 cls d σ H' l2 hr hs => h F2 io2 cls d σ H' (l.trans l2) hr hs
  | stuck => exact h
theorem NewL.le {W : Value → Option Addr → Hp → Prop} (l : Le F io F' io') {r : Res (List PV)} {Q : VK} (h : NewL K T P W F io r Q) : NewL K T P W F' io' r Q := by
  cases r with
  | ok x s => exact fun F2 io2 a vs H' l2 hr hs ha => h F2 io2 a vs H' (l.trans l2) hr hs ha
  | exc e s => exact fun F2 io2 cls d H' l2 hr hs => h F2 io2 cls d H' (l.trans l2) hr hs
  | stuck => exact h
/-- an expression ahead of what a statement does with it -/
theorem PostS.bind {α β : Type} {rel : Hp → List Addr → α → β → Prop} {r : Res α} {k : α → Store → Res (Env × Fl)} {D : Ends} {σ : L2.St} (h : PostS K T P W F io (r.bind k) D) :
    Post K T P rel (fun c d H' => W c d σ H') F io r fun y H1 => Mid K T P rel F io y H1 fun F1 io1 x s1 => PostS K T P W F1 io1 (k x s1) D := by
  cases r with
  | ok x s => exact fun F1 io1 y H1 l hr hs => ⟨F1, io1, x, s, l, hr, hs, PostS.le l h⟩
  | exc e s => exact fun F' io' cls d H' l hr hs => h F' io' cls d σ H' l hr hs
  | stuck => exact h
theorem NewL.bind {α β : Type} {W : Value → Option Addr → Hp → Prop} {rel : Hp → List Addr → α → β → Prop} {r : Res α} {k : α → Store → Res (List PV)} {Q : VK} (h : NewL K T P W F io (r.bind k) Q) :
    Post K T P rel W F io r fun y H1 => Mid K T P rel F io y H1 fun F1 io1 x s1 => NewL K T P W F1 io1 (k x s1) Q := by
  cases r with
  | ok x s => exact fun F1 io1 y H1 l hr hs => ⟨F1, io1, x, s, l, hr, hs, NewL.le l h⟩
  | exc e s => exact h
  | stuck => exact h
end

section
variable {X : Cx} {T : Tb} {W : WX} {a b c e : Expr} {ma mb mc me : EM} {es : List Expr} {mr ms : AM} {pos : Pos}
local macro_rules | `(tactic| decreasing_tactic) => `(tactic| assumption)
theorem PE.weak {t t' : TE} (h : PE X e t) (w : ∀ σ H Q, t' σ H Q → t σ H Q) : PE X e t' := ⟨fun pins s σ H Q I q => h.run pins s σ H Q I (w σ H Q q)⟩
theorem PT.weak {t t' : TT} (h : PT X e t) (w : ∀ σ H Q, t' σ H Q → t σ H Q) : PT X e t' := ⟨fun pins s σ H Q I q => h.run pins s σ H Q I (w σ H Q q)⟩
theorem PW.weak {t t' : TT} (h : PW X e t) (w : ∀ σ H Q, t' σ H Q → t σ H Q) : PW X e t' := ⟨fun wh pins s σ H Q I q => h.run wh pins s σ H Q I (w σ H Q q)⟩
theorem PA.weak {t t' : TA} (h : PA X es t) (w : ∀ σ H Q, t' σ H Q → t σ H Q) : PA X es t' := ⟨fun pos pins s σ H Q I q => h.run pos pins s σ H Q I (w σ H Q q)⟩
theorem PS.weak {st : Stmt} {t t' : TS} (h : PS X st t) (w : ∀ D σ H, t' D σ H → t D σ H) : PS X st t' := ⟨fun pins s σ H D I q => h.run pins s σ H D I (w D σ H q)⟩
theorem PSs.weak {st : List Stmt} {t t' : TS} (h : PSs X st t) (w : ∀ D σ H, t' D σ H → t D σ H) : PSs X st t' := ⟨fun pins s σ H D I q => h.run pins s σ H D I (w D σ H q)⟩
/-- one expression's reading, then what is done with its value -/
theorem tE_use {K : PySem.W.Frag} {m : EM} {γ δ : Type} {rel' : Hp → List Addr → γ → δ → Prop} {k : PV → Store → Res γ} {Q : δ → Hp → Prop} {P F : Hp} {io : List Addr} {en : Env} {s : Store} {σ : L2.St} {H : Hp}
    (hE : RE K T F io en σ) (hS : RS K T P F io s H) (h : Post K T P rel' (fun c d H' => W c d σ H') F io ((m en s).bind k) Q) {Q' : VK}
    (hq : ∀ v H1 F1 io1 x s1, RE K T F1 io1 en σ → R K T F1 io1 x v → RS K T P F1 io1 s1 H1 → Le F io F1 io1 → Post K T P rel' (fun c d H' => W c d σ H') F1 io1 (k x s1) Q → Q' v H1) : tE K T W m σ H Q' :=
  ⟨P, F, io, en, s, hE, hS, h.bind.mono fun v H1 ⟨F1, io1, x, s1, l, hr, hs, hp⟩ => hq v H1 F1 io1 x s1 (hE.mono l) hr hs l hp⟩
theorem tL_use {K : PySem.W.Frag} {m : AM} {γ δ : Type} {rel' : Hp → List Addr → γ → δ → Prop} {k : List PV → Store → Res γ} {Q : δ → Hp → Prop} {P F : Hp} {io : List Addr} {en : Env} {s : Store} {σ : L2.St} {H : Hp}
    (hE : RE K T F io en σ) (hS : RS K T P F io s H) (h : Post K T P rel' (fun c d H' => W c d σ H') F io ((m en s).bind k) Q) {Q' : List V → Hp → Prop}
    (hq : ∀ v H1 F1 io1 x s1, RE K T F1 io1 en σ → Rs K T F1 io1 x v → RS K T P F1 io1 s1 H1 → Le F io F1 io1 → Post K T P rel' (fun c d H' => W c d σ H') F1 io1 (k x s1) Q → Q' v H1) : tL K T W m σ H Q' :=
  ⟨P, F, io, en, s, hE, hS, h.bind.mono fun v H1 ⟨F1, io1, x, s1, l, hr, hs, hp⟩ => hq v H1 F1 io1 x s1 (hE.mono l) hr hs l hp⟩
theorem tQ_use {K : PySem.W.Frag} {m : TM} {γ δ : Type} {rel' : Hp → List Addr → γ → δ → Prop} {k : Bool → Store → Res γ} {Q : δ → Hp → Prop} {P F : Hp} {io : List Addr} {en : Env} {s : Store} {σ : L2.St} {H : Hp}
    (hE : RE K T F io en σ) (hS : RS K T P F io s H) (h : Post K T P rel' (fun c d H' => W c d σ H') F io ((m en s).bind k) Q) {Q' : Bool → Hp → Prop}
    (hq : ∀ v H1 F1 io1 s1, RE K T F1 io1 en σ → RS K T P F1 io1 s1 H1 → Le F io F1 io1 → Post K T P rel' (fun c d H' => W c d σ H') F1 io1 (k v s1) Q → Q' v H1) : tQ K T W m σ H Q' :=
  ⟨P, F, io, en, s, hE, hS, h.bind.mono fun v H1 ⟨F1, io1, x, s1, l, (hr : x = v), hs, hp⟩ => by subst hr; exact hq x H1 F1 io1 s1 (hE.mono l) hs l hp⟩

/-! ### names, constants -/
theorem me_var (i : Nat) {x : Str} (h : PE X (.Name x pos) (tVar i)) : PE X (.Name x pos) (tE X.K T W (eVar i)) := by
  refine PE.weak h fun σ H Q ⟨P, F, io, en, s, hE, hS, hp⟩ => ?_
  unfold eVar at hp
  split at hp
  · rename_i v hv
    obtain ⟨u, h1, h2⟩ := hE.at_ i v hv
    exact ⟨u, h1, hp.ok_of Le.refl h2 hS⟩
  · exact hp.elim
/-- a value that stands for itself -/
theorem me_val {x : PV} {v : V} (h : PE X e (tC v)) (hv : ∀ F io, R X.K T F io x v) : PE X e (tE X.K T W (eC x)) := by
  refine PE.weak h fun σ H Q ⟨P, F, io, en, s, hE, hS, hp⟩ => ?_
  exact hp.ok_of Le.refl (hv F io) hS
theorem me_int {i : Int} {j : Nat} : PE X (.Constant (.int i) j pos) (tE X.K T W (eC (.int i))) := me_val pe_int fun _ _ => .int i
theorem me_bl {k : Bool} {j : Nat} : PE X (.Constant (.bool k) j pos) (tE X.K T W (eC (.bl k))) := me_val pe_bl fun _ _ => .bl k
theorem me_non {j : Nat} : PE X (.Constant .none j pos) (tE X.K T W (eC .non)) := me_val pe_non fun _ _ => .non
theorem me_str {x : Str} {j : Nat} {l : List Nat} (h : x = St8 l) : PE X (.Constant (.str x) j pos) (tE X.K T W (eC (.str l))) := by
  subst h
  exact me_val pe_str fun _ _ => .str l

/-! ### arguments, displays -/
theorem ma_nil : PA X [] (tL X.K T W aNil) := PA.weak pa_nil fun σ H Q ⟨P, F, io, en, s, hE, hS, hp⟩ => hp.ok_of Le.refl .nil hS
theorem ma_cons (ha : PE X a (tE X.K T W ma)) (hr : PA X es (tL X.K T W mr)) (hs : starEach (a :: es) X.env = (false, eval a X.env) :: starEach es X.env := by rfl) : PA X (a :: es) (tL X.K T W (aCons ma mr)) := by
  refine PA.weak (pa_cons ha hr hs) fun σ H Q ⟨P, F, io, en, s, hE, hS, hp⟩ => ?_
  refine tE_use hE hS hp fun v H1 F1 io1 x s1 hE1 rx hS1 l1 hp1 => ?_
  refine tL_use hE1 hS1 hp1 fun vs H2 F2 io2 xs s2 hE2 rxs hS2 l2 hp2 => ?_
  exact hp2.ok_of Le.refl (.cons (rx.mono l2) rxs) hS2
/-- how many there are -/
def LenA (m : AM) (n : Nat) : Prop := ∀ σ s xs s', m σ s = .ok xs s' → xs.length = n
theorem len_nil : LenA aNil 0 := fun σ s xs s' h => by cases h; rfl
theorem len_cons {n : Nat} (h : LenA mr n) : LenA (aCons ma mr) (n + 1) := fun σ s xs s' e => by
  unfold aCons at e
  cases h1 : ma σ s with
  | ok x s1 =>
    rw [h1] at e
    cases h2 : mr σ s1 with
    | ok ys s2 =>
      simp only [Res.bind_ok, h2] at e
      cases e
      simp [h _ _ _ _ h2]
    | exc _ _ => simp only [Res.bind_ok, h2, Res.bind_exc] at e; cases e
    | stuck => simp only [Res.bind_ok, h2, Res.bind_stuck] at e; cases e
  | exc _ _ => rw [h1] at e; cases e
  | stuck => rw [h1] at e; cases e
theorem me_tup {j : Nat} {n : Nat} (h : PA X es (tL X.K T W ms)) (hl : LenA ms n) (hn : n ≤ sizeLine := by decide) : PE X (.Tuple es j pos) (tE X.K T W (eTup ms)) := by
  refine PE.weak (pe_tup h) fun σ H Q ⟨P, F, io, en, s, hE, hS, hp⟩ => ?_
  unfold eTup at hp
  cases hm : ms en s with
  | ok xs s1 =>
    rw [hm] at hp
    refine ⟨P, F, io, en, s, hE, hS, ?_⟩
    rw [hm]
    intro F1 io1 vs H1 l1 r1 hS1
    refine ⟨by rw [← r1.length, hl _ _ _ _ hm]; exact hn, fun p np => ?_⟩
    obtain ⟨l2, hS2⟩ := hS1.grow (o := .tup vs) np
    exact hp.ok_of (l1.trans l2) (.tup (.of upd_same) (r1.mono l2)) hS2
  | exc x s1 =>
    rw [hm] at hp
    refine ⟨P, F, io, en, s, hE, hS, ?_⟩
    rw [hm]
    exact hp
  | stuck => rw [hm] at hp; exact hp.elim
/-- a list display, new -/
theorem mf_lst {n : Nat} (h : PA X es (tL X.K T W ms)) (hl : LenA ms n) (hn : n ≤ sizeLine := by decide) : PE X (.List es pos) (tF X.K T W ms) := by
  refine PE.weak (pe_lst h) fun σ H Q ⟨P, F, io, en, s, hE, hS, hp⟩ => ?_
  refine ⟨P, F, io, en, s, hE, hS, ?_⟩
  cases hm : ms en s with
  | ok xs s1 =>
    rw [hm] at hp
    intro F1 io1 vs H1 l1 r1 hS1
    exact ⟨by rw [← r1.length, hl _ _ _ _ hm]; exact hn, fun p np => hp F1 io1 p vs H1 l1 r1 hS1 np⟩
  | exc x s1 => rw [hm] at hp; exact hp
  | stuck => rw [hm] at hp; exact hp
/-- a new list as a tree -/
theorem me_fresh {m : AM} (h : PE X e (tF X.K T W m)) : PE X e (tE X.K T W (eLst m)) := by
  refine PE.weak h fun σ H Q ⟨P, F, io, en, s, hE, hS, hp⟩ => ?_
  refine ⟨P, F, io, en, s, hE, hS, ?_⟩
  unfold eLst at hp
  cases hm : m en s with
  | ok xs s1 =>
    rw [hm] at hp
    intro F1 io1 p vs H1 l1 r1 hS1 np
    obtain ⟨l2, hS2⟩ := hS1.grow (o := .lst vs) np
    exact hp.ok_of (l1.trans l2) (.lst upd_same (r1.mono l2)) hS2
  | exc x s1 => rw [hm] at hp; exact hp
  | stuck => rw [hm] at hp; exact hp

/-! ### operations by values -/
def r1 (K : PySem.W.Frag) (T : Tb) (f : O1) : V → Hp → VK → Prop := fun v H Q => ∃ P F io s x, R K T F io x v ∧ RS K T P F io s H ∧ Post K T P (rV K T) (fun _ _ _ => False) F io (noX (f x s)) Q
def r2 (K : PySem.W.Frag) (T : Tb) (f : O2) : R2 := fun v u H Q => ∃ P F io s x y, R K T F io x v ∧ R K T F io y u ∧ RS K T P F io s H ∧ Post K T P (rV K T) (fun _ _ _ => False) F io (noX (f x y s)) Q
def rN (K : PySem.W.Frag) (T : Tb) (f : ON) : List V → Hp → VK → Prop := fun vs H Q => ∃ P F io s xs, Rs K T F io xs vs ∧ RS K T P F io s H ∧ Post K T P (rV K T) (fun _ _ _ => False) F io (noX (f xs s)) Q
theorem Post.noX {K : PySem.W.Frag} {α β : Type} {rel : Hp → List Addr → α → β → Prop} {W W' : Value → Option Addr → Hp → Prop} {P F : Hp} {io : List Addr} {r : Res α} {Q : β → Hp → Prop} (h : Post K T P rel W F io (Mir.noX r) Q) : Post K T P rel W' F io (Mir.noX r) Q := by
  cases r with
  | ok x s => exact h
  | exc e s => exact h.elim
  | stuck => exact h.elim
theorem me_op2 {op : Operator} {f : O2} (ho : OpR X (binaryOp op) (r2 X.K T f)) (ha : PE X a (tE X.K T W ma)) (hb : PE X b (tE X.K T W mb)) : PE X (.BinOp a op b pos) (tE X.K T W (eOp2 f ma mb)) := by
  refine PE.weak (pe_op ho ha hb) fun σ H Q ⟨P, F, io, en, s, hE, hS, hp⟩ => ?_
  refine tE_use hE hS hp fun v H1 F1 io1 x s1 hE1 rx hS1 l1 hp1 => ?_
  refine tE_use hE1 hS1 hp1 fun u H2 F2 io2 y s2 hE2 ry hS2 l2 hp2 => ?_
  exact ⟨P, F2, io2, s2, x, y, rx.mono l2, ry, hS2, hp2.noX⟩
theorem me_cmp {op : CmpOp} {f : O2} (ho : OpR X (compareOp op) (r2 X.K T f)) (ha : PE X a (tE X.K T W ma)) (hb : PE X b (tE X.K T W mb)) (hm : behindInMarks op b = false) : PE X (.Compare a [op] [b] pos) (tE X.K T W (eOp2 f ma mb)) := by
  refine PE.weak (pe_cmpR ho ha hb hm) fun σ H Q ⟨P, F, io, en, s, hE, hS, hp⟩ => ?_
  refine tE_use hE hS hp fun v H1 F1 io1 x s1 hE1 rx hS1 l1 hp1 => ?_
  refine tE_use hE1 hS1 hp1 fun u H2 F2 io2 y s2 hE2 ry hS2 l2 hp2 => ?_
  exact ⟨P, F2, io2, s2, x, y, rx.mono l2, ry, hS2, hp2.noX⟩
theorem me_un {op : UnaryOp} {f : O1} (ho : UnR X (unaryOp op) (r1 X.K T f)) (ha : PE X a (tE X.K T W ma)) : PE X (.UnaryOp op a pos) (tE X.K T W (eOp1 f ma)) := by
  refine PE.weak (pe_un ho ha) fun σ H Q ⟨P, F, io, en, s, hE, hS, hp⟩ => ?_
  refine tE_use hE hS hp fun v H1 F1 io1 x s1 hE1 rx hS1 l1 hp1 => ?_
  exact ⟨P, F1, io1, s1, x, rx, hS1, hp1.noX⟩
end
end Mir
/-! Mir, part D: truth, tests, statements, loops, comprehensions. -/
namespace Mir
open PySem PySem.Spec PyProof.Rows L2
theorem str8_len (l : List Nat) : (St8 l).length = l.length := by simp [Str.length]
section
variable {K : PySem.W.Frag} {T : Tb} {P F : Hp} {io : List Addr} {s : Store} {H : Hp}
theorem notEmpty_rs {xs : List PV} {vs : List V} (r : Rs K T F io xs vs) : (!vs.isEmpty) = !xs.isEmpty := by
  cases r <;> rfl
theorem notEmpty_kv {ks : List PV} {kvs : List (Key × V)} (r : Rs K T F io ks (kvs.map fun p => kV p.1)) : (!kvs.isEmpty) = !ks.isEmpty := by
  cases kvs with
  | nil => cases r; rfl
  | cons a b => cases r; rfl
theorem tru_of {x : PV} {v : V} {k : Bool} (hS : RS K T P F io s H) (r : R K T F io x v) (e : truthV s x = some k) : TruV K v H k := by
  cases r with
  | non => cases (show some false = some k from e); exact (rfl : false = false)
  | bl b => cases (show some b = some k from e); exact (rfl : k = k)
  | int i => cases (show some (i != 0) = some k from e); exact (rfl : (i != 0) = (i != 0))
  | str l =>
    simp only [truthV, deref] at e
    split at e
    · rename_i hl
      cases e
      show (St8 l).length ≤ sizeLine ∧ (!l.isEmpty) = (((St8 l).length : Int) != 0)
      rw [str8_len]
      refine ⟨hl, ?_⟩
      cases l with
      | nil => rfl
      | cons a b => simp; omega
    · cases e
  | tup h1 h2 => cases (show some (!List.isEmpty _) = some k from e); exact .inr (.inl ⟨_, hS.tup h1, (notEmpty_rs h2).symm⟩)
  | lst h1 h2 => cases (show some (!List.isEmpty _) = some k from e); exact .inl ⟨_, .of (hS.sub _ _ h1), (notEmpty_rs h2).symm⟩
  | ro h1 h2 => cases (show some (!List.isEmpty _) = some k from e); exact .inl ⟨_, hS.lst h1, (notEmpty_rs h2).symm⟩
  | dic h1 h2 h3 => cases (show some (!List.isEmpty _) = some k from e); exact .inr (.inr ⟨_, hS.sub _ _ h1, (notEmpty_kv h2).symm⟩)
  | ins h1 h2 h3 => simp [truthV, deref] at e
  | @loc a n h1 =>
    have hn : n < s.length := by rw [hS.len]; exact (List.getElem?_eq_some_iff.mp h1).1
    obtain ⟨o, e2, e3⟩ := hS.loc h1 (List.getElem?_eq_getElem hn)
    have ed : deref s (.loc n) = s[n] := by simp [deref, List.getD, List.getElem?_eq_getElem hn]
    simp only [truthV, ed] at e
    generalize s[n] = c at e e3
    cases e3 with
    | lst q => cases (show some (!List.isEmpty _) = some k from e); exact .inl ⟨_, .of e2, (notEmpty_rs q).symm⟩
    | dic q1 q2 => cases (show some (!List.isEmpty _) = some k from e); exact .inr (.inr ⟨_, e2, (notEmpty_kv q1).symm⟩)
    | ins _ _ => simp at e
  | fn i => simp [truthV, deref] at e
  | cls i => simp [truthV, deref] at e
  | ty i => simp [truthV, deref] at e
end
section
variable {X : Cx} {T : Tb} {W : WX} {a b c e : Expr} {ma mb mc me : EM} {qa qb qc : TM} {es rest : List Expr} {mr ms : AM} {pos : Pos}
theorem ofO_use {K : PySem.W.Frag} {γ δ : Type} {rel' : Hp → List Addr → γ → δ → Prop} {Wz : Value → Option Addr → Hp → Prop} {P F : Hp} {io : List Addr} {s : Store} {H : Hp} {α : Type} {o : Option α} {k : α → Store → Res γ} {Q : δ → Hp → Prop} (h : Post K T P rel' Wz F io ((ofO o s).bind k) Q) : ∃ x, o = some x ∧ Post K T P rel' Wz F io (k x s) Q := by
  cases o with
  | some x => exact ⟨x, rfl, h⟩
  | none => exact h.elim
theorem qe_of (ha : PE X a (tE X.K T W ma)) (he : ∀ whole, isTrue a X.env whole = (do let v ← whole; standAt a.pos; holding [v] (truthy v)) := by intro _; rfl) : PT X a (tQ X.K T W (qOf ma)) := by
  refine PT.weak (pt_truth ha he) fun σ H Q ⟨P, F, io, en, s, hE, hS, hp⟩ => ?_
  refine tE_use hE hS hp fun v H1 F1 io1 x s1 hE1 rx hS1 l1 hp1 => ?_
  cases h : truthV s1 x with
  | none => rw [h] at hp1; exact hp1.elim
  | some k =>
    rw [h] at hp1
    exact ⟨k, tru_of hS1 rx h, hp1.ok_of Le.refl rfl hS1⟩
theorem qe_not (ha : PT X a (tQ X.K T W qa)) : PT X (.UnaryOp .Not a pos) (tQ X.K T W (qNot qa)) := by
  refine PT.weak (pt_not ha) fun σ H Q ⟨P, F, io, en, s, hE, hS, hp⟩ => ?_
  refine tQ_use hE hS hp fun k H1 F1 io1 s1 hE1 hS1 l1 hp1 => ?_
  exact hp1.ok_of Le.refl rfl hS1
theorem qw_and1 (ha : PT X a (tQ X.K T W qa)) : PW X (.BoolOp .And [a] pos) (tQ X.K T W qa) := pw_and1 ha
theorem qw_or1 (ha : PT X a (tQ X.K T W qa)) : PW X (.BoolOp .Or [a] pos) (tQ X.K T W qa) := pw_or1 ha
theorem qw_and (ha : PT X a (tQ X.K T W qa)) (hb : PW X (.BoolOp .And (b :: rest) pos) (tQ X.K T W qb)) : PW X (.BoolOp .And (a :: b :: rest) pos) (tQ X.K T W (qAnd qa qb)) := by
  refine PW.weak (pw_and ha hb) fun σ H Q ⟨P, F, io, en, s, hE, hS, hp⟩ => ?_
  refine tQ_use hE hS hp fun k H1 F1 io1 s1 hE1 hS1 l1 hp1 => ?_
  cases k with
  | true => simp only [if_true] at hp1 ⊢; exact ⟨P, F1, io1, en, s1, hE1, hS1, hp1⟩
  | false => simp only [Bool.false_eq_true, if_false] at hp1 ⊢; exact hp1.ok_of Le.refl rfl hS1
theorem qw_or (ha : PT X a (tQ X.K T W qa)) (hb : PW X (.BoolOp .Or (b :: rest) pos) (tQ X.K T W qb)) : PW X (.BoolOp .Or (a :: b :: rest) pos) (tQ X.K T W (qOr qa qb)) := by
  refine PW.weak (pw_or ha hb) fun σ H Q ⟨P, F, io, en, s, hE, hS, hp⟩ => ?_
  refine tQ_use hE hS hp fun k H1 F1 io1 s1 hE1 hS1 l1 hp1 => ?_
  cases k with
  | true => simp only [if_true] at hp1 ⊢; exact hp1.ok_of Le.refl rfl hS1
  | false => simp only [Bool.false_eq_true, if_false] at hp1 ⊢; exact ⟨P, F1, io1, en, s1, hE1, hS1, hp1⟩
/-- .. as values -/
theorem me_and (ha : PE X a (tE X.K T W ma)) (hb : PE X (.BoolOp .And (b :: rest) pos) (tE X.K T W mb)) : PE X (.BoolOp .And (a :: b :: rest) pos) (tE X.K T W (eAnd ma mb)) := by
  refine PE.weak (pe_andT ha hb) fun σ H Q ⟨P, F, io, en, s, hE, hS, hp⟩ => ?_
  refine tE_use hE hS hp fun v H1 F1 io1 x s1 hE1 rx hS1 l1 hp1 => ?_
  cases h : truthV s1 x with
  | none => rw [h] at hp1; exact hp1.elim
  | some k =>
    rw [h] at hp1
    refine ⟨k, tru_of hS1 rx h, ?_⟩
    cases k with
    | true => exact ⟨P, F1, io1, en, s1, hE1, hS1, hp1⟩
    | false => exact hp1.ok_of Le.refl rx hS1
theorem me_or (ha : PE X a (tE X.K T W ma)) (hb : PE X (.BoolOp .Or (b :: rest) pos) (tE X.K T W mb)) : PE X (.BoolOp .Or (a :: b :: rest) pos) (tE X.K T W (eOr ma mb)) := by
  refine PE.weak (pe_orT ha hb) fun σ H Q ⟨P, F, io, en, s, hE, hS, hp⟩ => ?_
  refine tE_use hE hS hp fun v H1 F1 io1 x s1 hE1 rx hS1 l1 hp1 => ?_
  cases h : truthV s1 x with
  | none => rw [h] at hp1; exact hp1.elim
  | some k =>
    rw [h] at hp1
    refine ⟨k, tru_of hS1 rx h, ?_⟩
    cases k with
    | true => exact hp1.ok_of Le.refl rx hS1
    | false => exact ⟨P, F1, io1, en, s1, hE1, hS1, hp1⟩
theorem me_not (ha : PE X a (tE X.K T W ma)) : PE X (.UnaryOp .Not a pos) (tE X.K T W (eNot ma)) := by
  refine PE.weak (pe_notT ha) fun σ H Q ⟨P, F, io, en, s, hE, hS, hp⟩ => ?_
  refine tE_use hE hS hp fun v H1 F1 io1 x s1 hE1 rx hS1 l1 hp1 => ?_
  cases h : truthV s1 x with
  | none => rw [h] at hp1; exact hp1.elim
  | some k =>
    rw [h] at hp1
    exact ⟨k, tru_of hS1 rx h, hp1.ok_of Le.refl (.bl _) hS1⟩
theorem me_if (hc : PT X c (tQ X.K T W qc)) (ha : PE X a (tE X.K T W ma)) (hb : PE X b (tE X.K T W mb)) : PE X (.IfExp c a b pos) (tE X.K T W (eIf qc ma mb)) := by
  refine PE.weak (pe_ifExp hc ha hb) fun σ H Q ⟨P, F, io, en, s, hE, hS, hp⟩ => ?_
  refine tQ_use hE hS hp fun k H1 F1 io1 s1 hE1 hS1 l1 hp1 => ?_
  cases k with
  | true => exact ⟨P, F1, io1, en, s1, hE1, hS1, hp1⟩
  | false => exact ⟨P, F1, io1, en, s1, hE1, hS1, hp1⟩
/-- a test that is a comparison -/
theorem qe_cmp {op : CmpOp} {f : O2} (ho : OpR X (compareOp op) (r2 X.K T f)) (ha : PE X a (tE X.K T W ma)) (hb : PE X b (tE X.K T W mb)) (hm : behindInMarks op b = false) : PT X (.Compare a [op] [b] pos) (tQ X.K T W (qBl (eOp2 f ma mb))) := by
  refine PT.weak (pt_cmpR ho ha hb hm) fun σ H Q ⟨P, F, io, en, s, hE, hS, hp⟩ => ?_
  unfold qBl eOp2 at hp
  simp only [Res.bind_assoc] at hp
  refine tE_use hE hS hp fun v H1 F1 io1 x s1 hE1 rx hS1 l1 hp1 => ?_
  refine tE_use hE1 hS1 hp1 fun u H2 F2 io2 y s2 hE2 ry hS2 l2 hp2 => ?_
  refine ⟨P, F2, io2, s2, x, y, rx.mono l2, ry, hS2, ?_⟩
  cases h : f x y s2 with
  | ok z s3 =>
    rw [h] at hp2
    intro F3 io3 z' H3 l3 rz hS3
    cases z with
    | bl k => cases rz; exact ⟨k, rfl, hp2.ok_of l3 rfl hS3⟩
    | _ => exact hp2.elim
  | exc _ _ => rw [h] at hp2; exact hp2.elim
  | stuck => rw [h] at hp2; exact hp2.elim
theorem me_chain {op op' : CmpOp} {f g : O2} (ho : OpR X (compareOp op) (r2 X.K T f)) (ho' : OpR X (compareOp op') (r2 X.K T g)) (ha : PE X a (tE X.K T W ma)) (hb : PE X b (tE X.K T W mb)) (hc : PE X c (tE X.K T W mc))
    (hm : lastMarks [op, op'] [b, c] = false := by with_unfolding_all rfl) : PE X (.Compare a [op, op'] [b, c] pos) (tE X.K T W (eChain f g ma mb mc)) := by
  refine PE.weak (pe_chain ho ho' ha hb hc hm) fun σ H Q ⟨P, F, io, en, s, hE, hS, hp⟩ => ?_
  refine tE_use hE hS hp fun v H1 F1 io1 x s1 hE1 rx hS1 l1 hp1 => ?_
  refine tE_use hE1 hS1 hp1 fun u H2 F2 io2 y s2 hE2 ry hS2 l2 hp2 => ?_
  refine ⟨P, F2, io2, s2, x, y, rx.mono l2, ry, hS2, ?_⟩
  cases h : f x y s2 with
  | ok z s3 =>
    rw [h] at hp2
    intro F3 io3 z' H3 l3 rz hS3
    cases z with
    | bl k =>
      cases rz
      refine ⟨k, rfl, ?_⟩
      cases k with
      | true =>
        refine tE_use (hE2.mono l3) hS3 (Post.le l3 hp2) fun w H4 F4 io4 z4 s4 hE4 rz4 hS4 l4 hp4 => ?_
        exact ⟨P, F4, io4, s4, y, z4, ry.mono (l3.trans l4), rz4, hS4, hp4.noX⟩
      | false => exact hp2.ok_of l3 (.bl _) hS3
    | _ => exact hp2.elim
  | exc _ _ => rw [h] at hp2; exact hp2.elim
  | stuck => rw [h] at hp2; exact hp2.elim
theorem qe_chain {op op' : CmpOp} {f g : O2} (ho : OpR X (compareOp op) (r2 X.K T f)) (ho' : OpR X (compareOp op') (r2 X.K T g)) (ha : PE X a (tE X.K T W ma)) (hb : PE X b (tE X.K T W mb)) (hc : PE X c (tE X.K T W mc))
    (hm : lastMarks [op, op'] [b, c] = false := by with_unfolding_all rfl) : PT X (.Compare a [op, op'] [b, c] pos) (tQ X.K T W (qBl (eChain f g ma mb mc))) := by
  refine PT.weak (pt_chain ho ho' ha hb hc hm) fun σ H Q ⟨P, F, io, en, s, hE, hS, hp⟩ => ?_
  unfold qBl eChain at hp
  simp only [Res.bind_assoc] at hp
  refine tE_use hE hS hp fun v H1 F1 io1 x s1 hE1 rx hS1 l1 hp1 => ?_
  refine tE_use hE1 hS1 hp1 fun u H2 F2 io2 y s2 hE2 ry hS2 l2 hp2 => ?_
  refine ⟨P, F2, io2, s2, x, y, rx.mono l2, ry, hS2, ?_⟩
  cases h : f x y s2 with
  | ok z s3 =>
    rw [h] at hp2
    intro F3 io3 z' H3 l3 rz hS3
    cases z with
    | bl k =>
      cases rz
      refine ⟨k, rfl, ?_⟩
      cases k with
      | true =>
        simp only [noX_ok, Res.bind_ok, Res.bind_assoc] at hp2
        refine tE_use (hE2.mono l3) hS3 (Post.le l3 hp2) fun w H4 F4 io4 z4 s4 hE4 rz4 hS4 l4 hp4 => ?_
        refine ⟨P, F4, io4, s4, y, z4, ry.mono (l3.trans l4), rz4, hS4, ?_⟩
        cases h5 : g y z4 s4 with
        | ok z5 s5 =>
          rw [h5] at hp4
          intro F5 io5 z5' H5 l5 rz5 hS5
          cases z5 with
          | bl k5 => cases rz5; exact ⟨k5, rfl, hp4.ok_of l5 rfl hS5⟩
          | _ => exact hp4.elim
        | exc _ _ => rw [h5] at hp4; exact hp4.elim
        | stuck => rw [h5] at hp4; exact hp4.elim
      | false => exact ⟨false, rfl, hp2.ok_of l3 rfl hS3⟩
    | _ => exact hp2.elim
  | exc _ _ => rw [h] at hp2; exact hp2.elim
  | stuck => rw [h] at hp2; exact hp2.elim
end

/-! ### statements -/
section
variable {X : Cx} {T : Tb} {W : WX} {e : Expr} {me : EM} {qc : TM} {st : Stmt} {sts sts' : List Stmt} {m m' : SM} {pos : Pos}
theorem PostS.use {K : PySem.W.Frag} {γ : Type} {mm : Env → Store → Res γ} {k : γ → Store → Res (Env × Fl)} {D : Ends} {P F : Hp} {io : List Addr} {en : Env} {s : Store} {σ : L2.St} {H : Hp}
    (hE : RE K T F io en σ) (hS : RS K T P F io s H) (h : PostS K T P W F io ((mm en s).bind k) D) {δ : Type} {rel : Hp → List Addr → γ → δ → Prop} {Q' : δ → Hp → Prop}
    (hq : ∀ v H1 F1 io1 x s1, RE K T F1 io1 en σ → rel F1 io1 x v → RS K T P F1 io1 s1 H1 → Le F io F1 io1 → PostS K T P W F1 io1 (k x s1) D → Q' v H1) : ∃ P F io e s, RE K T F io e σ ∧ RS K T P F io s H ∧ Post K T P rel (fun c d H' => W c d σ H') F io (mm e s) Q' :=
  ⟨P, F, io, en, s, hE, hS, (PostS.bind (rel := rel) h).mono fun v H1 ⟨F1, io1, x, s1, l, hr, hs, hp⟩ => hq v H1 F1 io1 x s1 (hE.mono l) hr hs l hp⟩
theorem ms_nil : PSs X [] (tS X.K T W sNext) := PSs.weak pss_nil fun D σ H ⟨P, F, io, en, s, hE, hS, hp⟩ => hp F io σ H Le.refl hE hS
theorem ms_cons (h1 : PS X st (tS X.K T W m)) (h2 : PSs X sts (tS X.K T W m')) : PSs X (st :: sts) (tS X.K T W (sSeq m m')) := by
  refine PSs.weak (pss_cons h1 h2) fun D σ H ⟨P, F, io, en, s, hE, hS, hp⟩ => ?_
  refine ⟨P, F, io, en, s, hE, hS, ?_⟩
  unfold sSeq at hp
  cases hm : m en s with
  | ok r s1 =>
    obtain ⟨e1, f⟩ := r
    rw [hm] at hp
    cases f with
    | next => exact fun F1 io1 σ1 H1 l hE1 hS1 => ⟨P, F1, io1, e1, s1, hE1, hS1, PostS.le l hp⟩
    | ret v => exact hp
    | brk => exact hp
    | cont => exact hp
  | exc x s1 => rw [hm] at hp; exact hp
  | stuck => rw [hm] at hp; exact hp
theorem ms_one (h1 : PS X st (tS X.K T W m)) : PSs X [st] (tS X.K T W m) := pss_one h1
theorem ms_expr (he : PE X e (tE X.K T W me)) (hsw : swapsWith e none pos.line X.env = pure false := by rfl) : PS X (.Expr e pos) (tS X.K T W (sExp me)) := by
  refine PS.weak (ps_expr he hsw) fun D σ H ⟨P, F, io, en, s, hE, hS, hp⟩ => ?_
  exact PostS.use hE hS hp fun v H1 F1 io1 x s1 hE1 rx hS1 l1 hp1 => hp1 F1 io1 σ H1 Le.refl hE1 hS1
theorem ms_ret (he : PE X e (tE X.K T W me)) : PS X (.Return (some e) pos) (tS X.K T W (sRet me)) := by
  refine PS.weak (ps_ret he) fun D σ H ⟨P, F, io, en, s, hE, hS, hp⟩ => ?_
  exact PostS.use hE hS hp fun v H1 F1 io1 x s1 hE1 rx hS1 l1 hp1 => hp1 F1 io1 v H1 Le.refl rx hS1
theorem ms_retN : PS X (.Return none pos) (tS X.K T W sRetN) :=
  PS.weak ps_retN fun D σ H ⟨P, F, io, en, s, hE, hS, hp⟩ => hp F io .non H Le.refl .non hS
theorem ms_pass : PS X (.Pass pos) (tS X.K T W sNext) := PS.weak ps_pass fun D σ H ⟨P, F, io, en, s, hE, hS, hp⟩ => hp F io σ H Le.refl hE hS
theorem ms_break : PS X (.Break pos) (tS X.K T W sBrk) := PS.weak ps_break fun D σ H ⟨P, F, io, en, s, hE, hS, hp⟩ => hp F io σ H Le.refl hE hS
theorem ms_continue : PS X (.Continue pos) (tS X.K T W sCont) := PS.weak ps_continue fun D σ H ⟨P, F, io, en, s, hE, hS, hp⟩ => hp F io σ H Le.refl hE hS
theorem ms_if {c : Expr} {a b : List Stmt} {mA mB : SM} (hc : PT X c (tQ X.K T W qc)) (ha : PSs X a (tS X.K T W mA)) (hb : PSs X b (tS X.K T W mB)) : PS X (.If c a b pos) (tS X.K T W (sIf qc mA mB)) := by
  refine PS.weak (ps_if hc ha hb) fun D σ H ⟨P, F, io, en, s, hE, hS, hp⟩ => ?_
  refine PostS.use hE hS hp fun k H1 F1 io1 x s1 hE1 (rx : x = k) hS1 l1 hp1 => ?_
  subst rx
  cases x with
  | true => exact ⟨P, F1, io1, en, s1, hE1, hS1, hp1⟩
  | false => exact ⟨P, F1, io1, en, s1, hE1, hS1, hp1⟩
/-- what is never reached -/
theorem ms_stuck : PS X st (tS X.K T W sStuck) := ⟨fun pins s σ H D I ⟨P, F, io, en, s0, hE, hS, hp⟩ => hp.elim⟩
/-- a list of one's own: x = [..] -/
theorem ms_new [NoGh T] {x : Str} {i : Nat} {p : Pos} {ml : AM} (he : PE X e (tF X.K T W ml)) (hg : PG X (.Name x p) (L2.gName i)) (hs : swapsWithSole [.Name x p] e pos.line X.env = pure false := by rfl) (hw : swappedStores [.Name x p] e X.env = pure none := by rfl) :
    PS X (.Assign [.Name x p] e pos) (tS X.K T W (sNew ml i)) := by
  refine PS.weak (ps_asg he hg hs hw rfl) fun D σ H ⟨P, F, io, en, s, hE, hS, hp⟩ => ?_
  refine ⟨P, F, io, en, s, hE, hS, ?_⟩
  unfold sNew at hp
  cases hm : ml en s with
  | ok xs s1 =>
    rw [hm] at hp
    intro F1 io1 a vs H1 l1 r1 hS1 ha
    obtain ⟨l2, hS2⟩ := hS1.push (o := .lst vs) ha (.lst r1)
    refine hp F1 (io1 ++ [a]) _ _ (l1.trans l2) ?_ hS2
    exact (hE.mono (l1.trans l2)).set (.loc (by rw [hS1.len]; simp)) i
  | exc x s1 => rw [hm] at hp; exact fun F' io' cls d H' l hr hs => hp F' io' cls d σ H' l hr hs
  | stuck => rw [hm] at hp; exact hp
theorem ms_retL {ml : AM} (he : PE X e (tF X.K T W ml)) : PS X (.Return (some e) pos) (tS X.K T W (sRetL ml)) := by
  refine PS.weak (ps_ret he) fun D σ H ⟨P, F, io, en, s, hE, hS, hp⟩ => ?_
  refine ⟨P, F, io, en, s, hE, hS, ?_⟩
  unfold sRetL at hp
  cases hm : ml en s with
  | ok xs s1 =>
    rw [hm] at hp
    intro F1 io1 a vs H1 l1 r1 hS1 ha
    obtain ⟨l2, hS2⟩ := hS1.push (o := .lst vs) ha (.lst r1)
    exact hp F1 (io1 ++ [a]) _ _ (l1.trans l2) (.loc (by rw [hS1.len]; simp)) hS2
  | exc x s1 => rw [hm] at hp; exact fun F' io' cls d H' l hr hs => hp F' io' cls d σ H' l hr hs
  | stuck => rw [hm] at hp; exact hp
end
end Mir
/-! Mir, part E: targets, walks, for, comprehensions. -/
namespace Mir
open PySem PySem.Spec PyProof.Rows L2

/-! ### targets -/
def PostG (K : PySem.W.Frag) (T : Tb) (P F : Hp) (io : List Addr) (r : Res Env) (Q : L2.St → Hp → Prop) : Prop := match r with
  | .ok e s => ∀ F' io' σ H', Le F io F' io' → RE K T F' io' e σ → RS K T P F' io' s H' → Q σ H'
  | _ => False
def tG (K : PySem.W.Frag) (T : Tb) (g : GM) : TG := fun v σ H Q => ∃ P F io e s x, RE K T F io e σ ∧ RS K T P F io s H ∧ R K T F io x v ∧ PostG K T P F io (g x e s) Q
def tGs (K : PySem.W.Frag) (T : Tb) (g : List PV → Env → Store → Res Env) : TGs := fun vs σ H Q => ∃ P F io e s xs, RE K T F io e σ ∧ RS K T P F io s H ∧ Rs K T F io xs vs ∧ PostG K T P F io (g xs e s) Q
section
variable {X : Cx} {T : Tb} {W : WX} {e : Expr} {me : EM} {g : GM} {pos p : Pos}
theorem PG.weak {tg : Expr} {t t' : TG} (h : PG X tg t) (w : ∀ v σ H Q, t' v σ H Q → t v σ H Q) : PG X tg t' := ⟨fun pins s σ H v u Q I r q => h.run pins s σ H v u Q I r (w v σ H Q q)⟩
theorem PGs.weak {tg : List Expr} {t t' : TGs} (h : PGs X tg t) (w : ∀ v σ H Q, t' v σ H Q → t v σ H Q) : PGs X tg t' := ⟨fun pins s σ H v u Q I r q => h.run pins s σ H v u Q I r (w v σ H Q q)⟩
theorem mg_name {x : Str} {i : Nat} [GhSet T i] (h : PG X (.Name x p) (L2.gName i)) : PG X (.Name x p) (tG X.K T (Mir.gName i)) :=
  PG.weak h fun v σ H Q ⟨P, F, io, en, s, x, hE, hS, rx, hp⟩ => hp F io _ H Le.refl (hE.set rx i) hS
theorem mgs_nil : PGs X [] (tGs X.K T (gNames [])) := by
  refine PGs.weak pgs_nil fun vs σ H Q ⟨P, F, io, en, s, xs, hE, hS, rx, hp⟩ => ?_
  cases rx with
  | nil => exact ⟨rfl, hp F io σ H Le.refl hE hS⟩
  | cons _ _ => exact hp.elim
theorem mgs_cons [NoGh T] {x : Str} {i : Nat} {is : List Nat} {es : List Expr} (h : PG X (.Name x p) (L2.gName i)) (h2 : PGs X es (tGs X.K T (gNames is)))
    (hs : (assignEach (.Name x p :: es) X.env).map (·.2) = assign (.Name x p) X.env :: (assignEach es X.env).map (·.2) := by rfl) : PGs X (.Name x p :: es) (tGs X.K T (gNames (i :: is))) := by
  refine PGs.weak (pgs_cons h h2 hs) fun vs σ H Q ⟨P, F, io, en, s, xs, hE, hS, rx, hp⟩ => ?_
  cases rx with
  | nil => exact hp.elim
  | cons r1 rr => exact ⟨_, _, rfl, P, F, io, _, s, _, hE.set r1 i, hS, rr, hp⟩
theorem gNames_len {P : Hp} {K : PySem.W.Frag} {F : Hp} {io : List Addr} {Q : L2.St → Hp → Prop} : ∀ {is : List Nat} {xs : List PV} {en : Env} {s : Store}, PostG K T P F io (gNames is xs en s) Q → xs.length = is.length
  | [], [], _, _, _ => rfl
  | [], _ :: _, _, _, h => h.elim
  | _ :: _, [], _, _, h => h.elim
  | _ :: is, _ :: xs, _, _, h => by simp [gNames_len (is := is) (xs := xs) h]
theorem mg_tup {es : List Expr} {is : List Nat} {k n : Nat} (hc : X.calm = true) (h : PGs X es (tGs X.K T (gNames is))) (hl : is.length = n := by rfl)
    (hn : (assignEach es X.env).length = n := by rfl) (hst : (assignEach es X.env).findIdx? (·.1) = none := by rfl) : PG X (.Tuple es k pos) (tG X.K T (Mir.gTup is)) := by
  refine PG.weak (pg_tup hc h hn hst) fun v σ H Q ⟨P, F, io, en, s, x, hE, hS, rx, hp⟩ => ?_
  cases rx with
  | tup h1 h2 =>
    have hp' : PostG X.K T P F io (gNames is _ en s) Q := hp
    exact ⟨_, _, rfl, hS.tup h1, by rw [← h2.length, gNames_len hp', hl], P, F, io, en, s, _, hE, hS, h2, hp'⟩
  | _ => exact hp.elim
theorem PostS.toG {K : PySem.W.Frag} {P F : Hp} {io : List Addr} {r : Res Env} {k : Env → Store → Res (Env × Fl)} {D : Ends} (h : PostS K T P W F io (r.bind k) D) (hr : ∀ e s, r ≠ .exc e s) :
    PostG K T P F io r fun σ H1 => ∃ F1 io1 e1 s1, Le F io F1 io1 ∧ RE K T F1 io1 e1 σ ∧ RS K T P F1 io1 s1 H1 ∧ PostS K T P W F1 io1 (k e1 s1) D := by
  cases r with
  | ok x s => exact fun F1 io1 σ H1 l hE hS => ⟨F1, io1, x, s, l, hE, hS, PostS.le l h⟩
  | exc e s => exact absurd rfl (hr e s)
  | stuck => exact h
/-- targets raise nothing -/
structure GOk (g : GM) : Prop where
  nx : ∀ x en s e s', g x en s ≠ .exc e s'
theorem gok_name (i : Nat) : GOk (Mir.gName i) := ⟨fun _ _ _ _ _ h => by cases h⟩
theorem gNames_nx : ∀ {is : List Nat} {xs : List PV} {en : Env} {s : Store} {e : PV} {s' : Store}, gNames is xs en s ≠ .exc e s'
  | [], [], _, _, _, _, h => by cases h
  | [], _ :: _, _, _, _, _, h => by cases h
  | _ :: _, [], _, _, _, _, h => by cases h
  | _ :: is, _ :: xs, _, _, _, _, h => gNames_nx (is := is) (xs := xs) h
theorem gok_tup (is : List Nat) : GOk (Mir.gTup is) := ⟨fun x en s e s' h => by
  cases x with
  | tup xs => exact gNames_nx (show gNames is xs en s = .exc e s' from h)
  | _ => cases h⟩
theorem ms_asg {tg : Expr} (he : PE X e (tE X.K T W me)) (hg : PG X tg (tG X.K T g)) (ok : GOk g) (hs : swapsWithSole [tg] e pos.line X.env = pure false := by rfl) (hw : swappedStores [tg] e X.env = pure none := by rfl)
    (h1 : (assignEach [tg] X.env).map (·.2) = [assign tg X.env] := by rfl) : PS X (.Assign [tg] e pos) (tS X.K T W (sAsg me g)) := by
  refine PS.weak (ps_asg he hg hs hw h1) fun D σ H ⟨P, F, io, en, s, hE, hS, hp⟩ => ?_
  refine PostS.use hE hS hp fun v H1 F1 io1 x s1 hE1 rx hS1 l1 hp1 => ?_
  refine ⟨P, F1, io1, en, s1, x, hE1, hS1, rx, ?_⟩
  have z := PostS.toG hp1 (ok.nx x en s1)
  cases hg : g x en s1 with
  | ok e1 s2 =>
    rw [hg] at z
    intro F2 io2 σ2 H2 l2 hE2 hS2
    obtain ⟨F3, io3, e3, s3, l3, hE3, hS3, hp3⟩ := z F2 io2 σ2 H2 l2 hE2 hS2
    exact hp3 F3 io3 σ2 H2 Le.refl hE3 hS3
  | exc _ _ => rw [hg] at z; exact z
  | stuck => rw [hg] at z; exact z
/-- a, b = e1, e2 -/
theorem ms_par [NoGh T] {i j : Nat} {x y : Str} {a b : Expr} {ma mb : EM} {px py pt : Pos} {kt k2 : Nat} {pt2 : Pos} (hc : X.calm = true) (hN : X.N.Nodup) (hi : X.N[i]? = some x) (hj : X.N[j]? = some y) (hij : i ≠ j)
    (hx : X.env.scope.names.lookup x = some .local) (hy : X.env.scope.names.lookup y = some .local) (ha : PA X [a, b] (tL X.K T W (aCons ma (aCons mb aNil))))
    (hw : swappedStores [.Tuple [.Name x px, .Name y py] kt pt] (.Tuple [a, b] k2 pt2) X.env = pure (some [x, y]))
    (hs : swapsWithSole [.Tuple [.Name x px, .Name y py] kt pt] (.Tuple [a, b] k2 pt2) pos.line X.env = pure false := by rfl) :
    PS X (.Assign [.Tuple [.Name x px, .Name y py] kt pt] (.Tuple [a, b] k2 pt2) pos) (tS X.K T W (sPar (aCons ma (aCons mb aNil)) i j)) := by
  refine PS.weak (ps_par hc hN hi hj hij hx hy ha hw hs) fun D σ H ⟨P, F, io, en, s, hE, hS, hp⟩ => ?_
  refine PostS.use hE hS hp fun vs H1 F1 io1 xs s1 hE1 rx hS1 l1 hp1 => ?_
  have hlen : LenA (aCons ma (aCons mb aNil)) 2 := len_cons (len_cons len_nil)
  match xs, hp1 with
  | [x1, x2], hp1 =>
    cases rx with
    | cons r1 rr =>
      cases rr with
      | cons r2 rn =>
        cases rn
        exact ⟨_, _, rfl, hp1 F1 io1 _ H1 Le.refl ((hE1.set r1 i).set r2 j) hS1⟩
end

/-! ### walks -/
/-- the iterator J tells the items of w -/
def Walks (K : PySem.W.Frag) (T : Tb) (F : Hp) (io : List Addr) (w : Walk) (J : It) : Prop :=
  ∀ P i F1 io1 s1 H1, Le F io F1 io1 → RS K T P F1 io1 s1 H1 → w.ok s1 → (w.items.length ≤ i → J.stop i H1) ∧
    ∀ x, w.items[i]? = some x → J.go i H1 ∧ ∀ v H', J.yld i H1 v H' → ∃ F2, Le F1 io1 F2 io1 ∧ RS K T P F2 io1 s1 H' ∧ R K T F2 io1 x v
def PostI (K : PySem.W.Frag) (T : Tb) (P : Hp) (W : Value → Option Addr → Hp → Prop) (F : Hp) (io : List Addr) (r : Res Walk) (Z : It → Hp → Prop) : Prop := match r with
  | .ok w s => ∀ F' io' J H', Le F io F' io' → RS K T P F' io' s H' → Walks K T F' io' w J → w.items.length ≤ sizeLine → Z J H'
  | .exc e s => ∀ F' io' cls d H', Le F io F' io' → RX K T F' io' e cls d → RS K T P F' io' s H' → W cls d H'
  | .stuck => False
def tI (K : PySem.W.Frag) (T : Tb) (W : WX) (m : IM) : TI := fun σ H Z => ∃ P F io e s, RE K T F io e σ ∧ RS K T P F io s H ∧ PostI K T P (fun c d H' => W c d σ H') F io (m e s) Z
/-- walked by value: a list, a tuple, a text, a place that holds a list -/
def iSeq (a : EM) : IM := fun σ s => (a σ s).bind fun x s1 => match x with
  | .tup xs => .ok ⟨xs, none⟩ s1
  | .lst xs => .ok ⟨xs, none⟩ s1
  | .ro xs => .ok ⟨xs, none⟩ s1
  | .str l => if l.length ≤ sz then .ok ⟨l.map fun c => .str [c], none⟩ s1 else .stuck
  | .loc n => match s1[n]? with
    | some (.lst xs) => .ok ⟨xs, some (n, .lst xs)⟩ s1
    | _ => .stuck
  | _ => .stuck
def iRange1 (a : EM) : IM := fun σ s => (aCons a aNil σ s).bind fun xs s1 => match xs with
  | [.int j] => if -(2 ^ 62) ≤ j ∧ j ≤ sz then .ok ⟨(List.range j.toNat).map fun k => .int (k : Nat), none⟩ s1 else .stuck
  | _ => .stuck
def iRange2 (a b : EM) : IM := fun σ s => (aCons a (aCons b aNil) σ s).bind fun xs s1 => match xs with
  | [.int i, .int j] => if -(2 ^ 62) ≤ i ∧ i < 2 ^ 62 ∧ -(2 ^ 62) ≤ j ∧ j < 2 ^ 62 ∧ (j - i).toNat ≤ sz then .ok ⟨(List.range (j - i).toNat).map fun k => .int (i + (k : Nat)), none⟩ s1 else .stuck
  | _ => .stuck
section
variable {K : PySem.W.Frag} {T : Tb} {P F : Hp} {io : List Addr}
theorem walks_list {xs : List PV} {a : Addr} {vs : List V} (h : SqL K F a vs) (r : Rs K T F io xs vs) : Walks K T F io ⟨xs, none⟩ (Itl K a) := fun P i F1 io1 s1 H1 l hS _ => by
  have q : SqL K H1 a vs := hS.lst (sqL_mono l.fm h)
  refine ⟨fun hi => ⟨vs, q, by rw [← r.length]; exact hi⟩, fun x hx => ?_⟩
  obtain ⟨v, h1, h2⟩ := r.get hx
  refine ⟨⟨vs, v, q, h1⟩, fun u H' ⟨e, hy⟩ => ?_⟩
  subst e
  have := hy vs q
  rw [h1] at this; cases this
  exact ⟨F1, Le.refl, hS, h2.mono l⟩
theorem walks_tup {xs : List PV} {a : Addr} {vs : List V} (h : SqT K F a vs) (r : Rs K T F io xs vs) : Walks K T F io ⟨xs, none⟩ (Itt K a) := fun P i F1 io1 s1 H1 l hS _ => by
  have q : SqT K H1 a vs := hS.tup (sqT_mono l.fm h)
  refine ⟨fun hi => ⟨vs, q, by rw [← r.length]; exact hi⟩, fun x hx => ?_⟩
  obtain ⟨v, h1, h2⟩ := r.get hx
  refine ⟨⟨vs, v, q, h1⟩, fun u H' ⟨e, hy⟩ => ?_⟩
  subst e
  have := hy vs q
  rw [h1] at this; cases this
  exact ⟨F1, Le.refl, hS, h2.mono l⟩
theorem walks_loc {xs : List PV} {a : Addr} {n : Nat} (h : io[n]? = some a) : Walks K T F io ⟨xs, some (n, .lst xs)⟩ (Itl K a) := fun P i F1 io1 s1 H1 l hS (ok : s1[n]? = some (.lst xs)) => by
  obtain ⟨o, e2, e3⟩ := hS.loc (l.ix _ _ h) ok
  cases e3 with
  | @lst _ vs r =>
    have q : SqL K H1 a vs := .of e2
    refine ⟨fun hi => ⟨vs, q, by rw [← r.length]; exact hi⟩, fun x hx => ?_⟩
    obtain ⟨v, h1, h2⟩ := r.get hx
    refine ⟨⟨vs, v, q, h1⟩, fun u H' ⟨e, hy⟩ => ?_⟩
    subst e
    have := hy vs q
    rw [h1] at this; cases this
    exact ⟨F1, Le.refl, hS, h2⟩
theorem walks_str (l : List Nat) : Walks K T F io ⟨l.map fun c => .str [c], none⟩ (Its (St8 l)) := fun P i F1 io1 s1 H1 _ hS _ => by
  refine ⟨fun hi => by simpa [Its] using hi, fun x hx => ?_⟩
  rw [List.getElem?_map] at hx
  cases e : l[i]? with
  | none => rw [e] at hx; cases hx
  | some c =>
    rw [e] at hx; cases hx
    have hl := (List.getElem?_eq_some_iff.mp e).1
    refine ⟨by simpa [Its] using hl, fun u H' ⟨e1, d, hd, eu⟩ => ?_⟩
    subst e1 eu
    have hd' : l[i]? = some d := by simpa using hd
    rw [e] at hd'; cases hd'
    exact ⟨F1, Le.refl, hS, .str [c]⟩
theorem walks_rng (lo : Int) (n : Nat) : Walks K T F io ⟨(List.range n).map fun k => .int (lo + (k : Nat)), none⟩ (Itr lo n) := fun P i F1 io1 s1 H1 _ hS _ => by
  refine ⟨fun hi => by simpa [Itr] using hi, fun x hx => ?_⟩
  rw [List.getElem?_map] at hx
  by_cases hi : i < n
  · rw [List.getElem?_range hi] at hx; cases hx
    refine ⟨hi, fun u H' ⟨e1, eu⟩ => ?_⟩
    subst e1 eu
    exact ⟨F1, Le.refl, hS, .int _⟩
  · rw [List.getElem?_eq_none (by simpa using hi)] at hx; cases hx
theorem PostI.le {W : Value → Option Addr → Hp → Prop} {F' : Hp} {io' : List Addr} (l : Le F io F' io') {r : Res Walk} {Z : It → Hp → Prop} (h : PostI K T P W F io r Z) : PostI K T P W F' io' r Z := by
  cases r with
  | ok w s => exact fun F2 io2 J H' l2 => h F2 io2 J H' (l.trans l2)
  | exc e s => exact fun F2 io2 c d H' l2 => h F2 io2 c d H' (l.trans l2)
  | stuck => exact h
theorem PostI.bind {α β : Type} {rel : Hp → List Addr → α → β → Prop} {W : Value → Option Addr → Hp → Prop} {r : Res α} {k : α → Store → Res Walk} {Z : It → Hp → Prop} (h : PostI K T P W F io (r.bind k) Z) :
    Post K T P rel W F io r fun y H1 => Mid K T P rel F io y H1 fun F1 io1 x s1 => PostI K T P W F1 io1 (k x s1) Z := by
  cases r with
  | ok x s =>
    refine fun F1 io1 y H1 l hr hs => ⟨F1, io1, x, s, l, hr, hs, ?_⟩
    exact PostI.le l h
  | exc e s => exact h
  | stuck => exact h
end
section
variable {X : Cx} {T : Tb} {W : WX} {tg e : Expr} {me : EM} {ms : AM} {pos p : Pos}
theorem PI.weak {iter : Expr} {t t' : TI} (h : PI X tg iter t) (w : ∀ σ H Q, t' σ H Q → t σ H Q) : PI X tg iter t' := ⟨fun pins s σ H Q I q => h.run pins s σ H Q I (w σ H Q q)⟩
/-- walked by value, of any kind -/
theorem pi_any {l : Expr} {tl : TE} (hl : PE X l tl) : PI X tg l (fun σ H Z => tl σ H fun x H1 => (∃ a xs, x = .ref a ∧ SqL X.K H1 a xs ∧ (xs.length ≤ sizeLine → Z (Itl X.K a) H1)) ∨ (∃ a xs, x = .ref a ∧ SqT X.K H1 a xs ∧ (xs.length ≤ sizeLine → Z (Itt X.K a) H1)) ∨ ∃ z, x = .str z ∧ Z (Its z) H1) := by
  refine ⟨fun pins s σ H Z I h => ?_⟩
  refine thn (hl.run pins s σ H _ I h) fun v s1 ⟨x, H1, I1, r1, q1⟩ => ?_
  rcases q1 with ⟨a, xs, e, hq, q⟩ | ⟨a, xs, e, hq, q⟩ | ⟨z, e, q⟩
  · subst e
    cases r1
    obtain ⟨its, rv, p, hz⟩ := I1.list hq
    exact wpAny_pyIter_list p.isList (pi_one (tk := s1.toks) I1 _ (turn_list a _) ⟨_, Heap.get?_push_size _ rfl, rfl, rfl⟩ (q hz))
  · subst e
    cases r1
    obtain ⟨its, rv, p, hz⟩ := I1.tuple hq
    exact wpAny_pyIter_tuple (show s1.heap.IsTuple a its.toArray from p) (pi_one (tk := s1.toks) I1 _ (turn_tuple a _) ⟨_, Heap.get?_push_size _ rfl, rfl, rfl⟩ (q hz))
  · subst e
    obtain ⟨t, rfl⟩ := r1
    cases ha : z.cps.all (· < 128)
    · exact wpAny_pyIter_wide ha (pi_one (tk := s1.toks) I1 _ (turn_str _ z t "str_iterator" (.inr rfl)) ⟨_, Heap.get?_push_size _ rfl, rfl, rfl⟩ q)
    · exact wpAny_pyIter_ascii ha (pi_one (tk := s1.toks) I1 _ (turn_str _ z t "str_ascii_iterator" (.inl rfl)) ⟨_, Heap.get?_push_size _ rfl, rfl, rfl⟩ q)
theorem mi_seq (he : PE X e (tE X.K T W me)) : PI X tg e (tI X.K T W (iSeq me)) := by
  refine PI.weak (pi_any he) fun σ H Z ⟨P, F, io, en, s, hE, hS, hp⟩ => ?_
  refine ⟨P, F, io, en, s, hE, hS, (PostI.bind (rel := rV X.K T) hp).mono fun v H1 ⟨F1, io1, x, s1, l, hr, hs, hp1⟩ => ?_⟩
  cases hr with
  | tup h1 h2 => exact .inr (.inl ⟨_, _, rfl, hs.tup h1, fun hz => hp1 F1 io1 _ H1 Le.refl hs (walks_tup h1 h2) (by rw [← h2.length] at hz; exact hz)⟩)
  | lst h1 h2 => exact .inl ⟨_, _, rfl, .of (hs.sub _ _ h1), fun hz => hp1 F1 io1 _ H1 Le.refl hs (walks_list (.of h1) h2) (by rw [← h2.length] at hz; exact hz)⟩
  | ro h1 h2 => exact .inl ⟨_, _, rfl, hs.lst h1, fun hz => hp1 F1 io1 _ H1 Le.refl hs (walks_list h1 h2) (by rw [← h2.length] at hz; exact hz)⟩
  | str l =>
    simp only at hp1
    split at hp1
    · rename_i hl
      exact .inr (.inr ⟨_, rfl, hp1 F1 io1 _ H1 Le.refl hs (walks_str l) (by rw [List.length_map]; exact hl)⟩)
    · exact hp1.elim
  | @loc a n h1 =>
    simp only at hp1
    split at hp1
    · rename_i xs hx
      obtain ⟨o, e2, e3⟩ := hs.loc h1 hx
      cases e3 with
      | lst q => exact .inl ⟨_, _, rfl, .of e2, fun hz => hp1 F1 io1 _ H1 Le.refl hs (walks_loc h1) (by rw [← q.length] at hz; exact hz)⟩
    · exact hp1.elim
  | _ => exact hp1.elim
theorem mi_range1 {a : Expr} (hg : Gl X "range") (hm : X.mg "range" = none) (ha : PE X a (tE X.K T W me)) (hs : starEach [a] X.env = [(false, eval a X.env)] := by rfl) : PI X tg (.Call (.Name "range" p) [a] [] pos) (tI X.K T W (iRange1 me)) := by
  refine PI.weak (pi_range1 hg hm (ma_cons ha ma_nil hs) hs) fun σ H Z ⟨P, F, io, en, s, hE, hS, hp⟩ => ?_
  refine ⟨P, F, io, en, s, hE, hS, (PostI.bind (rel := rL X.K T) hp).mono fun vs H1 ⟨F1, io1, xs, s1, l, hr, hs, hp1⟩ => ?_⟩
  match xs, hr, hp1 with
  | [.int j], hr, hp1 =>
    cases hr with
    | cons r1 rn =>
      cases r1; cases rn
      simp only at hp1
      split at hp1
      · rename_i hj
        refine ⟨j, rfl, hj.1, by have := hj.2; simp only [sz] at this; omega, hp1 F1 io1 _ H1 Le.refl hs ?_ (by have := hj.2; simp only [List.length_map, List.length_range]; rw [sizeLine_eq]; simp only [sz] at this; omega)⟩
        have e := walks_rng (K := X.K) (T := T) (F := F1) (io := io1) 0 j.toNat
        simpa using e
      · exact hp1.elim
theorem mi_range2 {a b : Expr} {mb : EM} (hg : Gl X "range") (hm : X.mg "range" = none) (ha : PE X a (tE X.K T W me)) (hb : PE X b (tE X.K T W mb)) (hs : starEach [a, b] X.env = [(false, eval a X.env), (false, eval b X.env)] := by rfl) (hs2 : starEach [b] X.env = [(false, eval b X.env)] := by rfl) :
    PI X tg (.Call (.Name "range" p) [a, b] [] pos) (tI X.K T W (iRange2 me mb)) := by
  refine PI.weak (pi_range2 hg hm (ma_cons ha (ma_cons hb ma_nil hs2) (by rw [hs, hs2])) hs hs2) fun σ H Z ⟨P, F, io, en, s, hE, hS, hp⟩ => ?_
  refine ⟨P, F, io, en, s, hE, hS, (PostI.bind (rel := rL X.K T) hp).mono fun vs H1 ⟨F1, io1, xs, s1, l, hr, hs, hp1⟩ => ?_⟩
  match xs, hr, hp1 with
  | [.int i, .int j], hr, hp1 =>
    cases hr with
    | cons r1 rr =>
      cases rr with
      | cons r2 rn =>
        cases r1; cases r2; cases rn
        simp only at hp1
        split at hp1
        · rename_i hj
          exact ⟨i, j, rfl, ⟨hj.1, hj.2.1, hj.2.2.1, hj.2.2.2.1⟩, hp1 F1 io1 _ H1 Le.refl hs (walks_rng i (j - i).toNat) (by rw [List.length_map, List.length_range]; exact hj.2.2.2.2)⟩
        · exact hp1.elim

/-! ### for -/
theorem keepAs_len : ∀ (a b : Env), (keepAs a b).length = b.length
  | [], b => by simp [keepAs]
  | none :: r, [] => by simp [keepAs]
  | some _ :: r, [] => by simp [keepAs]
  | none :: r, _ :: q => by simp [keepAs, keepAs_len r q]
  | some _ :: r, _ :: q => by simp [keepAs, keepAs_len r q]
theorem keepAs_some : ∀ (a b : Env) (i : Nat) (x : PV), (keepAs a b)[i]? = some (some x) → b[i]? = some (some x)
  | [], b, i, x, h => by simpa [keepAs] using h
  | none :: r, [], i, x, h => by simp [keepAs] at h
  | some _ :: r, [], i, x, h => by simp [keepAs] at h
  | none :: r, y :: q, 0, x, h => by simp [keepAs] at h
  | some _ :: r, y :: q, 0, x, h => by simpa [keepAs] using h
  | none :: r, y :: q, i + 1, x, h => by simpa using keepAs_some r q i x (by simpa [keepAs] using h)
  | some _ :: r, y :: q, i + 1, x, h => by simpa using keepAs_some r q i x (by simpa [keepAs] using h)
theorem RE.keep {K : PySem.W.Frag} {F : Hp} {io : List Addr} {e : Env} {σ : L2.St} (r : RE K T F io e σ) (a : Env) : RE K T F io (keepAs a e) σ := r.weak (keepAs_len a e) (keepAs_some a e)
theorem drop_at {α : Type} {xs : List α} {i : Nat} (h : i < xs.length) : xs.drop i = xs[i] :: xs.drop (i + 1) := by
  rw [List.drop_eq_getElem_cons h]
theorem ms_for {iter : Expr} {body : List Stmt} {im : IM} {g : GM} {mb : SM} (hp : PassesOwn (model X.prog X.w) X.A X.env X.xe) (hc : X.calm = true) (hi : PI X tg iter (tI X.K T W im)) (hg : PG X tg (tG X.K T g)) (ok : GOk g) (hb : PSs X body (tS X.K T W mb))
    (hs : ∀ x, foldedSetIterable iter X.env x = pure x := by intro _; rfl) : PS X (.For tg iter body [] pos) (tS X.K T W (sFor im g mb)) := by
  refine PS.weak (ps_for hp hc hi hg hb hs) fun D σ H ⟨P, F, io, en, s, hE, hS, hp⟩ => ?_
  refine ⟨P, F, io, en, s, hE, hS, ?_⟩
  unfold sFor at hp
  cases hm : im en s with
  | ok w s1 =>
    rw [hm] at hp
    intro F1 io1 J H1 l1 hS1 hw hz
    refine ⟨fun i m σ' H' => ∃ F2 io2 e2 s2, Le F1 io1 F2 io2 ∧ RE X.K T F2 io2 e2 σ' ∧ RS X.K T P F2 io2 s2 H' ∧ m = w.items.length - i ∧ PostS X.K T P W F2 io2 (forGo w g mb (keepAs en) (w.items.drop i) e2 s2) D,
      ⟨_, F1, io1, en, s1, Le.refl, hE.mono l1, hS1, rfl, PostS.le l1 (by simpa using hp)⟩, ?_⟩
    rintro i m σ2 H2 ⟨F2, io2, e2, s2, l2, hE2, hS2, rfl, hp2⟩
    by_cases hok : w.ok s2
    · obtain ⟨w1, w2⟩ := hw P i F2 io2 s2 H2 l2 hS2 hok
      by_cases hi : i < w.items.length
      · right
        rw [drop_at hi] at hp2
        unfold forGo at hp2
        rw [if_pos hok] at hp2
        obtain ⟨g1, g2⟩ := w2 _ (List.getElem?_eq_getElem hi)
        refine ⟨g1, fun σ' H' => ∃ F2 io2 e2 s2, Le F1 io1 F2 io2 ∧ RE X.K T F2 io2 e2 σ' ∧ RS X.K T P F2 io2 s2 H' ∧ PostS X.K T P W F2 io2 (forGo w g mb (keepAs en) (w.items.drop (i + 1)) e2 s2) D,
          fun σ' H' ⟨F3, io3, e3, s3, l3, hE3, hS3, hp3⟩ => ⟨_, by omega, F3, io3, e3, s3, l3, hE3, hS3, rfl, hp3⟩, fun v H' hy => ?_⟩
        obtain ⟨F3, l3, hS3, rx⟩ := g2 v H' hy
        refine ⟨P, F3, io2, e2, s2, _, hE2.mono l3, hS3, rx, ?_⟩
        have z := PostS.toG (PostS.le l3 hp2) (ok.nx _ e2 s2)
        cases hgx : g w.items[i] e2 s2 with
        | exc _ _ => rw [hgx] at z; exact z
        | stuck => rw [hgx] at z; exact z
        | ok e3 s3 =>
          rw [hgx] at z
          intro F4 io4 σ4 H4 l4 hE4 hS4
          obtain ⟨F5, io5, e5, s5, l5, hE5, hS5, hp5⟩ := z F4 io4 σ4 H4 l4 hE4 hS4
          have l15 : Le F1 io1 F5 io5 := l2.trans (l3.trans l5)
          refine ⟨P, F5, io5, e5, s5, hE5, hS5, ?_⟩
          cases hb5 : mb e5 s5 with
          | exc _ _ => rw [hb5] at hp5; exact hp5
          | stuck => rw [hb5] at hp5; exact hp5
          | ok r s6 =>
            obtain ⟨e6, f6⟩ := r
            rw [hb5] at hp5
            cases f6 with
            | next => exact fun F6 io6 σ6 H6 l6 hE6 hS6 => ⟨F6, io6, _, s6, l15.trans l6, hE6.keep en, hS6, PostS.le l6 hp5⟩
            | cont => exact fun F6 io6 σ6 H6 l6 hE6 hS6 => ⟨F6, io6, _, s6, l15.trans l6, hE6.keep en, hS6, PostS.le l6 hp5⟩
            | brk => exact fun F6 io6 σ6 H6 l6 hE6 hS6 => hp5 F6 io6 σ6 H6 l6 (hE6.keep en) hS6
            | ret x => exact hp5
      · left
        have hd : w.items.drop i = [] := List.drop_eq_nil_iff.mpr (by omega)
        rw [hd] at hp2
        unfold forGo at hp2
        rw [if_pos hok] at hp2
        exact ⟨w1 (by omega), hp2 F2 io2 σ2 H2 Le.refl hE2 hS2⟩
    · exfalso
      cases hd : w.items.drop i with
      | nil => rw [hd] at hp2; unfold forGo at hp2; rw [if_neg hok] at hp2; exact hp2
      | cons a b => rw [hd] at hp2; unfold forGo at hp2; rw [if_neg hok] at hp2; exact hp2
  | exc x s1 => rw [hm] at hp; exact fun F' io' cls d H' l hr hs => hp F' io' cls d σ H' l hr hs
  | stuck => rw [hm] at hp; exact hp

/-! ### comprehensions -/
theorem wipe_len : ∀ (e : Env) (is : List Nat), (Mir.wipe e is).length = e.length
  | _, [] => rfl
  | e, _ :: r => by simp [Mir.wipe, wipe_len e r]
theorem RE.wipe [NoGh T] {K : PySem.W.Frag} {F : Hp} {io : List Addr} {e : Env} {σ : L2.St} (r : RE K T F io e σ) : ∀ is : List Nat, RE K T F io (Mir.wipe e is) (L2.wipe σ is)
  | [] => r
  | i :: is => by
    have q := RE.wipe r is
    refine ⟨by simp [Mir.wipe, L2.wipe, q.len], fun j x h => ?_, NoGh.free _ _ _⟩
    by_cases hj : j = i
    · subst hj
      simp only [Mir.wipe] at h
      rw [List.getElem?_set_self (by have := (List.getElem?_eq_some_iff.mp h).1; simpa using this)] at h
      cases h
    · simp only [Mir.wipe, L2.wipe] at h ⊢
      rw [List.getElem?_set_ne (Ne.symm hj)] at h ⊢
      exact q.at_ j x h
theorem wipe2_at (σ : L2.St) : ∀ (is : List Nat) (j : Nat), (L2.wipe σ is)[j]? = if j ∈ is then (if j < σ.length then some none else none) else σ[j]?
  | [], j => by simp [L2.wipe]
  | i :: is, j => by
    have hl := L2.wipe_length σ is
    simp only [L2.wipe, List.mem_cons]
    by_cases hj : j = i
    · subst hj
      rw [if_pos (.inl rfl)]
      by_cases h : j < σ.length
      · rw [if_pos h, List.getElem?_set_self (by rw [hl]; exact h)]
      · rw [if_neg h, List.getElem?_eq_none (by simp [hl]; omega)]
    · rw [List.getElem?_set_ne (Ne.symm hj), wipe2_at σ is j]
      by_cases hm : j ∈ is
      · rw [if_pos hm, if_pos (Or.inr hm : j = i ∨ j ∈ is)]
      · rw [if_neg hm, if_neg (by simp [hj, hm])]
theorem wipe_set {σ : L2.St} {is : List Nat} {i : Nat} {x : Option V} (h : i ∈ is) : L2.wipe (σ.set i x) is = L2.wipe σ is := by
  apply List.ext_getElem?
  intro j
  rw [wipe2_at, wipe2_at, List.length_set]
  by_cases hm : j ∈ is
  · rw [if_pos hm, if_pos hm]
  · rw [if_neg hm, if_neg hm, List.getElem?_set_ne (fun e : i = j => hm (e ▸ h))]
theorem wipe_wipe {σ : L2.St} {is : List Nat} : L2.wipe (L2.wipe σ is) is = L2.wipe σ is := by
  apply List.ext_getElem?
  intro j
  rw [wipe2_at, L2.wipe_length]
  by_cases hm : j ∈ is
  · rw [if_pos hm, wipe2_at, if_pos hm]
  · rw [if_neg hm]
/-- a target that stores in these slots alone -/
def GIn (K : PySem.W.Frag) (T : Tb) (g' : TG) (g : GM) (is : List Nat) : Prop := ∀ (P F : Hp) (io : List Addr) (e : Env) (s : Store) (x : PV) (v : V) (σ : L2.St) (H : Hp) (Q : L2.St → Hp → Prop),
  RE K T F io e σ → RS K T P F io s H → R K T F io x v → PostG K T P F io (g x e s) Q → g' v σ H fun σ2 H2 => L2.wipe σ2 is = L2.wipe σ is ∧ Q σ2 H2
theorem gin_name [NoGh T] {K : PySem.W.Frag} {i : Nat} {is : List Nat} (h : i ∈ is) : GIn K T (L2.gName i) (Mir.gName i) is := fun P F io e s x v σ H Q hE hS rx hp =>
  ⟨wipe_set h, hp F io _ H Le.refl (hE.set rx i) hS⟩
/-- several names -/
def gCs : List Nat → TGs
  | [] => gNil
  | i :: is => gCons (L2.gName i) (gCs is)
theorem gin_names [NoGh T] {K : PySem.W.Frag} {is : List Nat} : ∀ {js : List Nat}, (∀ j ∈ js, j ∈ is) → ∀ (P F : Hp) (io : List Addr) (e : Env) (s : Store) (xs : List PV) (vs : List V) (σ : L2.St) (H : Hp) (Q : L2.St → Hp → Prop),
    RE K T F io e σ → RS K T P F io s H → Rs K T F io xs vs → PostG K T P F io (gNames js xs e s) Q → gCs js vs σ H fun σ2 H2 => L2.wipe σ2 is = L2.wipe σ is ∧ Q σ2 H2
  | [], _, P, F, io, e, s, xs, vs, σ, H, Q, hE, hS, rx, hp => by
    cases rx with
    | nil => exact ⟨rfl, rfl, hp F io σ H Le.refl hE hS⟩
    | cons _ _ => exact hp.elim
  | j :: js, hj, P, F, io, e, s, xs, vs, σ, H, Q, hE, hS, rx, hp => by
    cases rx with
    | nil => exact hp.elim
    | cons r1 rr =>
      refine ⟨_, _, rfl, ?_⟩
      have z := gin_names (js := js) (fun k hk => hj k (List.mem_cons_of_mem _ hk)) P F io _ s _ _ _ H Q (hE.set r1 j) hS rr hp
      rw [wipe_set (hj j (List.mem_cons_self ..))] at z
      exact z
theorem gin_tup [NoGh T] {K : PySem.W.Frag} {js is : List Nat} {n : Nat} (hn : js.length = n) (h : ∀ j ∈ js, j ∈ is) : GIn K T (L2.gTup K n (gCs js)) (Mir.gTup js) is := fun P F io e s x v σ H Q hE hS rx hp => by
  cases rx with
  | tup h1 h2 =>
    have hp' : PostG K T P F io (gNames js _ e s) Q := hp
    exact ⟨_, _, rfl, hS.tup h1, by rw [← h2.length, gNames_len hp', hn], gin_names h P F io e s _ _ σ H Q hE hS h2 hp'⟩
  | _ => exact hp.elim
section
variable {K : PySem.W.Frag} {P F : Hp} {io : List Addr} {s : Store} {H : Hp}
/-- one more thing that is held -/
theorem RS.hold (r : RS K T P F io s H) {p : Addr} {o : HO} (hp : H p = none) : RS K T (upd P p o) F io s (upd H p o) := by
  obtain ⟨fp, np⟩ := r.free hp
  refine ⟨r.len, r.nd, fun a u h => by rw [upd_ne (ne_of_none h fp)]; exact r.sub a u h, r.dis, fun n c h => ?_, fun a u h => ?_⟩
  · obtain ⟨a, o', e1, e2, e3⟩ := r.cell n c h
    exact ⟨a, o', e1, by rw [upd_ne (ne_of_none e2 hp)]; exact e2, e3⟩
  · by_cases ha : a = p
    · subst ha
      rw [upd_same] at h ⊢
      exact ⟨h, fp, np⟩
    · rw [upd_ne ha] at h ⊢
      exact r.kept a u h
/-- .. is changed by its holder -/
theorem RS.held {o o' : HO} {p : Addr} (r : RS K T (upd P p o) F io s H) : H p = some o ∧ RS K T (upd P p o') F io s (upd H p o') := by
  obtain ⟨h1, h2, h3⟩ := r.kept p o upd_same
  refine ⟨h1, r.len, r.nd, fun a u h => by rw [upd_ne (ne_of_none h h2)]; exact r.sub a u h, r.dis, fun n c h => ?_, fun a u h => ?_⟩
  · obtain ⟨a, o2, e1, e2, e3⟩ := r.cell n c h
    exact ⟨a, o2, e1, by rw [upd_ne (fun e : a = p => h3 (e ▸ List.mem_of_getElem? e1))]; exact e2, e3⟩
  · by_cases ha : a = p
    · subst ha
      rw [upd_same] at h ⊢
      exact ⟨h, h2, h3⟩
    · rw [upd_ne ha] at h ⊢
      exact r.kept a u (by rw [upd_ne ha]; exact h)
/-- .. is let go: the heap without it -/
theorem RS.let_go {o : HO} {p : Addr} (r : RS K T (upd P p o) F io s H) (hP : P p = none) : ∃ H0, H0 p = none ∧ upd H0 p o = H ∧ RS K T P F io s H0 := by
  obtain ⟨h1, h2, h3⟩ := r.kept p o upd_same
  refine ⟨fun b => if b = p then none else H b, by simp, ?_, r.len, r.nd, fun a u h => ?_, r.dis, fun n c h => ?_, fun a u h => ?_⟩
  · funext b
    unfold upd
    by_cases hb : b = p
    · subst hb; simp [h1]
    · simp [hb]
  · have := ne_of_none h h2
    simp only [this, if_false]
    exact r.sub a u h
  · obtain ⟨a, o2, e1, e2, e3⟩ := r.cell n c h
    have : a ≠ p := fun e : a = p => h3 (e ▸ List.mem_of_getElem? e1)
    exact ⟨a, o2, e1, by simp only [this, if_false]; exact e2, e3⟩
  · have ha : a ≠ p := fun e => by subst e; rw [hP] at h; cases h
    obtain ⟨k1, k2, k3⟩ := r.kept a u (by rw [upd_ne ha]; exact h)
    exact ⟨by simp only [ha, if_false]; exact k1, k2, k3⟩
end
abbrev W0 : WX := fun _ _ _ _ => False
theorem pts0 {X : Cx} {T : Tb} {W : WX} : PTs X [] (tQ X.K T W qYes) := ⟨fun pins s σ H Q I ⟨P, F, io, en, s0, hE, hS, hp⟩ => pts_nil.run pins s σ H Q I (hp.ok_of Le.refl rfl hS)⟩
theorem pts1 {X : Cx} {c : Expr} {T : Tb} {W : WX} {q : TM} (h : PT X c (tQ X.K T W q)) : PTs X [c] (tQ X.K T W q) := pts_one h
theorem post_noX {K : PySem.W.Frag} {P : Hp} {α β γ δ : Type} {rel : Hp → List Addr → α → β → Prop} {F : Hp} {io : List Addr} {r : Res α} {Q : β → Hp → Prop} (h : Post K T P rel (fun _ _ _ => False) F io (Mir.noX r) Q) : Post K T P rel (fun _ _ _ => False) F io r Q := by
  cases r with
  | ok x s => exact h
  | exc e s => exact h.elim
  | stuck => exact h
theorem mf_comp [NoGh T] {elt iter : Expr} {ifs : List Expr} {scope : Scope} {own : List (Str × Nat)} {im : IM} {g : GM} {g' : TG} {qt : TM} (hc : X.calm = true) (hN : X.N.Nodup) (hi : PI X tg iter (tI X.K T W im)) (ok : BlkOk X.N X.env.scope scope own)
    (hg : ∀ (s : Shared) (H : Hp) (C : Addr) (cl : List (Str × Addr)) (fp : List Addr), PG (X.blk s H scope (compEnvC scope cl C X.env) fp) tg g') (gi : GIn X.K T g' g (own.map (·.2)))
    (ht : ∀ (s : Shared) (H : Hp) (C : Addr) (cl : List (Str × Addr)) (fp : List Addr), PTs (X.blk s H scope (compEnvC scope cl C X.env) fp) ifs (tQ X.K T W0 qt))
    (he : ∀ (s : Shared) (H : Hp) (C : Addr) (cl : List (Str × Addr)) (fp : List Addr), PE (X.blk s H scope (compEnvC scope cl C X.env) fp) elt (tE X.K T W0 me)) (hs : ∀ x, foldedSetIterable iter X.env x = pure x := by intro _; rfl) :
    PE X (.ListComp elt [⟨tg, iter, ifs, 0⟩] scope pos) (tF X.K T W (aComp im g qt me (own.map (·.2)))) := by
  refine PE.weak (pe_lc hc hN hi ok hg ht he hs) fun σ H Q ⟨P, F, io, en, s, hE, hS, hp⟩ => ?_
  refine ⟨P, F, io, en, s, hE, hS, ?_⟩
  unfold aComp at hp
  cases hm : im en s with
  | exc x s1 => rw [hm] at hp; exact hp
  | stuck => rw [hm] at hp; exact hp
  | ok w s1 =>
    rw [hm] at hp
    intro F1 io1 J H1 l1 hS1 hw hz D nD
    have hPD : P D = none := by
      cases e : P D with
      | none => rfl
      | some u => have := (hS1.kept D u e).1; rw [nD] at this; cases this
    refine ⟨fun i m H' => ∃ F2 io2 s2 acc accv, Le F1 io1 F2 io2 ∧ RS X.K T (upd P D (.lst accv)) F2 io2 s2 H' ∧ Rs X.K T F2 io2 acc accv ∧ accv.length ≤ i ∧ m = w.items.length - i ∧
      NewL X.K T P (fun c d H' => W c d σ H') F2 io2 (compGo w g qt me (Mir.wipe en (own.map (·.2))) (w.items.drop i) acc s2) Q, ⟨_, F1, io1, s1, [], [], Le.refl, hS1.hold nD, .nil, Nat.le_refl _, rfl, NewL.le l1 (by simpa using hp)⟩, ?_⟩
    rintro i m H2 ⟨F2, io2, s2, acc, accv, l2, hS2, hacc, hlen, rfl, hp2⟩
    by_cases hok : w.ok s2
    · obtain ⟨w1, w2⟩ := hw _ i F2 io2 s2 H2 l2 hS2 hok
      by_cases hi' : i < w.items.length
      · right
        rw [drop_at hi'] at hp2
        unfold compGo at hp2
        rw [if_pos hok] at hp2
        obtain ⟨g1, g2⟩ := w2 _ (List.getElem?_eq_getElem hi')
        refine ⟨g1, fun H' => ∃ F2 io2 s2 acc accv, Le F1 io1 F2 io2 ∧ RS X.K T (upd P D (.lst accv)) F2 io2 s2 H' ∧ Rs X.K T F2 io2 acc accv ∧ accv.length ≤ i + 1 ∧
          NewL X.K T P (fun c d H' => W c d σ H') F2 io2 (compGo w g qt me (Mir.wipe en (own.map (·.2))) (w.items.drop (i + 1)) acc s2) Q,
          fun H' ⟨F3, io3, s3, acc3, accv3, l3, hS3, hacc3, hl3, hp3⟩ => ⟨_, by omega, F3, io3, s3, acc3, accv3, l3, hS3, hacc3, hl3, rfl, hp3⟩, fun v H' hy => ?_⟩
        obtain ⟨F3, l3, hS3, rx⟩ := g2 v H' hy
        have hEw : RE X.K T F3 io2 (Mir.wipe en (own.map (·.2))) (L2.wipe σ (own.map (·.2))) := (hE.mono (l1.trans (l2.trans l3))).wipe _
        cases hgx : g w.items[i] (Mir.wipe en (own.map (·.2))) s2 with
        | exc _ _ => rw [hgx] at hp2; exact hp2.elim
        | stuck => rw [hgx] at hp2; exact hp2.elim
        | ok e3 s3 =>
          rw [hgx] at hp2
          simp only [noX_ok, Res.bind_ok] at hp2
          have l12 : Le F1 io1 F3 io2 := l2.trans l3
          have hp3 := NewL.le l3 hp2
          have z := gi (upd P D (.lst accv)) F3 io2 (Mir.wipe en (own.map (·.2))) s2 w.items[i] v (L2.wipe σ (own.map (·.2))) H'
            (fun σ4 H4 => tQ X.K T W0 qt σ4 H4 fun b H3 => if b = true then tE X.K T W0 me σ4 H3 fun y H4 => ∃ acc, H4 D = some (.lst acc) ∧ acc.length < sizeLine ∧
              (∃ F2 io2 s2 acc' accv, Le F1 io1 F2 io2 ∧ RS X.K T (upd P D (.lst accv)) F2 io2 s2 (upd H4 D (.lst (acc ++ [y]))) ∧ Rs X.K T F2 io2 acc' accv ∧ accv.length ≤ i + 1 ∧
                NewL X.K T P (fun c d H' => W c d σ H') F2 io2 (compGo w g qt me (Mir.wipe en (own.map (·.2))) (w.items.drop (i + 1)) acc' s2) Q)
              else (∃ F2 io2 s2 acc' accv, Le F1 io1 F2 io2 ∧ RS X.K T (upd P D (.lst accv)) F2 io2 s2 H3 ∧ Rs X.K T F2 io2 acc' accv ∧ accv.length ≤ i + 1 ∧
                NewL X.K T P (fun c d H' => W c d σ H') F2 io2 (compGo w g qt me (Mir.wipe en (own.map (·.2))) (w.items.drop (i + 1)) acc' s2) Q)) hEw hS3 rx ?_
          · rw [wipe_wipe] at z
            exact z
          · rw [hgx]
            intro F4 io4 σ4 H4 l4 hE4 hS4
            refine ⟨_, F4, io4, e3, s3, hE4, hS4, ?_⟩
            cases hq : qt e3 s3 with
            | exc _ _ => rw [hq] at hp3; exact hp3.elim
            | stuck => rw [hq] at hp3; exact hp3.elim
            | ok k s4 =>
              rw [hq] at hp3
              intro F5 io5 k' H5 l5 (ek : k = k') hS5
              subst ek
              have l15 : Le F1 io1 F5 io5 := l12.trans (l4.trans l5)
              cases k with
              | false => exact ⟨F5, io5, s4, acc, accv, l15, hS5, hacc.mono (l3.trans (l4.trans l5)), by omega, NewL.le (l4.trans l5) hp3⟩
              | true =>
                simp only [if_true, noX_ok, Res.bind_ok] at hp3 ⊢
                refine ⟨_, F5, io5, e3, s4, hE4.mono l5, hS5, ?_⟩
                cases hme : me e3 s4 with
                | exc _ _ => rw [hme] at hp3; exact hp3.elim
                | stuck => rw [hme] at hp3; exact hp3.elim
                | ok y s5 =>
                  rw [hme] at hp3
                  intro F6 io6 yv H6 l6 ry hS6
                  obtain ⟨hd, hS7⟩ := hS6.held (o' := .lst (accv ++ [yv]))
                  exact ⟨accv, hd, by omega, F6, io6, s5, acc ++ [y], accv ++ [yv], l15.trans l6, hS7, (hacc.mono (l3.trans (l4.trans (l5.trans l6)))).append (.cons ry .nil), by simp; omega,
                    NewL.le (l4.trans (l5.trans l6)) hp3⟩
      · left
        have hd : w.items.drop i = [] := List.drop_eq_nil_iff.mpr (by omega)
        rw [hd] at hp2
        unfold compGo at hp2
        rw [if_pos hok] at hp2
        obtain ⟨H0, d0, hH, hS0⟩ := hS2.let_go hPD
        refine ⟨w1 (by omega), ?_⟩
        have := hp2 F2 io2 D accv H0 Le.refl hacc hS0 d0
        rw [hH] at this
        exact this
    · exfalso
      cases hd : w.items.drop i with
      | nil => rw [hd] at hp2; unfold compGo at hp2; rw [if_neg hok] at hp2; exact hp2
      | cons a b => rw [hd] at hp2; unfold compGo at hp2; rw [if_neg hok] at hp2; exact hp2
end
end Mir
/-! Mir, part F: the operations by values. -/
namespace Mir
open PySem PySem.Spec PyProof.Rows L2
section
variable {X : Cx} {T : Tb}
/-- how an operator's rule is shown -/
theorem opr {f : Value → Value → Sem Value} {g : O2} {r : R2} (ho : OpR X f r) (h : ∀ (P F : Hp) (io : List Addr) (s : Store) (x y : PV) (v u : V) (H : Hp) (Q : VK), R X.K T F io x v → R X.K T F io y u → RS X.K T P F io s H → Post X.K T P (rV X.K T) (fun _ _ _ => False) F io (noX (g x y s)) Q → r v u H Q) : OpR X f (r2 X.K T g) := by
  intro pins s σ H x y v u Q I rx ry hq
  obtain ⟨P, F, io, st, a, b, ra, rb, hS, hp⟩ := hq
  exact ho pins s σ H x y v u Q I rx ry (h P F io st a b x y H Q ra rb hS hp)
theorem opr_or {f : Value → Value → Sem Value} {r r' r'' : R2} (h : OpR X f r) (h' : OpR X f r') : OpR X f (fun x y H Q => r x y H Q ∨ r' x y H Q) := OpR.or h h'
theorem sop_sub : OpR X (binaryOp .Sub) (r2 X.K T pySub) := opr op_sub fun P F io s x y v u H Q rx ry hS hp => by
  cases rx <;> (try exact hp.elim) <;> cases ry <;> (try exact hp.elim)
  exact ⟨_, _, rfl, rfl, hp.ok_of Le.refl (.int _) hS⟩
theorem sop_mul : OpR X (binaryOp .Mult) (r2 X.K T pyMul) := opr op_mul fun P F io s x y v u H Q rx ry hS hp => by
  cases rx <;> (try exact hp.elim) <;> cases ry <;> (try exact hp.elim)
  rename_i i j
  simp only [pyMul] at hp
  split at hp
  · rename_i hc
    exact ⟨_, _, rfl, rfl, hc, hp.ok_of Le.refl (.int _) hS⟩
  · exact hp.elim
theorem sop_mod : OpR X (binaryOp .Mod) (r2 X.K T pyMod) := opr op_mod fun P F io s x y v u H Q rx ry hS hp => by
  cases rx <;> (try exact hp.elim) <;> cases ry <;> (try exact hp.elim)
  rename_i i j
  simp only [pyMod] at hp
  split at hp
  · rename_i hc
    exact ⟨_, _, rfl, rfl, hc, hp.ok_of Le.refl (.int _) hS⟩
  · exact hp.elim
theorem sop_fdiv : OpR X (binaryOp .FloorDiv) (r2 X.K T pyFdiv) := opr op_fdivW fun P F io s x y v u H Q rx ry hS hp => by
  cases rx <;> (try exact hp.elim) <;> cases ry <;> (try exact hp.elim)
  rename_i i j
  simp only [pyFdiv] at hp
  split at hp
  · rename_i hc
    refine ⟨_, _, rfl, rfl, wide_div (b := 128) hc.1 ?_ (by decide) (by decide), hp.ok_of Le.refl (.int _) hS⟩
    have := hc.2; omega
  · exact hp.elim
theorem sop_pow : OpR X (binaryOp .Pow) (r2 X.K T pyPow) := opr op_pow fun P F io s x y v u H Q rx ry hS hp => by
  cases rx <;> (try exact hp.elim) <;> cases ry <;> (try exact hp.elim)
  rename_i i j
  simp only [pyPow] at hp
  split at hp
  · rename_i hc
    exact ⟨_, _, rfl, rfl, hc, hp.ok_of Le.refl (.int _) hS⟩
  · exact hp.elim
theorem st8_cat (a b : List Nat) : St8 a ++ St8 b = St8 (a ++ b) := by
  show Str.append _ _ = _
  simp [Str.append]
/-- a place that holds a list, or a tree that is one -/
theorem RS.list {K : PySem.W.Frag} {P F : Hp} {io : List Addr} {s : Store} {H : Hp} {x : PV} {v : V} {xs : List PV} (hS : RS K T P F io s H) (r : R K T F io x v) (e : deref s x = .lst xs) : ∃ a vs, v = .ref a ∧ H a = some (.lst vs) ∧ Rs K T F io xs vs := by
  cases r with
  | lst h1 h2 => cases e; exact ⟨_, _, rfl, hS.sub _ _ h1, h2⟩
  | @loc a n h1 =>
    have hn : n < s.length := by rw [hS.len]; exact (List.getElem?_eq_some_iff.mp h1).1
    have ed : deref s (.loc n) = s[n] := by simp [deref, List.getD, List.getElem?_eq_getElem hn]
    rw [ed] at e
    obtain ⟨o, e2, e3⟩ := hS.loc h1 (by rw [List.getElem?_eq_getElem hn, e])
    cases e3 with
    | lst q => exact ⟨_, _, rfl, e2, q⟩
  | _ => cases e
theorem sop_add : OpR X (binaryOp .Add) (r2 X.K T pyAdd) := opr (OpR.or op_add (OpR.or op_add_str (OpR.or op_catA op_cat))) fun P F io s x y v u H Q rx ry hS hp => by
  have lists : ∀ {x y : PV} {v u : V}, R X.K T F io x v → R X.K T F io y u → Post X.K T P (rV X.K T) (fun _ _ _ => False) F io (noX (match deref s x, deref s y with
      | .lst a, .lst b => if a.length + b.length ≤ sz then .ok (.lst (a ++ b)) s else .stuck
      | _, _ => (.stuck : Res PV))) Q → rCat v u H Q := fun {x y v u} rx ry hp => by
    cases e1 : deref s x <;> rw [e1] at hp <;> (try exact hp.elim)
    cases e2 : deref s y <;> rw [e2] at hp <;> (try exact hp.elim)
    rename_i xs ys
    obtain ⟨a, vs, rfl, ha, r1⟩ := hS.list rx e1
    obtain ⟨b, ws, rfl, hb, r2⟩ := hS.list ry e2
    simp only at hp
    split at hp
    · rename_i hc
      refine ⟨a, b, vs, ws, rfl, rfl, ha, hb, by rw [← r1.length, ← r2.length]; exact hc, fun p np => ?_⟩
      obtain ⟨l2, hS2⟩ := hS.grow (o := .lst (vs ++ ws)) np
      exact hp.ok_of l2 (.lst upd_same ((r1.append r2).mono l2)) hS2
    · exact hp.elim
  cases rx with
  | int i => cases ry <;> first | exact .inl ⟨_, _, rfl, rfl, hp.ok_of Le.refl (.int _) hS⟩ | exact hp.elim
  | str a =>
    cases ry with
    | str b =>
      simp only [pyAdd] at hp
      split at hp
      · rename_i hc
        exact .inr (.inl ⟨_, _, rfl, rfl, by rw [str8_len, str8_len]; exact hc, by rw [st8_cat]; exact hp.ok_of Le.refl (.str _) hS⟩)
      · exact hp.elim
    | _ => exact hp.elim
  | tup h1 h2 =>
    cases ry with
    | tup k1 k2 =>
      simp only [pyAdd] at hp
      split at hp
      · rename_i hc
        refine .inr (.inr (.inl ⟨_, _, _, _, rfl, rfl, hS.tup h1, hS.tup k1, by rw [← h2.length, ← k2.length]; exact hc, fun e => ?_, fun _ e => ?_, fun _ _ p np => ?_⟩))
        · subst e
          cases h2
          exact hp.ok_of Le.refl (.tup k1 k2) hS
        · subst e
          cases k2
          exact hp.ok_of Le.refl (.tup h1 (by simpa using h2)) hS
        · obtain ⟨l2, hS2⟩ := hS.grow (o := .tup (_ ++ _)) np
          exact hp.ok_of l2 (.tup (.of upd_same) ((h2.append k2).mono l2)) hS2
      · exact hp.elim
    | _ => exact hp.elim
  | lst h1 h2 => exact .inr (.inr (.inr (lists (.lst h1 h2) ry (by cases ry <;> exact hp))))
  | loc h1 => exact .inr (.inr (.inr (lists (.loc h1) ry (by cases ry <;> exact hp))))
  | _ => cases ry <;> exact hp.elim
end
end Mir
/-! Mir, part G: == and in of data, comparisons, items, slices. -/
namespace Mir
open PySem PySem.Spec PyProof.Rows L2

def toD : Nat → PV → PyData
  | _, .non => .none
  | _, .bl b => .bool b
  | _, .int i => .int i
  | _, .str l => .str (St8 l)
  | n + 1, .tup xs => .tuple (xs.map (toD n))
  | n + 1, .lst xs => .list (xs.map (toD n))
  | n + 1, .ro xs => .list (xs.map (toD n))
  | _, _ => .none
theorem plain_map {n : Nat} (ih : ∀ x : PV, (toD n x).plain = true) : ∀ xs : List PV, PyData.plainAll (xs.map (toD n)) = true
  | [] => by simp [PyData.plainAll]
  | x :: xs => by simp [PyData.plainAll, ih x, plain_map ih xs]
theorem plain_toD : ∀ (n : Nat) (x : PV), (toD n x).plain = true
  | 0, x => by cases x <;> simp [toD, PyData.plain]
  | n + 1, x => by cases x <;> simp [toD, PyData.plain, plain_map (plain_toD n)]
theorem depth_map {n : Nat} (ih : ∀ x : PV, (toD n x).depth ≤ n) : ∀ xs : List PV, PyData.depthAll (xs.map (toD n)) ≤ n
  | [] => by simp [PyData.depthAll]
  | x :: xs => by simp [PyData.depthAll, Nat.max_le]; exact ⟨ih x, by simpa using depth_map ih xs⟩
theorem depth_toD : ∀ (n : Nat) (x : PV), (toD n x).depth ≤ n
  | 0, x => by cases x <;> simp [toD, PyData.depth]
  | n + 1, x => by
    have := depth_map (depth_toD n)
    cases x <;> simp [toD, PyData.depth] <;> (rename_i xs; exact this xs)
theorem st8_inj {a b : List Nat} : (St8 a == St8 b) = (a == b) := by
  by_cases h : a = b
  · subst h; simp
  · have : ¬ St8 a = St8 b := fun e => h (by have := congrArg (fun s : Str => s.cps.toList) e; simpa using this)
    rw [beq_eq_false_iff_ne.mpr this, beq_eq_false_iff_ne.mpr h]
theorem eqv_map {n : Nat} (ih : ∀ x y : PV, isD n x = true → isD n y = true → PyData.eqv (toD n x) (toD n y) = eqF n x y) : ∀ xs ys : List PV, xs.all (isD n) = true → ys.all (isD n) = true →
    PyData.eqvAll (xs.map (toD n)) (ys.map (toD n)) = eqL (eqF n) xs ys
  | [], [], _, _ => by simp [PyData.eqvAll, eqL]
  | [], _ :: _, _, _ => by simp [PyData.eqvAll, eqL]
  | _ :: _, [], _, _ => by simp [PyData.eqvAll, eqL]
  | x :: xs, y :: ys, hx, hy => by
    simp only [List.all_cons, Bool.and_eq_true] at hx hy
    simp [PyData.eqvAll, eqL, ih x y hx.1 hy.1, eqv_map ih xs ys hx.2 hy.2]
theorem eqv_toD : ∀ (n : Nat) (x y : PV), isD n x = true → isD n y = true → PyData.eqv (toD n x) (toD n y) = eqF n x y
  | 0, x, y, hx, hy => by
    cases x <;> (try (simp [isD] at hx; done)) <;> cases y <;> (try (simp [isD] at hy; done)) <;> simp [toD, PyData.eqv, eqF, st8_inj]
  | n + 1, x, y, hx, hy => by
    cases x <;> (try (simp [isD] at hx; done)) <;> cases y <;> (try (simp [isD] at hy; done)) <;> simp [toD, PyData.eqv, eqF, st8_inj] <;>
      exact eqv_map (eqv_toD n) _ _ (by simpa [isD] using hx) (by simpa [isD] using hy)
section
variable {K : PySem.W.Frag} {T : Tb} {P F : Hp} {io : List Addr} {s : Store} {H : Hp}
theorem dpAll_of {n : Nat} (ih : ∀ (x : PV) (v : V), R K T F io x v → isD n x = true → Dp K H v (toD n x)) : ∀ {xs : List PV} {vs : List V}, Rs K T F io xs vs → xs.all (isD n) = true → DpAll K H vs (xs.map (toD n))
  | [], _, r, _ => by cases r; exact .nil
  | x :: xs, _, r, h => by
    simp only [List.all_cons, Bool.and_eq_true] at h
    cases r with | cons a b => exact .cons (ih x _ a h.1) (dpAll_of ih b h.2)
theorem dp_of (hS : RS K T P F io s H) : ∀ (n : Nat) (x : PV) (v : V), R K T F io x v → isD n x = true → Dp K H v (toD n x)
  | 0, x, v, r, h => by
    cases r with
    | non => exact .non
    | bl b => exact .bl b
    | int i => exact .int i
    | str l => exact .str _
    | _ => simp [isD] at h
  | n + 1, x, v, r, h => by
    cases r with
    | non => exact .non
    | bl b => exact .bl b
    | int i => exact .int i
    | str l => exact .str _
    | tup h1 h2 => exact .tup (hS.tup h1) (dpAll_of (dp_of hS n) h2 (by simpa [isD] using h))
    | lst h1 h2 => exact .lst (.of (hS.sub _ _ h1)) (dpAll_of (dp_of hS n) h2 (by simpa [isD] using h))
    | ro h1 h2 => exact .lst (hS.lst h1) (dpAll_of (dp_of hS n) h2 (by simpa [isD] using h))
    | _ => simp [isD] at h
/-- of a place too -/
theorem dp_deref (hS : RS K T P F io s H) {x : PV} {v : V} (r : R K T F io x v) (h : isD (n + 1) (deref s x) = true) : Dp K H v (toD (n + 1) (deref s x)) := by
  cases r with
  | @loc a m h1 =>
    have hn : m < s.length := by rw [hS.len]; exact (List.getElem?_eq_some_iff.mp h1).1
    have ed : deref s (.loc m) = s[m] := by simp [deref, List.getD, List.getElem?_eq_getElem hn]
    rw [ed] at h ⊢
    obtain ⟨o, e2, e3⟩ := hS.loc h1 (List.getElem?_eq_getElem hn)
    generalize s[m] = c at h e3 ⊢
    cases e3 with
    | lst q => exact .lst (.of e2) (dpAll_of (dp_of hS n) q (by simpa [isD] using h))
    | dic _ _ => simp [isD] at h
    | ins _ _ => simp [isD] at h
  | non => exact dp_of hS _ _ _ .non h
  | bl b => exact dp_of hS _ _ _ (.bl b) h
  | int i => exact dp_of hS _ _ _ (.int i) h
  | str l => exact dp_of hS _ _ _ (.str l) h
  | tup h1 h2 => exact dp_of hS _ _ _ (.tup h1 h2) h
  | lst h1 h2 => exact dp_of hS _ _ _ (.lst h1 h2) h
  | ro h1 h2 => exact dp_of hS _ _ _ (.ro h1 h2) h
  | dic _ _ _ => simp [isD, deref] at h
  | ins _ _ _ => simp [isD, deref] at h
  | fn _ => simp [isD, deref] at h
  | cls _ => simp [isD, deref] at h
  | ty _ => simp [isD, deref] at h
end
section
variable {X : Cx} {T : Tb}
/-- data on both sides -/
def rD2 (K : PySem.W.Frag) (g : PyData → PyData → Bool) : R2 := fun x y H Q => ∃ d e, Dp K H x d ∧ Dp K H y e ∧ d.plain = true ∧ e.plain = true ∧ d.depth ≤ 60 ∧ Q (.bl (g d e)) H
theorem room_plain {A : Around} {d e : PyData} (hd : d.depth ≤ 60) (hu : A.units + 64 < cLine) : A.units + min d.depth e.depth < cLine := by
  have := Nat.min_le_left d.depth e.depth
  omega
theorem op_eqP (hu : X.A.units + 64 < cLine) : OpR X (compareOp .Eq) (rD2 X.K PyData.eqv) := by
  intro pins s σ H x y v u Q I rx ry ⟨d, e, hd, he, pd, pe, dd, q⟩
  obtain ⟨as, r1⟩ := Dp.reads I d x v hd rx
  obtain ⟨bs, r2⟩ := Dp.reads I e y u he ry
  exact SeqAt.eq_plain r1 r2 pd pe (room_plain dd hu) ⟨.bl _, H, I, rfl, q⟩
theorem op_neP (hu : X.A.units + 64 < cLine) : OpR X (compareOp .NotEq) (rD2 X.K fun d e => !PyData.eqv d e) := by
  intro pins s σ H x y v u Q I rx ry ⟨d, e, hd, he, pd, pe, dd, q⟩
  obtain ⟨as, r1⟩ := Dp.reads I d x v hd rx
  obtain ⟨bs, r2⟩ := Dp.reads I e y u he ry
  exact SeqAt.ne_plain r1 r2 pd pe (room_plain dd hu) ⟨.bl _, H, I, rfl, q⟩
theorem sop_eq (hu : X.A.units + 64 < cLine) : OpR X (compareOp .Eq) (r2 X.K T pyEq) := opr (op_eqP hu) fun P F io s x y v u H Q rx ry hS hp => by
  simp only [pyEq] at hp
  split at hp
  · rename_i h
    simp only [Bool.and_eq_true] at h
    refine ⟨_, _, dp_deref hS rx h.1, dp_deref hS ry h.2, plain_toD _ _, plain_toD _ _, Nat.le_trans (depth_toD _ _) (by decide), ?_⟩
    rw [eqv_toD _ _ _ h.1 h.2]
    exact hp.ok_of Le.refl (.bl _) hS
  · exact hp.elim
theorem sop_ne (hu : X.A.units + 64 < cLine) : OpR X (compareOp .NotEq) (r2 X.K T pyNe) := opr (op_neP hu) fun P F io s x y v u H Q rx ry hS hp => by
  simp only [pyNe] at hp
  split at hp
  · rename_i h
    simp only [Bool.and_eq_true] at h
    refine ⟨_, _, dp_deref hS rx h.1, dp_deref hS ry h.2, plain_toD _ _, plain_toD _ _, Nat.le_trans (depth_toD _ _) (by decide), ?_⟩
    show Q (.bl (!PyData.eqv (toD dp (deref s x)) (toD dp (deref s y)))) H
    rw [eqv_toD _ _ _ h.1 h.2]
    exact hp.ok_of Le.refl (.bl _) hS
  · exact hp.elim
/-- in -/
def rIn2 (K : PySem.W.Frag) (neg : Bool) : R2 := fun x y H Q => (∃ c z, x = .str ⟨#[c]⟩ ∧ y = .str z ∧ Q (.bl (xor neg (decide (c ∈ z.cps.toList)))) H) ∨
  ∃ d ds, Dp K H x d ∧ (Dp K H y (.list ds) ∨ Dp K H y (.tuple ds)) ∧ d.plain = true ∧ PyData.plainAll ds = true ∧ d.depth ≤ 60 ∧ Q (.bl (xor neg (ds.any fun z => PyData.eqv z d))) H
theorem room_in {A : Around} {ds : List PyData} {d : PyData} (hd : d.depth ≤ 60) (hu : A.units + 64 < cLine) : A.units + 1 + min (PyData.depthAll ds) d.depth < cLine := by
  have := Nat.min_le_right (PyData.depthAll ds) d.depth
  omega
theorem op_in2 (hu : X.A.units + 64 < cLine) : OpR X (compareOp .In) (rIn2 X.K false) := by
  intro pins s σ H x y v u Q I rx ry h
  rcases h with ⟨c, z, e1, e2, q⟩ | ⟨d, ds, hd, he, pd, pe, dd, q⟩
  · exact op_in_sign pins s σ H x y v u Q I rx ry ⟨c, z, e1, e2, by simpa using q⟩
  · obtain ⟨as, r1⟩ := Dp.reads I d x v hd rx
    rcases he with he | he
    · obtain ⟨bs, r2⟩ := Dp.reads I (.list ds) y u he ry
      exact SeqAt.in_list_data r2 r1 pe pd (room_in dd hu) ⟨.bl _, H, I, rfl, by simpa using q⟩
    · obtain ⟨bs, r2⟩ := Dp.reads I (.tuple ds) y u he ry
      exact SeqAt.in_tuple_data r2 r1 pe pd (room_in dd hu) ⟨.bl _, H, I, rfl, by simpa using q⟩
theorem op_notIn2 (hu : X.A.units + 64 < cLine) : OpR X (compareOp .NotIn) (rIn2 X.K true) := by
  intro pins s σ H x y v u Q I rx ry h
  rcases h with ⟨c, z, e1, e2, q⟩ | ⟨d, ds, hd, he, pd, pe, dd, q⟩
  · exact op_notIn_sign pins s σ H x y v u Q I rx ry ⟨c, z, e1, e2, by simpa using q⟩
  · obtain ⟨as, r1⟩ := Dp.reads I d x v hd rx
    rcases he with he | he
    · obtain ⟨bs, r2⟩ := Dp.reads I (.list ds) y u he ry
      exact SeqAt.notIn_list_data r2 r1 pe pd (room_in dd hu) ⟨.bl _, H, I, rfl, by simpa using q⟩
    · obtain ⟨bs, r2⟩ := Dp.reads I (.tuple ds) y u he ry
      exact SeqAt.notIn_tuple_data r2 r1 pe pd (room_in dd hu) ⟨.bl _, H, I, rfl, by simpa using q⟩

theorem any_key {x : PV} : ∀ {xs : List PV}, (∀ z ∈ xs, isD dp z = true) → isD dp x = true → (xs.map (toD dp)).any (fun z => PyData.eqv z (toD dp x)) = xs.any fun z => eqF dp z x
  | [], _, _ => rfl
  | a :: r, h, hx => by
    rw [List.map_cons, List.any_cons, List.any_cons, eqv_toD dp a x (h a (List.mem_cons_self ..)) hx, any_key (fun z hz => h z (List.mem_cons_of_mem _ hz)) hx]
theorem in_use {K : PySem.W.Frag} {P F : Hp} {io : List Addr} {s : Store} {x y : PV} {v u : V} {H : Hp} {neg : Bool} {Q : VK} (rx : R K T F io x v) (ry : R K T F io y u) (hS : RS K T P F io s H) {k : Bool} (e : inP s x y = some k) (q : Q (.bl (xor neg k)) H) : rIn2 K neg v u H Q := by
  have deep : (match itemsOf s y with | some xs => if isD dp x && xs.all (isD dp) then some (xs.any fun z => eqF dp z x) else none | none => none) = some k → rIn2 K neg v u H Q := fun e => by
    cases hi : itemsOf s y with
    | none => rw [hi] at e; cases e
    | some xs =>
      rw [hi] at e
      simp only at e
      split at e
      · rename_i h
        cases e
        simp only [Bool.and_eq_true] at h
        have hd : Dp K H v (toD dp x) := dp_of hS dp x v rx h.1
        have key : (xs.map (toD dp)).any (fun z => PyData.eqv z (toD dp x)) = xs.any fun z => eqF dp z x := by
          exact any_key (fun z hz => List.all_eq_true.mp h.2 z hz) h.1
        refine .inr ⟨_, xs.map (toD dp), hd, ?_, plain_toD _ _, plain_map (plain_toD _) _, Nat.le_trans (depth_toD _ _) (by decide), by rw [key]; exact q⟩
        obtain ⟨a, vs, rfl, hq, hr⟩ := hS.seq ry hi
        have ds := dpAll_of (fun x v r h => dp_of hS dp x v r h) hr h.2
        rcases hq with hq | hq
        · exact .inl (.lst hq ds)
        · exact .inr (.tup hq ds)
      · cases e
  unfold inP at e
  split at e
  · rename_i c l
    cases e
    cases rx
    cases ry
    exact .inl ⟨c, St8 l, rfl, rfl, by simpa using q⟩
  · exact deep e
theorem sop_in (hu : X.A.units + 64 < cLine) : OpR X (compareOp .In) (r2 X.K T pyIn) := opr (op_in2 hu) fun P F io s x y v u H Q rx ry hS hp => by
  simp only [pyIn] at hp
  cases e : inP s x y with
  | none => rw [e] at hp; exact hp.elim
  | some k =>
    rw [e] at hp
    exact in_use rx ry hS e (by have := hp.ok_of Le.refl (.bl _) hS; simpa using this)
theorem sop_notIn (hu : X.A.units + 64 < cLine) : OpR X (compareOp .NotIn) (r2 X.K T pyNotIn) := opr (op_notIn2 hu) fun P F io s x y v u H Q rx ry hS hp => by
  simp only [pyNotIn] at hp
  cases e : inP s x y with
  | none => rw [e] at hp; exact hp.elim
  | some k =>
    rw [e] at hp
    exact in_use rx ry hS e (by have := hp.ok_of Le.refl (.bl _) hS; simpa using this)
/-! ### order -/
theorem sop_lt : OpR X (compareOp .Lt) (r2 X.K T pyLt) := opr (OpR.or op_lt op_lt_str) fun P F io s x y v u H Q rx ry hS hp => by
  cases rx <;> (try exact hp.elim) <;> cases ry <;> (try exact hp.elim)
  · exact .inl ⟨_, _, rfl, rfl, hp.ok_of Le.refl (.bl _) hS⟩
  · exact .inr ⟨_, _, rfl, rfl, by simpa using hp.ok_of Le.refl (.bl _) hS⟩
theorem sop_le : OpR X (compareOp .LtE) (r2 X.K T pyLe) := opr op_le fun P F io s x y v u H Q rx ry hS hp => by
  cases rx <;> (try exact hp.elim) <;> cases ry <;> (try exact hp.elim)
  exact ⟨_, _, rfl, rfl, hp.ok_of Le.refl (.bl _) hS⟩
theorem sop_gt : OpR X (compareOp .Gt) (r2 X.K T pyGt) := opr op_gt fun P F io s x y v u H Q rx ry hS hp => by
  cases rx <;> (try exact hp.elim) <;> cases ry <;> (try exact hp.elim)
  exact ⟨_, _, rfl, rfl, hp.ok_of Le.refl (.bl _) hS⟩
theorem sop_ge : OpR X (compareOp .GtE) (r2 X.K T pyGe) := opr op_ge fun P F io s x y v u H Q rx ry hS hp => by
  cases rx <;> (try exact hp.elim) <;> cases ry <;> (try exact hp.elim)
  exact ⟨_, _, rfl, rfl, hp.ok_of Le.refl (.bl _) hS⟩
theorem sop_neg : UnR X (unaryOp .USub) (r1 X.K T pyNeg) := by
  intro pins s σ H x v Q I rx ⟨P, F, io, st, a, ra, hS, hp⟩
  cases ra <;> (try exact hp.elim)
  exact un_neg pins s σ H _ v Q I rx ⟨_, rfl, hp.ok_of Le.refl (.int _) hS⟩
/-! ### is None, is not None -/
variable {W : WX} {a b o e : Expr} {ma mb mo me : EM} {pos p2 : Pos}
theorem isN_use {K : PySem.W.Frag} {P F : Hp} {io : List Addr} {s : Store} {x : PV} {v : V} {H : Hp} {Wz : Value → Option Addr → Hp → Prop} {Q : VK} (rx : R K T F io x v) (hS : RS K T P F io s H) (hp : Post K T P (rV K T) Wz F io (noX (pyIs .non x s)) Q) : Q (.bl (decide (v = .non))) H := by
  cases rx <;> exact hp.ok_of Le.refl (.bl _) hS
theorem me_isN {q : Pos} {j : Nat} (ha : PE X a (tE X.K T W ma)) : PE X (.Compare a [.Is] [.Constant .none j q] pos) (tE X.K T W (eOp1 (pyIs .non) ma)) := by
  refine PE.weak (pe_cmpR op_isN ha pe_non (nomark _)) fun σ H Q ⟨P, F, io, en, s, hE, hS, hp⟩ => ?_
  refine tE_use hE hS hp fun v H1 F1 io1 x s1 hE1 rx hS1 l1 hp1 => ?_
  exact ⟨rfl, isN_use rx hS1 hp1⟩
theorem me_notN {q : Pos} {j : Nat} (ha : PE X a (tE X.K T W ma)) : PE X (.Compare a [.IsNot] [.Constant .none j q] pos) (tE X.K T W (eNotB (eOp1 (pyIs .non) ma))) := by
  refine PE.weak (pe_cmpR op_notN ha pe_non (nomark _)) fun σ H Q ⟨P, F, io, en, s, hE, hS, hp⟩ => ?_
  unfold eNotB eOp1 at hp
  simp only [Res.bind_assoc] at hp
  refine tE_use hE hS hp fun v H1 F1 io1 x s1 hE1 rx hS1 l1 hp1 => ?_
  refine ⟨rfl, ?_⟩
  cases rx <;> exact hp1.ok_of Le.refl (.bl _) hS1
theorem qe_isN {q : Pos} {j : Nat} (ha : PE X a (tE X.K T W ma)) : PT X (.Compare a [.Is] [.Constant .none j q] pos) (tQ X.K T W (qBl (eOp1 (pyIs .non) ma))) := by
  refine PT.weak (pt_cmpR op_isN ha pe_non (nomark _)) fun σ H Q ⟨P, F, io, en, s, hE, hS, hp⟩ => ?_
  unfold qBl eOp1 at hp
  simp only [Res.bind_assoc] at hp
  refine tE_use hE hS hp fun v H1 F1 io1 x s1 hE1 rx hS1 l1 hp1 => ?_
  refine ⟨rfl, ?_⟩
  cases rx <;> exact ⟨_, rfl, hp1.ok_of Le.refl rfl hS1⟩
theorem qe_notN {q : Pos} {j : Nat} (ha : PE X a (tE X.K T W ma)) : PT X (.Compare a [.IsNot] [.Constant .none j q] pos) (tQ X.K T W (qBl (eNotB (eOp1 (pyIs .non) ma)))) := by
  refine PT.weak (pt_cmpR op_notN ha pe_non (nomark _)) fun σ H Q ⟨P, F, io, en, s, hE, hS, hp⟩ => ?_
  unfold qBl eNotB eOp1 at hp
  simp only [Res.bind_assoc] at hp
  refine tE_use hE hS hp fun v H1 F1 io1 x s1 hE1 rx hS1 l1 hp1 => ?_
  refine ⟨rfl, ?_⟩
  cases rx <;> exact ⟨_, rfl, hp1.ok_of Le.refl rfl hS1⟩

/-! ### items -/
theorem ixP_eq (n : Nat) (i : Int) : ixP n i = ixN n i := rfl
theorem atP_get {K : PySem.W.Frag} {F : Hp} {io : List Addr} {xs : List PV} {vs : List V} {i : Int} {x : PV} (r : Rs K T F io xs vs) (e : atP xs i = some x) : ∃ v, atI vs i = some v ∧ R K T F io x v := by
  unfold atP at e
  unfold atI
  rw [← r.length, ← ixP_eq]
  cases h : ixP xs.length i with
  | none => rw [h] at e; cases e
  | some j =>
    rw [h] at e
    exact r.get e
theorem me_idx (ha : PE X a (tE X.K T W ma)) (hb : PE X b (tE X.K T W mb)) (hs : PlainIx b) : PE X (.Subscript a b pos) (tE X.K T W (eOp2 pyIdx ma mb)) := by
  refine PE.weak (pe_ix ix_seq ha hb hs) fun σ H Q ⟨P, F, io, en, s, hE, hS, hp⟩ => ?_
  refine tE_use hE hS hp fun v H1 F1 io1 x s1 hE1 rx hS1 l1 hp1 => ?_
  refine tE_use hE1 hS1 hp1 fun u H2 F2 io2 y s2 hE2 ry hS2 l2 hp2 => ?_
  cases ry with
  | int i =>
    have seq : ∀ xs, itemsOf s2 x = some xs → Post X.K T P (rV X.K T) (fun c d H' => W c d σ H') F2 io2 (noX (ofO (atP xs i) s2)) Q → rIxL X.K v (.int i) H2 Q ∨ rIxT X.K v (.int i) H2 Q ∨ rIxS v (.int i) H2 Q := fun xs hx hp2 => by
      obtain ⟨a, vs, rfl, hq, hr⟩ := hS2.seq (rx.mono l2) hx
      cases e : atP xs i with
      | none => rw [e] at hp2; exact hp2.elim
      | some z =>
        rw [e] at hp2
        obtain ⟨zv, e1, e2⟩ := atP_get hr e
        have q := hp2.ok_of Le.refl e2 hS2
        rcases hq with hq | hq
        · exact .inl ⟨a, vs, i, zv, rfl, rfl, hq, e1, q⟩
        · exact .inr (.inl ⟨a, vs, i, zv, rfl, rfl, hq, e1, q⟩)
    cases x with
    | str l =>
      cases rx with
      | str _ =>
        simp only [pyIdx] at hp2
        split at hp2
        · rename_i hl
          cases e : atP l i with
          | none => rw [e] at hp2; exact hp2.elim
          | some c =>
            rw [e] at hp2
            exact .inr (.inr ⟨_, i, c, rfl, rfl, by rw [str8_len]; exact hl, by simpa [atP, atI, ixP_eq] using e, hp2.ok_of Le.refl (.str [c]) hS2⟩)
        · exact hp2.elim
    | _ =>
      simp only [pyIdx] at hp2
      split at hp2
      · rename_i xs hx
        exact seq xs hx hp2
      · exact hp2.elim
  | _ => exact hp2.elim
/-! ### slices -/
def tO (K : PySem.W.Frag) (T : Tb) (W : WX) (m : OM) : TO := fun σ H Q => ∃ P F io e s, RE K T F io e σ ∧ RS K T P F io s H ∧ Post K T P (fun _ _ (a b : Option Int) => a = b) (fun c d H' => W c d σ H') F io (m e s) Q
theorem mo_none : PO X none (tO X.K T W oNone) := ⟨fun pins s σ H Q I ⟨P, F, io, en, st, hE, hS, hp⟩ => po_none.run pins s σ H Q I (hp.ok_of Le.refl rfl hS)⟩
theorem mo_some (he : PE X e (tE X.K T W me)) : PO X (some e) (tO X.K T W (oSome me)) := by
  refine ⟨fun pins s σ H Q I ⟨P, F, io, en, st, hE, hS, hp⟩ => (po_some he).run pins s σ H Q I ?_⟩
  refine tE_use hE hS hp fun v H1 F1 io1 x s1 hE1 rx hS1 l1 hp1 => ?_
  cases rx with
  | int i => exact ⟨i, rfl, hp1.ok_of Le.refl rfl hS1⟩
  | _ => exact hp1.elim
theorem cutP_rs {K : PySem.W.Frag} {F : Hp} {io : List Addr} {xs : List PV} {vs : List V} (r : Rs K T F io xs vs) (lo hi : Option Int) : Rs K T F io (cutP xs lo hi) (cutV vs lo hi) := by
  unfold cutP cutV
  rw [← r.length]
  exact (r.drop _).take _
theorem cutP_str (l : List Nat) (lo hi : Option Int) : cutS (St8 l) lo hi = St8 (cutP l lo hi) := by
  unfold cutS cutP
  rw [str8_len]
  rfl
theorem me_slice {lo hi : Option Expr} {ml mh : OM} (ha : PE X a (tE X.K T W ma)) (hl : PO X lo (tO X.K T W ml)) (hh : PO X hi (tO X.K T W mh)) : PE X (.Subscript a (.Slice lo hi none p2) pos) (tE X.K T W (eSlice ma ml mh)) := by
  refine PE.weak (pe_slice (SlR.or sl_str (SlR.or sl_tupA sl_list)) ha hl hh) fun σ H Q ⟨P, F, io, en, s, hE, hS, hp⟩ => ?_
  refine tE_use hE hS hp fun v H1 F1 io1 x s1 hE1 rx hS1 l1 hp1 => ?_
  refine ⟨P, F1, io1, en, s1, hE1, hS1, hp1.bind.mono fun o H2 ⟨F2, io2, o', s2, l2, eo, hS2, hp2⟩ => ?_⟩
  subst eo
  refine ⟨P, F2, io2, en, s2, hE1.mono l2, hS2, hp2.bind.mono fun q H3 ⟨F3, io3, q', s3, l3, eq, hS3, hp3⟩ => ?_⟩
  subst eq
  have rx3 := rx.mono (l2.trans l3)
  replace hp3 : Post X.K T P (rV X.K T) (fun c d H' => W c d σ H') F3 io3 (ofO (sliceV s3 x o' q') s3) Q := hp3
  cases e : sliceV s3 x o' q' with
  | none => rw [e] at hp3; exact hp3.elim
  | some z =>
    rw [e] at hp3
    have lists : ∀ xs, (∃ a vs, v = .ref a ∧ SqL X.K H3 a vs ∧ Rs X.K T F3 io3 xs vs) → z = .lst (cutP xs o' q') → rSlL X.K v o' q' H3 Q := fun xs ⟨a, vs, ev, hq, hr⟩ ez => by
      subst ev ez
      refine ⟨a, vs, rfl, hq, fun p np => ?_⟩
      obtain ⟨l4, hS4⟩ := hS3.grow (o := .lst (cutV vs o' q')) np
      exact hp3.ok_of l4 (.lst upd_same ((cutP_rs hr o' q').mono l4)) hS4
    cases rx3 with
    | str l =>
      simp only [sliceV] at e
      split at e
      · rename_i hl
        cases e
        exact .inl ⟨_, rfl, by rw [str8_len]; exact hl, by rw [cutP_str]; exact hp3.ok_of Le.refl (.str _) hS3⟩
      · cases e
    | @tup a xs vs h1 h2 =>
      cases e
      refine .inr (.inl ⟨_, _, rfl, hS3.tup h1, fun hw => ?_, fun hw p np => ?_⟩)
      · have : cutV vs o' q' = vs := by
          unfold cutV
          rw [hw.1, hw.2]
          simp
        exact hp3.ok_of Le.refl (.tup h1 (by have := cutP_rs h2 o' q'; rw [‹cutV vs o' q' = vs›] at this; exact this)) hS3
      · obtain ⟨l4, hS4⟩ := hS3.grow (o := .tup (cutV vs o' q')) np
        exact hp3.ok_of l4 (.tup (.of upd_same) ((cutP_rs h2 o' q').mono l4)) hS4
    | lst h1 h2 => exact .inr (.inr (lists _ ⟨_, _, rfl, .of (hS3.sub _ _ h1), h2⟩ (Option.some.inj e).symm))
    | ro h1 h2 => exact .inr (.inr (lists _ ⟨_, _, rfl, hS3.lst h1, h2⟩ (Option.some.inj e).symm))
    | @loc a n h1 =>
      cases hd : deref s3 (.loc n) with
      | lst xs =>
        simp only [sliceV, hd] at e
        obtain ⟨b, vs, e1, e2, e3⟩ := hS3.list (.loc h1) hd
        exact .inr (.inr (lists xs ⟨b, vs, e1, .of e2, e3⟩ (Option.some.inj e).symm))
      | ro xs =>
        have hn : n < s3.length := by rw [hS3.len]; exact (List.getElem?_eq_some_iff.mp h1).1
        obtain ⟨o2, e2, e3⟩ := hS3.loc h1 (List.getElem?_eq_getElem hn)
        have ed : deref s3 (.loc n) = s3[n] := by simp [deref, List.getD, List.getElem?_eq_getElem hn]
        rw [ed] at hd
        rw [hd] at e3
        cases e3
      | _ => simp only [sliceV, hd] at e; cases e
    | _ => cases e
end
end Mir
/-! Mir, part H: defs, calls, classes, methods. -/
namespace Mir
open PySem PySem.Spec PyProof.Rows L2

/-! ### the end of a call -/
section
variable {K : PySem.W.Frag} {T : Tb}
/-- what a way of ending a call must bear -/
def FinOk (K : PySem.W.Frag) (T : Tb) (fin : Store → PV → Store → Res PV) : Prop :=
  ∀ (P F F' : Hp) (io io' : List Addr) (s0 s1 : Store) (H0 H' : Hp) (x : PV) (v : V) (W : Value → Option Addr → Hp → Prop) (Q : VK), RS K T P F io s0 H0 → Le F io F' io' → RS K T P F' io' s1 H' → R K T F' io' x v → Post K T P (rV K T) W F io (fin s0 x s1) Q → Q v H'
theorem finN_ok : FinOk K T finN := fun P F F' io io' s0 s1 H0 H' x v W Q _ l hS r hp => hp.ok_of l r hS
theorem take_old {io m : List Addr} : ∀ (n : Nat) (a : Addr), n < io.length → (io ++ m)[n]? = some a → io[n]? = some a := fun n a h e => by
  rw [List.getElem?_append_left h] at e; exact e
/-- the places of the call are let go: they stand as trees -/
theorem RS.drop {P F F' : Hp} {io m : List Addr} {s0 s1 : Store} {H0 H' : Hp} (h0 : RS K T P F io s0 H0) (l : ∀ a u, F a = some u → F' a = some u) (h1 : RS K T P F' (io ++ m) s1 H') (k : Kept s0.length s0 s1) :
    ∃ F'', (∀ a u, F' a = some u → F'' a = some u) ∧ (∀ a, a ∈ m → F'' a = H' a) ∧ (∀ a, a ∉ m → F'' a = F' a) ∧ RS K T P F'' io (s1.take s0.length) H' := by
  classical
  have nd := h1.nd
  rw [List.nodup_append] at nd
  obtain ⟨nd1, nd2, nd3⟩ := nd
  refine ⟨fun a => if a ∈ m then H' a else F' a, fun a u e => ?_, fun a ha => by simp [ha], fun a ha => by simp [ha], ?_⟩
  · have : a ∉ m := fun hm => by rw [h1.dis a (List.mem_append_right _ hm)] at e; cases e
    simp [this, e]
  · have fm : ∀ a u, F' a = some u → (fun a => if a ∈ m then H' a else F' a) a = some u := fun a u e => by
      have : a ∉ m := fun hm => by rw [h1.dis a (List.mem_append_right _ hm)] at e; cases e
      simp [this, e]
    refine ⟨?_, nd1, fun a u e => ?_, fun a ha => ?_, fun n c e => ?_, fun a o e => ?_⟩
    · rw [List.length_take, h1.len, h0.len]; simp
    · by_cases hm : a ∈ m
      · simpa [hm] using e
      · simp [hm] at e; exact h1.sub a u e
    · have : a ∉ m := fun hm => nd3 a ha a hm rfl
      simp [this]
      exact h1.dis a (List.mem_append_left _ ha)
    · have hn : n < s0.length := by
        have := (List.getElem?_eq_some_iff.mp e).1
        rw [List.length_take] at this; omega
      rw [List.getElem?_take_of_lt hn] at e
      obtain ⟨a, o, e1, e2, e3⟩ := h1.cell n c e
      have hz : lb s0.length c = true := by
        rcases k n hn with q | ⟨c', q1, q2⟩
        · rw [q] at e
          obtain ⟨_, _, _, _, q3⟩ := h0.cell n c e
          rw [h0.len]; exact q3.lb
        · rw [e] at q1; cases q1; exact q2
      have hi : ∀ (n : Nat) (a : Addr), n < s0.length → (io ++ m)[n]? = some a → io[n]? = some a := fun n a h => take_old n a (by rw [← h0.len]; exact h)
      refine ⟨a, o, hi n a hn e1, e2, (RO.cut hi hz e3).mono ⟨fm, [], by simp⟩⟩
    · obtain ⟨k1, k2, k3⟩ := h1.kept a o e
      have : a ∉ m := fun hm => k3 (List.mem_append_right _ hm)
      exact ⟨k1, by simp [this, k2], fun ha => k3 (List.mem_append_left _ ha)⟩
theorem finV_ok : FinOk K T finV := fun P F F' io io' s0 s1 H0 H' x v W Q h0 l h1 r hp => by
  unfold finV at hp
  split at hp
  · rename_i hk
    obtain ⟨m, rfl⟩ := l.im
    obtain ⟨F'', fm, f1, f2, hS⟩ := h0.drop l.fm h1 hk.1
    have le : Le F io F'' io := ⟨fun a u e => fm a u (l.fm a u e), [], by simp⟩
    have hi : ∀ (n : Nat) (a : Addr), n < s0.length → (io ++ m)[n]? = some a → io[n]? = some a := fun n a h => take_old n a (by rw [← h0.len]; exact h)
    have lm : Le F' io F'' io := ⟨fm, [], by simp⟩
    have plain : ∀ {x : PV}, lb s0.length x = true → R K T F' (io ++ m) x v → R K T F'' io x v := fun hz r => (R.cut hi _ _ hz r).mono lm
    cases x with
    | loc n =>
      cases r with
      | @loc a _ e =>
        simp only at hp
        split at hp
        · rename_i hn
          exact hp.ok_of le (.loc (hi n _ hn e)) hS
        · rename_i hn
          split at hp
          · rename_i c hc
            split at hp
            · rename_i hz
              obtain ⟨o, e2, e3⟩ := h1.loc e hc
              have hm : a ∈ m := by
                have hnl : ¬ n < io.length := by rw [← h0.len]; exact hn
                rw [List.getElem?_append_right (by omega)] at e
                exact List.mem_of_getElem? e
              exact hp.ok_of le (((RO.cut hi hz e3).mono lm).tree (by rw [f1 _ hm]; exact e2)) hS
            · exact hp.elim
          · exact hp.elim
    | _ =>
      simp only at hp
      split at hp
      · rename_i hz
        exact hp.ok_of le (plain hz r) hS
      · exact hp.elim
  · exact hp.elim
theorem finL_ok : FinOk K T finL := fun P F F' io io' s0 s1 H0 H' x v W Q h0 l h1 r hp => by
  classical
  unfold finL at hp
  split at hp
  · rename_i hk
    obtain ⟨m, rfl⟩ := l.im
    cases x with
    | loc n =>
      cases r with
      | @loc a _ e =>
        simp only at hp
        split at hp
        · exact hp.elim
        · rename_i hn
          split at hp
          · rename_i xs hc
            split at hp
            · rename_i hz
              obtain ⟨F'', fm, f1, f2, hS⟩ := h0.drop l.fm h1 hk.1
              obtain ⟨o, e2, e3⟩ := h1.loc e hc
              have hi : ∀ (n : Nat) (a : Addr), n < s0.length → (io ++ m)[n]? = some a → io[n]? = some a := fun n a h => take_old n a (by rw [← h0.len]; exact h)
              have hm : a ∈ m := by
                have hnl : ¬ n < io.length := by rw [← h0.len]; exact hn
                rw [List.getElem?_append_right (by omega)] at e
                exact List.mem_of_getElem? e
              have nd := h1.nd
              rw [List.nodup_append] at nd
              obtain ⟨nd1, nd2, nd3⟩ := nd
              have nio : a ∉ io := fun h => nd3 a h a hm rfl
              have fa : F' a = none := h1.dis a (List.mem_append_right _ hm)
              -- the list's own place is kept; the others are trees
              have G : ∀ b u, F' b = some u → (fun b => if b = a then none else F'' b) b = some u := fun b u hb => by
                have : b ≠ a := fun e => by subst e; rw [fa] at hb; cases hb
                simp [this, fm b u hb]
              have lm : Le F' io (fun b => if b = a then none else F'' b) (io ++ [a]) := ⟨G, [a], rfl⟩
              have le : Le F io (fun b => if b = a then none else F'' b) (io ++ [a]) := ⟨fun b u hb => G b u (l.fm b u hb), [a], rfl⟩
              have i1 : (io ++ [a])[s0.length]? = some a := by rw [h0.len]; simp
              refine hp.ok_of le (.loc i1) ⟨?_, ?_, fun b u hb => ?_, fun b hb => ?_, fun k c hc' => ?_, fun b o' hb => ?_⟩
              · have := hS.len; simp only [List.length_append, List.length_cons, List.length_nil, this]
              · rw [List.nodup_append]; exact ⟨nd1, by simp, fun b hb c hcc eqq => by simp at hcc; subst hcc; subst eqq; exact nio hb⟩
              · by_cases hba : b = a
                · simp [hba] at hb
                · simp [hba] at hb; exact hS.sub b u hb
              · by_cases hba : b = a
                · simp [hba]
                · simp [hba]
                  have : b ∈ io := by simpa [hba] using hb
                  exact hS.dis b this
              · by_cases hk' : k < s0.length
                · have hkt : k < (s1.take s0.length).length := by rw [hS.len, ← h0.len]; exact hk'
                  rw [List.getElem?_append_left hkt] at hc'
                  obtain ⟨b, o', q1, q2, q3⟩ := hS.cell k c hc'
                  refine ⟨b, o', by rw [List.getElem?_append_left (by rw [← h0.len]; exact hk')]; exact q1, q2, ?_⟩
                  have hz' : lb s0.length c = true := by rw [h0.len]; exact q3.lb
                  have e1 : s1[k]? = some c := by rw [List.getElem?_take_of_lt hk'] at hc'; exact hc'
                  obtain ⟨b2, o2, q4, q5, q6⟩ := h1.cell k c e1
                  have : b2 = b := by have := hi k b2 hk' q4; rw [q1] at this; exact (Option.some.inj this).symm
                  subst this
                  rw [q2] at q5; cases q5
                  exact (RO.cut hi hz' q6).mono lm
                · have hlen : (s1.take s0.length).length = s0.length := by rw [hS.len, ← h0.len]
                  have hk2 := (List.getElem?_eq_some_iff.mp hc').1
                  have : k = s0.length := by
                    rw [List.length_append, hlen] at hk2
                    simp at hk2; omega
                  subst this
                  rw [List.getElem?_append_right (by omega), hlen] at hc'
                  simp at hc'
                  subst hc'
                  exact ⟨a, o, i1, e2, (RO.cut hi (by simpa using hz) e3).mono lm⟩
              · obtain ⟨k1, k2, k3⟩ := h1.kept b o' hb
                obtain ⟨j1, j2, j3⟩ := hS.kept b o' hb
                refine ⟨k1, by by_cases hba : b = a <;> simp [hba, j2], fun hb' => ?_⟩
                rcases List.mem_append.mp hb' with hb' | hb'
                · exact j3 hb'
                · simp at hb'; subst hb'; exact k3 (List.mem_append_right _ hm)
            · exact hp.elim
          · exact hp.elim
    | _ => exact hp.elim
  · exact hp.elim
theorem finX_ok {P F F' : Hp} {io io' : List Addr} {s0 s1 : Store} {H0 H' : Hp} {e : PV} {cls : Value} {d : Option Addr} {rel : Hp → List Addr → PV → V → Prop} {W : Value → Option Addr → Hp → Prop} {Q : VK}
    (h0 : RS K T P F io s0 H0) (l : Le F io F' io') (h1 : RS K T P F' io' s1 H') (r : RX K T F' io' e cls d) (hp : Post K T P (rV K T) W F io (finX s0 e s1) Q) : W cls d H' := by
  unfold finX at hp
  split at hp
  · rename_i hk
    obtain ⟨m, rfl⟩ := l.im
    obtain ⟨F'', fm, f1, f2, hS⟩ := h0.drop l.fm h1 hk.1
    have le : Le F io F'' io := ⟨fun a u e => fm a u (l.fm a u e), [], by simp⟩
    have hi : ∀ (n : Nat) (a : Addr), n < s0.length → (io ++ m)[n]? = some a → io[n]? = some a := fun n a h => take_old n a (by rw [← h0.len]; exact h)
    obtain ⟨c, vs, rfl, e2, h⟩ := r
    refine hp F'' io cls d H' le ⟨c, vs, rfl, e2, fun hn => ?_⟩ hS
    obtain ⟨dd, fv, h1, h2, h3, h4⟩ := h hn
    exact ⟨dd, fv, h1, fm _ _ h2, h3, (Rs.cut hi _ _ (by simpa using hk.2.2) h4).mono ⟨fm, [], by simp⟩⟩
  · exact hp.elim
end

/-! ### what a def promises -/
def spM (K : PySem.W.Frag) (T : Tb) (n : Nat) (m : ON) : Sp := fun vs H Q E => vs.length = n ∧ ∃ P F io xs s, Rs K T F io xs vs ∧ RS K T P F io s H ∧ Post K T P (rV K T) E F io (m xs s) Q
theorem RE.start {K : PySem.W.Frag} {T : Tb} [NoGh T] {F : Hp} {io : List Addr} {N : List Str} {xs : List PV} {vs : List V} (r : Rs K T F io xs vs) : RE K T F io (xs.map some ++ List.replicate (N.length - xs.length) none) (L2.start N vs) := by
  refine ⟨by simp [L2.start, r.length], fun i x h => ?_, NoGh.free _ _ _⟩
  by_cases hi : i < xs.length
  · rw [List.getElem?_append_left (by simpa using hi), List.getElem?_map] at h
    cases e : xs[i]? with
    | none => rw [e] at h; cases h
    | some y =>
      rw [e] at h
      cases h
      obtain ⟨v, h1, h2⟩ := r.get e
      refine ⟨v, ?_, h2⟩
      unfold L2.start
      rw [List.getElem?_append_left (by simpa using (List.getElem?_eq_some_iff.mp h1).1), List.getElem?_map, h1]
      rfl
  · rw [List.getElem?_append_right (by simpa using hi), List.getElem?_replicate] at h
    split at h <;> cases h
section
variable {P : Program} {w : World} {K : PySem.W.Frag} {mg : Str → Option Value} {base : Heap} {x qual : Str} {params : Arguments} {body : List Stmt} {scope : Scope} {dvs : List V} {kws : List (Str × V)} {f : Addr} {fd : FuncData} {T : Tb}
abbrev cxB (P : Program) (w : World) (K : PySem.W.Frag) (mg : Str → Option Value) (base : Heap) (N : List Str) (qual : Str) (scope : Scope) (f : Addr) (cdv : Value) (A : Around) (outer : List PySem.Env) (s : Shared) (H : Hp) (E : XK) : Cx :=
  cxOf (L2.CX P w) P w K mg base N qual scope f cdv A outer s H E
/-- a def keeps its promise: its body does what the plain body does -/
theorem fn_ok [NoGh T] {N ps : List Str} {k n : Nat} {fin : Store → PV → Store → Res PV} {mb : SM} (F : FunD K x qual params body scope dvs kws f fd) (S : FnScope N ps scope) (hf : FinOk K T fin) (hn : n = N.length)
    (hbody : ∀ (cdv : Value) (A : Around) (outer : List PySem.Env) (s : Shared) (H : Hp) (E : XK), Room k (A.deeper (envOfC qual scope s.heap.objs.size f cdv)) →
      PSs (cxB P w K mg base N qual scope f cdv A outer s H E) body (tS K T (fun c d _ H' => E c d H') mb)) : FnOk P w K mg base (L2.CX P w) (k + 1) f fd ps (spM K T ps.length (runDef fin n mb)) := by
  subst hn
  refine F.ok S (fun vs H Q E h => h.1) fun cdv A outer s H vs Q E hr ⟨hlen, P', F', io, xs, st, rxs, hS, hp⟩ => ⟨_, hbody cdv A outer s H E hr, ?_⟩
  refine ⟨P', F', io, _, st, RE.start (N := N) rxs, hS, ?_⟩
  unfold runDef at hp
  cases hb : mb (xs.map some ++ List.replicate (N.length - xs.length) none) st with
  | ok r s1 =>
    obtain ⟨e1, fl⟩ := r
    rw [hb] at hp
    cases fl with
    | ret v => exact fun F1 io1 u H1 l1 r1 hS1 => hf P' F' F1 io io1 st s1 H H1 v u E Q hS l1 hS1 r1 hp
    | next => exact fun F1 io1 σ H1 l1 hE1 hS1 => hf P' F' F1 io io1 st s1 H H1 .non .non E Q hS l1 hS1 .non hp
    | brk => exact hp.elim
    | cont => exact hp.elim
  | exc e s1 => rw [hb] at hp; exact fun F1 io1 cls d σ H1 l1 r1 hS1 => finX_ok (rel := rV K T) hS l1 hS1 r1 hp
  | stuck => rw [hb] at hp; exact hp.elim
end

/-! ### calls -/
/-- how a call of this form binds: n by position, ks by name -/
structure CallS (K : PySem.W.Frag) (T : Tb) (fd : FuncData) (ps : List Str) (n : Nat) (ks : List Str) (gP : List PV → List PV → List PV) : Prop where
  ex : ∃ g gV, KBn K fd ps n ks g gV ∧ ∀ (F : Hp) (io : List Addr) (vs zs : List PV) (us ws : List V), Rs K T F io vs us → Rs K T F io zs ws → us.length = n → ws.length = ks.length → Rs K T F io (gP vs zs) (gV us ws) ∧ (gV us ws).length = ps.length
/-- a function of the text, as it may be called: k deep at most -/
structure FnS (P : Program) (w : World) (K : PySem.W.Frag) (mg : Str → Option Value) (base : Heap) (T : Tb) (k : Nat) (f : Addr) (n : Nat) (ks : List Str) (h : List PV → List PV → Store → Res PV) : Prop where
  ex : ∃ fd ps m gP, FnOk P w K mg base (L2.CX P w) k f fd ps (spM K T ps.length m) ∧ CallS K T fd ps n ks gP ∧ h = fun vs zs s => m (gP vs zs) s
section
variable {X : Cx} {T : Tb} {W : WX} {k n : Nat} {f C : Addr} {ks : List Str} {h : List PV → List PV → Store → Res PV} {x m : Str} {p pos apos : Pos} {e o : Expr} {es : List Expr} {kws : List Keyword} {ma mk : AM} {mo : EM}
theorem run_fnS' {fd : FuncData} {ps : List Str} {sp : Sp} {g : List Value → List Value → List Value} {gV : List V → List V → List V} {pins : List (Addr × Obj)} {σ : L2.St} {H : Hp} {s : Shared} {Q : VK} {E : XK} {us ws : List Value} {vs zs : List V}
    (F : FnOk X.prog X.w X.K X.mg X.base (L2.CX X.prog X.w) k f fd ps sp) (hr : Room k X.A) (hb : KBn X.K fd ps n ks g gV) (hx : PassesAt (L2.CX X.prog X.w) X σ E)
    (I : Inv X pins σ H s) (r : Vals vs us) (rz : Vals zs ws) (l1 : vs.length = n) (l2 : zs.length = ks.length) (h : sp (gV vs zs) H Q E) : wpAny (model X.prog X.w) X.A (call (.ref f) us (ks.zip ws)) (EP X pins σ Q) X.xe s := by
  have r2 := hb.rel r rz
  refine wpAny_call (codeAny_mono (F.run X.A X.stack s H ⟨us, ks.zip ws⟩ (g us ws) (gV vs zs) Q E hr I.env0 (hb.to s us ws I.kIn (r.length.symm.trans l1) (rz.length.symm.trans l2)) r2 h) fun r s' hq => ?_)
  cases r with
  | error e => exact hx pins H s e s' I hq
  | ok fl =>
    cases fl with
    | ret u => exact I.after hq
    | next => exact False.elim hq
    | brk => exact False.elim hq
    | cont => exact False.elim hq
/-- a call by values -/
theorem call_val {pins : List (Addr × Obj)} {σ : L2.St} {H : Hp} {s : Shared} {Q : VK} {us ws : List Value} {vs zs : List V} {P F : Hp} {io : List Addr} {xs ys : List PV} {st : Store}
    (G : FnS X.prog X.w X.K X.mg X.base T k f n ks h) (hr : Room k X.A) (tk : Takes X W) (I : Inv X pins σ H s) (r : Vals vs us) (rz : Vals zs ws) (l1 : vs.length = n) (l2 : zs.length = ks.length)
    (rx : Rs X.K T F io xs vs) (ry : Rs X.K T F io ys zs) (hS : RS X.K T P F io st H) (hp : Post X.K T P (rV X.K T) (fun c d H' => W c d σ H') F io (h xs ys st) Q) : wpAny (model X.prog X.w) X.A (call (.ref f) us (ks.zip ws)) (EP X pins σ Q) X.xe s := by
  obtain ⟨fd, ps, m, gP, F1, ⟨g, gV, kb, rel⟩, rfl⟩ := G.ex
  have r3 := rel F io xs ys vs zs rx ry l1 l2
  exact run_fnS' F1 hr kb (E := fun c d H' => W c d σ H') (passAt tk σ) I r rz l1 l2 ⟨r3.2, P, F, io, _, st, r3.1, hS, hp⟩
/-- the values of the keywords -/
theorem mk_nil : PK X [] (tL X.K T W aNil) := ⟨fun pos pins s σ H Q I ⟨P, F, io, en, st, hE, hS, hp⟩ => pk_nil.run pos pins s σ H Q I (hp.ok_of Le.refl .nil hS)⟩
theorem mk_cons {nm : Option Str} {kpos : Pos} {ma : EM} {mr : AM} (ha : PE X e (tE X.K T W ma)) (hr : PK X kws (tL X.K T W mr)) : PK X (⟨nm, e, kpos⟩ :: kws) (tL X.K T W (aCons ma mr)) := by
  refine ⟨fun pos pins s σ H Q I ⟨P, F, io, en, st, hE, hS, hp⟩ => (pk_cons ha hr).run pos pins s σ H Q I ?_⟩
  refine tE_use hE hS hp fun v H1 F1 io1 x s1 hE1 rx hS1 l1 hp1 => ?_
  refine tL_use hE1 hS1 hp1 fun vs H2 F2 io2 xs s2 hE2 rxs hS2 l2 hp2 => ?_
  exact hp2.ok_of Le.refl (.cons (rx.mono l2) rxs) hS2
theorem Post.withLen {K : PySem.W.Frag} {P F : Hp} {io : List Addr} {Wz : Value → Option Addr → Hp → Prop} {m : AM} {σ : Env} {s : Store} {n : Nat} {Q : List V → Hp → Prop} (h : Post K T P (rL K T) Wz F io (m σ s) Q) (hl : LenA m n) : Post K T P (rL K T) Wz F io (m σ s) fun vs H => vs.length = n ∧ Q vs H := by
  cases e : m σ s with
  | ok xs s1 =>
    rw [e] at h
    exact fun F1 io1 vs H1 l1 r1 hS1 => ⟨by rw [← r1.length, hl _ _ _ _ e], h F1 io1 vs H1 l1 r1 hS1⟩
  | exc x s1 => rw [e] at h; exact h
  | stuck => rw [e] at h; exact h
/-- f(e, .., k = v, ..) -/
theorem me_call (G : FnS X.prog X.w X.K X.mg X.base T k f n ks h) (hr : Room k X.A) (tk : Takes X W) (hg : Gl X x) (hm : X.mg x = some (.ref f)) (hk : PySem.W.keepIn X.K (.ref f) = true)
    (ha : PA X (e :: es) (tL X.K T W ma)) (la : LenA ma n) (hkw : PK X kws (tL X.K T W mk)) (lk : LenA mk ks.length) (hall : (backToKw pos (keywordEach kws X.env)).all (·.1.isSome) = true := by rfl) (hks : (backToKw pos (keywordEach kws X.env)).filterMap (·.1) = ks := by rfl)
    (hdb : (x == ("__debug__" : Str)) = false := by decide) (he : starEach (e :: es) X.env = (false, eval e X.env) :: starEach es X.env := by rfl)
    (hpl : ((backTo pos (starEach (e :: es) X.env)).any (·.1) || (backToKw pos (keywordEach kws X.env)).any (·.1.isNone)) = false := by rfl) : PE X (.Call (.Name x p) (e :: es) kws pos) (tE X.K T W (eCallK h ma mk)) := by
  refine ⟨fun pins s σ H Q I ⟨P, F, io, en, st, hE, hS, hp⟩ => ?_⟩
  refine wpAny_Call_Name_kw (ld_glob I hg hm ?_ hdb)
  refine PySem.W.callWith_KW (h₀ := X.base) I.ok.mod.kin hk hall (thn (ha.run pos pins s σ H _ I ⟨P, F, io, en, st, hE, hS, (Post.bind (rel := rL X.K T) hp).withLen la⟩) fun us s1 ⟨vs, H1, I1, r, l1, F1, io1, xs, st1, le1, rx, hS1, hp1⟩ => ?_) hpl he
  refine thn (hkw.run pos pins s1 σ H1 _ I1 ⟨P, F1, io1, en, st1, hE.mono le1, hS1, (Post.bind (rel := rL X.K T) hp1).withLen lk⟩) fun ws s2 ⟨zs, H2, I2, rz, l2, F2, io2, ys, st2, le2, ry, hS2, hp2⟩ => ⟨I2.kIn, ?_⟩
  rw [hks]
  exact call_val G hr tk I2 r rz l1 l2 (rx.mono le2) ry hS2 hp2
/-- f(), f(k = v, ..) -/
theorem me_call0 (G : FnS X.prog X.w X.K X.mg X.base T k f 0 ks h) (hr : Room k X.A) (tk : Takes X W) (hg : Gl X x) (hm : X.mg x = some (.ref f)) (hk : PySem.W.keepIn X.K (.ref f) = true)
    (hkw : PK X kws (tL X.K T W mk)) (lk : LenA mk ks.length) (hall : (backToKw pos (keywordEach kws X.env)).all (·.1.isSome) = true := by rfl) (hks : (backToKw pos (keywordEach kws X.env)).filterMap (·.1) = ks := by rfl)
    (hdb : (x == ("__debug__" : Str)) = false := by decide)
    (hpl : ((backTo pos (starEach [] X.env)).any (·.1) || (backToKw pos (keywordEach kws X.env)).any (·.1.isNone)) = false := by rfl) : PE X (.Call (.Name x p) [] kws pos) (tE X.K T W (eCallK h aNil mk)) := by
  refine ⟨fun pins s σ H Q I ⟨P, F, io, en, st, hE, hS, hp⟩ => ?_⟩
  refine wpAny_Call_Name_kw (ld_glob I hg hm ?_ hdb)
  refine PySem.W.callWith_KW0 (h₀ := X.base) I.ok.mod.kin hk hall ?_ hpl
  replace hp : Post X.K T P (rV X.K T) (fun c d H' => W c d σ H') F io ((mk en st).bind fun zs s2 => h [] zs s2) Q := hp
  refine thn (hkw.run pos pins s σ H _ I ⟨P, F, io, en, st, hE, hS, (Post.bind (rel := rL X.K T) hp).withLen lk⟩) fun ws s2 ⟨zs, H2, I2, rz, l2, F2, io2, ys, st2, le2, ry, hS2, hp2⟩ => ⟨I2.kIn, ?_⟩
  rw [hks]
  exact call_val (us := []) (vs := []) G hr tk I2 .nil rz rfl l2 .nil ry hS2 hp2

/-! ### a new instance -/
theorem Post.eq {K : PySem.W.Frag} {P F : Hp} {io : List Addr} {α β : Type} {rel : Hp → List Addr → α → β → Prop} {Wz : Value → Option Addr → Hp → Prop} {r r' : Res α} {Q : β → Hp → Prop} (h : Post K T P rel Wz F io r Q) (e : r = r') : Post K T P rel Wz F io r' Q := e ▸ h
theorem RS.other {K : PySem.W.Frag} {P F : Hp} {io : List Addr} {s : Store} {H : Hp} (r : RS K T P F io s H) {p : Addr} {o : HO} (hp : H p = none) : RS K T P F io s (upd H p o) := by
  refine ⟨r.len, r.nd, fun a u h => ?_, r.dis, fun n c h => ?_, fun a u h => ?_⟩
  · have := r.sub a u h
    rw [upd_ne (ne_of_none this hp)]; exact this
  · obtain ⟨a, o', e1, e2, e3⟩ := r.cell n c h
    exact ⟨a, o', e1, by rw [upd_ne (ne_of_none e2 hp)]; exact e2, e3⟩
  · obtain ⟨h1, h2, h3⟩ := r.kept a u h
    exact ⟨by rw [upd_ne (ne_of_none h1 hp)]; exact h1, h2, h3⟩
theorem new_val {c : Nat} {fin : Store → PV → Store → Res PV} (hfin : FinOk X.K T fin) {pins : List (Addr × Obj)} {σ : L2.St} {H : Hp} {s : Shared} {Q : VK} {us ws : List Value} {vs zs : List V} {P F : Hp} {io : List Addr} {xs ys : List PV} {st : Store}
    (M : Mk X.K (T.ca c) f) (G : FnS X.prog X.w X.K X.mg X.base T k f (n + 1) ks h) (hr : Room (k + 1) X.A) (tk : Takes X W) (I : Inv X pins σ H s) (r : Vals vs us) (rz : Vals zs ws) (l1 : vs.length = n) (l2 : zs.length = ks.length)
    (rx : Rs X.K T F io xs vs) (ry : Rs X.K T F io ys zs) (hS : RS X.K T P F io st H) (hp : Post X.K T P (rV X.K T) (fun c d H' => W c d σ H') F io (newOf c fin h xs ys st) Q) : wpAny (model X.prog X.w) X.A (call (.ref (T.ca c)) us (ks.zip ws)) (EP X pins σ Q) X.xe s := by
  obtain ⟨fd, ps, m, gP, F1, ⟨g, gV, kb, rel⟩, rfl⟩ := G.ex
  have n1 : H s.heap.objs.size = none := I.hok.fresh (Nat.le_refl _)
  have n2 : H (s.heap.objs.size + 1) = none := I.hok.fresh (Nat.le_succ _)
  have ne : s.heap.objs.size ≠ s.heap.objs.size + 1 := Nat.ne_of_lt (Nat.lt_succ_self _)
  have I2 := Inv.made (C := T.ca c) I
  have hS1 : RS X.K T P F io st (upd H s.heap.objs.size (.own (s.heap.objs.size + 1))) := hS.other n1
  obtain ⟨le, hS2⟩ := hS1.push (p := s.heap.objs.size + 1) (o := .ins (T.ca c) s.heap.objs.size []) (c := .ins c []) (by rw [upd_ne (Ne.symm ne)]; exact n2) (.ins (by simp) .nil)
  have rloc : R X.K T F (io ++ [s.heap.objs.size + 1]) (.loc st.length) (.ref (s.heap.objs.size + 1)) := .loc (by rw [hS.len]; simp)
  have r1 : Vals (V.ref (s.heap.objs.size + 1) :: vs) (Value.ref (s.heap.objs.size + 1) :: us) := .cons rfl r
  have r2 := kb.rel r1 rz
  have r3 := rel F (io ++ [s.heap.objs.size + 1]) (.loc st.length :: xs) ys _ zs (.cons rloc (rx.mono le)) (ry.mono le) (by simp [l1]) l2
  have hin : Post X.K T P (rV X.K T) (fun c d H' => W c d σ H') F (io ++ [s.heap.objs.size + 1]) (m (gP (.loc st.length :: xs) ys) (st ++ [.ins c []])) fun v H2 => v = .non ∧ Q (.ref (s.heap.objs.size + 1)) H2 := by
    unfold newOf at hp
    cases hm : m (gP (.loc st.length :: xs) ys) (st ++ [.ins c []]) with
    | ok z s1 =>
      simp only [hm] at hp
      intro F2 io2 v H2 l2' rz2 hS2'
      cases z with
      | non =>
        cases rz2
        exact ⟨rfl, hfin P F F2 io io2 st s1 H H2 _ _ _ Q hS (le.trans l2') hS2' (rloc.mono l2') hp⟩
      | _ => exact hp.elim
    | exc e s1 =>
      simp only [hm] at hp
      intro F2 io2 cls d H2 l2' rx2 hS2'
      exact finX_ok (rel := rV X.K T) hS (le.trans l2') hS2' rx2 hp
    | stuck => simp only [hm] at hp; exact hp.elim
  refine wpAny_call (make_map (f := f) I.kIn M.makes M.init (beq_iff_eq.mp M.fn) (codeAny_mono (F1.run _ X.stack _ _ ⟨Value.ref (s.heap.objs.size + 1) :: us, ks.zip ws⟩ (g (Value.ref (s.heap.objs.size + 1) :: us) ws) _ _ (fun c d H' => W c d σ H') (hr.make (T.ca c) us (ks.zip ws))
    (I2.env0.make (T.ca c) us (ks.zip ws)) (kb.to _ (Value.ref (s.heap.objs.size + 1) :: us) ws I2.kIn (by rw [List.length_cons, ← r.length, l1]) (rz.length.symm.trans l2)) r2 ⟨r3.2, P, F, _, _, _, r3.1, hS2, hin⟩) fun r s' hq' => ?_))
  cases r with
  | error e => exact passAt tk σ pins _ _ e s' I2 hq'
  | ok fl =>
    cases fl with
    | ret u =>
      obtain ⟨v, H', I3, rv, ev, q3⟩ := I2.after hq'
      subst ev
      exact ⟨rv, ⟨V.ref (s.heap.objs.size + 1), H', I3, rfl, q3⟩⟩
    | next => exact False.elim hq'
    | brk => exact False.elim hq'
    | cont => exact False.elim hq'
theorem me_new {c : Nat} {fin : Store → PV → Store → Res PV} (hfin : FinOk X.K T fin) (M : Mk X.K (T.ca c) f) (G : FnS X.prog X.w X.K X.mg X.base T k f (n + 1) ks h) (hr : Room (k + 1) X.A) (tk : Takes X W) (hg : Gl X x) (hm : X.mg x = some (.ref (T.ca c)))
    (ha : PA X (e :: es) (tL X.K T W ma)) (la : LenA ma n) (hkw : PK X kws (tL X.K T W mk)) (lk : LenA mk ks.length) (hall : (backToKw pos (keywordEach kws X.env)).all (·.1.isSome) = true := by rfl) (hks : (backToKw pos (keywordEach kws X.env)).filterMap (·.1) = ks := by rfl)
    (hdb : (x == ("__debug__" : Str)) = false := by decide) (he : starEach (e :: es) X.env = (false, eval e X.env) :: starEach es X.env := by rfl)
    (hpl : ((backTo pos (starEach (e :: es) X.env)).any (·.1) || (backToKw pos (keywordEach kws X.env)).any (·.1.isNone)) = false := by rfl) : PE X (.Call (.Name x p) (e :: es) kws pos) (tE X.K T W (eCallK (newOf c fin h) ma mk)) := by
  refine ⟨fun pins s σ H Q I ⟨P, F, io, en, st, hE, hS, hp⟩ => ?_⟩
  refine wpAny_Call_Name_kw (ld_glob I hg hm ?_ hdb)
  refine PySem.W.callWith_KW (h₀ := X.base) I.ok.mod.kin M.kp hall (thn (ha.run pos pins s σ H _ I ⟨P, F, io, en, st, hE, hS, (Post.bind (rel := rL X.K T) hp).withLen la⟩) fun us s1 ⟨vs, H1, I1, r, l1, F1, io1, xs, st1, le1, rx, hS1, hp1⟩ => ?_) hpl he
  refine thn (hkw.run pos pins s1 σ H1 _ I1 ⟨P, F1, io1, en, st1, hE.mono le1, hS1, (Post.bind (rel := rL X.K T) hp1).withLen lk⟩) fun ws s2 ⟨zs, H2, I2, rz, l2, F2, io2, ys, st2, le2, ry, hS2, hp2⟩ => ⟨I2.kIn, ?_⟩
  rw [hks]
  exact new_val hfin M G hr tk I2 r rz l1 l2 (rx.mono le2) ry hS2 hp2
theorem me_new0 {c : Nat} {fin : Store → PV → Store → Res PV} (hfin : FinOk X.K T fin) (M : Mk X.K (T.ca c) f) (G : FnS X.prog X.w X.K X.mg X.base T k f 1 ks h) (hr : Room (k + 1) X.A) (tk : Takes X W) (hg : Gl X x) (hm : X.mg x = some (.ref (T.ca c)))
    (hkw : PK X kws (tL X.K T W mk)) (lk : LenA mk ks.length) (hall : (backToKw pos (keywordEach kws X.env)).all (·.1.isSome) = true := by rfl) (hks : (backToKw pos (keywordEach kws X.env)).filterMap (·.1) = ks := by rfl)
    (hdb : (x == ("__debug__" : Str)) = false := by decide)
    (hpl : ((backTo pos (starEach [] X.env)).any (·.1) || (backToKw pos (keywordEach kws X.env)).any (·.1.isNone)) = false := by rfl) : PE X (.Call (.Name x p) [] kws pos) (tE X.K T W (eCallK (newOf c fin h) aNil mk)) := by
  refine ⟨fun pins s σ H Q I ⟨P, F, io, en, st, hE, hS, hp⟩ => ?_⟩
  refine wpAny_Call_Name_kw (ld_glob I hg hm ?_ hdb)
  refine PySem.W.callWith_KW0 (h₀ := X.base) I.ok.mod.kin M.kp hall ?_ hpl
  replace hp : Post X.K T P (rV X.K T) (fun c d H' => W c d σ H') F io ((mk en st).bind fun zs s2 => newOf c fin h [] zs s2) Q := hp
  refine thn (hkw.run pos pins s σ H _ I ⟨P, F, io, en, st, hE, hS, (Post.bind (rel := rL X.K T) hp).withLen lk⟩) fun ws s2 ⟨zs, H2, I2, rz, l2, F2, io2, ys, st2, le2, ry, hS2, hp2⟩ => ⟨I2.kIn, ?_⟩
  rw [hks]
  exact new_val (us := []) (vs := []) hfin M G hr tk I2 .nil rz rfl l2 .nil ry hS2 hp2

/-! ### a method's call -/
/-- the instance behind a value -/
theorem RS.inst {K : PySem.W.Frag} {P F : Hp} {io : List Addr} {s : Store} {H : Hp} {x : PV} {v : V} {c : Nat} {vs : List PV} (hS : RS K T P F io s H) (r : R K T F io x v) (e : deref s x = .ins c vs) :
    ∃ a dx fv, v = .ref a ∧ H a = some (.ins (T.ca c) dx fv) ∧ fv.map (·.1) = (T.fl c).take vs.length ∧ Rs K T F io vs (fv.map (·.2)) := by
  cases r with
  | ins h1 h2 h3 => cases e; exact ⟨_, _, _, rfl, hS.sub _ _ h1, h2, h3⟩
  | @loc a n h1 =>
    have hn : n < s.length := by rw [hS.len]; exact (List.getElem?_eq_some_iff.mp h1).1
    have ed : deref s (.loc n) = s[n] := by simp [deref, List.getD, List.getElem?_eq_getElem hn]
    obtain ⟨o, e2, e3⟩ := hS.loc h1 (List.getElem?_eq_getElem hn)
    rw [ed] at e
    rw [e] at e3
    cases e3 with
    | ins q1 q2 => exact ⟨_, _, _, rfl, e2, q1, q2⟩
  | _ => cases e
theorem lookup_none {fv : List (Str × V)} {m : Str} (h : m ∉ fv.map (·.1)) : fv.lookup m = none := by
  induction fv with
  | nil => rfl
  | cons a r ih =>
    obtain ⟨b, v⟩ := a
    simp only [List.map_cons, List.mem_cons, not_or] at h
    rw [List.lookup_cons, beq_eq_false_iff_ne.mpr h.1]
    exact ih h.2
theorem lookup_at {m : Str} {v : V} : ∀ {fv : List (Str × V)} {i : Nat}, (fv.map (·.1)).Nodup → (fv.map (·.1))[i]? = some m → (fv.map (·.2))[i]? = some v → fv.lookup m = some v
  | [], _, _, h, _ => by simp at h
  | (b, u) :: r, 0, _, h1, h2 => by
    simp at h1 h2; subst h1; subst h2
    simp [List.lookup_cons]
  | (b, u) :: r, i + 1, nd, h1, h2 => by
    simp only [List.map_cons, List.nodup_cons] at nd
    have h1' : (r.map (·.1))[i]? = some m := by simpa using h1
    have hm : m ∈ r.map (·.1) := List.mem_of_getElem? h1'
    have hb : (m == b) = false := beq_eq_false_iff_ne.mpr fun e => nd.1 (e ▸ hm)
    rw [List.lookup_cons, hb]
    exact lookup_at nd.2 h1' (by simpa using h2)
/-- what a class must have for the call of its method m: no field has this name -/
structure MthS (P : Program) (w : World) (K : PySem.W.Frag) (mg : Str → Option Value) (base : Heap) (T : Tb) (k : Nat) (c : Nat) (m : Str) (n : Nat) (ks : List Str) (h : List PV → List PV → Store → Res PV) : Prop where
  ex : ∃ f, Cls K (T.ca c) ∧ Meth K (T.ca c) m f ∧ m ∉ T.fl c ∧ FnS P w K mg base T k f (n + 1) ks h
theorem lookup_mem {α : Type} {tab : List (Nat × α)} {c : Nat} {h : α} (e : tab.lookup c = some h) : (c, h) ∈ tab := by
  induction tab with
  | nil => cases e
  | cons a r ih =>
    obtain ⟨b, u⟩ := a
    rw [List.lookup_cons] at e
    cases hb : c == b with
    | true => rw [hb] at e; cases e; rw [beq_iff_eq.mp hb]; exact List.mem_cons_self ..
    | false => rw [hb] at e; exact List.mem_cons_of_mem _ (ih e)
theorem eMeth_use {K : PySem.W.Frag} {P F : Hp} {io : List Addr} {s : Store} {H : Hp} {x : PV} {v : V} {c : Nat} (hS : RS K T P F io s H) (r : R K T F io x v) (e : clsOf s x = some c) : ∃ a dx fv, v = .ref a ∧ H a = some (.ins (T.ca c) dx fv) ∧ ∀ m, m ∉ T.fl c → fv.lookup m = none := by
  unfold clsOf at e
  cases hd : deref s x with
  | ins d vs =>
    rw [hd] at e; cases e
    obtain ⟨a, dx, fv, e1, e2, e3, _⟩ := hS.inst r hd
    exact ⟨a, dx, fv, e1, e2, fun m hm => lookup_none (by rw [e3]; exact fun q => hm (List.mem_of_mem_take q))⟩
  | _ => rw [hd] at e; cases e
section
variable {tab : List (Nat × (List PV → List PV → Store → Res PV))} {pl : Sem Bool}
/-- o.m(e, .., k = v) -/
theorem me_meth (ho : PE X o (tE X.K T W mo)) (G : ∀ q ∈ tab, MthS X.prog X.w X.K X.mg X.base T k q.1 m n ks q.2) (hr : Room k X.A) (tk : Takes X W)
    (ha : PA X (e :: es) (tL X.K T W ma)) (la : LenA ma n) (hkw : PK X kws (tL X.K T W mk)) (lk : LenA mk ks.length) (hall : (backToKw pos (keywordEach kws X.env)).all (·.1.isSome) = true := by rfl) (hks : (backToKw pos (keywordEach kws X.env)).filterMap (·.1) = ks := by rfl)
    (he : starEach (e :: es) X.env = (false, eval e X.env) :: starEach es X.env := by rfl)
    (hpl : ((backTo pos (starEach (e :: es) X.env)).any (·.1) || (backToKw pos (keywordEach kws X.env)).any (·.1.isNone)) = false := by rfl)
    (ht : eval (.Call (.Attribute o m apos) (e :: es) kws pos) X.env = (do
      let ov ← eval o X.env
      standAt apos.atName
      let (f, first) ← holding [ov] (getMethod ov m pl)
      callWith pos f first (backTo pos (starEach (e :: es) X.env)) (backToKw pos (keywordEach kws X.env))) := by rfl) :
    PE X (.Call (.Attribute o m apos) (e :: es) kws pos) (tE X.K T W (eMeth tab mo ma mk)) := by
  refine ⟨fun pins s σ H Q I ⟨P, F, io, en, st, hE, hS, hp⟩ => ?_⟩
  refine PySem.W.methodCall_KW (pl := pl) (thn (ho.run pins s σ H _ I ⟨P, F, io, en, st, hE, hS, Post.bind (rel := rV X.K T) hp⟩) fun u s1 ⟨v, H1, I1, rv, F1, io1, x, st1, l1, rx, hS1, hp1⟩ => ?_) ht
  cases hc : (clsOf st1 x).bind fun c => tab.lookup c with
  | none => exfalso; simp only [hc] at hp1; exact hp1
  | some h =>
    simp only [hc] at hp1
    obtain ⟨c, hc1, hc2⟩ := Option.bind_eq_some_iff.mp hc
    obtain ⟨f, cl, mt, hm, hf⟩ := (G _ (lookup_mem hc2)).ex
    obtain ⟨a, dx, fv, rfl, e2, e3⟩ := eMeth_use hS1 rx hc1
    obtain rfl : u = Value.ref a := rv
    refine getmeth_ok I1 e2 cl mt (e3 m hm) ?_
    refine PySem.W.callWith_KW (first := [.ref a]) (h₀ := X.base) I1.ok.mod.kin mt.kp hall (thn (ha.run pos pins s1 σ H1 _ I1 ⟨P, F1, io1, en, st1, hE.mono l1, hS1, (Post.bind (rel := rL X.K T) hp1).withLen la⟩) fun us s2 ⟨vs, H2, I2, r, ln, F2, io2, xs, st2, l2, rx2, hS2, hp2⟩ => ?_) hpl he
    refine thn (hkw.run pos pins s2 σ H2 _ I2 ⟨P, F2, io2, en, st2, (hE.mono l1).mono l2, hS2, (Post.bind (rel := rL X.K T) hp2).withLen lk⟩) fun ws s3 ⟨zs, H3, I3, rz, lz, F3, io3, ys, st3, l3, ry, hS3, hp3⟩ => ⟨I3.kIn, ?_⟩
    rw [hks]
    exact call_val (us := .ref a :: us) (vs := .ref a :: vs) hf hr tk I3 (.cons rfl r) rz (by simp [ln]) lz (.cons ((rx.mono l2).mono l3) (rx2.mono l3)) ry hS3 hp3
/-- o.m(), o.m(k = v) -/
theorem me_meth0 (ho : PE X o (tE X.K T W mo)) (G : ∀ q ∈ tab, MthS X.prog X.w X.K X.mg X.base T k q.1 m 0 ks q.2) (hr : Room k X.A) (tk : Takes X W)
    (hkw : PK X kws (tL X.K T W mk)) (lk : LenA mk ks.length) (hall : (backToKw pos (keywordEach kws X.env)).all (·.1.isSome) = true := by rfl) (hks : (backToKw pos (keywordEach kws X.env)).filterMap (·.1) = ks := by rfl)
    (hpl : ((backTo pos (starEach [] X.env)).any (·.1) || (backToKw pos (keywordEach kws X.env)).any (·.1.isNone)) = false := by rfl)
    (ht : eval (.Call (.Attribute o m apos) [] kws pos) X.env = (do
      let ov ← eval o X.env
      standAt apos.atName
      let (f, first) ← holding [ov] (getMethod ov m pl)
      callWith pos f first (backTo pos (starEach [] X.env)) (backToKw pos (keywordEach kws X.env))) := by rfl) :
    PE X (.Call (.Attribute o m apos) [] kws pos) (tE X.K T W (eMeth tab mo aNil mk)) := by
  refine ⟨fun pins s σ H Q I ⟨P, F, io, en, st, hE, hS, hp⟩ => ?_⟩
  refine PySem.W.methodCall_KW (pl := pl) (thn (ho.run pins s σ H _ I ⟨P, F, io, en, st, hE, hS, Post.bind (rel := rV X.K T) hp⟩) fun u s1 ⟨v, H1, I1, rv, F1, io1, x, st1, l1, rx, hS1, hp1⟩ => ?_) ht
  cases hc : (clsOf st1 x).bind fun c => tab.lookup c with
  | none => exfalso; simp only [hc] at hp1; exact hp1
  | some h =>
    simp only [hc] at hp1
    obtain ⟨c, hc1, hc2⟩ := Option.bind_eq_some_iff.mp hc
    obtain ⟨f, cl, mt, hm, hf⟩ := (G _ (lookup_mem hc2)).ex
    obtain ⟨a, dx, fv, rfl, e2, e3⟩ := eMeth_use hS1 rx hc1
    obtain rfl : u = Value.ref a := rv
    refine getmeth_ok I1 e2 cl mt (e3 m hm) ?_
    replace hp1 : Post X.K T P (rV X.K T) (fun c d H' => W c d σ H') F1 io1 ((mk en st1).bind fun zs s3 => h [x] zs s3) Q := hp1
    refine PySem.W.callWith_KW0 (first := [.ref a]) (h₀ := X.base) I1.ok.mod.kin mt.kp hall ?_ hpl
    refine thn (hkw.run pos pins s1 σ H1 _ I1 ⟨P, F1, io1, en, st1, hE.mono l1, hS1, (Post.bind (rel := rL X.K T) hp1).withLen lk⟩) fun ws s3 ⟨zs, H3, I3, rz, lz, F3, io3, ys, st3, l3, ry, hS3, hp3⟩ => ⟨I3.kIn, ?_⟩
    rw [hks]
    exact call_val (us := [.ref a]) (vs := [.ref a]) hf hr tk I3 (.cons rfl .nil) rz rfl lz (.cons (rx.mono l3) .nil) ry hS3 hp3
end
end
end Mir
/-! Mir, part I: attributes, items, list methods, built-ins. -/
namespace Mir
open PySem PySem.Spec PyProof.Rows L2

/-! ### attributes -/
/-- a class whose field stands at the place i -/
structure FldS (K : PySem.W.Frag) (T : Tb) (f : Str) (c i : Nat) : Prop where
  cl : Cls K (T.ca c)
  no : NoAttr K (T.ca c) f
  at_ : (T.fl c)[i]? = some f
  nd : (T.fl c).Nodup
  few : (T.fl c).length ≤ 40
section
variable {X : Cx} {T : Tb} {W : WX} {o e value : Expr} {es : List Expr} {f x : Str} {pos pos' : Pos} {mo mv : EM} {ma : AM} {tab : List (Nat × Nat)}
theorem fld_take {l : List Str} {n i : Nat} {f : Str} (h : l[i]? = some f) (hi : i < n) : (l.take n)[i]? = some f := by
  rw [List.getElem?_take_of_lt hi]; exact h
/-- o.f -/
theorem me_fld (ho : PE X o (tE X.K T W mo)) (G : ∀ q ∈ tab, FldS X.K T f q.1 q.2) (hb : attributeBase o f X.env (eval o X.env) = eval o X.env := by rfl) : PE X (.Attribute o f pos) (tE X.K T W (eFld tab mo)) := by
  refine PE.weak (pe_fld ho hb) fun σ H Q ⟨P, F, io, en, st, hE, hS, hp⟩ => ?_
  refine tE_use hE hS hp fun v H1 F1 io1 x s1 hE1 rx hS1 l1 hp1 => ?_
  cases hd : deref s1 x with
  | ins c vs =>
    simp only [hd] at hp1
    cases hl : tab.lookup c with
    | none => simp only [hl] at hp1; exact hp1.elim
    | some i =>
      simp only [hl] at hp1
      have g := G _ (lookup_mem hl)
      obtain ⟨a, dx, fv, rfl, e2, e3, r4⟩ := hS1.inst rx hd
      cases hv : vs[i]? with
      | none => rw [hv] at hp1; exact hp1.elim
      | some y =>
        rw [hv] at hp1
        obtain ⟨u, hu, ru⟩ := r4.get hv
        have hi : i < vs.length := (List.getElem?_eq_some_iff.mp hv).1
        refine ⟨a, T.ca c, dx, fv, u, rfl, e2, g.cl, g.no, lookup_at ?_ ?_ hu, hp1.ok_of Le.refl ru hS1⟩
        · rw [e3]; exact g.nd.sublist (List.take_sublist _ _)
        · rw [e3]; exact fld_take g.at_ hi
  | _ => simp only [hd] at hp1; exact hp1.elim
theorem putF_at {f : Str} {v : V} : ∀ {fs : List (Str × V)} {i : Nat}, (fs.map (·.1)).Nodup → (fs.map (·.1))[i]? = some f → (L2.putF f v fs).map (·.1) = fs.map (·.1) ∧ (L2.putF f v fs).map (·.2) = (fs.map (·.2)).set i v
  | [], _, _, h => by simp at h
  | (g, u) :: r, 0, nd, h => by
    simp at h; subst h; simp [L2.putF]
  | (g, u) :: r, i + 1, nd, h => by
    simp only [List.map_cons, List.nodup_cons] at nd
    have h' : (r.map (·.1))[i]? = some f := by simpa using h
    have hg : g ≠ f := fun e => nd.1 (e ▸ List.mem_of_getElem? h')
    obtain ⟨e1, e2⟩ := putF_at (v := v) nd.2 h'
    simp [L2.putF, hg, e1, e2]
theorem putF_new {f : Str} {v : V} : ∀ {fs : List (Str × V)}, f ∉ fs.map (·.1) → L2.putF f v fs = fs ++ [(f, v)]
  | [], _ => rfl
  | (g, u) :: r, h => by
    simp only [List.map_cons, List.mem_cons, not_or] at h
    have hg : g ≠ f := fun e => h.1 e.symm
    simp [L2.putF, hg, putF_new h.2]
theorem take_notin {l : List Str} {f : Str} {i : Nat} (nd : l.Nodup) (h : l[i]? = some f) : f ∉ l.take i := fun m => by
  obtain ⟨j, hj⟩ := List.mem_iff_getElem?.mp m
  rw [List.getElem?_take] at hj
  split at hj
  · rename_i hji
    have h1 := (List.getElem?_eq_some_iff.mp hj)
    have h2 := (List.getElem?_eq_some_iff.mp h)
    obtain ⟨a1, b1⟩ := h1
    obtain ⟨a2, b2⟩ := h2
    exact absurd (b1.trans b2.symm) (List.pairwise_iff_getElem.mp nd j i a1 a2 hji)
  · cases hj
/-- o.f = e -/
theorem ms_fld (ho : PE X o (tE X.K T W mo)) (hv : PE X value (tE X.K T W mv)) (G : ∀ q ∈ tab, FldS X.K T f q.1 q.2) (hs : swapsWith value (some (.Attribute o f pos')) pos.line X.env = pure false := by rfl) :
    PS X (.Assign [.Attribute o f pos'] value pos) (tS X.K T W (sSetF tab mo mv)) := by
  refine PS.weak (ps_fld ho hv hs) fun D σ H ⟨P, F, io, en, st, hE, hS, hp⟩ => ?_
  refine ⟨P, F, io, en, st, hE, hS, ?_⟩
  refine Post.mono (PostS.bind (rel := rV X.K T) hp) fun v H1 ⟨F1, io1, y, s1, l1, ry, hS1, hp1⟩ => ?_
  refine ⟨P, F1, io1, en, s1, hE.mono l1, hS1, ?_⟩
  refine Post.mono (PostS.bind (rel := rV X.K T) hp1) fun v2 H2 ⟨F2, io2, x, s2, l2, rx, hS2, hp2⟩ => ?_
  cases x with
  | loc n =>
    simp only at hp2
    cases hc : s2[n]? with
    | none => simp only [hc] at hp2; exact hp2.elim
    | some c0 =>
      simp only [hc] at hp2
      cases c0 with
      | ins c vs =>
        simp only at hp2
        cases hl : tab.lookup c with
        | none => simp only [hl] at hp2; exact hp2.elim
        | some i =>
          simp only [hl] at hp2
          have g := G _ (lookup_mem hl)
          cases rx with
          | @loc a _ hi =>
            obtain ⟨o2, e2, e3⟩ := hS2.loc hi hc
            cases e3 with
            | @ins dx _ _ fv q1 q2 =>
              have few : fv.length < 1000 := by
                have : fv.length = (fv.map (·.1)).length := by simp
                rw [this, q1, List.length_take]; have : (T.fl c).length ≤ 40 := g.few; omega
              refine ⟨a, T.ca c, dx, fv, rfl, e2, g.cl, g.no, few, ?_⟩
              cases hp3 : putF i y vs with
              | none => simp only [hp3] at hp2; exact hp2.elim
              | some vs' =>
                simp only [hp3] at hp2
                have ry2 := ry.mono l2
                have lenv : vs.length = fv.length := by have := q2.length; simpa using this
                have key : RO X.K T F2 io2 (.ins c vs') (.ins (T.ca c) dx (L2.putF f v fv)) := by
                  unfold putF at hp3
                  split at hp3
                  · rename_i hlt
                    cases hp3
                    obtain ⟨k1, k2⟩ := putF_at (f := f) (v := v) (fs := fv) (i := i) (by rw [q1]; exact g.nd.sublist (List.take_sublist _ _)) (by rw [q1]; exact fld_take g.at_ hlt)
                    exact .ins (by rw [k1, q1, List.length_set]) (by rw [k2]; exact q2.set ry2 i)
                  · split at hp3
                    · rename_i hlt heq
                      cases hp3
                      subst heq
                      have hn : f ∉ fv.map (·.1) := by rw [q1]; exact take_notin g.nd g.at_
                      rw [putF_new hn]
                      refine .ins ?_ ?_
                      · rw [List.map_append, q1, List.length_append]
                        simp only [List.length_cons, List.length_nil, List.map_cons, List.map_nil]
                        rw [List.take_add_one, g.at_]; rfl
                      · rw [List.map_append]; exact q2.append (.cons ry2 .nil)
                    · cases hp3
                exact hp2 F2 io2 σ _ Le.refl ((hE.mono l1).mono l2) (hS2.put hi key)
      | _ => exact hp2.elim
  | _ => exact hp2.elim

/-! ### xs[i] = e -/
variable {i : Expr} {mi : EM}
theorem ms_setI (hv : PE X value (tE X.K T W mv)) (ho : PE X o (tE X.K T W mo)) (hi : PE X i (tE X.K T W mi))
    (ha : ∀ v, assign (.Subscript o i pos') X.env v = (do
      let ov ← holding [v] (eval o X.env)
      let iv ← holding [v, ov] (eval i X.env)
      standAt pos'
      holding [v, ov, iv] (setItem ov iv v)
      release [v, ov, iv] []) := by intro _; rfl)
    (hs : swapsWithSole [.Subscript o i pos'] value pos.line X.env = pure false := by rfl) (hw : swappedStores [.Subscript o i pos'] value X.env = pure none := by rfl)
    (h1 : (assignEach [.Subscript o i pos'] X.env).map (·.2) = [assign (.Subscript o i pos') X.env] := by rfl) : PS X (.Assign [.Subscript o i pos'] value pos) (tS X.K T W (sSetI mo mi mv)) := by
  refine PS.weak (ps_asg hv (pg_sub ho hi set_list ha) hs hw h1) fun D σ H ⟨P, F, io, en, st, hE, hS, hp⟩ => ?_
  refine ⟨P, F, io, en, st, hE, hS, ?_⟩
  refine Post.mono (PostS.bind (rel := rV X.K T) hp) fun v H1 ⟨F1, io1, y, s1, l1, ry, hS1, hp1⟩ => ?_
  refine ⟨P, F1, io1, en, s1, hE.mono l1, hS1, ?_⟩
  refine Post.mono (PostS.bind (rel := rV X.K T) hp1) fun v2 H2 ⟨F2, io2, x, s2, l2, rx, hS2, hp2⟩ => ?_
  refine ⟨P, F2, io2, en, s2, (hE.mono l1).mono l2, hS2, ?_⟩
  refine Post.mono (PostS.bind (rel := rV X.K T) hp2) fun v3 H3 ⟨F3, io3, k, s3, l3, rk, hS3, hp3⟩ => ?_
  have rx3 := rx.mono l3
  cases x with
  | loc n =>
    cases k with
    | int j =>
      cases rk
      simp only at hp3
      cases hc : s3[n]? with
      | none => simp only [hc] at hp3; exact hp3.elim
      | some c0 =>
        simp only [hc] at hp3
        cases c0 with
        | lst xs =>
          simp only at hp3
          cases hm : ixP xs.length j with
          | none => simp only [hm] at hp3; exact hp3.elim
          | some m =>
            simp only [hm] at hp3
            cases rx3 with
            | @loc a _ hi =>
              obtain ⟨o2, e2, e3⟩ := hS3.loc hi hc
              cases e3 with
              | @lst _ us q =>
                refine ⟨a, us, j, m, rfl, rfl, e2, by rw [← q.length]; exact hm, ?_⟩
                exact hp3 F3 io3 σ _ Le.refl (((hE.mono l1).mono l2).mono l3) (hS3.put hi (.lst (q.set ((ry.mono l2).mono l3) m)))
        | _ => exact hp3.elim
    | _ => exact hp3.elim
  | _ => exact hp3.elim

/-! ### methods of a list -/
theorem me_mt {f : OMt} {name : Str} {id : String} {r : V → List V → Hp → VK → Prop} {apos cpos : Pos} (slot : Slot "list" name id) (hty : typeOf (.builtin id) = pure (.type "method_descriptor")) (hm : MtR X id r)
    (hw : ∀ P F io st x v vs us H Q, R X.K T F io x v → Rs X.K T F io vs us → RS X.K T P F io st H → Post X.K T P (rV X.K T) (fun _ _ _ => False) F io (noX (f x vs st)) Q → r v us H Q)
    (ho : PE X o (tE X.K T W mo)) (ha : PA X (e :: es) (tL X.K T W ma))
    (hbase : attributeBase o name X.env (eval o X.env) = eval o X.env := by rfl)
    (hfew : ((backTo cpos (starEach (e :: es) X.env)).all (fun x => !x.1) && (backToKw cpos (keywordEach [] X.env)).all (fun x => x.1.isSome)
      && decide ((e :: es).length + ([] : List Keyword).length + (if ([] : List Keyword).isEmpty then 0 else 1) < 30)) = true := by rfl)
    (hline : (apos.endLine == cpos.line) = true := by rfl) (hs : starEach (e :: es) X.env = (false, eval e X.env) :: starEach es X.env := by rfl) (hplain : (backTo cpos (starEach es X.env)).any (·.1) = false := by rfl) :
    PE X (.Call (.Attribute o name apos) (e :: es) [] cpos) (tE X.K T W (eMt f mo ma)) := by
  refine PE.weak (pe_bm F.plainAttrs_list slot hty hm ho ha hbase hfew hline hs hplain) fun σ H Q ⟨P, F, io, en, st, hE, hS, hp⟩ => ?_
  refine tE_use hE hS hp fun v H1 F1 io1 x s1 hE1 rx hS1 l1 hp1 => ?_
  cases hl : isL s1 x with
  | false => simp only [hl] at hp1; exact hp1.elim
  | true =>
    simp only [hl, if_true] at hp1
    have hd : ∃ xs, deref s1 x = .lst xs := by
      unfold isL at hl
      split at hl
      · rename_i xs e; exact ⟨xs, e⟩
      · cases hl
    obtain ⟨xs, hd⟩ := hd
    obtain ⟨a, vs, rfl, hq, _⟩ := hS1.list rx hd
    refine ⟨.inl ⟨rfl, vs, .of hq⟩, ?_⟩
    refine tL_use hE1 hS1 hp1 fun us H2 F2 io2 ys s2 hE2 ry hS2 l2 hp2 => ?_
    exact hw P F2 io2 s2 x _ ys us H2 Q (rx.mono l2) ry hS2 (Post.noX hp2)
theorem smt_append {K : PySem.W.Frag} : ∀ P F io st x v vs us H Q, R K T F io x v → Rs K T F io vs us → RS K T P F io st H → Post K T P (rV K T) (fun _ _ _ => False) F io (noX (mAppend x vs st)) Q → rAppend v us H Q := by
  intro P F io st x v vs us H Q rx rv hS hp
  unfold mAppend at hp
  split at hp
  · rename_i n y
    cases rv with
    | cons ry rn =>
      cases rn
      cases rx with
      | @loc a _ hi =>
        split at hp
        · rename_i xs hc
          split at hp
          · rename_i hz
            obtain ⟨o2, e2, e3⟩ := hS.loc hi hc
            cases e3 with
            | @lst _ us q => exact ⟨a, us, _, rfl, rfl, e2, by rw [← q.length]; exact hz, hp.ok_of Le.refl .non (hS.put hi (.lst (q.append (.cons ry .nil))))⟩
          · exact hp.elim
        · exact hp.elim
  · exact hp.elim
theorem smt_extend {K : PySem.W.Frag} : ∀ P F io st x v vs us H Q, R K T F io x v → Rs K T F io vs us → RS K T P F io st H → Post K T P (rV K T) (fun _ _ _ => False) F io (noX (mExtend x vs st)) Q → rExtend v us H Q := by
  intro P F io st x v vs us H Q rx rv hS hp
  unfold mExtend at hp
  split at hp
  · rename_i n y
    cases rv with
    | cons ry rn =>
      cases rn
      cases rx with
      | @loc a _ hi =>
        split at hp
        · rename_i xs ys hc hd
          split at hp
          · rename_i hz
            obtain ⟨o2, e2, e3⟩ := hS.loc hi hc
            cases e3 with
            | @lst _ us q =>
              obtain ⟨b, ws, e6, e7, q2⟩ := hS.list ry hd
              subst e6
              exact ⟨a, b, us, ws, rfl, rfl, e2, e7, by rw [← q.length, ← q2.length]; exact hz, hp.ok_of Le.refl .non (hS.put hi (.lst (q.append q2)))⟩
          · exact hp.elim
        · exact hp.elim
  · exact hp.elim
theorem smt_pop {K : PySem.W.Frag} : ∀ P F io st x v vs us H Q, R K T F io x v → Rs K T F io vs us → RS K T P F io st H → Post K T P (rV K T) (fun _ _ _ => False) F io (noX (mPop x vs st)) Q → rPopAt v us H Q := by
  intro P F io st x v vs us H Q rx rv hS hp
  unfold mPop at hp
  split at hp
  · rename_i n j
    cases rv with
    | cons ry rn =>
      cases rn
      cases ry
      cases rx with
      | @loc a _ hi =>
        split at hp
        · rename_i xs hc
          split at hp
          · rename_i hz
            obtain ⟨o2, e2, e3⟩ := hS.loc hi hc
            cases e3 with
            | @lst _ us q =>
              cases hx : xs[j.toNat]? with
              | none => rw [hx] at hp; exact hp.elim
              | some y =>
                rw [hx] at hp
                obtain ⟨u, hu, ru⟩ := q.get hx
                have hlt := (List.getElem?_eq_some_iff.mp hu).1
                refine ⟨a, us, j, j.toNat, u, rfl, rfl, e2, by omega, by omega, ?_, hu, hp.ok_of Le.refl ru (hS.put hi (.lst (q.eraseIdx _)))⟩
                exact seqIndex_of hz.1 (by omega)
          · exact hp.elim
        · exact hp.elim
  · exact hp.elim
end
end Mir
/-! Mir, part P: enumerate of a tuple. -/
namespace PySem
open Sem (wp)
open AutoSeq1 (wpAny_loadPart')
theorem mir_enumerate_newT (l : Addr) (items : Array Value) (n : Nat) (dct : Option Addr) (sl : Array (Option Value)) :
    Meets (Builtin.«enumerate.__new__» ⟨[.type "enumerate", .ref l], []⟩) (fun _ R s => s.heap.get? l = some { cls := .type "tuple", dict := dct, data := .seq items n, slots := sl } ∧
      R (.ok (.ret (.ref (s.heap.push { cls := .type "tuple_iterator", data := .fields #[.ref l, .int 0 0] }).objs.size)))
        { s with heap := (s.heap.push { cls := .type "tuple_iterator", data := .fields #[.ref l, .int 0 0] }).push { cls := .type "enumerate", data := .fields #[.none, .bool false, .ref s.heap.objs.size, rawInt 0, .none, .none] } }) :=
  .of_wp fun prog w A R s h => by
    obtain ⟨hp, g, d, tk, os⟩ := s; obtain ⟨hl, h⟩ := h
    have hsub := sub_enumerate
    have hL : Heap.IsTuple (Shared.heap ⟨hp, g, d, tk, os⟩) l items := ⟨_, hl, rfl, n, rfl⟩
    wp_walk using wpAny_loadPart' hl
    refine wpAny_stack_any fun st => wpAny_pure ?_
    split
    · rename_i c _ _ _ _ _
      cases (c == Value.type "enumerate")
      · wp_walk using wpAny_loadPart' hl, wpAny_pyIter_tuple hL
        exact ⟨_, rfl, h⟩
      · wp_walk using wpAny_loadPart' hl, wpAny_pyIter_tuple hL
        exact ⟨_, rfl, h⟩
    · wp_walk using wpAny_loadPart' hl, wpAny_pyIter_tuple hL
      exact ⟨_, rfl, h⟩
end PySem
namespace PySem
section
variable {prog : Program} {w : World} {A : Around} {E : Value → Shared → Prop} {s : Shared}
theorem mir_call_enumerate_tuple {l : Addr} {items : Array Value} {Q : Value → Shared → Prop} (hL : s.heap.IsTuple l items)
    (h : ∀ h', IsEnum h' (s.heap.objs.size + 1) s.heap.objs.size 0 .none → h'.IsTupleIter s.heap.objs.size l 0 → h'.objs.size = s.heap.objs.size + 2 →
      (∀ b o, s.heap.get? b = some o → h'.get? b = some o) → Q (.ref (s.heap.objs.size + 1)) { s with heap := h' }) :
    wpAny (model prog w) A (call (.type "enumerate") [.ref l]) Q E s := by
  obtain ⟨⟨c, dct, dt, sl⟩, hl, hc, n, hd⟩ := hL
  replace hc : c = .type "tuple" := hc
  replace hd : dt = .seq items n := hd
  subst hc hd
  refine callType_new F.called_enumerate (by decide) (F.typeCall_enumerate_1 _) (F.newCall_enumerate_1 _) (fun obj => F.args_object_init_2 obj _) F.entry_enumerate_new
    (mir_enumerate_newT l items n dct sl) ⟨hl, ?_⟩
  have hz : (s.heap.push { cls := .type "tuple_iterator", data := .fields #[.ref l, .int 0 0] }).objs.size = s.heap.objs.size + 1 := Heap.size_push ..
  show _ ∧ _
  rw [hz]
  have he : IsEnum ((s.heap.push { cls := .type "tuple_iterator", data := .fields #[.ref l, .int 0 0] }).push
      { cls := .type "enumerate", data := .fields #[.none, .bool false, .ref s.heap.objs.size, rawInt 0, .none, .none] }) (s.heap.objs.size + 1) s.heap.objs.size 0 .none := by
    have := Heap.get?_push_size (s.heap.push { cls := .type "tuple_iterator", data := .fields #[.ref l, .int 0 0] })
      (o := { cls := .type "enumerate", data := .fields #[.none, .bool false, .ref s.heap.objs.size, rawInt 0, .none, .none] }) rfl
    rw [hz] at this; exact this
  refine ⟨⟨_, he, rfl⟩, h _ he ⟨_, Heap.get?_push_of_some _ (Heap.get?_push_size _ rfl), rfl, rfl⟩ (by rw [Heap.size_push, hz]) fun b o x => Heap.get?_push_of_some _ (Heap.get?_push_of_some _ x)⟩
end
end PySem
namespace Mir
open PySem PySem.Spec PyProof.Rows L2
def Itet (K : PySem.W.Frag) (a : Addr) : It :=
  ⟨fun i H => ∃ (xs : List V) (x : V), SqT K H a xs ∧ xs[i]? = some x, fun i H v H' => ∃ T x, v = .ref T ∧ H T = none ∧ H' = upd H T (.tup [.int (i : Nat), x]) ∧ ∀ xs, SqT K H a xs → xs[i]? = some x, fun i H => ∃ xs : List V, SqT K H a xs ∧ xs.length ≤ i⟩
theorem tup_ne {h : Heap} {a e : Addr} {its : Array Value} {it : Addr} {i : Int} {old : Value} (p : h.IsTuple a its) (he : PySem.IsEnum h e it i old) : e ≠ a := fun z => by
  subst z
  obtain ⟨o, ho, hc, _⟩ := p
  have : h.get? e = _ := he
  rw [ho] at this
  cases this
  simp at hc
theorem tup_ne2 {h : Heap} {a it : Addr} {its : Array Value} {t : Addr} {i : Nat} (p : h.IsTuple a its) (hi : h.IsTupleIter it t i) : a ≠ it := fun z => by
  subst z
  obtain ⟨o, ho, hc, _⟩ := p
  obtain ⟨o', ho', hc', _⟩ := hi
  rw [ho] at ho'
  cases ho'
  rw [hc] at hc'
  simp at hc'
theorem enum_endT {prog : Program} {w : World} {A : Around} {E : Value → Shared → Prop} {s : Shared} {e it a : Addr} {j : Nat} {i : Int} {old : Value} {items : Array Value} {Q : Option Value → Shared → Prop}
    (hh : A.handled = none) (he : PySem.IsEnum s.heap e it i old) (hit : s.heap.IsTupleIter it a j) (ht : s.heap.IsTuple a items) (hx : items[j]? = none)
    (hQ : ∀ h', Heap.ExtBut it s.heap h' → Q none { s with heap := h' }) : wpAny (model prog w) A (pyNext (.ref e)) Q E s := by
  have hT : s.TypeIs (.ref e) "enumerate" := ⟨_, he, rfl⟩
  unfold pyNext
  refine wpAny_bind (wpAny_attempt (wpAny_callSpecial?_slot (name := Str.ofString "__next__") hT F.slot_enumerate_next
    (wpAny_call_entry F.slot_enumerate_next hT F.entry_enumerate_next ?_ (F.args_enumerate_next_1 _))))
  show wpAny _ _ (field (.ref e) 2 >>= _) _ _ _
  refine wpAny_bind (wpAny_field he rfl (x := .ref it) rfl ?_)
  refine wpAny_bind (wpAny_nextOf_tuple_end (A := A.in1) hh hit ht hx fun h' x he' hx' => ?_)
  obtain ⟨o, ho, hc⟩ := hx'
  refine wpAny_bind (wpAny_isInstance (T := "StopIteration") (b := true) ⟨o, ho, hc⟩ isSubtype_stop ?_)
  exact wpAny_pure (hQ _ he')
theorem turn_enumT {P : Program} {w : World} {K : PySem.W.Frag} {elts : List Expr} {kk : Nat} {tpos : Pos} (a e it : Addr) :
    Turn P w K (.Tuple elts kk tpos) (Itet K a) [e, it] e (fun i h => (∃ old, IsEnum h e it ((i : Nat) : Int) old) ∧ h.IsTupleIter it a i ∧ e ≠ it) where
  mem := by simp
  obj := fun i h st b hb => by
    obtain ⟨⟨old, he⟩, ⟨o, ho, hc, hd⟩, _⟩ := st
    have e' : b = e ∨ b = it := by simpa using hb
    rcases e' with z | z
    · rw [z]; exact ⟨_, he, fun v q => nomatch q⟩
    · rw [z]; exact ⟨o, ho, fun v q => by rw [hd] at q; cases q⟩
  keep := fun i h h' st k => let ⟨⟨old, he⟩, hi, hne⟩ := st; ⟨⟨old, k e (by simp) _ he⟩, hi.at fun o q => k it (by simp) o q, hne⟩
  item := by
    intro X hP hw hK hc i pins s σ H E I hf st hg
    subst hP hw hK
    obtain ⟨⟨old, he⟩, hit, hne⟩ := st
    obtain ⟨xs, x, hq, hx⟩ := hg
    obtain ⟨its, rv, p, hz⟩ := I.tuple hq
    obtain ⟨u, hu, ru⟩ := rv.get hx
    have p' : s.heap.IsTuple a its.toArray := p
    have hel : e < s.heap.objs.size := Heap.lt_size he
    have hil : it < s.heap.objs.size := by obtain ⟨_, q, _⟩ := hit; exact Heap.lt_size q
    have hea := tup_ne p' he
    have hia := tup_ne2 p' hit
    have hlt : i < its.toArray.size := by
      have := (List.getElem?_eq_some_iff.mp hu).1
      simpa using this
    refine wpAny_pyNext_enum_itemD (Draws.tuple (prog := X.prog) (w := X.w) (A := X.A.in1) (I.ok.hd hc) it a hia its.toArray) he ⟨hit, p'⟩ hlt hne (by simp [hne, hea]) fun x' h' tk hP ho hst hT hsz hk => ?_
    have ex : x' = u := by
      have h1 : its.toArray[i]? = some x' := hP
      have h2 : its.toArray[i]? = some u := by simpa using hu
      rw [h1] at h2; cases h2; rfl
    subst ex
    refine ⟨_, rfl, wpAny_letOwnedTupleGo_enum (s := { s with heap := h', toks := tk + 1 }) ho fun h'' he' sb => ?_⟩
    have hT2 : h''.get? s.heap.objs.size = some { cls := .type "tuple", data := .seq #[.int i tk, x'] } := (sb.2 _ (Nat.ne_of_gt hel)).trans hT
    have new : ObjOk X.prog X.w (upd H s.heap.objs.size (.tup [.int (i : Nat), x])) h'' s.heap.objs.size (.tup [.int (i : Nat), x]) :=
      ⟨by show 2 ≤ sizeLine; decide, [.int i tk, x'], .cons ⟨_, rfl⟩ (.cons ru .nil), ⟨_, hT2, rfl, _, rfl⟩⟩
    have I1 : Inv X pins σ (upd H s.heap.objs.size (.tup [.int (i : Nat), x])) { s with heap := h'', toks := tk + 1 } :=
      I.turnedNew (ch := [e, it]) (fun b ob hb q => (sb.2 b (fun z => hb (by simp [z]))).trans (hk b ob (fun z => hb (by simp [z])) (fun z => hb (by simp [z])) q)) hf (Nat.le_refl _) new
    refine ⟨.ref s.heap.objs.size, _, I1, rfl, ⟨_, x, rfl, I.hok.fresh (Nat.le_refl _), rfl, fun ys hy => by rw [I.tuple_inj hy hq]; exact hx⟩, ⟨⟨x', ?_⟩, hst.1.at fun o q => (sb.2 it (Ne.symm hne)).trans q, hne⟩, fun b hb => ?_⟩
    · have e1 : ((i + 1 : Nat) : Int) = (i : Int) + 1 := by omega
      rw [e1]; exact he'
    · have hb' : b < s.heap.objs.size := by
        have e' : b = e ∨ b = it := by simpa using hb
        rcases e' with z | z
        · rw [z]; exact hel
        · rw [z]; exact hil
      rw [upd_ne (Nat.ne_of_lt hb')]
      exact (hf b hb).1
  done := by
    intro X hP hw hK hc i pins s σ H E I hf st hg
    subst hP hw hK
    obtain ⟨⟨old, he⟩, hit, hne⟩ := st
    obtain ⟨xs, hq, hx⟩ := hg
    obtain ⟨its, rv, p, hz⟩ := I.tuple hq
    have p' : s.heap.IsTuple a its.toArray := p
    obtain ⟨f0, f1, f2, f3, f4, f5⟩ := hf it (by simp)
    have hl := rv.length
    exact enum_endT (I.ok.hd hc) he hit p' (by simp; omega) fun h' eb => ⟨rfl, I.turned (t' := s.toks) (fun b o hb q => eb b o hb q) f0 f1 f3 f4 f5⟩
  self := fun A i s Q E st h => let ⟨⟨_, he⟩, _⟩ := st; wpAny_pyIter_enum he h
def iEnumT (K : PySem.W.Frag) (ta : TA) : TI := fun σ H R => ta σ H fun vs H1 => ∃ a xs, vs = [.ref a] ∧ SqT K H1 a xs ∧ R (Itet K a) H1
theorem pi_enumT {X : Cx} {e : Expr} {ta : TA} {p pos tpos : Pos} {elts : List Expr} {kk : Nat} (hg : Gl X "enumerate") (hm : X.mg "enumerate" = none) (ha : PA X [e] ta) (hs : starEach [e] X.env = [(false, eval e X.env)] := by rfl) :
    PI X (.Tuple elts kk tpos) (.Call (.Name "enumerate" p) [e] [] pos) (fun σ H R => ta σ H fun vs H1 => (∃ a xs, vs = [.ref a] ∧ SqL X.K H1 a xs ∧ R (Ite X.K a) H1) ∨ ∃ a xs, vs = [.ref a] ∧ SqT X.K H1 a xs ∧ R (Itet X.K a) H1) := by
  refine ⟨fun pins s σ H R I h => ?_⟩
  refine Call_ (ld_blt I hg hm boot_enumerate (PyProof.Rows.callWith_type1 (thn (ha.run pos pins s σ H _ I h) fun us s1 ⟨vs, H1, I1, r1, q1⟩ => ?_) hs rfl))
  have fin : ∀ b, (b = s1.heap.objs.size + 1 ∨ b = s1.heap.objs.size) → s1.heap.objs.size ≤ b := fun b e' => by
    rcases e' with z | z
    · rw [z]; exact Nat.le_add_right _ _
    · rw [z]; exact Nat.le_refl _
  rcases q1 with ⟨a, xs, ex, hq, q⟩ | ⟨a, xs, ex, hq, q⟩
  · subst ex
    cases r1 with
    | cons r rr =>
      cases rr
      cases r
      obtain ⟨its, rv, p', hz⟩ := I1.list hq
      refine call_enumerate_list p'.isList fun h' he hit hsz hk => wpAny_pyIter_enum he ?_
      have I2 : Inv X pins σ H1 { s1 with heap := h' } := I1.kept (t' := s1.toks) hk
      refine ⟨s1.heap.objs.size + 1, [s1.heap.objs.size + 1, s1.heap.objs.size], _, _, H1, rfl, I2, turn_enum a (s1.heap.objs.size + 1) s1.heap.objs.size, ⟨⟨.none, he⟩, hit, Nat.succ_ne_self _⟩, fun b hb => ?_, q⟩
      have hle := fin b (by simpa using hb)
      exact I1.fpOk hle (I1.hok.fresh hle)
  · subst ex
    cases r1 with
    | cons r rr =>
      cases rr
      cases r
      obtain ⟨its, rv, p', hz⟩ := I1.tuple hq
      refine mir_call_enumerate_tuple (show s1.heap.IsTuple a its.toArray from p') fun h' he hit hsz hk => wpAny_pyIter_enum he ?_
      have I2 : Inv X pins σ H1 { s1 with heap := h' } := I1.kept (t' := s1.toks) hk
      refine ⟨s1.heap.objs.size + 1, [s1.heap.objs.size + 1, s1.heap.objs.size], _, _, H1, rfl, I2, turn_enumT a (s1.heap.objs.size + 1) s1.heap.objs.size, ⟨⟨.none, he⟩, hit, Nat.succ_ne_self _⟩, fun b hb => ?_, q⟩
      have hle := fin b (by simpa using hb)
      exact I1.fpOk hle (I1.hok.fresh hle)
end Mir
/-! Mir, part J: new lists at places, enumerate, built-ins, isinstance. -/
namespace Mir
open PySem PySem.Spec PyProof.Rows L2

section
variable {X : Cx} {T : Tb} {W : WX} {tg e : Expr} {es : List Expr} {x : Str} {pos p : Pos} {me : EM} {ma : AM}
theorem me_pl {m : AM} (h : PE X e (tF X.K T W m)) : PE X e (tE X.K T W (ePl m)) := by
  refine PE.weak h fun σ H Q ⟨P, F, io, en, s, hE, hS, hp⟩ => ?_
  refine ⟨P, F, io, en, s, hE, hS, ?_⟩
  unfold ePl at hp
  cases hm : m en s with
  | ok xs s1 =>
    rw [hm] at hp
    intro F1 io1 p vs H1 l1 r1 hS1 np
    obtain ⟨l2, hS2⟩ := hS1.push (o := .lst vs) np (.lst r1)
    exact hp.ok_of (l1.trans l2) (.loc (by rw [hS1.len]; simp)) hS2
  | exc x s1 => rw [hm] at hp; exact hp
  | stuck => rw [hm] at hp; exact hp
/-- a global name: a constant -/
theorem me_glob {y : PV} {v : V} {u : Value} (hg : Gl X x) (hm : X.mg x = some u) (r : RelV v u) (hv : ∀ F io, R X.K T F io y v) (hd : (x == ("__debug__" : Str)) = false := by decide) : PE X (.Name x pos) (tE X.K T W (eC y)) := me_val (pe_glob hg hm r hd) hv
theorem me_bty {n : String} (hg : Gl X x) (hm : X.mg x = none) (hv : bootBuiltins x = some (.type n)) (hn : x ≠ "__name__" := by decide) (hd : (x == ("__debug__" : Str)) = false := by decide) : PE X (.Name x pos) (tE X.K T W (eC (.ty n))) :=
  me_val (pe_bltn (v := .ty n) hg hm hv rfl hn hd) fun F io => .ty n
theorem me_gcls {c : Nat} (hg : Gl X x) (hm : X.mg x = some (.ref (T.ca c))) (hd : (x == ("__debug__" : Str)) = false := by decide) : PE X (.Name x pos) (tE X.K T W (eC (.cls c))) :=
  me_val (pe_glob (v := .ref (T.ca c)) hg hm rfl hd) fun F io => .cls c

/-! ### enumerate of a list -/
def enumI : Nat → List PV → List PV
  | _, [] => []
  | n, x :: r => .tup [.int (n : Nat), x] :: enumI (n + 1) r
theorem enumI_get : ∀ (l : List PV) (n i : Nat), (enumI n l)[i]? = (l[i]?).map fun x => PV.tup [.int ((n + i : Nat) : Int), x]
  | [], _, _ => by simp [enumI]
  | x :: r, n, 0 => by simp [enumI]
  | x :: r, n, i + 1 => by
    simp only [enumI, List.getElem?_cons_succ, enumI_get r (n + 1) i]
    have : n + 1 + i = n + (i + 1) := by omega
    rw [this]
theorem enumI_len : ∀ (l : List PV) (n : Nat), (enumI n l).length = l.length
  | [], _ => rfl
  | x :: r, n => by simp [enumI, enumI_len r]
def iEnum (a : EM) : IM := fun σ s => (aCons a aNil σ s).bind fun xs s1 => match xs with
  | [.lst ys] => if ys.length ≤ sz then .ok ⟨enumI 0 ys, none⟩ s1 else .stuck
  | [.ro ys] => if ys.length ≤ sz then .ok ⟨enumI 0 ys, none⟩ s1 else .stuck
  | [.tup ys] => if ys.length ≤ sz then .ok ⟨enumI 0 ys, none⟩ s1 else .stuck
  | [.loc n] => (match s1[n]? with
    | some (.lst ys) => if ys.length ≤ sz then .ok ⟨enumI 0 ys, some (n, .lst ys)⟩ s1 else .stuck
    | _ => .stuck)
  | _ => .stuck
theorem walks_enum {K : PySem.W.Frag} {F : Hp} {io : List Addr} {w : Walk} {xs : List PV} {a : Addr} (hw : w.items = enumI 0 xs) (hq : ∀ P F1 io1 s1 H1, Le F io F1 io1 → RS K T P F1 io1 s1 H1 → w.ok s1 → ∃ vs, SqL K H1 a vs ∧ Rs K T F1 io1 xs vs) : Walks K T F io w (Ite K a) := fun P i F1 io1 s1 H1 l hS ok => by
  obtain ⟨vs, q, r⟩ := hq P F1 io1 s1 H1 l hS ok
  refine ⟨fun hi => ⟨vs, q, by rw [← r.length, ← enumI_len xs 0, ← hw]; exact hi⟩, fun x hx => ?_⟩
  rw [hw, enumI_get] at hx
  cases hxi : xs[i]? with
  | none => rw [hxi] at hx; cases hx
  | some y =>
    rw [hxi] at hx; cases hx
    obtain ⟨v, h1, h2⟩ := r.get hxi
    refine ⟨⟨vs, v, q, h1⟩, fun u H' ⟨T0, x, e1, n1, e2, hy⟩ => ?_⟩
    subst e1 e2
    have := hy vs q
    rw [h1] at this; cases this
    obtain ⟨l2, hS2⟩ := hS.grow (o := .tup [.int ((i : Nat) : Int), v]) n1
    exact ⟨_, l2, hS2, .tup (.inl (.inl upd_same)) (.cons (by simpa using R.int _) (.cons (h2.mono l2) .nil))⟩
theorem walks_enumT {K : PySem.W.Frag} {F : Hp} {io : List Addr} {w : Walk} {xs : List PV} {a : Addr} {vs : List V} (hw : w.items = enumI 0 xs) (q0 : SqT K F a vs) (r0 : Rs K T F io xs vs) : Walks K T F io w (Itet K a) := fun P i F1 io1 s1 H1 l hS ok => by
  have q : SqT K H1 a vs := hS.tup (sqT_mono l.fm q0)
  have r := r0.mono l
  refine ⟨fun hi => ⟨vs, q, by rw [← r.length, ← enumI_len xs 0, ← hw]; exact hi⟩, fun x hx => ?_⟩
  rw [hw, enumI_get] at hx
  cases hxi : xs[i]? with
  | none => rw [hxi] at hx; cases hx
  | some y =>
    rw [hxi] at hx; cases hx
    obtain ⟨v, h1, h2⟩ := r.get hxi
    refine ⟨⟨vs, v, q, h1⟩, fun u H' ⟨T0, x, e1, n1, e2, hy⟩ => ?_⟩
    subst e1 e2
    have := hy vs q
    rw [h1] at this; cases this
    obtain ⟨l2, hS2⟩ := hS.grow (o := .tup [.int ((i : Nat) : Int), v]) n1
    exact ⟨_, l2, hS2, .tup (.inl (.inl upd_same)) (.cons (by simpa using R.int _) (.cons (h2.mono l2) .nil))⟩
theorem mi_enum {elts : List Expr} {kk : Nat} {tpos : Pos} (hg : Gl X "enumerate") (hm : X.mg "enumerate" = none) (ha : PE X e (tE X.K T W me)) (hs : starEach [e] X.env = [(false, eval e X.env)] := by rfl) :
    PI X (.Tuple elts kk tpos) (.Call (.Name "enumerate" p) [e] [] pos) (tI X.K T W (iEnum me)) := by
  refine PI.weak (pi_enumT hg hm (ma_cons ha ma_nil hs) hs) fun σ H Z ⟨P, F, io, en, s, hE, hS, hp⟩ => ?_
  refine ⟨P, F, io, en, s, hE, hS, (PostI.bind (rel := rL X.K T) hp).mono fun vs H1 ⟨F1, io1, xs, s1, l, hr, hs, hp1⟩ => ?_⟩
  cases hr with
  | nil => exact hp1.elim
  | @cons y v ys ws ry rr =>
    cases rr with
    | cons => cases y <;> exact hp1.elim
    | nil =>
      cases ry with
      | @lst a zs us h1 h2 =>
        simp only at hp1
        split at hp1
        · rename_i hz
          exact .inl ⟨a, us, rfl, .of (hs.sub _ _ h1), hp1 F1 io1 _ H1 Le.refl hs (walks_enum rfl fun P F2 io2 s2 H2 l2 hS2 _ => ⟨us, .of (hS2.sub _ _ (l2.fm _ _ h1)), h2.mono l2⟩) (by rw [enumI_len]; exact hz)⟩
        · exact hp1.elim
      | @ro a zs us h1 h2 =>
        simp only at hp1
        split at hp1
        · rename_i hz
          exact .inl ⟨a, us, rfl, hs.lst h1, hp1 F1 io1 _ H1 Le.refl hs (walks_enum rfl fun P F2 io2 s2 H2 l2 hS2 _ => ⟨us, hS2.lst (sqL_mono l2.fm h1), h2.mono l2⟩) (by rw [enumI_len]; exact hz)⟩
        · exact hp1.elim
      | @tup a zs us h1 h2 =>
        simp only at hp1
        split at hp1
        · rename_i hz
          exact .inr ⟨a, us, rfl, hs.tup h1, hp1 F1 io1 _ H1 Le.refl hs (walks_enumT rfl h1 h2) (by rw [enumI_len]; exact hz)⟩
        · exact hp1.elim
      | @loc a n h1 =>
        simp only at hp1
        split at hp1
        · rename_i ys hx
          split at hp1
          · rename_i hz
            obtain ⟨o, e2, e3⟩ := hs.loc h1 hx
            cases e3 with
            | @lst _ us q =>
              refine .inl ⟨a, us, rfl, .of e2, hp1 F1 io1 _ H1 Le.refl hs (walks_enum rfl fun P F2 io2 s2 H2 l2 hS2 (ok : s2[n]? = some (.lst ys)) => ?_) (by rw [enumI_len]; exact hz)⟩
              obtain ⟨o2, e4, e5⟩ := hS2.loc (l2.ix _ _ h1) ok
              cases e5 with
              | lst q2 => exact ⟨_, .of e4, q2⟩
          · exact hp1.elim
        · exact hp1.elim
      | _ => exact hp1.elim

/-! ### built-ins -/
theorem cr_of {f : Value} {h : ON} {r : List V → Hp → VK → Prop} (hc : CallR X f r) (hw : ∀ (P F : Hp) (io : List Addr) (s : Store) (xs : List PV) (vs : List V) (H : Hp) (Q : VK), Rs X.K T F io xs vs → RS X.K T P F io s H → Post X.K T P (rV X.K T) (fun _ _ _ => False) F io (noX (h xs s)) Q → r vs H Q) : CallR X f (rN X.K T h) := by
  intro pins s σ H vs us Q I rv ⟨P, F, io, st, xs, rx, hS, hp⟩
  exact hc pins s σ H vs us Q I rv (hw P F io st xs vs H Q rx hS hp)
theorem me_blt {id : String} {h : ON} (hc : CallR X (.builtin id) (rN X.K T h)) (hg : Gl X x) (hm : X.mg x = none) (hv : bootBuiltins x = some (.builtin id)) (ha : PA X (e :: es) (tL X.K T W ma)) (hn : x ≠ "__name__" := by decide) (hdb : (x == ("__debug__" : Str)) = false := by decide)
    (he : starEach (e :: es) X.env = (false, eval e X.env) :: starEach es X.env := by rfl) (hpl : (backTo pos (starEach es X.env)).any (·.1) = false := by rfl) : PE X (.Call (.Name x p) (e :: es) [] pos) (tE X.K T W (eBlt h ma)) := by
  refine PE.weak (pe_callB hc hg hm hv ha hn hdb he hpl) fun σ H Q ⟨P, F, io, en, s, hE, hS, hp⟩ => ?_
  refine tL_use hE hS hp fun vs H1 F1 io1 xs s1 hE1 rx hS1 l1 hp1 => ⟨P, F1, io1, s1, xs, rx, hS1, Post.noX hp1⟩
theorem me_bltT {n : String} {h : ON} (hc : CallR X (.type n) (rN X.K T h)) (hg : Gl X x) (hm : X.mg x = none) (hv : bootBuiltins x = some (.type n)) (ha : PA X (e :: es) (tL X.K T W ma)) (hn : x ≠ "__name__" := by decide) (hdb : (x == ("__debug__" : Str)) = false := by decide)
    (he : starEach (e :: es) X.env = (false, eval e X.env) :: starEach es X.env := by rfl) (hpl : (backTo pos (starEach es X.env)).any (·.1) = false := by rfl) : PE X (.Call (.Name x p) (e :: es) [] pos) (tE X.K T W (eBlt h ma)) := by
  refine PE.weak (pe_callTy hc hg hm hv ha hn hdb he hpl) fun σ H Q ⟨P, F, io, en, s, hE, hS, hp⟩ => ?_
  refine tL_use hE hS hp fun vs H1 F1 io1 xs s1 hE1 rx hS1 l1 hp1 => ⟨P, F1, io1, s1, xs, rx, hS1, Post.noX hp1⟩
theorem Rs.one {K : PySem.W.Frag} {F : Hp} {io : List Addr} {x : PV} {vs : List V} (r : Rs K T F io [x] vs) : ∃ v, vs = [v] ∧ R K T F io x v := by
  cases r with
  | cons r1 rn => cases rn; exact ⟨_, rfl, r1⟩
theorem Rs.two {K : PySem.W.Frag} {F : Hp} {io : List Addr} {x y : PV} {vs : List V} (r : Rs K T F io [x, y] vs) : ∃ v u, vs = [v, u] ∧ R K T F io x v ∧ R K T F io y u := by
  cases r with
  | cons r1 rn => cases rn with
    | cons r2 rn => cases rn; exact ⟨_, _, rfl, r1, r2⟩
theorem scr_len : CallR X (.builtin "len") (rN X.K T bLen) := cr_of call_len fun P F io s xs vs H Q rx hS hp => by
  unfold bLen at hp
  split at hp
  · obtain ⟨v, rfl, r1⟩ := rx.one
    rename_i x
    cases hl : lenP s x with
    | none => rw [hl] at hp; exact hp.elim
    | some n =>
      rw [hl] at hp
      refine ⟨v, n, rfl, ?_, hp.ok_of Le.refl (.int _) hS⟩
      have seq : ∀ xs, itemsOf s x = some xs → n = xs.length → LenV X.K v H n := fun xs hx hn => by
        obtain ⟨a, vs, rfl, hq, r⟩ := hS.seq r1 hx
        rcases hq with hq | hq
        · exact .inl ⟨vs, hq, by rw [hn, r.length]⟩
        · exact .inr ⟨vs, hq, by rw [hn, r.length]⟩
      have gen : (itemsOf s x).map (·.length) = some n → LenV X.K v H n := fun h => by
        obtain ⟨xs, e1, e2⟩ := Option.map_eq_some_iff.mp h
        exact seq xs e1 e2.symm
      cases r1 with
      | str l =>
        simp only [lenP] at hl
        split at hl
        · rename_i hz
          cases hl
          exact ⟨by show l.toArray.size ≤ _; rw [List.size_toArray]; exact hz, by show l.length = l.toArray.size; simp⟩
        · cases hl
      | _ => exact gen hl
  · exact hp.elim
theorem scr_abs : CallR X (.builtin "abs") (rN X.K T bAbs) := cr_of call_abs fun P F io s xs vs H Q rx hS hp => by
  unfold bAbs at hp
  split at hp
  · obtain ⟨v, rfl, r1⟩ := rx.one
    cases r1
    exact ⟨_, rfl, hp.ok_of Le.refl (.int _) hS⟩
  · exact hp.elim
theorem scr_max (hc : X.calm = true) : CallR X (.builtin "max") (rN X.K T bMax) := cr_of (call_max2 hc) fun P F io s xs vs H Q rx hS hp => by
  unfold bMax at hp
  split at hp
  · obtain ⟨v, u, rfl, r1, r2⟩ := rx.two
    cases r1; cases r2
    exact ⟨_, _, rfl, hp.ok_of Le.refl (.int _) hS⟩
  · exact hp.elim
theorem scr_min (hc : X.calm = true) : CallR X (.builtin "min") (rN X.K T bMin) := cr_of (call_min2 hc) fun P F io s xs vs H Q rx hS hp => by
  unfold bMin at hp
  split at hp
  · obtain ⟨v, u, rfl, r1, r2⟩ := rx.two
    cases r1; cases r2
    exact ⟨_, _, rfl, hp.ok_of Le.refl (.int _) hS⟩
  · exact hp.elim
theorem scr_int : CallR X (.type "int") (rN X.K T bInt) := cr_of call_int1 fun P F io s xs vs H Q rx hS hp => by
  unfold bInt at hp
  split at hp
  · obtain ⟨v, rfl, r1⟩ := rx.one
    cases r1
    exact .inl ⟨_, rfl, hp.ok_of Le.refl (.int _) hS⟩
  · obtain ⟨v, rfl, r1⟩ := rx.one
    cases r1
    exact .inr ⟨_, rfl, hp.ok_of Le.refl (.int _) hS⟩
  · exact hp.elim
theorem Rs.bls {K : PySem.W.Frag} {F : Hp} {io : List Addr} : ∀ {xs : List PV} {vs : List V} {bs : List Bool}, blsOf xs = some bs → Rs K T F io xs vs → vs = bs.map V.bl
  | [], _, _, e, .nil => by cases e; rfl
  | .bl k :: r, _, _, e, .cons r1 rn => by
    simp only [blsOf, Option.map_eq_some_iff] at e
    obtain ⟨ks, e1, rfl⟩ := e
    cases r1
    rw [Rs.bls e1 rn]; rfl
theorem Rs.strs {K : PySem.W.Frag} {F : Hp} {io : List Addr} : ∀ {xs : List PV} {vs : List V} {bs : List (List Nat)}, strsOf xs = some bs → Rs K T F io xs vs → vs = (bs.map St8).map V.str
  | [], _, _, e, .nil => by cases e; rfl
  | .str k :: r, _, _, e, .cons r1 rn => by
    simp only [strsOf, Option.map_eq_some_iff] at e
    obtain ⟨ks, e1, rfl⟩ := e
    cases r1
    rw [Rs.strs e1 rn]; rfl
theorem RS.itemsL {K : PySem.W.Frag} {P F : Hp} {io : List Addr} {s : Store} {H : Hp} {x : PV} {v : V} {xs : List PV} (hS : RS K T P F io s H) (r : R K T F io x v) (e : bAll.itemsL s x = some xs) : ∃ a vs, v = .ref a ∧ SqL K H a vs ∧ Rs K T F io xs vs := by
  unfold bAll.itemsL at e
  split at e
  · rename_i ys hd
    cases e
    obtain ⟨a, vs, e1, e2, e3⟩ := hS.list r hd
    exact ⟨a, vs, e1, .of e2, e3⟩
  · rename_i ys hd
    cases e
    cases r with
    | ro h1 h2 => cases hd; exact ⟨_, _, rfl, hS.lst h1, h2⟩
    | @loc a n h1 =>
      have hn : n < s.length := by rw [hS.len]; exact (List.getElem?_eq_some_iff.mp h1).1
      have ed : deref s (.loc n) = s[n] := by simp [deref, List.getD, List.getElem?_eq_getElem hn]
      obtain ⟨o3, e4, e5⟩ := hS.loc h1 (List.getElem?_eq_getElem hn)
      rw [ed] at hd
      rw [hd] at e5
      cases e5
    | _ => cases hd
  · cases e
theorem scr_all (hc : X.calm = true) : CallR X (.builtin "all") (rN X.K T bAll) := cr_of (cr_all hc) fun P F io s xs vs H Q rx hS hp => by
  unfold bAll at hp
  split at hp
  · obtain ⟨v, rfl, r1⟩ := rx.one
    rename_i x
    cases hl : (bAll.itemsL s x).bind blsOf with
    | none => rw [hl] at hp; exact hp.elim
    | some ks =>
      rw [hl] at hp
      obtain ⟨ys, h1, h2⟩ := Option.bind_eq_some_iff.mp hl
      obtain ⟨a, us, rfl, q, r⟩ := hS.itemsL r1 h1
      rw [Rs.bls h2 r] at q
      exact ⟨a, ks, rfl, q, hp.ok_of Le.refl (.bl _) hS⟩
  · exact hp.elim
theorem scr_any (hc : X.calm = true) : CallR X (.builtin "any") (rN X.K T bAny) := cr_of (cr_any hc) fun P F io s xs vs H Q rx hS hp => by
  unfold bAny at hp
  split at hp
  · obtain ⟨v, rfl, r1⟩ := rx.one
    rename_i x
    cases hl : (bAll.itemsL s x).bind blsOf with
    | none => rw [hl] at hp; exact hp.elim
    | some ks =>
      rw [hl] at hp
      obtain ⟨ys, h1, h2⟩ := Option.bind_eq_some_iff.mp hl
      obtain ⟨a, us, rfl, q, r⟩ := hS.itemsL r1 h1
      rw [Rs.bls h2 r] at q
      exact ⟨a, ks, rfl, q, hp.ok_of Le.refl (.bl _) hS⟩
  · exact hp.elim
theorem RS.seqL {K : PySem.W.Frag} {P F : Hp} {io : List Addr} {s : Store} {H : Hp} {x : PV} {v : V} {xs : List PV} (r : RS K T P F io s H) (q : R K T F io x v) (e : itemsOf s x = some xs) : (∃ a vs, v = .ref a ∧ SqL K H a vs ∧ Rs K T F io xs vs) ∨ ∃ a vs, v = .ref a ∧ x = .tup xs ∧ SqT K F a vs ∧ Rs K T F io xs vs := by
  cases q with
  | tup h1 h2 => simp [itemsOf, deref] at e; subst e; exact .inr ⟨_, _, rfl, rfl, h1, h2⟩
  | lst h1 h2 => simp [itemsOf, deref] at e; subst e; exact .inl ⟨_, _, rfl, .of (r.sub _ _ h1), h2⟩
  | ro h1 h2 => simp [itemsOf, deref] at e; subst e; exact .inl ⟨_, _, rfl, r.lst h1, h2⟩
  | @loc a n h1 =>
    have hn : n < s.length := by rw [r.len]; exact (List.getElem?_eq_some_iff.mp h1).1
    obtain ⟨o, e2, e3⟩ := r.loc h1 (List.getElem?_eq_getElem hn)
    have ed : deref s (.loc n) = s[n] := by simp [deref, List.getD, List.getElem?_eq_getElem hn]
    simp only [itemsOf, ed] at e
    generalize s[n] = c at e e3
    cases e3 with
    | lst q3 => simp at e; subst e; exact .inl ⟨_, _, rfl, .of e2, q3⟩
    | _ => simp at e
  | _ => simp [itemsOf, deref] at e
theorem scr_tuple : CallR X (.type "tuple") (rN X.K T bTuple) := cr_of call_tuple_of fun P F io s xs vs H Q rx hS hp => by
  unfold bTuple at hp
  split at hp
  · obtain ⟨v, rfl, r1⟩ := rx.one
    rename_i x
    cases hl : itemsOf s x with
    | none => rw [hl] at hp; exact hp.elim
    | some ks =>
      rw [hl] at hp
      rcases hS.seqL r1 hl with ⟨a, us, rfl, q, r⟩ | ⟨a, us, rfl, rfl, q, r⟩
      · refine ⟨a, us, rfl, .inl ⟨q, fun l hn => ?_⟩⟩
        obtain ⟨l2, hS2⟩ := hS.grow (o := .tup us) hn
        exact hp.ok_of l2 (.tup (.inl (.inl upd_same)) (r.mono l2)) hS2
      · exact ⟨a, us, rfl, .inr ⟨hS.tup q, hp.ok_of Le.refl r1 hS⟩⟩
  · exact hp.elim
theorem scr_list : CallR X (.type "list") (rN X.K T bList) := cr_of call_list_of fun P F io s xs vs H Q rx hS hp => by
  unfold bList at hp
  split at hp
  · obtain ⟨v, rfl, r1⟩ := rx.one
    rename_i x
    cases hl : itemsOf s x with
    | none => rw [hl] at hp; exact hp.elim
    | some ks =>
      rw [hl] at hp
      obtain ⟨a, us, rfl, q, r⟩ := hS.seq r1 hl
      refine ⟨a, us, rfl, q, fun l hn => ?_⟩
      obtain ⟨l2, hS2⟩ := hS.grow (o := .lst us) hn
      exact hp.ok_of l2 (.lst upd_same (r.mono l2)) hS2
  · exact hp.elim

/-! ### sorted, of texts -/
theorem insS_perm (x : List Nat) : ∀ l, (insS x l).Perm (x :: l)
  | [] => .refl _
  | y :: r => by
    unfold insS
    split
    · exact ((insS_perm x r).cons y).trans (.swap x y r)
    · exact .refl _
theorem sortS_perm : ∀ l, (sortS l).Perm l
  | [] => .refl _
  | x :: r => (insS_perm x _).trans ((sortS_perm r).cons x)
theorem le_of_pair : ∀ {l : List (List Nat)}, l.Pairwise (· ≤ ·) → ∀ x, (insS x l).Pairwise (· ≤ ·)
  | [], _, x => by simp [insS]
  | y :: r, h, x => by
    obtain ⟨h1, h2⟩ := List.pairwise_cons.mp h
    unfold insS
    split
    · rename_i hl
      refine List.pairwise_cons.mpr ⟨fun z hz => ?_, le_of_pair h2 x⟩
      rcases List.mem_cons.mp ((insS_perm x r).mem_iff.mp hz) with e | e
      · rw [e]; exact List.le_of_lt hl
      · exact h1 z e
    · rename_i hl
      refine List.pairwise_cons.mpr ⟨fun z hz => ?_, h⟩
      rcases List.mem_cons.mp hz with e | e
      · rw [e]; exact List.not_lt.mp hl
      · exact List.le_trans (List.not_lt.mp hl) (h1 z e)
theorem sortS_pair : ∀ l, (sortS l).Pairwise (· ≤ ·)
  | [] => .nil
  | x :: r => le_of_pair (sortS_pair r) x
theorem rising_pair : ∀ (l : List Str) (p : Str), risingS p l = true → ((p :: l).map fun z => z.cps.toList).Pairwise (· ≤ ·)
  | [], p, _ => by simp
  | x :: r, p, h => by
    have h' : (!ltCps x.cps.toList p.cps.toList && risingS x r) = true := h
    rw [Bool.and_eq_true] at h'
    have ih := rising_pair r x h'.2
    have hle : p.cps.toList ≤ x.cps.toList := by
      have := h'.1
      rw [ltCps_eq] at this
      exact List.not_lt.mp (by simpa using this)
    rw [List.map_cons, List.pairwise_cons]
    refine ⟨fun z hz => ?_, ih⟩
    rw [List.map_cons] at hz ih
    rcases List.mem_cons.mp hz with e | e
    · rw [e]; exact hle
    · exact List.le_trans hle ((List.pairwise_cons.mp ih).1 z e)
theorem sorted_pair : ∀ (l : List Str), sortedS l = true → (l.map fun z => z.cps.toList).Pairwise (· ≤ ·)
  | [], _ => by simp
  | x :: r, h => rising_pair r x h
theorem sort_eq {ks : List (List Nat)} {ys : List Str} (hp : ys.Perm (ks.map St8)) (hs : sortedS ys = true) : ys = (sortS ks).map St8 := by
  have h1 : (ys.map fun z => z.cps.toList).Perm ks := by
    have := hp.map fun z : Str => z.cps.toList
    rw [List.map_map] at this
    have e : ((fun z : Str => z.cps.toList) ∘ St8) = id := by funext z; simp
    rw [e, List.map_id] at this
    exact this
  have h2 : ys.map (fun z => z.cps.toList) = sortS ks := List.Perm.eq_of_pairwise (le := (· ≤ ·)) (fun a b _ _ h k => List.le_antisymm h k) (sorted_pair ys hs) (sortS_pair ks) (h1.trans (sortS_perm ks).symm)
  rw [← h2, List.map_map]
  have e : (St8 ∘ fun z : Str => z.cps.toList) = id := by funext ⟨z⟩; simp
  rw [e, List.map_id]
theorem Rs.of_strs {K : PySem.W.Frag} {F : Hp} {io : List Addr} : ∀ (l : List (List Nat)), Rs K T F io (l.map PV.str) ((l.map St8).map V.str)
  | [] => .nil
  | x :: r => .cons (.str x) (Rs.of_strs r)
theorem scr_sorted : CallR X (.builtin "sorted") (rN X.K T bSorted) := cr_of cr_sortedS fun P F io s xs vs H Q rx hS hp => by
  unfold bSorted at hp
  split at hp
  · obtain ⟨v, rfl, r1⟩ := rx.one
    rename_i x
    cases hl : (bAll.itemsL s x).bind strsOf with
    | none => rw [hl] at hp; exact hp.elim
    | some ks =>
      rw [hl] at hp
      simp only [ofO_some, Res.bind_ok] at hp
      split at hp
      · rename_i h64
        obtain ⟨ys, h1, h2⟩ := Option.bind_eq_some_iff.mp hl
        obtain ⟨a, us, rfl, q, r⟩ := hS.itemsL r1 h1
        rw [Rs.strs h2 r] at q
        refine ⟨a, ks.map St8, rfl, q, by simpa using h64, fun zs p hp1 hp2 np => ?_⟩
        have e := sort_eq hp1 hp2
        subst e
        obtain ⟨l2, hS2⟩ := hS.grow (o := .lst (((sortS ks).map St8).map V.str)) np
        exact hp.ok_of l2 (.lst upd_same (Rs.of_strs _)) hS2
      · exact hp.elim
  · exact hp.elim

/-! ### isinstance -/
def Tb.tgv (T : Tb) : Tg → Value
  | .t n => .type n
  | .c n => .ref (T.ca n)
/-- instances of the class have a class that isinstance can read -/
structure InsOk (K : PySem.W.Frag) (C : Addr) : Prop where
  cl : Cls K C
  ha : PySem.W.findIn K (.ref C) "__class__" = some (some (.builtin "object.__class__"))
  hn : PySem.W.specialIn K (.builtin "object.__class__") "__get__" = some (some (.builtin "getset_descriptor.__get__"))
  htk : PySem.W.takesIn K (.builtin "object.__class__") = some true
  hm : PySem.W.mroIn K C (.type "object") = some true
def IsiS (K : PySem.W.Frag) (T : Tb) (tab : List ((Tg × Tg) × Bool)) : Prop := ∀ e ∈ tab, PySem.W.kitOne K (T.tgv e.1.1) (T.tgv e.1.2) = some e.2 ∧ ∀ c, e.1.1 = .c c → InsOk K (T.ca c)
theorem lookupT_mem {tab : List ((Tg × Tg) × Bool)} {q : Tg × Tg} {b : Bool} (e : tab.lookup q = some b) : (q, b) ∈ tab := by
  induction tab with
  | nil => cases e
  | cons a r ih =>
    obtain ⟨p, u⟩ := a
    rw [List.lookup_cons] at e
    cases hb : q == p with
    | true => rw [hb] at e; cases e; rw [beq_iff_eq.mp hb]; exact List.mem_cons_self ..
    | false => rw [hb] at e; exact List.mem_cons_of_mem _ (ih e)
theorem tyx_of {K : PySem.W.Frag} {P F : Hp} {io : List Addr} {s : Store} {H : Hp} {x : PV} {v : V} {g : Tg} (hS : RS K T P F io s H) (r : R K T F io x v) (e : tgOf s x = some g) (hc : ∀ c, g = .c c → InsOk K (T.ca c)) : TyX K H v (T.tgv g) := by
  have insT : ∀ {a dx : Addr} {c : Nat} {fv : List (Str × V)}, H a = some (.ins (T.ca c) dx fv) → InsOk K (T.ca c) → TyX K H (.ref a) (.ref (T.ca c)) := fun h k => .base (.ins h k.cl k.ha k.hn k.htk k.hm)
  cases r with
  | non => cases e; exact .base .non
  | bl b => cases e; exact .base (.bl b)
  | int i => cases e; exact .base (.int i)
  | str l => cases e; exact .base (.str _)
  | tup h1 h2 =>
    cases e
    rcases hS.tup h1 with (h | ⟨o, h⟩) | ⟨o, its, n, h, c, _⟩
    · exact .base (.tup h)
    · exact .fTuple h
    · exact .kTuple h c
  | lst h1 h2 => cases e; exact .base (.lst (hS.sub _ _ h1))
  | dic h1 h2 h3 => cases e; exact .base (.dK (hS.sub _ _ h1))
  | @ins a dx c vs fv h1 h2 h3 => cases e; exact insT (hS.sub _ _ h1) (hc _ rfl)
  | @loc a n h1 =>
    have hn : n < s.length := by rw [hS.len]; exact (List.getElem?_eq_some_iff.mp h1).1
    have ed : deref s (.loc n) = s[n] := by simp [deref, List.getD, List.getElem?_eq_getElem hn]
    obtain ⟨o, e2, e3⟩ := hS.loc h1 (List.getElem?_eq_getElem hn)
    simp only [tgOf, ed] at e
    generalize s[n] = c at e e3
    cases e3 with
    | lst q => cases e; exact .base (.lst e2)
    | dic q1 q2 => cases e; exact .base (.dK e2)
    | @ins dx c vs fv q1 q2 => cases e; exact insT e2 (hc _ rfl)
  | _ => cases e
theorem scr_isi {tab : List ((Tg × Tg) × Bool)} (G : IsiS X.K T tab) : CallR X (.builtin "isinstance") (rN X.K T (bIsi tab)) := cr_of call_isi fun P F io s xs vs H Q rx hS hp => by
  unfold bIsi at hp
  split at hp
  · rename_i x n
    obtain ⟨v, u, rfl, r1, r2⟩ := rx.two
    cases r2
    cases hl : (tgOf s x).bind fun g => tab.lookup (g, Tg.t n) with
    | none => rw [hl] at hp; exact hp.elim
    | some k =>
      rw [hl] at hp
      obtain ⟨g, h1, h2⟩ := Option.bind_eq_some_iff.mp hl
      obtain ⟨g1, g2⟩ := G _ (lookupT_mem h2)
      exact ⟨v, .ty n, T.tgv g, .type n, k, rfl, .ty n, tyx_of hS r1 h1 g2, g1, hp.ok_of Le.refl (.bl _) hS⟩
  · rename_i x c
    obtain ⟨v, u, rfl, r1, r2⟩ := rx.two
    cases r2
    cases hl : (tgOf s x).bind fun g => tab.lookup (g, Tg.c c) with
    | none => rw [hl] at hp; exact hp.elim
    | some k =>
      rw [hl] at hp
      obtain ⟨g, h1, h2⟩ := Option.bind_eq_some_iff.mp hl
      obtain ⟨g1, g2⟩ := G _ (lookupT_mem h2)
      exact ⟨v, .ref (T.ca c), T.tgv g, .ref (T.ca c), k, rfl, .own _, tyx_of hS r1 h1 g2, g1, hp.ok_of Le.refl (.bl _) hS⟩
  · exact hp.elim
end
end Mir
/-! Mir, part K: == and != by an own __eq__. -/
namespace Mir
open PySem PySem.Spec PyProof.Rows L2 PySem.W
section
variable {prog : Program} {w : World} {A A₀ : Around} {E : Value → Shared → Prop} {s : Shared} {K : Frag} {x C L f : Addr} {h₀ : Heap} {m : Str → Option Value} {ox : Obj} {od : Option Obj} {name : Str} {b tb : Value}
theorem ne_bind (self : Value) : bindSpecial (.builtin "object.__ne__") self = pure (.builtin "object.__ne__", [self]) :=
  (Slot.of (T := "object") (name := "__ne__") (owner := "object") (n := "__ne__") (by rw [typeLookup_type, builtinLookup_eq_fast]; kernel_rfl) (by decide +kernel) (by decide +kernel) (by decide +kernel)
    (.inl (by decide +kernel)) (by rw [isSubtype_type]; kernel_rfl)).bind self
theorem ifBoundB_K {M : Model} {args : List Value} {id : String} {Q : Option Value → Shared → Prop} (X : K.In s.heap) (I : InstAt s.heap x ox C od) (hs : findIn K (.ref C) name = some (some (.builtin id))) (hb : ∀ self, bindSpecial (.builtin id) self = pure (.builtin id, [self]))
    (h : wpAny M A (call (.builtin id) (.ref x :: args)) (fun v => Q (some v)) E s) : wpAny M A (callSpecialIfBound? (.ref x) name args) Q E s := by
  simp only [callSpecialIfBound?, bindSpecialIfBound?]
  refine wpAny_holding (wpAny_bind (wpAny_bind (wpAny_bind (I.type.here ((looks_findIn X hs).here ?_)))))
  refine wpAny_bind (wpAny_askSetting (wpAny_ite ?_))
  have fin : wpAny M A (call (.builtin id) ([.ref x] ++ args) >>= fun v => pure (some v)) Q E s := wpAny_bind (wpAny_mono h (fun v s' h' => wpAny_pure h') fun _ _ h' => h')
  simp only [hb]
  split
  · exact wpAny_bind (wpAny_pure (wpAny_pure (by exact fin)))
  · exact wpAny_tryCatch (wpAny_bind (wpAny_pure (wpAny_pure (by exact fin))))
theorem ne_K {Q : Value → Shared → Prop} (hu : A.units + 1 < cLine) (F : Fr h₀ L s.heap m) (X₀ : K.In h₀) (I : InstAt s.heap x ox C od) (hb : Looks (model prog w) s.heap (typeOf b) tb) (hn : notFirst K C tb = true)
    (hne : findIn K (.ref C) "__ne__" = some (some (.builtin "object.__ne__"))) (hm : mroIn K C (.type "object") = some true)
    (hs : findIn K (.ref C) "__eq__" = some (some (.ref f))) (hf : isFn K (.ref f) = true)
    (h : wpAny (model prog w) A.in1 (call (.ref f) [.ref x, b]) (fun v s' => ∃ k, v = .bool k ∧ Q (.bool !k) s') E s) : wpAny (model prog w) A (richCompare .NotEq (.ref x) b) Q E s := by
  have X := X₀.keeps F.keep
  have hu1 : A.units < cLine := by omega
  have one : wpAny (model prog w) A (tryCompare (.ref x) "__ne__" b) (fun r s' => ∃ v, r = some v ∧ Q v s') E s := by
    unfold tryCompare
    refine wpAny_bind (ifBoundB_K X I hne ne_bind (wpAny_call (codeAny_call_builtin PySem.F.cmp_object.ne.plain PySem.F.cmpEntry_ne (check_slot (i := "object.__ne__") (owner := "object") (n := "__ne__") (by decide +kernel) (by decide +kernel) (I.type.andThen (looks_mroIn X hm)) (PySem.F.cmpArgs_ne _ _) ?_))))
    unfold Builtin.«object.__ne__»
    refine wpAny_bind (m := slotArgs "__ne__" 1 _) (wpAny_pure ?_)
    refine wpAny_bind (m := cRoomFor _ _) (wpAny_cRoomFor hu ?_)
    refine wpAny_bind (m := callSpecialIfBound? (.ref x) (Str.ofString "__eq__") _) (ifBound_K X I hs hf (wpAny_mono h (fun r s' hq => ?_) fun _ _ y => y))
    obtain ⟨k, rfl, hq⟩ := hq
    refine wpAny_bind (m := truthy (.bool k)) (wpAny_truthy_bool ?_)
    exact wpAny_pure (wpAny_pure ⟨_, rfl, hq⟩)
  unfold richCompare
  simp only [oneThing_ref]
  refine wpAny_holding (wpAny_bind (wpAny_cRoomFor hu1 ?_))
  rw [cmpInfo_NotEq]
  dsimp only
  refine wpAny_bind (I.type.here (wpAny_bind (hb.here ?_)))
  split
  · rename_i q
    have e : subIn K tb (.ref C) = some false := by
      rcases Bool.or_eq_true_iff.mp hn with e | e
      · rw [beq_iff_eq.mp e] at q; simp at q
      · exact beq_iff_eq.mp e
    refine wpAny_bind ((looks_subIn X e).here ?_)
    simp only [Bool.false_eq_true, if_false]
    refine wpAny_bind (wpAny_mono one (fun r s' z => ?_) fun _ _ e => e)
    obtain ⟨v, rfl, hq⟩ := z
    exact wpAny_pure hq
  · refine wpAny_bind (wpAny_pure ?_)
    simp only [Bool.false_eq_true, if_false]
    refine wpAny_bind (wpAny_mono one (fun r s' z => ?_) fun _ _ e => e)
    obtain ⟨v, rfl, hq⟩ := z
    exact wpAny_pure hq
end

/-! ### a function's call somewhere below -/
section
variable {X : Cx} {T : Tb} {W : WX} {k n : Nat} {f : Addr} {ks : List Str} {h : List PV → List PV → Store → Res PV}
theorem call_valA {A : Around} {pins : List (Addr × Obj)} {σ : L2.St} {H : Hp} {s : Shared} {Q : VK} {us : List Value} {vs : List V} {P F : Hp} {io : List Addr} {xs : List PV} {st : Store}
    (G : FnS X.prog X.w X.K X.mg X.base T k f n [] h) (hr : Room k A) (hE : Env0 X.prog X.w X.K X.mg X.base A X.stack s H) (tk : Takes X W) (I : Inv X pins σ H s) (r : Vals vs us) (l1 : vs.length = n)
    (rx : Rs X.K T F io xs vs) (hS : RS X.K T P F io st H) (hp : Post X.K T P (rV X.K T) (fun c d H' => W c d σ H') F io (h xs [] st) Q) : wpAny (model X.prog X.w) A (call (.ref f) us) (EP X pins σ Q) X.xe s := by
  obtain ⟨fd, ps, m, gP, F1, ⟨g, gV, kb, rel⟩, rfl⟩ := G.ex
  have r3 := rel F io xs [] vs [] rx .nil l1 rfl
  have hb := kb.rel r .nil
  refine wpAny_call (codeAny_mono (F1.run A X.stack s H ⟨us, []⟩ (g us []) (gV vs []) Q (fun c d H' => W c d σ H') hr hE (by simpa using kb.to s us [] I.kIn (r.length.symm.trans l1) rfl) hb ⟨r3.2, P, F, io, _, st, r3.1, hS, hp⟩) fun r s' hq => ?_)
  cases r with
  | error e => exact (passAt tk σ) pins H s e s' I hq
  | ok fl =>
    cases fl with
    | ret u => exact I.after hq
    | next => exact False.elim hq
    | brk => exact False.elim hq
    | cont => exact False.elim hq
/-- an own class with an own == ; gs: the classes of what stands on the right -/
structure EqS (P : Program) (w : World) (K : PySem.W.Frag) (mg : Str → Option Value) (base : Heap) (T : Tb) (k : Nat) (c : Nat) (gs : List Tg) (h : List PV → List PV → Store → Res PV) : Prop where
  ex : ∃ f, PySem.W.findIn K (.ref (T.ca c)) "__eq__" = some (some (.ref f)) ∧ PySem.W.isFn K (.ref f) = true ∧ FnS P w K mg base T k f 2 [] h
  nf : ∀ g ∈ gs, PySem.W.notFirst K (T.ca c) (T.tgv g) = true ∧ ∀ d, g = .c d → InsOk K (T.ca d)
  ne : PySem.W.findIn K (.ref (T.ca c)) "__ne__" = some (some (.builtin "object.__ne__")) ∧ PySem.W.mroIn K (T.ca c) (.type "object") = some true
abbrev EqTab := List (Nat × List Tg × (List PV → List PV → Store → Res PV))
def eqOf (tab : EqTab) (s : Store) (x y : PV) : Option (List PV → List PV → Store → Res PV) := match (clsOf s x).bind fun c => tab.lookup c with
  | some (gs, h) => (match tgOf s y with
    | some g => if g ∈ gs then some h else none
    | none => none)
  | none => none
/-- x == y, x an instance with an own == -/
def eOwnEq (tab : EqTab) (a b : EM) : EM := fun σ s => (a σ s).bind fun x s1 => (b σ s1).bind fun y s2 => match eqOf tab s2 x y with
  | some h => h [x, y] [] s2
  | none => .stuck
def eOwnNe (tab : EqTab) (a b : EM) : EM := fun σ s => (a σ s).bind fun x s1 => (b σ s1).bind fun y s2 => match eqOf tab s2 x y with
  | some h => (h [x, y] [] s2).bind fun z s3 => match z with
    | .bl k => .ok (.bl !k) s3
    | _ => .stuck
  | none => .stuck
theorem eqOf_use {tab : EqTab} {P F : Hp} {io : List Addr} {s : Store} {H : Hp} {x y : PV} {v u : V} {pins : List (Addr × Obj)} {σ : L2.St} {sh : Shared} (hS : RS X.K T P F io s H) (rx : R X.K T F io x v) (ry : R X.K T F io y u) (I : Inv X pins σ H sh) {u' : Value} (ru : RelV u u')
    (G : ∀ q ∈ tab, EqS X.prog X.w X.K X.mg X.base T k q.1 q.2.1 q.2.2) (e : eqOf tab s x y = some h) : ∃ c f a ox od, v = .ref a ∧ PySem.W.InstAt sh.heap a ox (T.ca c) od ∧ Looks (model X.prog X.w) sh.heap (typeOf u') (T.tgv ((tgOf s y).getD (.t ""))) ∧
      PySem.W.notFirst X.K (T.ca c) (T.tgv ((tgOf s y).getD (.t ""))) = true ∧ PySem.W.findIn X.K (.ref (T.ca c)) "__eq__" = some (some (.ref f)) ∧ PySem.W.isFn X.K (.ref f) = true ∧ FnS X.prog X.w X.K X.mg X.base T k f 2 [] h ∧
      PySem.W.findIn X.K (.ref (T.ca c)) "__ne__" = some (some (.builtin "object.__ne__")) ∧ PySem.W.mroIn X.K (T.ca c) (.type "object") = some true := by
  unfold eqOf at e
  split at e
  · rename_i gs h' hc
    obtain ⟨c, hc1, hc2⟩ := Option.bind_eq_some_iff.mp hc
    split at e
    · rename_i g hg
      split at e
      · rename_i hgs
        cases e
        have G1 := G _ (lookup_mem hc2)
        obtain ⟨f, g1, g2, g3⟩ := G1.ex
        obtain ⟨n1, n2⟩ := G1.nf g hgs
        obtain ⟨a, dx, fv, rfl, e2, _⟩ := eMeth_use hS rx hc1
        obtain ⟨mA, O, _⟩ := ins_get I.hok e2
        obtain ⟨od, J, _⟩ := O.look
        have ty := tyx_of hS ry hg n2
        obtain ⟨Pz, Z, p, _⟩ := kit_of I ru ty
        rw [hg]
        exact ⟨c, f, a, _, od, rfl, J, Z.ty _ _ I.kIn p, n1, g1, g2, g3, G1.ne.1, G1.ne.2⟩
      · cases e
    · cases e
  · cases e
variable {a b : Expr} {ma mb : EM} {pos : Pos} {tab : EqTab}
/-- == as an operator by values, own == -/
def rOwnEq (X : Cx) (T : Tb) (W : WX) (tab : EqTab) (σ : L2.St) : R2 := fun v u H Q => ∃ P F io s x y, R X.K T F io x v ∧ R X.K T F io y u ∧ RS X.K T P F io s H ∧ Post X.K T P (rV X.K T) (fun c d H' => W c d σ H') F io (match eqOf tab s x y with
  | some h => h [x, y] [] s
  | none => .stuck) Q
theorem op_ownEq (G : ∀ q ∈ tab, EqS X.prog X.w X.K X.mg X.base T k q.1 q.2.1 q.2.2) (hr : Room (k + 1) X.A) (tk : Takes X W) {pins : List (Addr × Obj)} {s : Shared} {σ : L2.St} {H : Hp} {x y : V} {v u : Value} {Q : VK} (I : Inv X pins σ H s) (rx : RelV x v) (ry : RelV y u)
    (hq : rOwnEq X T W tab σ x y H Q) : wpAny (model X.prog X.w) X.A (compareOp .Eq v u) (EP X pins σ Q) X.xe s := by
  obtain ⟨P, F, io, st, p, q, rp, rq, hS, hp⟩ := hq
  cases hc : eqOf tab st p q with
  | none => rw [hc] at hp; exact hp.elim
  | some h =>
    rw [hc] at hp
    obtain ⟨c, f, a, ox, od, rfl, J, L, nf, h1, h2, h3, _, _⟩ := eqOf_use hS rp rq I ry G hc
    cases rx
    obtain ⟨m, hF⟩ := I.fr
    refine PySem.W.cmp_ofEq (PySem.W.cmp_K (op := .Eq) hr.units0 hF I.ok.mod.kin J L nf h1 h2 ?_)
    refine wpAny_mono (call_valA (us := [.ref a, u]) (vs := [.ref a, y]) h3 (hr.mono (Nat.le_succ k)) I.env0 tk I (.cons rfl (.cons ry .nil)) rfl (.cons rp (.cons rq .nil)) hS hp) (fun w s' z => ?_) fun _ _ x => x
    obtain ⟨z', H', I', rz, qz⟩ := z
    exact SlX.cmpback rz ⟨z', H', I', rz, qz⟩
theorem op_ownNe (G : ∀ q ∈ tab, EqS X.prog X.w X.K X.mg X.base T k q.1 q.2.1 q.2.2) (hr : Room (k + 1) X.A) (tk : Takes X W) {pins : List (Addr × Obj)} {s : Shared} {σ : L2.St} {H : Hp} {x y : V} {v u : Value} {Q : VK} (I : Inv X pins σ H s) (rx : RelV x v) (ry : RelV y u)
    (hq : rOwnEq X T W tab σ x y H fun z H' => ∃ k, z = .bl k ∧ Q (.bl !k) H') : wpAny (model X.prog X.w) X.A (compareOp .NotEq v u) (EP X pins σ Q) X.xe s := by
  obtain ⟨P, F, io, st, p, q, rp, rq, hS, hp⟩ := hq
  cases hc : eqOf tab st p q with
  | none => rw [hc] at hp; exact hp.elim
  | some h =>
    rw [hc] at hp
    obtain ⟨c, f, a, ox, od, rfl, J, L, nf, h1, h2, h3, h4, h5⟩ := eqOf_use hS rp rq I ry G hc
    cases rx
    obtain ⟨m, hF⟩ := I.fr
    refine PySem.W.cmp_ofNotEq (ne_K (by have := hr.un; omega) hF I.ok.mod.kin J L nf h4 h5 h1 h2 ?_)
    refine wpAny_mono (call_valA (us := [.ref a, u]) (vs := [.ref a, y]) h3 hr.in1 I.env0.in1 tk I (.cons rfl (.cons ry .nil)) rfl (.cons rp (.cons rq .nil)) hS hp) (fun w s' z => ?_) fun _ _ x => x
    obtain ⟨z', H', I', rz, kk, ez, qz⟩ := z
    subst ez
    cases (show w = Value.bool kk from rz)
    exact ⟨kk, rfl, .bl !kk, H', I', rfl, qz⟩
theorem me_ownEq (G : ∀ q ∈ tab, EqS X.prog X.w X.K X.mg X.base T k q.1 q.2.1 q.2.2) (hr : Room (k + 1) X.A) (tk : Takes X W) (ha : PE X a (tE X.K T W ma)) (hb : PE X b (tE X.K T W mb)) (hm : behindInMarks .Eq b = false) : PE X (.Compare a [.Eq] [b] pos) (tE X.K T W (eOwnEq tab ma mb)) := by
  refine ⟨fun pins s σ H Q I ⟨P, F, io, en, st, hE, hS, hp⟩ => ?_⟩
  refine wpAny_Compare1 (thn (ha.run pins s σ H _ I ⟨P, F, io, en, st, hE, hS, Post.bind (rel := rV X.K T) hp⟩) fun v s1 ⟨x, H1, I1, r1, F1, io1, px, st1, l1, rx, hS1, hp1⟩ => ?_) hm
  refine thn (hb.run pins s1 σ H1 _ I1 ⟨P, F1, io1, en, st1, hE.mono l1, hS1, Post.bind (rel := rV X.K T) hp1⟩) fun u s2 ⟨y, H2, I2, r2, F2, io2, py, st2, l2, ry, hS2, hp2⟩ => ?_
  exact op_ownEq G hr tk I2 r1 r2 ⟨P, F2, io2, st2, px, py, rx.mono l2, ry, hS2, hp2⟩
theorem ne_use {K : PySem.W.Frag} {P F : Hp} {io : List Addr} {Wz : Value → Option Addr → Hp → Prop} {r : Res PV} {Q : VK} (hp : Post K T P (rV K T) Wz F io (r.bind fun z s3 => match z with
    | .bl k => .ok (.bl !k) s3
    | _ => .stuck) Q) : Post K T P (rV K T) Wz F io r fun z H' => ∃ k, z = .bl k ∧ Q (.bl !k) H' := by
  cases r with
  | ok z s3 =>
    cases z with
    | bl k => exact fun F1 io1 y H1 l1 r1 hS1 => by cases r1; exact ⟨k, rfl, hp F1 io1 _ H1 l1 (.bl _) hS1⟩
    | _ => exact hp.elim
  | exc e s3 => exact hp
  | stuck => exact hp
theorem me_ownNe (G : ∀ q ∈ tab, EqS X.prog X.w X.K X.mg X.base T k q.1 q.2.1 q.2.2) (hr : Room (k + 1) X.A) (tk : Takes X W) (ha : PE X a (tE X.K T W ma)) (hb : PE X b (tE X.K T W mb)) (hm : behindInMarks .NotEq b = false) : PE X (.Compare a [.NotEq] [b] pos) (tE X.K T W (eOwnNe tab ma mb)) := by
  refine ⟨fun pins s σ H Q I ⟨P, F, io, en, st, hE, hS, hp⟩ => ?_⟩
  refine wpAny_Compare1 (thn (ha.run pins s σ H _ I ⟨P, F, io, en, st, hE, hS, Post.bind (rel := rV X.K T) hp⟩) fun v s1 ⟨x, H1, I1, r1, F1, io1, px, st1, l1, rx, hS1, hp1⟩ => ?_) hm
  refine thn (hb.run pins s1 σ H1 _ I1 ⟨P, F1, io1, en, st1, hE.mono l1, hS1, Post.bind (rel := rV X.K T) hp1⟩) fun u s2 ⟨y, H2, I2, r2, F2, io2, py, st2, l2, ry, hS2, hp2⟩ => ?_
  refine op_ownNe G hr tk I2 r1 r2 ⟨P, F2, io2, st2, px, py, rx.mono l2, ry, hS2, ?_⟩
  replace hp2 : Post X.K T P (rV X.K T) (fun c d H' => W c d σ H') F2 io2 (match eqOf tab st2 px py with
    | some h => (h [px, py] [] st2).bind fun z s3 => match z with
      | .bl k => .ok (.bl !k) s3
      | _ => .stuck
    | none => .stuck) Q := hp2
  cases hc : eqOf tab st2 px py with
  | none => rw [hc] at hp2; exact hp2
  | some h => rw [hc] at hp2; exact ne_use hp2
theorem bl_use {K : PySem.W.Frag} {P F : Hp} {io : List Addr} {Wz : Value → Option Addr → Hp → Prop} {r : Res PV} {Q : Bool → Hp → Prop} (hp : Post K T P rB Wz F io (r.bind fun z s3 => match z with
    | .bl k => .ok k s3
    | _ => .stuck) Q) : Post K T P (rV K T) Wz F io r fun z H' => ∃ k, z = .bl k ∧ Q k H' := by
  cases r with
  | ok z s3 =>
    cases z with
    | bl k => exact fun F1 io1 y H1 l1 r1 hS1 => by cases r1; exact ⟨k, rfl, hp F1 io1 _ H1 l1 rfl hS1⟩
    | _ => exact hp.elim
  | exc e s3 => exact hp
  | stuck => exact hp
theorem qe_ownEq (G : ∀ q ∈ tab, EqS X.prog X.w X.K X.mg X.base T k q.1 q.2.1 q.2.2) (hr : Room (k + 1) X.A) (tk : Takes X W) (ha : PE X a (tE X.K T W ma)) (hb : PE X b (tE X.K T W mb)) (hm : behindInMarks .Eq b = false) : PT X (.Compare a [.Eq] [b] pos) (tQ X.K T W (qBl (eOwnEq tab ma mb))) := by
  refine ⟨fun pins s σ H Q I ⟨P, F, io, en, st, hE, hS, hp⟩ => ?_⟩
  replace hp := bl_use hp
  refine wpAny_isTrue_Compare1 (thn (ha.run pins s σ H _ I ⟨P, F, io, en, st, hE, hS, Post.bind (rel := rV X.K T) hp⟩) fun v s1 ⟨x, H1, I1, r1, F1, io1, px, st1, l1, rx, hS1, hp1⟩ => ?_) hm
  refine thn (hb.run pins s1 σ H1 _ I1 ⟨P, F1, io1, en, st1, hE.mono l1, hS1, Post.bind (rel := rV X.K T) hp1⟩) fun u s2 ⟨y, H2, I2, r2, F2, io2, py, st2, l2, ry, hS2, hp2⟩ => ?_
  refine thn (op_ownEq G hr tk I2 r1 r2 ⟨P, F2, io2, st2, px, py, rx.mono l2, ry, hS2, hp2⟩) fun c s3 ⟨z, H3, I3, r3, kk, e, q3⟩ => ?_
  subst e
  cases r3
  exact wpAny_truthy_bool ⟨H3, I3, q3⟩
theorem qe_ownNe (G : ∀ q ∈ tab, EqS X.prog X.w X.K X.mg X.base T k q.1 q.2.1 q.2.2) (hr : Room (k + 1) X.A) (tk : Takes X W) (ha : PE X a (tE X.K T W ma)) (hb : PE X b (tE X.K T W mb)) (hm : behindInMarks .NotEq b = false) : PT X (.Compare a [.NotEq] [b] pos) (tQ X.K T W (qBl (eOwnNe tab ma mb))) := by
  refine ⟨fun pins s σ H Q I ⟨P, F, io, en, st, hE, hS, hp⟩ => ?_⟩
  replace hp := bl_use hp
  refine wpAny_isTrue_Compare1 (thn (ha.run pins s σ H _ I ⟨P, F, io, en, st, hE, hS, Post.bind (rel := rV X.K T) hp⟩) fun v s1 ⟨x, H1, I1, r1, F1, io1, px, st1, l1, rx, hS1, hp1⟩ => ?_) hm
  refine thn (hb.run pins s1 σ H1 _ I1 ⟨P, F1, io1, en, st1, hE.mono l1, hS1, Post.bind (rel := rV X.K T) hp1⟩) fun u s2 ⟨y, H2, I2, r2, F2, io2, py, st2, l2, ry, hS2, hp2⟩ => ?_
  have hp3 : Post X.K T P (rV X.K T) (fun c d H' => W c d σ H') F2 io2 (match eqOf tab st2 px py with
    | some h => (h [px, py] [] st2).bind fun z s3 => match z with
      | .bl k => .ok (.bl !k) s3
      | _ => .stuck
    | none => .stuck) _ := hp2
  refine thn (op_ownNe G hr tk I2 r1 r2 (Q := fun z H' => ∃ k, z = .bl k ∧ Q k H') ⟨P, F2, io2, st2, px, py, rx.mono l2, ry, hS2, ?_⟩) fun c s3 ⟨z, H3, I3, r3, kk, e, q3⟩ => ?_
  · cases hc : eqOf tab st2 px py with
    | none => rw [hc] at hp3; exact hp3
    | some h => rw [hc] at hp3; exact ne_use hp3
  · subst e
    cases r3
    exact wpAny_truthy_bool ⟨H3, I3, q3⟩
end
end Mir
/-! Mir, part L: what the head tells; forms of calls. -/
namespace Mir
open PySem PySem.Spec PyProof.Rows L2

theorem tkz0 {X : Cx} : Takes X W0 := fun u s' ⟨_, _, _, _, _, _, _, _, _, _, _, _, _, _, _, _, h⟩ => h.elim
section
variable {P : Program} {w : World} {K : PySem.W.Frag} {mg : Str → Option Value} {base : Heap} {N : List Str} {qual : Str} {scope : Scope} {f : Addr} {cdv : Value} {A : Around} {outer : List PySem.Env} {s : Shared} {H : Hp} {E : XK}
theorem takesB : Takes (cxB P w K mg base N qual scope f cdv A outer s H E) (fun c d _ H' => E c d H') := takes_of rfl rfl rfl rfl
theorem passesB : PassesOwn (model P w) (cxB P w K mg base N qual scope f cdv A outer s H E).A (cxB P w K mg base N qual scope f cdv A outer s H E).env (cxB P w K mg base N qual scope f cdv A outer s H E).xe := passes_of rfl
end

/-! ### how calls bind -/
def pickL {α : Type} (sel : List Nat) (l : List α) : List α := sel.filterMap fun i => l[i]?
theorem pickL_vals {sel : List Nat} {vs : List V} {us : List Value} (r : Vals vs us) : Vals (pickL sel vs) (pickL sel us) := by
  induction sel with
  | nil => exact .nil
  | cons i t ih =>
    unfold pickL at ih ⊢
    rw [List.filterMap_cons, List.filterMap_cons]
    cases hv : vs[i]? with
    | none =>
      have : us[i]? = none := by
        rw [List.getElem?_eq_none_iff] at hv ⊢
        rw [← r.length]; exact hv
      rw [this]; exact ih
    | some v =>
      obtain ⟨u, hu, ru⟩ := r.get hv
      rw [hu]; exact .cons ru ih
theorem pickL_rs {K : PySem.W.Frag} {T : Tb} {F : Hp} {io : List Addr} {sel : List Nat} {vs : List PV} {us : List V} (r : Rs K T F io vs us) : Rs K T F io (pickL sel vs) (pickL sel us) := by
  induction sel with
  | nil => exact .nil
  | cons i t ih =>
    unfold pickL at ih ⊢
    rw [List.filterMap_cons, List.filterMap_cons]
    cases hv : vs[i]? with
    | none =>
      have : us[i]? = none := by
        rw [List.getElem?_eq_none_iff] at hv ⊢
        rw [← r.length]; exact hv
      rw [this]; exact ih
    | some v =>
      obtain ⟨u, hu, ru⟩ := r.get hv
      rw [hu]; exact .cons ru ih
theorem pickL_len {α : Type} {l : List α} : ∀ {sel : List Nat}, (∀ i ∈ sel, i < l.length) → (pickL sel l).length = sel.length
  | [], _ => rfl
  | i :: t, h => by
    have hi := h i (List.mem_cons_self ..)
    unfold pickL
    rw [List.filterMap_cons, List.getElem?_eq_getElem hi]
    simp only [List.length_cons]
    congr 1
    exact pickL_len fun j hj => h j (List.mem_cons_of_mem _ hj)
section
variable {K : PySem.W.Frag} {T : Tb} {x qual : Str} {params : Arguments} {body : List Stmt} {scope : Scope} {dvs : List V} {kws : List (Str × V)} {f : Addr} {fd : FuncData} {ps : List Str}
/-- all by position -/
theorem callS_plain {np : Nat} (F : FunD K x qual params body scope [] kws f fd) (hn : np = ps.length)
    (h : ∀ (kV doc pm : Value) (an : Option Addr) (cdv ct : Value) (us : List Value), us.length = ps.length → bindArgs (PySem.W.fnOf x qual params body scope .none kV doc pm an cdv ct) ⟨us, []⟩ = pure (ps.zip us)) : CallS K T fd ps np [] (fun vs _ => vs) := by
  subst hn
  refine ⟨fun us _ => us, fun vs _ => vs, ⟨fun s us ws X l1 l2 => ?_, fun r _ => r⟩, fun F io vs zs us ws r _ l _ => ⟨r, l⟩⟩
  have : ws = [] := List.eq_nil_of_length_eq_zero l2
  subst this
  exact F.bindsA h s us l1
/-- keyword-only parameters: those that lack take their defaults -/
theorem callS_kwo {n : Nat} {ks : List Str} {ms : List (Str × V)} {mp : List PV} {sel : List Nat} (F : FunD K x qual params body scope [] kws f fd) (hk : kws ≠ []) (hms : ∀ q ∈ ms, q ∈ kws) (hmp : ∀ F io, Rs K T F io mp (ms.map (·.2)))
    (hsel : (∀ i ∈ sel, i < n + mp.length + ks.length) ∧ sel.length = ps.length)
    (h : ∀ (D : Addr) (doc pm : Value) (an : Option Addr) (cdv ct : Value) (us mv ws : List Value), us.length = n → mv.length = ms.length → ws.length = ks.length →
      KwChain D ((ms.map (·.1)).zip mv) (bindArgs (PySem.W.fnOf x qual params body scope .none (.ref D) doc pm an cdv ct) ⟨us, ks.zip ws⟩) (ps.zip (pickL sel (us ++ mv ++ ws)))) :
    CallS K T fd ps n ks (fun vs zs => pickL sel (vs ++ mp ++ zs)) := by
  obtain ⟨mv, kb⟩ := FunD.kbinds0 F n ks ms (fun us mv ws => pickL sel (us ++ mv ++ ws)) hk hms (fun r1 r2 r3 => pickL_vals ((r1.append r2).append r3)) h
  refine ⟨_, _, kb, fun F io vs zs us ws r1 r2 l1 l2 => ⟨pickL_rs ((r1.append (hmp F io)).append r2), ?_⟩⟩
  rw [pickL_len]
  · exact hsel.2
  · intro i hi
    have := hsel.1 i hi
    have e := (hmp F io).length
    simp only [List.length_append]
    omega
end

/-! ### constants of the module -/
mutual
def okC (K : PySem.W.Frag) : PV → Value → Bool
  | .non, .none => true
  | .bl b, .bool c => b == c
  | .int i, .int j _ => decide (i = j)
  | .str l, .str z _ => decide (z.cps.toList = l)
  | .tup xs, .ref a => (match K.lookup a with
    | some ⟨.type c, _, .seq its _, _⟩ => decide (c = "tuple") && (decide (its.size ≤ sizeLine) && okCs K xs its.toList)
    | _ => false)
  | .ro xs, .ref a => (match K.lookup a with
    | some ⟨.type c, none, .seq its _, _⟩ => decide (c = "list") && (decide (its.size ≤ sizeLine) && okCs K xs its.toList)
    | _ => false)
  | _, _ => false
def okCs (K : PySem.W.Frag) : List PV → List Value → Bool
  | [], [] => true
  | x :: xs, v :: vs => okC K x v && okCs K xs vs
  | _, _ => false
end
mutual
theorem okC_ok {K : PySem.W.Frag} {T : Tb} : ∀ (x : PV) (u : Value), okC K x u = true → ∃ v, RelV v u ∧ ∀ F io, R K T F io x v
  | .non, u, h => by
    cases u <;> simp [okC] at h
    exact ⟨.non, rfl, fun _ _ => .non⟩
  | .bl b, u, h => by
    cases u <;> simp [okC] at h
    subst h
    exact ⟨.bl b, rfl, fun _ _ => .bl b⟩
  | .int i, u, h => by
    cases u <;> simp [okC] at h
    subst h
    exact ⟨.int i, ⟨_, rfl⟩, fun _ _ => .int i⟩
  | .str l, u, h => by
    cases u <;> simp [okC] at h
    rename_i z t
    subst h
    exact ⟨.str z, ⟨_, rfl⟩, fun _ _ => by
      have := R.str (K := K) (T := T) (F := ‹_›) (io := ‹_›) z.cps.toList
      simpa [St8] using this⟩
  | .tup xs, u, h => by
    cases u <;> simp only [okC] at h <;> try cases h
    rename_i a
    split at h
    · rename_i c d its n sl hl
      rw [Bool.and_eq_true, Bool.and_eq_true] at h
      obtain ⟨h1, h2, h3⟩ := h
      obtain ⟨vs, r1, r2⟩ := okCs_ok (T := T) xs its.toList h3
      exact ⟨.ref a, rfl, fun F io => .tup (.inr ⟨_, its, n, hl, congrArg Value.type (of_decide_eq_true h1), rfl, of_decide_eq_true h2, r1⟩) (r2 F io)⟩
    · cases h
  | .ro xs, u, h => by
    cases u <;> simp only [okC] at h <;> try cases h
    rename_i a
    split at h
    · rename_i c its n sl hl
      rw [Bool.and_eq_true, Bool.and_eq_true] at h
      obtain ⟨h1, h2, h3⟩ := h
      obtain ⟨vs, r1, r2⟩ := okCs_ok (T := T) xs its.toList h3
      exact ⟨.ref a, rfl, fun F io => .ro (.inr ⟨_, its, n, hl, congrArg Value.type (of_decide_eq_true h1), rfl, rfl, of_decide_eq_true h2, r1⟩) (r2 F io)⟩
    · cases h
  | .lst _, u, h => by cases u <;> simp [okC] at h
  | .dic _ _, u, h => by cases u <;> simp [okC] at h
  | .ins _ _, u, h => by cases u <;> simp [okC] at h
  | .loc _, u, h => by cases u <;> simp [okC] at h
  | .fn _, u, h => by cases u <;> simp [okC] at h
  | .cls _, u, h => by cases u <;> simp [okC] at h
  | .ty _, u, h => by cases u <;> simp [okC] at h
theorem okCs_ok {K : PySem.W.Frag} {T : Tb} : ∀ (xs : List PV) (us : List Value), okCs K xs us = true → ∃ vs, Vals vs us ∧ ∀ F io, Rs K T F io xs vs
  | [], us, h => by
    cases us <;> simp [okCs] at h
    exact ⟨[], .nil, fun _ _ => .nil⟩
  | x :: xs, us, h => by
    cases us with
    | nil => simp [okCs] at h
    | cons u us =>
      simp only [okCs, Bool.and_eq_true] at h
      obtain ⟨v, r1, r2⟩ := okC_ok (T := T) x u h.1
      obtain ⟨vs, r3, r4⟩ := okCs_ok (T := T) xs us h.2
      exact ⟨v :: vs, .cons r1 r3, fun F io => .cons (r2 F io) (r4 F io)⟩
end
def conC (K : PySem.W.Frag) (x : Str) (v : PV) : Bool := match PySem.W.nsIn K mainGlobals x with
  | some (some u) => okC K v u
  | _ => false
theorem con_ok {K : PySem.W.Frag} {T : Tb} {h : Heap} {mg : Str → Option Value} (X : K.In h) (G : h.Ns mainGlobals mg) {x : Str} {y : PV} (c : conC K x y = true) : ∃ v u, mg x = some u ∧ RelV v u ∧ ∀ F io, R K T F io y v := by
  unfold conC at c
  cases e : PySem.W.nsIn K mainGlobals x with
  | none => rw [e] at c; cases c
  | some o =>
    rw [e] at c
    cases o with
    | none => cases c
    | some u =>
      obtain ⟨v, r1, r2⟩ := okC_ok (T := T) y u c
      exact ⟨v, u, PySem.W.mg_of X G e, r1, r2⟩
theorem me_con {X : Cx} {T : Tb} {W : WX} {x : Str} {pos : Pos} {y : PV} (hg : Gl X x) (h : ∃ v u, X.mg x = some u ∧ RelV v u ∧ ∀ F io, R X.K T F io y v) (hd : (x == ("__debug__" : Str)) = false := by decide) : PE X (.Name x pos) (tE X.K T W (eC y)) := by
  obtain ⟨v, u, h1, h2, h3⟩ := h
  exact me_glob hg h1 h2 h3 hd

/-! ### the Hook: facts by names, and any looks at the written part -/
abbrev Ex := List (PySem.W.Frag → Bool)
abbrev AlM : Type := He.AlD × Bool
def obsM (fa : List He.Fa) (fn : List He.DefD) (ex : Ex) (K : PySem.W.Frag) : AlM := (He.obsD fa fn K, ex.all fun f => f K)
def obsMG (n : Nat) (fa : List He.Fa) (fn : List He.DefD) (ex : Ex) (g : Addr → Option Obj) : AlM := obsM fa fn ex (He.frG g (He.asD g n))
def SaysM (fa : List He.Fa) (fn : List He.DefD) (ex : Ex) (K : PySem.W.Frag) : Prop := obsM fa fn ex K = (He.valD fn, true)
def hookM (n : Nat) (fa : List He.Fa) (fn : List He.DefD) (ex : Ex) : PySem.W.Hook where
  α := AlM
  obs := fun s => obsMG n fa fn ex s.heap.get?
  val := fun _ => (He.valD fn, true)
  says := fun _ h => ∃ K : PySem.W.Frag, K.In h ∧ SaysM fa fn ex K
  of := fun _ _ e => ⟨_, He.frG_in, e⟩
  keeps := fun _ _ _ ⟨K, hK, c⟩ k => ⟨K, PySem.W.Frag.In.keeps hK k, c⟩
theorem obsMG_eq {n : Nat} {fa : List He.Fa} {fn : List He.DefD} {ex : Ex} {g : Addr → Option Obj} {s : Shared} (h : ∀ a, g a = s.heap.get? a) : obsMG n fa fn ex g = (hookM n fa fn ex).obs s := by
  have e : g = s.heap.get? := funext h
  rw [e] <;> rfl
section
variable {fa : List He.Fa} {fn : List He.DefD} {ex : Ex} {K : PySem.W.Frag}
theorem SaysM.d (c : SaysM fa fn ex K) : He.SaysD fa fn K := congrArg (fun z : AlM => z.1) c
theorem SaysM.xx (c : SaysM fa fn ex K) (i : Nat) {f : PySem.W.Frag → Bool} (h : ex[i]? = some f := by rfl) : f K = true := by
  have e : (ex.all fun f => f K) = true := congrArg (fun z : AlM => z.2) c
  exact List.all_eq_true.mp e f (List.mem_of_getElem? h)
end
/-- a class whose instances have a class that can be read -/
def insB (K : PySem.W.Frag) (C : Addr) : Bool := decide (PySem.W.findIn K (.ref C) "__class__" = some (some (.builtin "object.__class__"))) && (decide (PySem.W.specialIn K (.builtin "object.__class__") "__get__" = some (some (.builtin "getset_descriptor.__get__"))) &&
  (decide (PySem.W.takesIn K (.builtin "object.__class__") = some true) && decide (PySem.W.mroIn K C (.type "object") = some true)))
theorem insB_ok {K : PySem.W.Frag} {C : Addr} (c : Cls K C) (h : insB K C = true) : InsOk K C := by
  unfold insB at h
  simp only [Bool.and_eq_true, decide_eq_true_eq] at h
  exact ⟨c, h.1, h.2.1, h.2.2.1, h.2.2.2⟩
def tgA (ca : List Str) (K : PySem.W.Frag) : Tg → Value
  | .t n => .type n
  | .c n => .ref (He.ga K (ca.getD n ""))
def kitB2 (ca : List Str) (tab : List ((Tg × Tg) × Bool)) (K : PySem.W.Frag) : Bool := tab.all fun e => decide (PySem.W.kitOne K (tgA ca K e.1.1) (tgA ca K e.1.2) = some e.2)
def nfB (ca : List Str) (c : Nat) (gs : List Tg) (K : PySem.W.Frag) : Bool := gs.all fun g => PySem.W.notFirst K (He.ga K (ca.getD c "")) (tgA ca K g)
def neB (ca : List Str) (c : Nat) (K : PySem.W.Frag) : Bool := decide (PySem.W.findIn K (.ref (He.ga K (ca.getD c ""))) "__ne__" = some (some (.builtin "object.__ne__"))) && decide (PySem.W.mroIn K (He.ga K (ca.getD c "")) (.type "object") = some true)
/-- the table of a law's own classes -/
def tbM (K : PySem.W.Frag) (ca : List Str) (fl : List (List Str)) : Tb := ⟨fun n => He.ga K (ca.getD n ""), fun _ => 0, fun n => fl.getD n [], fun _ _ _ => True, fun _ _ _ _ _ _ _ => trivial⟩
instance {K : PySem.W.Frag} {ca : List Str} {fl : List (List Str)} : NoGh (tbM K ca fl) := ⟨fun _ _ _ => trivial⟩
theorem tgA_eq {K : PySem.W.Frag} {ca : List Str} {fl : List (List Str)} (g : Tg) : (tbM K ca fl).tgv g = tgA ca K g := by cases g <;> rfl
/-- the statements of a class statement -/
def clsBody (s : Stmt) : List Stmt := match s with
  | .ClassDef _ _ _ b _ _ _ _ _ _ _ => b
  | _ => []
section
variable {X : Cx} {T : Tb} {W : WX} {a : Expr} {ma : EM} {pos : Pos}
theorem me_and1 (h : PE X a (tE X.K T W ma)) : PE X (.BoolOp .And [a] pos) (tE X.K T W ma) := ⟨fun pins s σ H Q I q => h.run pins s σ H Q I q⟩
theorem me_or1 (h : PE X a (tE X.K T W ma)) : PE X (.BoolOp .Or [a] pos) (tE X.K T W ma) := ⟨fun pins s σ H Q I q => h.run pins s σ H Q I q⟩
theorem bbeq (a b : Bool) : (a == b) = decide (b = a) := by cases a <;> cases b <;> rfl
theorem me_isB {q : Pos} {j : Nat} {b : Bool} (ha : PE X a (tE X.K T W ma)) : PE X (.Compare a [.Is] [.Constant (.bool b) j q] pos) (tE X.K T W (eOp1 (pyIs (.bl b)) ma)) := by
  refine PE.weak (pe_cmpR op_is_bl ha pe_bl (nomark _)) fun σ H Q ⟨P, F, io, en, s, hE, hS, hp⟩ => ?_
  refine tE_use hE hS hp fun v H1 F1 io1 x s1 hE1 rx hS1 l1 hp1 => ?_
  cases rx with
  | bl c => exact ⟨c, b, rfl, rfl, by have := hp1.ok_of Le.refl (.bl _) hS1; rwa [bbeq] at this⟩
  | _ => exact hp1.elim
theorem me_notB {q : Pos} {j : Nat} {b : Bool} (ha : PE X a (tE X.K T W ma)) : PE X (.Compare a [.IsNot] [.Constant (.bool b) j q] pos) (tE X.K T W (eNotB (eOp1 (pyIs (.bl b)) ma))) := by
  refine PE.weak (pe_cmpR op_isnot_bl ha pe_bl (nomark _)) fun σ H Q ⟨P, F, io, en, s, hE, hS, hp⟩ => ?_
  unfold eNotB eOp1 at hp
  simp only [Res.bind_assoc] at hp
  refine tE_use hE hS hp fun v H1 F1 io1 x s1 hE1 rx hS1 l1 hp1 => ?_
  cases rx with
  | bl c => exact ⟨c, b, rfl, rfl, by have := hp1.ok_of Le.refl (.bl _) hS1; rwa [bbeq] at this⟩
  | _ => exact hp1.elim
theorem qe_isB {q : Pos} {j : Nat} {b : Bool} (ha : PE X a (tE X.K T W ma)) : PT X (.Compare a [.Is] [.Constant (.bool b) j q] pos) (tQ X.K T W (qBl (eOp1 (pyIs (.bl b)) ma))) := by
  refine PT.weak (pt_cmpR op_is_bl ha pe_bl (nomark _)) fun σ H Q ⟨P, F, io, en, s, hE, hS, hp⟩ => ?_
  unfold qBl eOp1 at hp
  simp only [Res.bind_assoc] at hp
  refine tE_use hE hS hp fun v H1 F1 io1 x s1 hE1 rx hS1 l1 hp1 => ?_
  cases rx with
  | bl c => exact ⟨c, b, rfl, rfl, _, rfl, by have := hp1.ok_of Le.refl rfl hS1; rwa [bbeq] at this⟩
  | _ => exact hp1.elim
theorem qe_notB {q : Pos} {j : Nat} {b : Bool} (ha : PE X a (tE X.K T W ma)) : PT X (.Compare a [.IsNot] [.Constant (.bool b) j q] pos) (tQ X.K T W (qBl (eNotB (eOp1 (pyIs (.bl b)) ma)))) := by
  refine PT.weak (pt_cmpR op_isnot_bl ha pe_bl (nomark _)) fun σ H Q ⟨P, F, io, en, s, hE, hS, hp⟩ => ?_
  unfold qBl eNotB eOp1 at hp
  simp only [Res.bind_assoc] at hp
  refine tE_use hE hS hp fun v H1 F1 io1 x s1 hE1 rx hS1 l1 hp1 => ?_
  cases rx with
  | bl c => exact ⟨c, b, rfl, rfl, _, rfl, by have := hp1.ok_of Le.refl rfl hS1; rwa [bbeq] at this⟩
  | _ => exact hp1.elim
end
theorem ru {k : Nat} {A : Around} (r : Room k A) : A.units + 64 < cLine := by have := r.un; omega
end Mir
/-! Mir, part M: a law's end. -/
namespace Mir
open PySem PySem.Spec PyProof.Rows L2
theorem walk_ofM {l : PySem.W.OpenLaw} {n k : Nat} {q : Program} {loose : List Str} {XP : (Str → Option Value) → Heap → Prop} {YP : World → Heap → Prop} {d : DefRec} {CX : World → CXT} {x : Str}
    (hn : l.most = some n) (hn2 : n ≤ sizeLine) (hdf : d.params.defaults = []) (hr : Room k callerA)
    (F : ∀ (w : World) (mg : Str → Option Value) (fa : Addr) (h : Heap), YP w h → h.Ns mainGlobals mg → mg d.name = some (.ref fa) →
      ∃ (K : PySem.W.Frag) (fd : FuncData) (sp : Sp), K.In h ∧ (∀ (s : Shared) (u : Value), BindsTo s fd ⟨[u], []⟩ [(x, u)]) ∧
        (∀ (H : Hp) (a : Addr) (ns : List Int), ns.length ≤ n → Only H → SqL K H a (ns.map V.int) → sp [.ref a] H (fun v _ => v = .bl true) fun _ _ _ => False) ∧
        ∀ base : Heap, K.In base → base.Ns mainGlobals mg → FnOk l.prog w K mg base (CX w) k fa fd [x] sp)
    (hCX : ∀ (w : World) (H : Hp) (s : Shared) (e : Value) (s' : Shared), CX w [] H s (fun _ _ _ => False) e s' → False) :
    PySem.W.WalkO q loose XP YP l.row.toRowW d [] (fun f vs => PySem.call f vs) := by
  refine Att.attach_call hn hdf fun w s₀ s₁ mg mb fa o pm cd doc a vs ns G Y ho hd hcd hmg hobj hints hlen hg => ?_
  obtain ⟨K, fd, sp, KX, hb, hsp, hF⟩ := F w mg fa _ Y G.T.g hmg
  exact law_call KX G.T.g G.T.b G.T.builtins G.T.nolimit hg hobj hints (Nat.le_trans hlen hn2) hr hF hb (fun H hO hS => hsp H a ns hlen hO hS) fun H e s' => hCX w H s₁ e s'
theorem cx_none {P : Program} {w : World} {H : Hp} {s : Shared} {e : Value} {s' : Shared} (h : L2.CX P w [] H s (fun _ _ _ => False) e s') : False := by
  obtain ⟨_, _, _, _, _, _, _, _, _, _, _, _, h⟩ := h
  exact h
theorem law_sp {K : PySem.W.Frag} {T : Tb} {m : ON} {ns : List Int} {H : Hp} {a : Addr} (hS : SqL K H a (ns.map V.int)) (h : ∃ s', m [.ro (ns.map PV.int)] [] = .ok (.bl true) s') :
    spM K T 1 m [.ref a] H (fun v _ => v = .bl true) fun _ _ _ => False := by
  obtain ⟨s', h⟩ := h
  refine ⟨rfl, fun _ => none, H, [], [.ro (ns.map PV.int)], [], .cons (.ro hS (Rs.of_ints ns)) .nil, ⟨rfl, by simp, fun _ _ h => h, fun _ h => by simp at h, fun _ _ h => by simp at h, fun _ _ h => by cases h⟩, ?_⟩
  rw [h]
  intro F1 io1 v H1 _ r _
  cases r
  rfl
end Mir
/-! Mir, part N: reckoning on the plain side. -/
namespace Mir
section
variable {σ : Env} {s : Store}
@[simp] theorem eVar_ap (i : Nat) (σ : Env) (s : Store) : eVar i σ s = (match σ[i]? with
  | some (some v) => .ok v s
  | _ => .stuck) := rfl
@[simp] theorem eC_ap (v : PV) (σ : Env) (s : Store) : eC v σ s = .ok v s := rfl
@[simp] theorem eOp1_ap (f : O1) (a : EM) (σ : Env) (s : Store) : eOp1 f a σ s = (a σ s).bind fun x s1 => noX (f x s1) := rfl
@[simp] theorem eOp2_ap (f : O2) (a b : EM) (σ : Env) (s : Store) : eOp2 f a b σ s = (a σ s).bind fun x s1 => (b σ s1).bind fun y s2 => noX (f x y s2) := rfl
@[simp] theorem aNil_ap (σ : Env) (s : Store) : aNil σ s = .ok [] s := rfl
@[simp] theorem aCons_ap (a : EM) (r : AM) (σ : Env) (s : Store) : aCons a r σ s = (a σ s).bind fun x s1 => (r σ s1).bind fun xs s2 => .ok (x :: xs) s2 := rfl
@[simp] theorem eBlt_ap (f : ON) (a : AM) (σ : Env) (s : Store) : eBlt f a σ s = (a σ s).bind fun xs s1 => noX (f xs s1) := rfl
@[simp] theorem eTup_ap (a : AM) (σ : Env) (s : Store) : eTup a σ s = (a σ s).bind fun xs s1 => .ok (.tup xs) s1 := rfl
@[simp] theorem eLst_ap (a : AM) (σ : Env) (s : Store) : eLst a σ s = (a σ s).bind fun xs s1 => .ok (.lst xs) s1 := rfl
@[simp] theorem ePl_ap (a : AM) (σ : Env) (s : Store) : ePl a σ s = (a σ s).bind fun xs s1 => .ok (.loc s1.length) (s1 ++ [.lst xs]) := rfl
@[simp] theorem eIf_ap (t : TM) (a b : EM) (σ : Env) (s : Store) : eIf t a b σ s = (t σ s).bind fun k s1 => if k = true then a σ s1 else b σ s1 := rfl
@[simp] theorem eAnd_ap (a b : EM) (σ : Env) (s : Store) : eAnd a b σ s = (a σ s).bind fun x s1 => (ofO (truthV s1 x) s1).bind fun k s2 => if k = true then b σ s2 else .ok x s2 := rfl
@[simp] theorem eOr_ap (a b : EM) (σ : Env) (s : Store) : eOr a b σ s = (a σ s).bind fun x s1 => (ofO (truthV s1 x) s1).bind fun k s2 => if k = true then .ok x s2 else b σ s2 := rfl
@[simp] theorem eNot_ap (a : EM) (σ : Env) (s : Store) : eNot a σ s = (a σ s).bind fun x s1 => (ofO (truthV s1 x) s1).bind fun k s2 => .ok (.bl !k) s2 := rfl
@[simp] theorem eNotB_ap (a : EM) (σ : Env) (s : Store) : eNotB a σ s = (a σ s).bind fun x s1 => (match x with
  | .bl k => .ok (.bl !k) s1
  | _ => .stuck) := rfl
@[simp] theorem qOf_ap (a : EM) (σ : Env) (s : Store) : qOf a σ s = (a σ s).bind fun x s1 => ofO (truthV s1 x) s1 := rfl
@[simp] theorem qBl_ap (a : EM) (σ : Env) (s : Store) : qBl a σ s = (a σ s).bind fun x s1 => (match x with
  | .bl k => .ok k s1
  | _ => .stuck) := rfl
@[simp] theorem qAnd_ap (a b : TM) (σ : Env) (s : Store) : qAnd a b σ s = (a σ s).bind fun k s1 => if k = true then b σ s1 else .ok false s1 := rfl
@[simp] theorem qOr_ap (a b : TM) (σ : Env) (s : Store) : qOr a b σ s = (a σ s).bind fun k s1 => if k = true then .ok true s1 else b σ s1 := rfl
@[simp] theorem qNot_ap (a : TM) (σ : Env) (s : Store) : qNot a σ s = (a σ s).bind fun k s1 => .ok (!k) s1 := rfl
@[simp] theorem qYes_ap (σ : Env) (s : Store) : qYes σ s = .ok true s := rfl
@[simp] theorem eChain_ap (f g : O2) (a b c : EM) (σ : Env) (s : Store) : eChain f g a b c σ s = (a σ s).bind fun x s1 => (b σ s1).bind fun y s2 => (noX (f x y s2)).bind fun z s3 => (match z with
  | .bl true => (c σ s3).bind fun u s4 => noX (g y u s4)
  | .bl false => .ok (.bl false) s3
  | _ => .stuck) := rfl
@[simp] theorem eCallK_ap (f : List PV → List PV → Store → Res PV) (a kw : AM) (σ : Env) (s : Store) : eCallK f a kw σ s = (a σ s).bind fun vs s1 => (kw σ s1).bind fun zs s2 => f vs zs s2 := rfl
@[simp] theorem eFld_ap (tab : List (Nat × Nat)) (o : EM) (σ : Env) (s : Store) : eFld tab o σ s = (o σ s).bind fun x s1 => (match deref s1 x with
  | .ins c vs => (match tab.lookup c with
    | some i => ofO vs[i]? s1
    | none => .stuck)
  | _ => .stuck) := rfl
@[simp] theorem eSlice_ap (a : EM) (lo hi : OM) (σ : Env) (s : Store) : eSlice a lo hi σ s = (a σ s).bind fun x s1 => (lo σ s1).bind fun l s2 => (hi σ s2).bind fun u s3 => ofO (sliceV s3 x l u) s3 := rfl
@[simp] theorem oNone_ap (σ : Env) (s : Store) : oNone σ s = .ok none s := rfl
@[simp] theorem oSome_ap (a : EM) (σ : Env) (s : Store) : oSome a σ s = (a σ s).bind fun x s1 => (match x with
  | .int i => .ok (some i) s1
  | _ => .stuck) := rfl
@[simp] theorem eMt_ap (f : OMt) (o : EM) (a : AM) (σ : Env) (s : Store) : eMt f o a σ s = (o σ s).bind fun x s1 => if isL s1 x = true then (a σ s1).bind fun vs s2 => noX (f x vs s2) else .stuck := rfl
@[simp] theorem eMeth_ap (tab : List (Nat × (List PV → List PV → Store → Res PV))) (o : EM) (a kw : AM) (σ : Env) (s : Store) : eMeth tab o a kw σ s = (o σ s).bind fun x s1 => (match (clsOf s1 x).bind fun c => tab.lookup c with
  | some f => (a σ s1).bind fun vs s2 => (kw σ s2).bind fun zs s3 => f (x :: vs) zs s3
  | none => .stuck) := rfl
@[simp] theorem eOwnEq_ap (tab : EqTab) (a b : EM) (σ : Env) (s : Store) : eOwnEq tab a b σ s = (a σ s).bind fun x s1 => (b σ s1).bind fun y s2 => (match eqOf tab s2 x y with
  | some h => h [x, y] [] s2
  | none => .stuck) := rfl
@[simp] theorem eOwnNe_ap (tab : EqTab) (a b : EM) (σ : Env) (s : Store) : eOwnNe tab a b σ s = (a σ s).bind fun x s1 => (b σ s1).bind fun y s2 => (match eqOf tab s2 x y with
  | some h => (h [x, y] [] s2).bind fun z s3 => (match z with
    | .bl k => .ok (.bl !k) s3
    | _ => .stuck)
  | none => .stuck) := rfl
@[simp] theorem sNext_ap (σ : Env) (s : Store) : sNext σ s = .ok (σ, .next) s := rfl
@[simp] theorem sSeq_ap (a b : SM) (σ : Env) (s : Store) : sSeq a b σ s = (a σ s).bind fun r s1 => (match r.2 with
  | .next => b r.1 s1
  | f => .ok (r.1, f) s1) := rfl
@[simp] theorem gName_ap (i : Nat) (v : PV) (σ : Env) (s : Store) : gName i v σ s = .ok (σ.set i (some v)) s := rfl
@[simp] theorem sAsg_ap (e : EM) (g : GM) (σ : Env) (s : Store) : sAsg e g σ s = (e σ s).bind fun v s1 => (g v σ s1).bind fun σ1 s2 => .ok (σ1, .next) s2 := rfl
@[simp] theorem sNew_ap (e : AM) (i : Nat) (σ : Env) (s : Store) : sNew e i σ s = (e σ s).bind fun xs s1 => .ok (σ.set i (some (.loc s1.length)), .next) (s1 ++ [.lst xs]) := rfl
@[simp] theorem sExp_ap (e : EM) (σ : Env) (s : Store) : sExp e σ s = (e σ s).bind fun _ s1 => .ok (σ, .next) s1 := rfl
@[simp] theorem sRet_ap (e : EM) (σ : Env) (s : Store) : sRet e σ s = (e σ s).bind fun v s1 => .ok (σ, .ret v) s1 := rfl
@[simp] theorem sRetL_ap (e : AM) (σ : Env) (s : Store) : sRetL e σ s = (e σ s).bind fun xs s1 => .ok (σ, .ret (.loc s1.length)) (s1 ++ [.lst xs]) := rfl
@[simp] theorem sRetN_ap (σ : Env) (s : Store) : sRetN σ s = .ok (σ, .ret .non) s := rfl
@[simp] theorem sIf_ap (t : TM) (a b : SM) (σ : Env) (s : Store) : sIf t a b σ s = (t σ s).bind fun k s1 => if k = true then a σ s1 else b σ s1 := rfl
@[simp] theorem sPar_ap (a : AM) (i j : Nat) (σ : Env) (s : Store) : sPar a i j σ s = (a σ s).bind fun xs s1 => (match xs with
  | [x, y] => .ok ((σ.set i (some x)).set j (some y), .next) s1
  | _ => .stuck) := rfl
@[simp] theorem sSetI_ap (o i e : EM) (σ : Env) (s : Store) : sSetI o i e σ s = (e σ s).bind fun v s1 => (o σ s1).bind fun x s2 => (i σ s2).bind fun k s3 => (match x, k with
  | .loc n, .int j => (match s3[n]? with
    | some (.lst xs) => (match ixP xs.length j with
      | some m => .ok (σ, .next) (s3.set n (.lst (xs.set m v)))
      | none => .stuck)
    | _ => .stuck)
  | _, _ => .stuck) := rfl
@[simp] theorem sSetF_ap (tab : List (Nat × Nat)) (o e : EM) (σ : Env) (s : Store) : sSetF tab o e σ s = (e σ s).bind fun v s1 => (o σ s1).bind fun x s2 => (match x with
  | .loc n => (match s2[n]? with
    | some (.ins c vs) => (match tab.lookup c with
      | some i => (match putF i v vs with
        | some vs' => .ok (σ, .next) (s2.set n (.ins c vs'))
        | none => .stuck)
      | none => .stuck)
    | _ => .stuck)
  | _ => .stuck) := rfl
@[simp] theorem aComp_ap (it : IM) (g : GM) (t : TM) (e : EM) (own : List Nat) (σ : Env) (s : Store) : aComp it g t e own σ s = (it σ s).bind fun w s1 => compGo w g t e (wipe σ own) w.items [] s1 := rfl
@[simp] theorem sFor_ap (it : IM) (g : GM) (b : SM) (σ : Env) (s : Store) : sFor it g b σ s = (it σ s).bind fun w s1 => forGo w g b (keepAs σ) w.items σ s1 := rfl
theorem runDef_ap (fin : Store → PV → Store → Res PV) (n : Nat) (b : SM) (vs : List PV) (s : Store) : runDef fin n b vs s = (match b (vs.map some ++ List.replicate (n - vs.length) none) s with
  | .ok (_, .ret v) s1 => fin s v s1
  | .ok (_, .next) s1 => fin s .non s1
  | .ok _ _ => .stuck
  | .exc e s1 => finX s e s1
  | .stuck => .stuck) := rfl
end

/-! ### stores -/
@[simp] theorem mid_get (pre e : Store) (x : PV) : (pre ++ x :: e)[pre.length]? = some x := by simp
@[simp] theorem mid_getD (pre e : Store) (x : PV) : deref (pre ++ x :: e) (.loc pre.length) = x := by simp [deref, List.getD]
@[simp] theorem mid_set (pre e : Store) (x y : PV) : (pre ++ x :: e).set pre.length y = pre ++ y :: e := by simp
theorem finV_data {old new : Store} {v : PV} (hl : new.length = old.length) (hk : Kept old.length old new) (hv : lb old.length v = true) : finV old v new = .ok v new := by
  unfold finV
  rw [if_pos ⟨hk, by omega⟩]
  have ht : new.take old.length = new := List.take_of_length_le (by omega)
  cases v with
  | loc n => simp at hv; simp [hv, ht]
  | _ => simp only [hv, if_true, ht]
/-- new places are dropped -/
theorem finV_drop {old new e : Store} {v : PV} (hl : new.length = old.length) (hk : Kept old.length old new) (hv : lb old.length v = true) : finV old v (new ++ e) = .ok v new := by
  unfold finV
  have hk' : Kept old.length old (new ++ e) := fun i hi => by rw [List.getElem?_append_left (by omega)]; exact hk i hi
  rw [if_pos ⟨hk', by simp; omega⟩]
  have ht : (new ++ e).take old.length = new := by rw [List.take_append_of_le_length (by omega)]; exact List.take_of_length_le (by omega)
  cases v with
  | loc n => simp at hv; simp [hv, ht]
  | _ => simp only [hv, if_true, ht]
/-- what is handed back lies at a new place: it becomes a tree -/
theorem finV_new {old new e : Store} {n : Nat} {c : PV} (hl : new.length = old.length) (hk : Kept old.length old new) (hn : n ≥ old.length) (hc : (new ++ e)[n]? = some c) (hv : lb old.length c = true) : finV old (.loc n) (new ++ e) = .ok c new := by
  unfold finV
  have hk' : Kept old.length old (new ++ e) := fun i hi => by rw [List.getElem?_append_left (by omega)]; exact hk i hi
  rw [if_pos ⟨hk', by simp; omega⟩]
  have ht : (new ++ e).take old.length = new := by rw [List.take_append_of_le_length (by omega)]; exact List.take_of_length_le (by omega)
  simp only [hc, ht]
  rw [if_neg (by omega), if_pos hv]
theorem kept_refl (n : Nat) (s : Store) : Kept n s s := fun _ _ => .inl rfl
theorem kept_mid {n : Nat} (pre e : Store) (x y : PV) (h : lb n y = true) : Kept n (pre ++ x :: e) (pre ++ y :: e) := fun i hi => by
  rcases Nat.lt_trichotomy i pre.length with q | q | q
  · left; rw [List.getElem?_append_left q, List.getElem?_append_left q]
  · subst q; right; exact ⟨y, by simp, h⟩
  · left
    rw [List.getElem?_append_right (by omega), List.getElem?_append_right (by omega)]
    have : i - pre.length = (i - pre.length - 1) + 1 := by omega
    rw [this]; simp
/-! data names no place -/
mutual
theorem isD_lb : ∀ (n b : Nat) (v : PV), isD n v = true → lb b v = true
  | _, b, .non, _ => by simp
  | _, b, .bl _, _ => by simp
  | _, b, .int _, _ => by simp
  | _, b, .str _, _ => by simp
  | n + 1, b, .tup xs, h => by simp only [isD] at h; simpa using isDs_lb n b xs h
  | n + 1, b, .lst xs, h => by simp only [isD] at h; simpa using isDs_lb n b xs h
  | n + 1, b, .ro xs, h => by simp only [isD] at h; simpa using isDs_lb n b xs h
  | 0, b, .tup xs, h => by simp [isD] at h
  | 0, b, .lst xs, h => by simp [isD] at h
  | 0, b, .ro xs, h => by simp [isD] at h
  | n, b, .dic _ _, h => by cases n <;> simp [isD] at h
  | n, b, .ins _ _, h => by cases n <;> simp [isD] at h
  | n, b, .loc _, h => by cases n <;> simp [isD] at h
  | n, b, .fn _, h => by cases n <;> simp [isD] at h
  | n, b, .cls _, h => by cases n <;> simp [isD] at h
  | n, b, .ty _, h => by cases n <;> simp [isD] at h
theorem isDs_lb : ∀ (n b : Nat) (xs : List PV), xs.all (isD n) = true → lbs b xs = true
  | _, _, [], _ => by simp
  | n, b, x :: xs, h => by
    simp only [List.all_cons, Bool.and_eq_true] at h
    simp [isD_lb n b x h.1, isDs_lb n b xs h.2]
end
/-! ### loops whose turns change nothing -/
theorem compGo_pure {g : GM} {t : TM} {e : EM} {σ : Env} {s : Store} (p : PV → Bool) (f : PV → PV) : ∀ (xs acc : List PV), (∀ x ∈ xs, ∃ σ1, g x σ s = .ok σ1 s ∧ t σ1 s = .ok (p x) s ∧ (p x = true → e σ1 s = .ok (f x) s)) →
    compGo ⟨xs, none⟩ g t e σ xs acc s = .ok (acc ++ (xs.filter p).map f) s := by
  have main : ∀ (w : Walk), w.at_ = none → ∀ (xs acc : List PV), (∀ x ∈ xs, ∃ σ1, g x σ s = .ok σ1 s ∧ t σ1 s = .ok (p x) s ∧ (p x = true → e σ1 s = .ok (f x) s)) →
      compGo w g t e σ xs acc s = .ok (acc ++ (xs.filter p).map f) s := by
    intro w hw xs
    have ok : w.ok s := by unfold Walk.ok; rw [hw]; trivial
    induction xs with
    | nil => intro acc _; simp [compGo, ok]
    | cons x xs ih =>
      intro acc h
      obtain ⟨σ1, h1, h2, h3⟩ := h x (List.mem_cons_self ..)
      unfold compGo
      rw [if_pos ok, h1]
      simp only [noX_ok, Res.bind_ok, h2]
      cases hp : p x with
      | true => simp only [if_true, h3 hp, noX_ok, Res.bind_ok]; rw [ih _ fun y hy => h y (List.mem_cons_of_mem _ hy)]; simp [hp]
      | false => simp only [Bool.false_eq_true, if_false]; rw [ih _ fun y hy => h y (List.mem_cons_of_mem _ hy)]; simp [hp]
  exact fun xs acc h => main _ rfl xs acc h
theorem eqL_refl {f : PV → PV → Bool} : ∀ {xs : List PV}, (∀ x ∈ xs, f x x = true) → eqL f xs xs = true
  | [], _ => rfl
  | x :: xs, h => by simp [eqL, h x (List.mem_cons_self ..), eqL_refl (xs := xs) fun y hy => h y (List.mem_cons_of_mem _ hy)]
theorem eqF_refl : ∀ (n : Nat) (v : PV), isD n v = true → eqF n v v = true
  | n, .non, _ => by cases n <;> rfl
  | n, .bl _, _ => by cases n <;> simp [eqF]
  | n, .int _, _ => by cases n <;> simp [eqF]
  | n, .str _, _ => by cases n <;> simp [eqF]
  | n + 1, .tup xs, h => by simp only [isD] at h; simp only [eqF]; exact eqL_refl fun x hx => eqF_refl n x (List.all_eq_true.mp h x hx)
  | n + 1, .lst xs, h => by simp only [isD] at h; simp only [eqF]; exact eqL_refl fun x hx => eqF_refl n x (List.all_eq_true.mp h x hx)
  | n + 1, .ro xs, h => by simp only [isD] at h; simp only [eqF]; exact eqL_refl fun x hx => eqF_refl n x (List.all_eq_true.mp h x hx)
  | 0, .tup xs, h => by simp [isD] at h
  | 0, .lst xs, h => by simp [isD] at h
  | 0, .ro xs, h => by simp [isD] at h
  | n, .dic _ _, h => by cases n <;> simp [isD] at h
  | n, .ins _ _, h => by cases n <;> simp [isD] at h
  | n, .loc _, h => by cases n <;> simp [isD] at h
  | n, .fn _, h => by cases n <;> simp [isD] at h
  | n, .cls _, h => by cases n <;> simp [isD] at h
  | n, .ty _, h => by cases n <;> simp [isD] at h
theorem atP_of {α : Type} {xs : List α} {i : Int} {j : Nat} {x : α} (h : i = (j : Int)) (hx : xs[j]? = some x) : atP xs i = some x := by
  have hj := (List.getElem?_eq_some_iff.mp hx).1
  subst h
  unfold atP ixP
  rw [if_pos (by omega), if_pos (by omega)]
  simpa using hx

/-! ### reading -/
@[simp] theorem deref_non (s : Store)  : deref s .non = .non := rfl
@[simp] theorem tgOf_non (s : Store)  : tgOf s .non = some (.t "NoneType") := rfl
@[simp] theorem truthV_non (s : Store)  : truthV s .non = some false := rfl
@[simp] theorem deref_bl (s : Store) (b : Bool) : deref s (.bl b) = (.bl b) := rfl
@[simp] theorem tgOf_bl (s : Store) (b : Bool) : tgOf s (.bl b) = some (.t "bool") := rfl
@[simp] theorem truthV_bl (s : Store) (b : Bool) : truthV s (.bl b) = some b := rfl
@[simp] theorem deref_int (s : Store) (i : Int) : deref s (.int i) = (.int i) := rfl
@[simp] theorem tgOf_int (s : Store) (i : Int) : tgOf s (.int i) = some (.t "int") := rfl
@[simp] theorem truthV_int (s : Store) (i : Int) : truthV s (.int i) = some (i != 0) := rfl
@[simp] theorem deref_str (s : Store) (l : List Nat) : deref s (.str l) = (.str l) := rfl
@[simp] theorem tgOf_str (s : Store) (l : List Nat) : tgOf s (.str l) = some (.t "str") := rfl
@[simp] theorem deref_tup (s : Store) (xs : List PV) : deref s (.tup xs) = (.tup xs) := rfl
@[simp] theorem tgOf_tup (s : Store) (xs : List PV) : tgOf s (.tup xs) = some (.t "tuple") := rfl
@[simp] theorem truthV_tup (s : Store) (xs : List PV) : truthV s (.tup xs) = some (!xs.isEmpty) := rfl
@[simp] theorem deref_lst (s : Store) (xs : List PV) : deref s (.lst xs) = (.lst xs) := rfl
@[simp] theorem tgOf_lst (s : Store) (xs : List PV) : tgOf s (.lst xs) = some (.t "list") := rfl
@[simp] theorem truthV_lst (s : Store) (xs : List PV) : truthV s (.lst xs) = some (!xs.isEmpty) := rfl
@[simp] theorem deref_ins (s : Store) (c : Nat) (vs : List PV) : deref s (.ins c vs) = (.ins c vs) := rfl
@[simp] theorem deref_ro (s : Store) (xs : List PV) : deref s (.ro xs) = (.ro xs) := rfl
@[simp] theorem truthV_ro (s : Store) (xs : List PV) : truthV s (.ro xs) = some (!xs.isEmpty) := rfl
@[simp] theorem tgOf_ins (s : Store) (c : Nat) (vs : List PV) : tgOf s (.ins c vs) = some (.c c) := rfl
@[simp] theorem clsOf_ins (s : Store) (c : Nat) (vs : List PV) : clsOf s (.ins c vs) = some c := rfl
@[simp] theorem itemsOf_tup (s : Store) (xs : List PV) : itemsOf s (.tup xs) = some xs := rfl
@[simp] theorem itemsOf_lst (s : Store) (xs : List PV) : itemsOf s (.lst xs) = some xs := rfl
@[simp] theorem itemsOf_ro (s : Store) (xs : List PV) : itemsOf s (.ro xs) = some xs := rfl
@[simp] theorem mid_items (pre e : Store) (xs : List PV) : itemsOf (pre ++ .lst xs :: e) (.loc pre.length) = some xs := by simp [itemsOf]
@[simp] theorem itemsL_lst (s : Store) (xs : List PV) : bAll.itemsL s (.lst xs) = some xs := rfl
@[simp] theorem bIsi_ty (tab : List ((Tg × Tg) × Bool)) (x : PV) (n : String) (s : Store) : bIsi tab [x, .ty n] s = (ofO ((tgOf s x).bind fun g => tab.lookup (g, .t n)) s).bind fun k s => .ok (.bl k) s := rfl
@[simp] theorem bIsi_cls (tab : List ((Tg × Tg) × Bool)) (x : PV) (c : Nat) (s : Store) : bIsi tab [x, .cls c] s = (ofO ((tgOf s x).bind fun g => tab.lookup (g, .c c)) s).bind fun k s => .ok (.bl k) s := rfl
@[simp] theorem bLen_tup (s : Store) (xs : List PV) : bLen [.tup xs] s = .ok (.int xs.length) s := rfl
@[simp] theorem bLen_lst (s : Store) (xs : List PV) : bLen [.lst xs] s = .ok (.int xs.length) s := rfl
@[simp] theorem bLen_ro (s : Store) (xs : List PV) : bLen [.ro xs] s = .ok (.int xs.length) s := rfl
theorem bLen_str (s : Store) {l : List Nat} (h : l.length ≤ sz) : bLen [.str l] s = .ok (.int l.length) s := by simp [bLen, lenP, h]
@[simp] theorem pyIdx_tup (s : Store) (xs : List PV) (i : Int) : pyIdx (.tup xs) (.int i) s = ofO (atP xs i) s := rfl
@[simp] theorem pyIdx_lst (s : Store) (xs : List PV) (i : Int) : pyIdx (.lst xs) (.int i) s = ofO (atP xs i) s := rfl
@[simp] theorem pyIdx_ro (s : Store) (xs : List PV) (i : Int) : pyIdx (.ro xs) (.int i) s = ofO (atP xs i) s := rfl
@[simp] theorem pyIdx_mid (pre e : Store) (xs : List PV) (i : Int) : pyIdx (.loc pre.length) (.int i) (pre ++ .lst xs :: e) = ofO (atP xs i) (pre ++ .lst xs :: e) := by simp [pyIdx]
@[simp] theorem atP_zero {α : Type} (x : α) (xs : List α) : atP (x :: xs) 0 = some x := atP_of (j := 0) rfl rfl
@[simp] theorem atP_one {α : Type} (x y : α) (xs : List α) : atP (x :: y :: xs) 1 = some y := atP_of (j := 1) rfl rfl
@[simp] theorem atP_two {α : Type} (x y z : α) (xs : List α) : atP (x :: y :: z :: xs) 2 = some z := atP_of (j := 2) rfl rfl
@[simp] theorem pyAdd_int (s : Store) (i j : Int) : pyAdd (.int i) (.int j) s = .ok (.int (i + j)) s := rfl
@[simp] theorem pySub_int (s : Store) (i j : Int) : pySub (.int i) (.int j) s = .ok (.int (i - j)) s := rfl
@[simp] theorem pyNeg_int (s : Store) (i : Int) : pyNeg (.int i) s = .ok (.int (-i)) s := rfl
@[simp] theorem pyLt_int (s : Store) (i j : Int) : pyLt (.int i) (.int j) s = .ok (.bl (decide (i < j))) s := rfl
@[simp] theorem pyLt_str (s : Store) (a b : List Nat) : pyLt (.str a) (.str b) s = .ok (.bl (decide (a < b))) s := rfl
@[simp] theorem pyLe_int (s : Store) (i j : Int) : pyLe (.int i) (.int j) s = .ok (.bl (decide (i ≤ j))) s := rfl
@[simp] theorem pyGt_int (s : Store) (i j : Int) : pyGt (.int i) (.int j) s = .ok (.bl (decide (j < i))) s := rfl
@[simp] theorem pyGe_int (s : Store) (i j : Int) : pyGe (.int i) (.int j) s = .ok (.bl (decide (j ≤ i))) s := rfl
@[simp] theorem pyEq_str (s : Store) (a b : List Nat) : pyEq (.str a) (.str b) s = .ok (.bl (a == b)) s := rfl
@[simp] theorem pyEq_int (s : Store) (a b : Int) : pyEq (.int a) (.int b) s = .ok (.bl (a == b)) s := rfl
@[simp] theorem pyNe_str (s : Store) (a b : List Nat) : pyNe (.str a) (.str b) s = .ok (.bl (!(a == b))) s := rfl
@[simp] theorem bInt_int (s : Store) (i : Int) : bInt [.int i] s = .ok (.int i) s := rfl
@[simp] theorem bAbs_int (s : Store) (i : Int) : bAbs [.int i] s = .ok (.int (if i < 0 then -i else i)) s := rfl
theorem blsOf_true {α : Type} (l : List α) : blsOf (l.map fun _ => PV.bl true) = some (l.map fun _ => true) := by
  induction l with
  | nil => rfl
  | cons x l ih => simp [blsOf, ih]
@[simp] theorem bAll_true {α : Type} (s : Store) (l : List α) : bAll [.lst (l.map fun _ => PV.bl true)] s = .ok (.bl true) s := by
  unfold bAll
  simp [blsOf_true]
theorem pyMod_ok (s : Store) {i j : Int} (h : 0 < j) : pyMod (.int i) (.int j) s = .ok (.int (i % j)) s := by simp [pyMod, h]
theorem pyFdiv_ok (s : Store) {i j : Int} (h : 0 < j) (h2 : j < 2 ^ 128) : pyFdiv (.int i) (.int j) s = .ok (.int (i / j)) s := by
  unfold pyFdiv
  simp only
  rw [if_pos ⟨h, h2⟩]
theorem pyMulR (s : Store) {i j : Int} (h : -(2 ^ 64) < j ∧ j < 2 ^ 64) : pyMul (.int i) (.int j) s = .ok (.int (i * j)) s := by
  unfold pyMul
  simp only
  rw [if_pos (.inr h)]
theorem pyMulL (s : Store) {i j : Int} (h : -(2 ^ 64) < i ∧ i < 2 ^ 64) : pyMul (.int i) (.int j) s = .ok (.int (i * j)) s := by
  unfold pyMul
  simp only
  rw [if_pos (.inl h)]
theorem pyAdd_str (s : Store) {a b : List Nat} (h : a.length + b.length ≤ sz) : pyAdd (.str a) (.str b) s = .ok (.str (a ++ b)) s := by simp [pyAdd, h]
end Mir
/-! Mir, part O: more: lists put together at a new place, o[i] += e, join and split of texts. -/
namespace Mir
open PySem PySem.Spec PyProof.Rows L2
/-- a + b of lists, the items -/
def aCat (a b : EM) : AM := fun σ s => (a σ s).bind fun x s1 => (b σ s1).bind fun y s2 => match deref s2 x, deref s2 y with
  | .lst xs, .lst ys => if xs.length + ys.length ≤ sz then .ok (xs ++ ys) s2 else .stuck
  | _, _ => .stuck
/-- sep.join(e) -/
def eJoin (o e : EM) : EM := fun σ s => (o σ s).bind fun x s1 => match x with
  | .str a => (e σ s1).bind fun y s2 => match (itemsOf s2 y).bind strsOf with
    | some ys => if (ys.map (·.length)).sum + ys.length * a.length ≤ sz then .ok (.str (TL.joinL a ys)) s2 else .stuck
    | none => .stuck
  | _ => .stuck
/-- e.split(sep) -/
def eSplit (o e : EM) : EM := fun σ s => (o σ s).bind fun x s1 => match x with
  | .str a => (e σ s1).bind fun y s2 => match y with
    | .str b => if b ≠ [] ∧ b.all (· < 256) = true ∧ a.length + 2 ≤ sz then .ok (.lst ((TL.spl b 0 [] a).map .str)) s2 else .stuck
    | _ => .stuck
  | _ => .stuck
/-- o[i] += e, ints -/
def sAugI (o i e : EM) : SM := fun σ s => (o σ s).bind fun x s1 => match x with
  | .loc n => (i σ s1).bind fun k s2 => (noX (pyIdx (.loc n) k s2)).bind fun u s3 => (e σ s3).bind fun y s4 => (match k, u, y with
    | .int j, .int p, .int q => (match s4[n]? with
      | some (.lst xs) => (match ixP xs.length j with
        | some m => .ok (σ, .next) (s4.set n (.lst (xs.set m (.int (p + q)))))
        | none => .stuck)
      | _ => .stuck)
    | _, _, _ => .stuck)
  | _ => .stuck
section
variable {X : Cx} {T : Tb} {W : WX} {a b o e : Expr} {ma mb mo me : EM} {pos apos : Pos}
theorem mf_cat (ha : PE X a (tE X.K T W ma)) (hb : PE X b (tE X.K T W mb)) : PE X (.BinOp a .Add b pos) (tF X.K T W (aCat ma mb)) := by
  refine PE.weak (pe_op op_cat ha hb) fun σ H Q ⟨P, F, io, en, s, hE, hS, hp⟩ => ?_
  refine ⟨P, F, io, en, s, hE, hS, ?_⟩
  refine Post.mono (NewL.bind (rel := rV X.K T) hp) fun v H1 ⟨F1, io1, x, s1, l1, rx, hS1, hp1⟩ => ?_
  refine ⟨P, F1, io1, en, s1, hE.mono l1, hS1, ?_⟩
  refine Post.mono (NewL.bind (rel := rV X.K T) hp1) fun u H2 ⟨F2, io2, y, s2, l2, ry, hS2, hp2⟩ => ?_
  simp only at hp2
  split at hp2
  · rename_i xs ys hx hy
    split at hp2
    · rename_i hz
      obtain ⟨p, vs, rfl, h1, r1⟩ := hS2.list (rx.mono l2) hx
      obtain ⟨q, us, rfl, h2, r2⟩ := hS2.list ry hy
      exact ⟨p, q, vs, us, rfl, rfl, h1, h2, by rw [← r1.length, ← r2.length]; exact hz, fun z np => hp2 F2 io2 z (vs ++ us) H2 Le.refl (r1.append r2) hS2 np⟩
    · exact hp2.elim
  · exact hp2.elim
theorem me_join (ho : PE X o (tE X.K T W mo)) (he : PE X e (tE X.K T W me)) (hs : starEach [e] X.env = [(false, eval e X.env)] := by rfl) (hbase : attributeBase o "join" X.env (eval o X.env) = eval o X.env := by rfl) (hline : (apos.endLine == pos.line) = true := by rfl) :
    PE X (.Call (.Attribute o "join" apos) [e] [] pos) (tE X.K T W (eJoin mo me)) := by
  refine PE.weak (pe_join ho he hs hbase hline) fun σ H Q ⟨P, F, io, en, s, hE, hS, hp⟩ => ?_
  refine tE_use hE hS hp fun v H1 F1 io1 x s1 hE1 rx hS1 l1 hp1 => ?_
  cases rx with
  | str l =>
    refine ⟨⟨_, rfl⟩, ?_⟩
    refine tE_use hE1 hS1 hp1 fun u H2 F2 io2 y s2 hE2 ry hS2 l2 hp2 => ?_
    cases hi : (itemsOf s2 y).bind strsOf with
    | none => simp only [hi] at hp2; exact hp2.elim
    | some ys =>
      simp only [hi] at hp2
      split at hp2
      · rename_i hz
        obtain ⟨zs, h1, h2⟩ := Option.bind_eq_some_iff.mp hi
        obtain ⟨p, us, rfl, hq, r⟩ := hS2.seq ry h1
        rw [Rs.strs h2 r] at hq
        refine ⟨St8 l, p, ys.map St8, rfl, rfl, hq, ?_, ?_⟩
        · have e1 : (ys.map St8).map (·.length) = ys.map (·.length) := by
            rw [List.map_map]; apply List.map_congr_left; intro z _; exact str8_len z
          rw [e1, List.length_map, str8_len]; exact hz
        · have := SX.join_S l ys
          have e2 : Txt.join (St8 l) (ys.map St8) = St8 (TL.joinL l ys) := this
          rw [e2]
          exact hp2.ok_of Le.refl (.str _) hS2
      · exact hp2.elim
  | _ => exact hp1.elim
theorem me_split (ho : PE X o (tE X.K T W mo)) (he : PE X e (tE X.K T W me)) (hs : starEach [e] X.env = [(false, eval e X.env)] := by rfl) (hbase : attributeBase o "split" X.env (eval o X.env) = eval o X.env := by rfl) (hline : (apos.endLine == pos.line) = true := by rfl) :
    PE X (.Call (.Attribute o "split" apos) [e] [] pos) (tE X.K T W (eSplit mo me)) := by
  refine PE.weak (pe_split ho he hs hbase hline) fun σ H Q ⟨P, F, io, en, s, hE, hS, hp⟩ => ?_
  refine tE_use hE hS hp fun v H1 F1 io1 x s1 hE1 rx hS1 l1 hp1 => ?_
  cases rx with
  | str l =>
    refine ⟨⟨_, rfl⟩, ?_⟩
    refine tE_use hE1 hS1 hp1 fun u H2 F2 io2 y s2 hE2 ry hS2 l2 hp2 => ?_
    cases ry with
    | str b =>
      simp only at hp2
      split at hp2
      · rename_i hz
        refine ⟨St8 l, St8 b, rfl, rfl, ?_, ?_, ?_⟩
        · rw [str8_len]
          have : b.length ≠ 0 := fun e => hz.1 (List.eq_nil_of_length_eq_zero e)
          simpa using this
        · rw [str8_len]; exact hz.2.2
        · have e2 : Txt.split (St8 l) (St8 b) = (TL.spl b 0 [] l).map St8 := SX.split_S hz.1 hz.2.1
          rw [e2]
          intro p np
          obtain ⟨l3, hS3⟩ := hS2.grow (o := .lst (((TL.spl b 0 [] l).map St8).map V.str)) np
          exact hp2.ok_of l3 (.lst upd_same (Rs.of_strs _)) hS3
      · exact hp2.elim
    | _ => exact hp2.elim
  | _ => exact hp1.elim
theorem get_list : PGet X (rIxL X.K) := by
  intro pins s σ H x y v u Q I rx ry h
  obtain ⟨p, xs, i, z, rfl, rfl, hq, he, q⟩ := h
  cases rx
  obtain ⟨t, rfl⟩ := ry
  obtain ⟨its, r, pl, hz⟩ := I.list hq
  obtain ⟨j, h1, h2, h3, h4, h5⟩ := atI_get he
  obtain ⟨w, ew, rw'⟩ := r.get h2
  have hl := r.length
  have hn := line63
  have fin : EP X pins σ Q w s := ⟨z, H, I, rw', q⟩
  by_cases h0 : 0 ≤ i
  · have hj : i.toNat = j := by
      rw [seqIndex_of h0 h5] at h1
      exact Option.some.inj h1
    exact wpAny_getItem_list pl.isList h0 (by omega) (by rw [hj]; simpa using ew) fin
  · have hj : (i + (its.toArray.size : Int)).toNat = j := by
      rw [seqIndex_neg (by omega) h4] at h1
      rw [List.size_toArray, ← hl]
      exact Option.some.inj h1
    exact wpAny_getItem_list_neg pl.isList (by omega) (by rw [List.size_toArray] <;> omega) (by omega) (by rw [hj]; simpa using ew) fin
variable {i : Expr} {mi : EM} {tpos : Pos}
theorem ms_augI (ho : PE X o (tE X.K T W mo)) (hi : PE X i (tE X.K T W mi)) (he : PE X e (tE X.K T W me))
    (ha : ∀ ov iv new, augStore i ov iv new = (do holding [new, ov, iv] (setItem ov iv new); release [new, ov, iv] []; pure .next) := by intros; rfl) :
    PS X (.AugAssign (.Subscript o i tpos) .Add e pos) (tS X.K T W (sAugI mo mi me)) := by
  refine PS.weak (ps_augS ho hi get_list he ip_add set_list ha) fun D σ H ⟨P, F, io, en, st, hE, hS, hp⟩ => ?_
  refine ⟨P, F, io, en, st, hE, hS, ?_⟩
  refine Post.mono (PostS.bind (rel := rV X.K T) hp) fun v H1 ⟨F1, io1, x, s1, l1, rx, hS1, hp1⟩ => ?_
  cases x with
  | loc n =>
    refine ⟨P, F1, io1, en, s1, hE.mono l1, hS1, ?_⟩
    refine Post.mono (PostS.bind (rel := rV X.K T) (hp1 : PostS X.K T P W F1 io1 ((mi en s1).bind _) D)) fun v2 H2 ⟨F2, io2, k, s2, l2, rk, hS2, hp2⟩ => ?_
    have rx2 := rx.mono l2
    simp only at hp2
    cases hu : pyIdx (.loc n) k s2 with
    | exc _ _ => rw [hu] at hp2; exact hp2.elim
    | stuck => rw [hu] at hp2; exact hp2.elim
    | ok u0 s3 =>
      rw [hu] at hp2
      simp only [noX_ok, Res.bind_ok] at hp2
      cases rk with
      | int j =>
        unfold pyIdx at hu
        simp only at hu
        cases hx : itemsOf s2 (.loc n) with
        | none => rw [hx] at hu; cases hu
        | some xs =>
          rw [hx] at hu
          simp only at hu
          cases hat : atP xs j with
          | none => rw [hat] at hu; cases hu
          | some z =>
            rw [hat] at hu
            cases hu
            rcases hS2.seqL rx2 hx with ⟨a, vs, rfl, hq, hr⟩ | ⟨a, vs, _, e1, _⟩
            · obtain ⟨zv, e1, e2⟩ := atP_get hr hat
              refine ⟨a, vs, j, zv, rfl, rfl, hq, e1, ?_⟩
              refine ⟨P, F2, io2, en, s2, (hE.mono l1).mono l2, hS2, ?_⟩
              refine Post.mono (PostS.bind (rel := rV X.K T) hp2) fun v4 H4 ⟨F4, io4, y, s4, l4, ry, hS4, hp4⟩ => ?_
              have rx4 := rx2.mono l4
              have rz4 := e2.mono l4
              cases u0 with
              | int p =>
                cases y with
                | int q =>
                  cases ry
                  cases rz4
                  refine ⟨p, q, rfl, rfl, ?_⟩
                  simp only at hp4
                  cases hc : s4[n]? with
                  | none => simp only [hc] at hp4; exact hp4.elim
                  | some c0 =>
                    simp only [hc] at hp4
                    cases c0 with
                    | lst ys =>
                      simp only at hp4
                      cases hm : ixP ys.length j with
                      | none => simp only [hm] at hp4; exact hp4.elim
                      | some m =>
                        simp only [hm] at hp4
                        cases rx4 with
                        | @loc _ _ hi4 =>
                          obtain ⟨o2, g2, g3⟩ := hS4.loc hi4 hc
                          cases g3 with
                          | @lst _ us q3 =>
                            refine ⟨a, us, j, m, rfl, rfl, g2, by rw [← q3.length]; exact hm, ?_⟩
                            exact hp4 F4 io4 σ _ Le.refl (((hE.mono l1).mono l2).mono l4) (hS4.put hi4 (.lst (q3.set (.int (p + q)) m)))
                    | _ => exact hp4.elim
                | _ => exact hp4.elim
              | _ => exact hp4.elim
            · cases e1
      | _ => unfold pyIdx at hu; cases hu
  | _ => exact hp1.elim
end
/-! ### calls of defs with defaults by position -/
section
variable {K : PySem.W.Frag} {T : Tb} {x qual : Str} {params : Arguments} {body : List Stmt} {scope : Scope} {dvs : List V} {kws : List (Str × V)} {f : Addr} {fd : FuncData} {ps : List Str}
/-- defaults by position, keyword-only parameters: pd the defaults, mp the values of the keyword-only ones that lack -/
theorem callS_pk {n : Nat} {ks : List Str} {ms : List (Str × V)} {pd mp : List PV} {sel : List Nat} (F : FunD K x qual params body scope dvs kws f fd) (hd : dvs ≠ []) (hk : kws ≠ []) (hms : ∀ q ∈ ms, q ∈ kws) (hpd : ∀ F io, Rs K T F io pd dvs) (hmp : ∀ F io, Rs K T F io mp (ms.map (·.2)))
    (hsel : (∀ i ∈ sel, i < n + pd.length + mp.length + ks.length) ∧ sel.length = ps.length)
    (h : ∀ (T D : Addr) (doc pm : Value) (an : Option Addr) (cdv ct : Value) (us its mv ws : List Value), us.length = n → its.length = dvs.length → mv.length = ms.length → ws.length = ks.length →
      ∃ k, bindArgs (PySem.W.fnOf x qual params body scope (.ref T) (.ref D) doc pm an cdv ct) ⟨us, ks.zip ws⟩ = seqItems? (.ref T) >>= k ∧ KwChain D ((ms.map (·.1)).zip mv) (k (some its.toArray)) (ps.zip (pickL sel (us ++ its ++ mv ++ ws)))) :
    CallS K T fd ps n ks (fun vs zs => pickL sel (vs ++ pd ++ mp ++ zs)) := by
  obtain ⟨its, mv, kb⟩ := FunD.kbinds F n ks ms (fun us its mv ws => pickL sel (us ++ its ++ mv ++ ws)) hd hk hms (fun r1 r2 r3 r4 => pickL_vals (((r1.append r2).append r3).append r4)) h
  refine ⟨_, _, kb, fun F io vs zs us ws r1 r2 l1 l2 => ⟨pickL_rs (((r1.append (hpd F io)).append (hmp F io)).append r2), ?_⟩⟩
  rw [pickL_len]
  · exact hsel.2
  · intro i hi
    have := hsel.1 i hi
    have e := (hmp F io).length
    have e' := (hpd F io).length
    simp only [List.length_append]
    omega
/-- defaults by position, no keyword-only ones -/
theorem callS_pd {n : Nat} {ks : List Str} {pd : List PV} {sel : List Nat} (F : FunD K x qual params body scope dvs kws f fd) (hd : dvs ≠ []) (hpd : ∀ F io, Rs K T F io pd dvs)
    (hsel : (∀ i ∈ sel, i < n + pd.length + ks.length) ∧ sel.length = ps.length)
    (h : ∀ (T : Addr) (kV doc pm : Value) (an : Option Addr) (cdv ct : Value) (us its ws : List Value), us.length = n → its.length = dvs.length → ws.length = ks.length →
      ∃ k, bindArgs (PySem.W.fnOf x qual params body scope (.ref T) kV doc pm an cdv ct) ⟨us, ks.zip ws⟩ = seqItems? (.ref T) >>= k ∧ k (some its.toArray) = pure (ps.zip (pickL sel (us ++ its ++ ws)))) :
    CallS K T fd ps n ks (fun vs zs => pickL sel (vs ++ pd ++ zs)) := by
  obtain ⟨its, kb⟩ := FunD.kbindsD F n ks (fun us its ws => pickL sel (us ++ its ++ ws)) hd (fun r1 r2 r3 => pickL_vals ((r1.append r2).append r3)) h
  refine ⟨_, _, kb, fun F io vs zs us ws r1 r2 l1 l2 => ⟨pickL_rs ((r1.append (hpd F io)).append r2), ?_⟩⟩
  rw [pickL_len]
  · exact hsel.2
  · intro i hi
    have := hsel.1 i hi
    have e' := (hpd F io).length
    simp only [List.length_append]
    omega
end
end Mir
/-! Mir, part X: the call of an own exception class whose __init__ says super().__init__(text) and keeps its arguments. -/
namespace Mir
open PySem PySem.Spec PySem.W PyProof.Rows
/-- what stands behind the built-in class over which it lies -/
structure ExBase (B newId initId : String) (bmB : List Value) : Prop where
  fb : ExcBaseFacts B newId initId bmB
  kf : KxsFacts B initId
  sf : StoreFacts B bmB "object.__setattr__" "object"
theorem exVE : ExBase "ValueError" "ValueError.__new__" "ValueError.__init__" [.type "ValueError", .type "Exception", .type "BaseException", .type "object"] := ⟨PySem.F.excBase_ValueError, kxs_ValueError, PySem.F.store_ValueError⟩
theorem exTE : ExBase "TypeError" "TypeError.__new__" "TypeError.__init__" [.type "TypeError", .type "Exception", .type "BaseException", .type "object"] := ⟨PySem.F.excBase_TypeError, kxs_TypeError, PySem.F.store_TypeError⟩
/-- the __init__ of such a class, as it stands in the text: n fields, the parameters and attributes by name -/
structure ExDef where
  name : Str
  qual : Str
  params : Arguments
  body : List Stmt
  scope : Scope
/-- what the written part says of the class and its __init__ -/
structure ExCls (K : Frag) (C : Addr) (B newId initId : String) (bmB : List Value) (file0 : Str) (D : ExDef) (fI cda cc : Addr) (kV cdv : Value) : Prop where
  q : excInitIn K C bmB newId = true
  over : excOver K C bmB = true
  sa : findIn K (.ref C) "__setattr__" = some (some (.builtin "object.__setattr__"))
  hh : hasDictIn K C = true
  sub : subIn K (.ref C) (.type B) = some true
  self : mroIn K C (.ref C) = some true
  init : findIn K (.ref C) "__init__" = some (some (.ref fI))
  isF : isFn K (.ref fI) = true
  fn : ∃ oc od doc pm an ct osl, K.lookup fI = some ⟨oc, od, .func (ksFn D.name D.qual D.params D.body D.scope .none kV doc pm an cdv ct cc), osl⟩
  code : codeIn K cdv D.qual = true
  cdv : cdv = .ref cda
  file : ∃ ccl cdd vs ccs file tf, K.lookup cda = some ⟨ccl, cdd, .fields vs, ccs⟩ ∧ vs[2]? = some (.str file tf) ∧ (file0 == file) = true
  cell : ∃ cl cld csl, K.lookup cc = some ⟨cl, cld, .cell (some (.ref C)), csl⟩
  sup : ks_superIn K C C "__init__" = some (some (.builtin initId))
  any : nsIn K cStatics "thirdparty.any" = some none
/-- its names -/
structure ExScope (ps : List Str) (sc : Scope) : Prop where
  sup : sc.names.lookup ("super" : Str) = some .globalImplicit
  cls : sc.names.lookup ("__class__" : Str) = some .free
  loc : ∀ x ∈ ("self" : Str) :: ps, sc.names.lookup x = some .local
  kind : sc.kind = .function
  nocell : ∀ x ∈ sc.names, x.2 ≠ .cell
  co : sc.isCoroutine = false
  gen : sc.isGenerator = false
theorem fr_of {h₀ h : Heap} {L : Addr} {m : Str → Option Value} (hn : h.Ns L m) (k : ∀ b o, h₀.get? b = some o → h.get? b = some o) (a : h₀.objs.size ≤ L) : Fr h₀ L h m := ⟨hn, k, a⟩
/-- a name of the def that is a local -/
theorem ld_loc {M : Model} {A : Around} {E : Value → Shared → Prop} {s : Shared} {env : PySem.Env} {m : Str → Option Value} {x : Str} {pos : Pos} {v : Value} {Q : Value → Shared → Prop} (hk : env.scope.kind = .function) (hl : env.kindOf x = some .local) (hn : s.heap.Ns env.locals m) (hv : m x = some v) (h : Q v s)
    (hd : (x == ("__debug__" : Str)) = false := by decide) : wpAny M A (eval (.Name x pos) env) Q E s := wpAny_Name (wpAny_loadName_local hk hl hn hv h) hd
section
variable {P : Program} {w : World} {A : Around} {Em : Value → Shared → Prop} {K : Frag} {C fI cda cc : Addr} {B newId initId : String} {bmB : List Value} {D : ExDef} {kV cdv : Value} {hp : Heap} {g : Array GenState} {d : Drawn} {t : Nat} {os : OsState} {mg : Str → Option Value} {base : Heap}
/-- into __init__: what is done within it, over a ledger with the exception and its arguments -/
theorem ex_enter (EB : ExBase B newId initId bmB) (EC : ExCls K C B newId initId bmB P.main.file D fI cda cc kV cdv) {ps : List Str} (S : ExScope ps D.scope) (Mo : L2.Mod K mg base) (kb : ∀ b o, base.get? b = some o → hp.get? b = some o)
    {us : List Value} (hz : us.length ≤ 100) (hroom : A.depth + 2 < recursionLimit) {Q : Value → Shared → Prop}
    (hbind : ∀ (doc pm : Value) (an : Option Addr) (ct : Value) (e : Addr), bindArgs (ksFn D.name D.qual D.params D.body D.scope .none kV doc pm an cdv ct cc) ⟨.ref e :: us, []⟩ = pure ((("self" : Str) :: ps).zip (.ref e :: us)))
    (hl : us.length = ps.length)
    (h : ∀ (A' : Around) (h₀ h₁ : Heap) (e ta L tk : Nat), e ∉ [L] → (∀ b o, hp.get? b = some o → h₀.get? b = some o) → h₀.get? e = none → hp.objs.size ≤ e → K.In h₀ → Fr h₀ L h₁ (fun y => ((("self" : Str), Value.ref e) :: ps.zip us).reverse.lookup y) → News h₀ L h₁ [(e, excObj C ta none .none), (ta, excTup us)] →
      PySem.wpAt (model P w) A' (.func D.body (ksEnv D.qual D.scope L fI cdv cc)) (execs D.body (ksEnv D.qual D.scope L fI cdv cc)) (fun fl s' => (match fl with | .ret v => v = .none | _ => True) ∧ Q (.ref e) s') (fun _ _ => False) ⟨h₁, g, d, tk, os⟩) :
    wpAny (model P w) A (call (.ref C) us) Q Em ⟨hp, g, d, t, os⟩ := by
  have X : K.In hp := Mo.kin.keeps kb
  obtain ⟨nm, N', qn, bs, bm, hdct, sn, sub, ab, col, dd, k0, k1, k2, k3, k5, hC, hT⟩ := excInit_of X EC.q
  obtain ⟨oI, hoI, hcI⟩ : ∃ oI, hp.get? fI = some oI ∧ oI.cls = .type "function" := by
    obtain ⟨o, ho, hc⟩ := Option.map_eq_some_iff.mp (show (K.lookup fI).map (·.cls) = some (.type "function") from beq_iff_eq.mp EC.isF)
    exact ⟨o, X _ _ ho, hc⟩
  have hi' : Looks (model P w) hp (typeLookup (.ref C) "__init__") (some (.ref fI)) := looks_findIn X EC.init
  have hzs : us.length ≤ sizeLine := by rw [sizeLine_eq]; omega
  refine wpAny_call (PX.call_own EB.fb hT hC hi' (fun self => exc_bind hoI hcI self) hzs ?_)
  obtain ⟨oc, od, doc, pm, an, ct, osl, hfn⟩ := EC.fn
  have up : ∀ b o, hp.get? b = some o → ((hp.push (excTup us)).push (PX.excO C hp.objs.size)).get? b = some o := fun b o e => Heap.get?_push_of_some _ (Heap.get?_push_of_some _ e)
  have X2 := X.keeps up
  have he : ((hp.push (excTup us)).push (PX.excO C hp.objs.size)).get? (hp.objs.size + 1) = some (PX.excO C hp.objs.size) := by heap_get
  have ht : ((hp.push (excTup us)).push (PX.excO C hp.objs.size)).get? hp.objs.size = some (excTup us) := by heap_get
  have hlen : ((("self" : Str) :: ps).zip (Value.ref (hp.objs.size + 1) :: us)).length = ps.length + 1 := by simp [hl]
  have dep : (A.under (.builtin "type.__call__" ⟨.ref C :: us, []⟩)).depth < recursionLimit := by
    rw [L2.make_depth]; omega
  refine ks_codeAny_call_defAt (fd := ksFn D.name D.qual D.params D.body D.scope .none kV doc pm an cdv ct cc) (body := D.body) dep (X2 _ _ hfn) rfl ((Mo.nolimit.keeps kb).keeps up) (codeRec_of X2 EC.code) rfl (BindsTo.of_eq (hbind doc pm an ct _)) S.nocell ?_ (fun h₁ hns hk₁ => ?_) S.co S.gen S.kind
  · intro x hx
    exact S.loc x.1 (List.of_mem_zip hx).1
  · have hz0 := hideAll_size [hp.objs.size + 1, hp.objs.size] ((hp.push (excTup us)).push (PX.excO C hp.objs.size))
    have hsz : ((hp.push (excTup us)).push (PX.excO C hp.objs.size)).objs.size = hp.objs.size + 2 := by rw [Heap.size_push, Heap.size_push]
    have lo : ∀ b o, hp.get? b = some o → (hideAll ((hp.push (excTup us)).push (PX.excO C hp.objs.size)) [hp.objs.size + 1, hp.objs.size]).get? b = some o := fun b o e => by
      have lt := Heap.lt_size e
      exact hideAll_get _ (up b o e) (by
        intro hm
        rcases List.mem_cons.mp hm with e1 | hm
        · rw [e1] at lt; exact absurd lt (Nat.not_lt.mpr (Nat.le_succ _))
        · rw [List.mem_singleton.mp hm] at lt; exact absurd lt (Nat.lt_irrefl _))
    refine ks_wpAt_mono (h _ (hideAll ((hp.push (excTup us)).push (PX.excO C hp.objs.size)) [hp.objs.size + 1, hp.objs.size]) h₁ (hp.objs.size + 1) hp.objs.size _ _ ?_ lo (hideAll_none _ (by simp)) (by omega) (X.keeps lo) ⟨hns, fun b o e => hk₁ b o (of_hideAll _ e), Nat.le_of_eq hz0⟩ ?_) (fun fl s' q => ?_) (fun _ _ z => z.elim)
    · intro hm
      rw [hsz] at hm
      exact absurd (List.mem_singleton.mp hm) (Nat.ne_of_lt (Nat.lt_succ_self _))
    · intro p hp'
      simp only [List.mem_cons, List.not_mem_nil, or_false] at hp'
      rcases hp' with rfl | rfl
      · exact ⟨hk₁ _ _ he, by rw [hsz]; exact Nat.ne_of_lt (Nat.lt_succ_self _), hideAll_none _ (by simp)⟩
      · exact ⟨hk₁ _ _ ht, by rw [hsz]; exact Nat.ne_of_lt (Nat.lt_succ_of_lt (Nat.lt_succ_self _)), hideAll_none _ (by simp)⟩
    · cases fl with
      | ret v => obtain ⟨rfl, q2⟩ := q; exact ⟨rfl, q2⟩
      | _ => exact ⟨rfl, q.2⟩
end
end Mir
namespace Mir
open PySem PySem.Spec PySem.W PyProof.Rows
section
variable {P : Program} {w : World} {A : Around} {Em : Value → Shared → Prop} {K : Frag} {C fI cda cc : Addr} {B newId initId : String} {bmB : List Value} {D : ExDef} {kV cdv : Value} {hp : Heap} {g : Array GenState} {d : Drawn} {t : Nat} {os : OsState} {mg : Str → Option Value} {base : Heap}
abbrev supS (p0 p1 pa pc pcall pe : Pos) (msg : Str) (j : Nat) : Stmt := .Expr (.Call (.Attribute (.Call (.Name "super" p0) [] [] p1) "__init__" pa) [.Constant (.str msg) j pc] [] pcall) pe
theorem supIn {l : List Value} (h : ks_superIn K C C "__init__" = some (some (.builtin initId))) : ∃ cd, clsIn K C = some cd ∧ alongIn K "__init__" ((cd.mro.dropWhile (· != .ref C)).drop 1) = some (some (.builtin initId)) := by
  unfold ks_superIn at h
  cases hc : clsIn K C with
  | none => rw [hc] at h; cases h
  | some cd => rw [hc] at h; exact ⟨cd, rfl, h⟩
/-- super().__init__(text) -/
theorem ex_super (EB : ExBase B newId initId bmB) (EC : ExCls K C B newId initId bmB P.main.file D fI cda cc kV cdv) {ps : List Str} (S : ExScope ps D.scope) (Mo : L2.Mod K mg base) (hms : mg "super" = none)
    (htop : (P.main.scope.names.lookup ("super" : Str)).isSome = false) {ar : Arg} (hpar : (D.params.posonlyargs ++ D.params.args).head? = some ar) (har : ar.arg = ("self" : Str))
    {p0 p1 pa pc pcall pe : Pos} {msg : Str} {j : Nat} {h₀ h₁ : Heap} {e ta L tk : Nat} {m : Str → Option Value} {us : List Value} {Q : Flow → Shared → Prop} {E : Value → Shared → Prop}
    {pl : Sem Bool} (hev : ∀ env : PySem.Env, eval (.Call (.Attribute (.Call (.Name "super" p0) [] [] p1) "__init__" pa) [.Constant (.str msg) j pc] [] pcall) env = (do
      let ov ← attributeBase (.Call (.Name "super" p0) [] [] p1) "__init__" env (eval (.Call (.Name "super" p0) [] [] p1) env)
      standAt pa.atName
      let (f, first) ← holding [ov] (getMethod ov "__init__" pl)
      callWith pcall f first (backTo pcall (starEach [.Constant (.str msg) j pc] env)) []))
    (kb : ∀ b o, base.get? b = some o → h₀.get? b = some o) (X₀ : K.In h₀) (F : Fr h₀ L h₁ m) (hm : m "self" = some (.ref e)) (N : News h₀ L h₁ [(e, excObj C ta none .none), (ta, excTup us)]) (nt : ta ≠ e)
    (h : ∀ (h' : Heap) (tk' ta' : Nat) (news' : List (Addr × Obj)), Fr h₀ L h' m → News h₀ L h' ((e, excObj C ta' none .none) :: news') → (∀ p ∈ news', p.1 ≠ e) → Q .next ⟨h', g, d, tk', os⟩) :
    PySem.wpAt (model P w) A (.func D.body (ksEnv D.qual D.scope L fI cdv cc)) (exec (supS p0 p1 pa pc pcall pe msg j) (ksEnv D.qual D.scope L fI cdv cc)) Q E ⟨h₁, g, d, tk, os⟩ := by
  have hcd := EC.cdv
  subst hcd
  have X : K.In h₁ := X₀.keeps F.keep
  have kb1 : ∀ b o, base.get? b = some o → h₁.get? b = some o := fun b o q => F.keep b o (kb b o q)
  obtain ⟨oc, od, doc, pm, an, ct, osl, hfn⟩ := EC.fn
  obtain ⟨ccl, cdd, vs, ccs, file, tf, hcode, hvs, hfile⟩ := EC.file
  obtain ⟨cl, cld, csl, hcell⟩ := EC.cell
  obtain ⟨cd, hcls, hsup⟩ := supIn (l := []) EC.sup
  obtain ⟨mb, hblt, hbl2⟩ := Mo.blt
  obtain ⟨nm, N', qn, bs, bm, hdct, sn, sub, ab, col, dd, k0, k1, k2, k3, k5, hC, hT⟩ := excInit_of X EC.q
  have hx := (N (e, excObj C ta none .none) (by simp)).1
  have hself : (ksEnv D.qual D.scope L fI (.ref cda) cc).kindOf "self" = some .local := S.loc _ (by simp)
  have hI : InstAt h₁ e (excObj C ta none .none) C none := ⟨hx, rfl, rfl, trivial⟩
  have eC : e ≠ C := ks_ne X hI hcls
  have hin : interactive (ksEnv D.qual D.scope L fI (.ref cda) cc) = false := by
    unfold interactive
    rw [show (ksEnv D.qual D.scope L fI (.ref cda) cc).scope.kind = .function from S.kind]
    rfl
  refine ks_wpAt_Expr_any (ks_wpAt_MethodCall (pl := pl) ?_ ?_) hin ?_
  · refine ks_wpAt_super_base (env := ksEnv D.qual D.scope L fI (.ref cda) cc) S.sup S.cls (by decide) rfl (X _ _ hfn) rfl hpar rfl (X _ _ hcode) rfl hvs hfile htop ?_
    refine ks_loadName_global S.kind S.sup (Calls.loadGlobal_builtin (Mo.glob.keeps kb1) hms (hblt.keeps kb1) ((hbl2 _ (by decide)).trans (show bootBuiltins "super" = some (.type "super") by first | rfl | kernel_rfl)) ⟨rfl, ?_⟩)
    refine wpAny_loadName_free S.kind S.cls rfl ⟨_, X _ _ hcell, rfl⟩ ?_
    rw [har]
    refine wpAny_loadName_local S.kind hself F.ns hm ?_
    refine ks_wpAny_isType_cls hC rfl ⟨rfl, ?_⟩
    refine ks_wpAny_call_super hC rfl hx rfl (fun c z => nomatch z) (looks_mroIn X EC.self) (fun h2 e2 k2 => ?_)
    obtain ⟨F2, N2, l2⟩ := ks_newsPush (s := ⟨h₁, g, d, tk, os⟩) (o := ks_superObj C e C) F N rfl e2 k2
    have X2 : K.In h2 := X₀.keeps F2.keep
    have hso := (N2 _ (List.mem_cons_self ..)).1
    refine kxs_getMethod EB.kf hso (looks_opaque X2 EC.any) (l₀ := cd.mro) (fun A Q E s k q => wpAny_bind ((looks_clsIn X2 hcls) A _ E s k (wpAny_pure q))) rfl X2 hsup (show Looks (model P w) h2 (isInstance (.ref e) (.type B)) true from (show InstAt h2 e (excObj C ta none .none) C none from ⟨k2 _ _ hx, rfl, rfl, trivial⟩).type.andThen (looks_subIn X2 EC.sub)) eC (by decide) ?_
    obtain ⟨F3, N3, l3⟩ := ks_newsPush (s := ⟨h2, g, d, tk, os⟩) (o := kxs_mw initId e) F2 N2 rfl (Heap.get?_push_at rfl rfl) (fun b o q => Heap.get?_push_of_some _ q)
    refine kxs_callWith1 (i := initId) (x := e) N3 (List.mem_cons_self ..) ?_
    refine Calls.spliced_cons (wpAny_Constant_str (k := j) (pos := pc) (Calls.spliced_nil ⟨(N3 _ (List.mem_cons_self ..)).1, ?_⟩))
    refine kxs_call (x := e) (C := C) (i := initId) F3 X₀ N3 EB.fb EC.q (List.mem_cons_self ..) (.tail ?_ (.tail ?_ (.head ?_))) (by simp [sizeLine_eq]) (fun t' h' F4 N4 l4 => ?_)
    · exact Nat.ne_of_gt (l3 (e, excObj C ta none .none) (by simp))
    · exact Nat.ne_of_gt (l2 (e, excObj C ta none .none) (by simp))
    · intro p hp; rw [List.mem_singleton.mp hp]; exact nt
    · refine h _ _ t' [(t', excTup [.str msg (tk + 1)]), (h2.objs.size, kxs_mw initId e), (h₁.objs.size, ks_superObj C e C), (ta, excTup us)] F4 (fun p hp => N4 p ?_) (fun p hp => ?_)
      · simp only [List.mem_cons, List.not_mem_nil, or_false] at hp ⊢
        rcases hp with rfl | rfl | rfl | rfl | rfl <;> simp
      · simp only [List.mem_cons, List.not_mem_nil, or_false] at hp
        rcases hp with rfl | rfl | rfl | rfl
        · exact Nat.ne_of_gt (l4 (e, excObj C ta none .none) (by simp))
        · exact Nat.ne_of_gt (l3 (e, excObj C ta none .none) (by simp))
        · exact Nat.ne_of_gt (l2 (e, excObj C ta none .none) (by simp))
        · exact nt
  · exact hev _
  · rfl
end
end Mir
namespace Mir
open PySem PySem.Spec PySem.W PyProof.Rows
section
variable {P : Program} {w : World} {A : Around} {Em : Value → Shared → Prop} {K : Frag} {C fI cda cc : Addr} {B newId initId : String} {bmB : List Value} {D : ExDef} {kV cdv : Value} {hp : Heap} {g : Array GenState} {d : Drawn} {t : Nat} {os : OsState} {mg : Str → Option Value} {base : Heap}
abbrev stoS (q1 q2 q3 q4 : Pos) (f : Str) : Stmt := .Assign [.Attribute (.Name "self" q1) f q2] (.Name f q3) q4
theorem Fr.atSelf {h₀ h₁ : Heap} {L : Addr} {m : Str → Option Value} (F : Fr h₀ L h₁ m) : h₁.Ns L m := F.ns
/-- self.f = f, the first one -/
theorem ex_sto1 (EB : ExBase B newId initId bmB) (EC : ExCls K C B newId initId bmB P.main.file D fI cda cc kV cdv) {ps : List Str} (S : ExScope ps D.scope) {f : Str} (hf : f ∈ ps) (hfd : (f == ("__debug__" : Str)) = false) (ht : takerIn K C f = some none)
    {q1 q2 q3 q4 : Pos} {h₀ h₁ : Heap} {e ta L tk : Nat} {m : Str → Option Value} {u : Value} {news : List (Addr × Obj)} {Q : Flow → Shared → Prop} {E : Value → Shared → Prop}
    (X₀ : K.In h₀) (F : Fr h₀ L h₁ m) (hm : m "self" = some (.ref e)) (hu : m f = some u) (N : News h₀ L h₁ ((e, excObj C ta none .none) :: news)) (nn : ∀ p ∈ news, p.1 ≠ e)
    (h : ∀ (h' : Heap) (tk' dx : Nat) (hs : Int) (k : Tok), Fr h₀ L h' m → News h₀ L h' ((dx, dictOf [⟨hs, .str f k, u⟩] 1) :: (e, excObj C ta (some dx) .none) :: news) → e < dx → (∀ p ∈ news, p.1 < dx) → Q .next ⟨h', g, d, tk', os⟩) :
    PySem.wpAt (model P w) A (.func D.body (ksEnv D.qual D.scope L fI cdv cc)) (exec (stoS q1 q2 q3 q4 f) (ksEnv D.qual D.scope L fI cdv cc)) Q E ⟨h₁, g, d, tk, os⟩ := by
  have hself : (ksEnv D.qual D.scope L fI cdv cc).kindOf "self" = some .local := S.loc _ (by simp)
  have hfl : (ksEnv D.qual D.scope L fI cdv cc).kindOf f = some .local := S.loc _ (List.mem_cons_of_mem _ hf)
  refine ks_wpAt_Assign_Attr (wpAt_of_wpAny (ld_loc S.kind hfl F.ns hu (ld_loc S.kind hself F.ns hm ?_) hfd)) rfl
  refine set_exc0 (s := ⟨h₁, g, d, tk, os⟩) EB.sf F X₀ N (List.mem_cons_self ..) EC.sa EC.over ht EC.hh (es' := [⟨PyData.keyHash w.params f, .str f (tk + 1), u⟩]) (n' := 1) rfl (.head nn) (by simp) fun dx h' F' N' l' => ?_
  exact h h' _ dx _ _ F' N' (l' (e, excObj C ta none .none) (by simp)) fun p hp => l' p (List.mem_cons_of_mem _ hp)
/-- .. a second one -/
theorem ex_sto2 (EB : ExBase B newId initId bmB) (EC : ExCls K C B newId initId bmB P.main.file D fI cda cc kV cdv) {ps : List Str} (S : ExScope ps D.scope) {f f0 : Str} (hf : f ∈ ps) (hfd : (f == ("__debug__" : Str)) = false) (ht : takerIn K C f = some none) (hne : (f0 == f) = false)
    {q1 q2 q3 q4 : Pos} {h₀ h₁ : Heap} {e ta L tk dx : Nat} {m : Str → Option Value} {u u0 : Value} {hs0 : Int} {k0 : Tok} {news : List (Addr × Obj)} {Q : Flow → Shared → Prop} {E : Value → Shared → Prop}
    (X₀ : K.In h₀) (F : Fr h₀ L h₁ m) (hm : m "self" = some (.ref e)) (hu : m f = some u) (N : News h₀ L h₁ ((dx, dictOf [⟨hs0, .str f0 k0, u0⟩] 1) :: (e, excObj C ta (some dx) .none) :: news)) (ne : e < dx) (nn : ∀ p ∈ news, p.1 < dx)
    (h : ∀ (h' : Heap) (tk' : Nat) (hs : Int) (k : Tok), Fr h₀ L h' m → News h₀ L h' ((dx, dictOf [⟨hs0, .str f0 k0, u0⟩, ⟨hs, .str f k, u⟩] 2) :: (e, excObj C ta (some dx) .none) :: news) → Q .next ⟨h', g, d, tk', os⟩) :
    PySem.wpAt (model P w) A (.func D.body (ksEnv D.qual D.scope L fI cdv cc)) (exec (stoS q1 q2 q3 q4 f) (ksEnv D.qual D.scope L fI cdv cc)) Q E ⟨h₁, g, d, tk, os⟩ := by
  have hself : (ksEnv D.qual D.scope L fI cdv cc).kindOf "self" = some .local := S.loc _ (by simp)
  have hfl : (ksEnv D.qual D.scope L fI cdv cc).kindOf f = some .local := S.loc _ (List.mem_cons_of_mem _ hf)
  refine ks_wpAt_Assign_Attr (wpAt_of_wpAny (ld_loc S.kind hfl F.ns hu (ld_loc S.kind hself F.ns hm ?_) hfd)) rfl
  have hk : (Value.str f0 k0).isStr f = false := by
    show (f0 == f) = false
    exact hne
  refine set_excD (s := ⟨h₁, g, d, tk, os⟩) EB.sf F X₀ N (List.mem_cons_of_mem _ (List.mem_cons_self ..)) EC.sa EC.over ht EC.hh (List.mem_cons_self ..) (by simp [getL, hk, DictEntry.refKey]) (es' := [⟨hs0, .str f0 k0, u0⟩, ⟨PyData.keyHash w.params f, .str f (tk + 1), u⟩]) (n' := 2) (by simp [putL, putN, hk]) (.head ?_) (by simp) fun h' F' N' => ?_
  · intro p hp
    rcases List.mem_cons.mp hp with rfl | hp
    · exact Nat.ne_of_lt ne
    · exact Nat.ne_of_lt (nn p hp)
  · exact h h' _ _ _ F' N'
/-- dicts of one entry, of two -/
theorem ns_one {h : Heap} {dx : Addr} {f : Str} {u : Value} {hs : Int} {k : Tok} {n : Nat} (e : h.get? dx = some (dictOf [⟨hs, .str f k, u⟩] n)) : h.Ns1 dx (fun y => if y = f then some u else none) := by
  refine ⟨_, _, _, e, rfl, fun x hx => ?_, by simp [UniqKeys], fun y => ?_⟩
  · simp at hx; subst hx; exact ⟨f, k, rfl⟩
  · by_cases q : y = f
    · subst q; simp [nsFind, findBy, Value.isStr]
    · have : (f == y) = false := beq_eq_false_iff_ne.mpr (Ne.symm q)
      simp [nsFind, findBy, Value.isStr, q, this]
theorem ns_two {h : Heap} {dx : Addr} {f f2 : Str} {u u2 : Value} {hs hs2 : Int} {k k2 : Tok} {n : Nat} (hne : (f == f2) = false) (e : h.get? dx = some (dictOf [⟨hs, .str f k, u⟩, ⟨hs2, .str f2 k2, u2⟩] n)) : h.Ns1 dx (fun y => if y = f then some u else if y = f2 then some u2 else none) := by
  have n1 : f ≠ f2 := beq_eq_false_iff_ne.mp hne
  refine ⟨_, _, _, e, rfl, fun x hx => ?_, ?_, fun y => ?_⟩
  · simp at hx
    rcases hx with rfl | rfl
    · exact ⟨f, k, rfl⟩
    · exact ⟨f2, k2, rfl⟩
  · simp [UniqKeys, Value.isStr]
    exact Ne.symm n1
  · by_cases q : y = f
    · subst q; simp [nsFind, findBy, Value.isStr]
    · have q1 : (f == y) = false := beq_eq_false_iff_ne.mpr (Ne.symm q)
      by_cases q2 : y = f2
      · subst q2; simp [nsFind, findBy, Value.isStr, q, q1]
      · have : (f2 == y) = false := beq_eq_false_iff_ne.mpr (Ne.symm q2)
        simp [nsFind, findBy, Value.isStr, q, q1, q2, this]
/-- C(u): an exception that keeps one argument -/
theorem ex_make1 (EB : ExBase B newId initId bmB) (EC : ExCls K C B newId initId bmB P.main.file D fI cda cc kV cdv) {f : Str} (S : ExScope [f] D.scope) (hfd : (f == ("__debug__" : Str)) = false) (hsf : (f == ("self" : Str)) = false) (ht : takerIn K C f = some none) (Mo : L2.Mod K mg base) (hms : mg "super" = none)
    (htop : (P.main.scope.names.lookup ("super" : Str)).isSome = false) {ar : Arg} (hpar : (D.params.posonlyargs ++ D.params.args).head? = some ar) (har : ar.arg = ("self" : Str))
    {p0 p1 pa pc pcall pe q1 q2 q3 q4 : Pos} {msg : Str} {j : Nat} (hbody : D.body = [supS p0 p1 pa pc pcall pe msg j, stoS q1 q2 q3 q4 f]) {pl : Sem Bool} (hev : ∀ env : PySem.Env, eval (.Call (.Attribute (.Call (.Name "super" p0) [] [] p1) "__init__" pa) [.Constant (.str msg) j pc] [] pcall) env = (do
      let ov ← attributeBase (.Call (.Name "super" p0) [] [] p1) "__init__" env (eval (.Call (.Name "super" p0) [] [] p1) env)
      standAt pa.atName
      let (f, first) ← holding [ov] (getMethod ov "__init__" pl)
      callWith pcall f first (backTo pcall (starEach [.Constant (.str msg) j pc] env)) []))
    (kb : ∀ b o, base.get? b = some o → hp.get? b = some o) {u : Value} (hroom : A.depth + 2 < recursionLimit) {Q : Value → Shared → Prop}
    (hbind : ∀ (doc pm : Value) (an : Option Addr) (ct : Value) (e : Addr), bindArgs (ksFn D.name D.qual D.params D.body D.scope .none kV doc pm an cdv ct cc) ⟨[.ref e, u], []⟩ = pure [(("self" : Str), Value.ref e), (f, u)])
    (h : ∀ (h' : Heap) (tk' e dx ta : Nat), (∀ b o, hp.get? b = some o → h'.get? b = some o) → hp.objs.size ≤ e → e < dx → h'.get? e = some (excObj C ta (some dx) .none) → h'.Ns1 dx (fun y => if y = f then some u else none) → Q (.ref e) ⟨h', g, d, tk', os⟩) :
    wpAny (model P w) A (call (.ref C) [u]) Q Em ⟨hp, g, d, t, os⟩ := by
  refine ex_enter EB EC S Mo kb (by simp) hroom hbind rfl fun A' h₀ h₁ e ta L tk nL lo ne le X₀ F N => ?_
  have nm : ∀ v : Value, (List.lookup ("self" : Str) ([(("self" : Str), Value.ref e), (f, u)] : List (Str × Value)).reverse = some (Value.ref e)) ∧ List.lookup f ([(("self" : Str), Value.ref e), (f, u)] : List (Str × Value)).reverse = some u := fun v => by
    have h1 : (("self" : Str) == f) = false := by
      rw [beq_eq_false_iff_ne] at hsf ⊢; exact Ne.symm hsf
    constructor
    · show List.lookup _ [(f, u), (("self" : Str), Value.ref e)] = _
      simp [List.lookup, h1]
    · show List.lookup _ [(f, u), (("self" : Str), Value.ref e)] = _
      simp [List.lookup]
  have nt : ta ≠ e := by
    intro z
    have a1 := (N (e, excObj C ta none .none) (by simp)).1
    have a2 := (N (ta, excTup [u]) (by simp)).1
    rw [z] at a2
    rw [a1] at a2
    cases a2
  have kb0 : ∀ b o, base.get? b = some o → h₀.get? b = some o := fun b o q => lo b o (kb b o q)
  rw [hbody]
  refine ks_wpAt_execs_cons ?_
  rw [← hbody]
  refine ex_super EB EC S Mo hms htop hpar har hev kb0 X₀ F (nm .none).1 N nt fun h2 tk2 ta2 news2 F2 N2 nn2 => ?_
  refine ks_wpAt_execs_cons ?_
  refine ex_sto1 EB EC S (List.mem_cons_self ..) hfd ht X₀ F2 (nm .none).1 (nm .none).2 N2 nn2 fun h3 tk3 dx hs k F3 N3 l3 l3' => ?_
  refine wpAt_of_wpAny (wpAny_execs_nil ⟨trivial, ?_⟩)
  exact h h3 tk3 e dx ta2 (fun b o q => F3.keep b o (lo b o q)) le l3 (N3 (e, excObj C ta2 (some dx) .none) (by simp)).1 (ns_one (N3 _ (List.mem_cons_self ..)).1)
end
end Mir
/-! Mir, part Y: try with several clauses, named or not. -/
namespace Mir
open PySem PySem.Spec PyProof.Rows L2
/-- an exception at a, of the class cls, with the dict d, stands before the clauses -/
structure Before (X : Cx) (pins : List (Addr × Obj)) (σ : L2.St) (H : Hp) (a : Addr) (cls : Value) (d : Option Addr) (s : Shared) : Prop where
  ex : ∃ (B : Heap) (sI : Shared), Inv X pins σ H sI ∧ (∀ b o, sI.heap.get? b = some o → b ∉ frs X.stack → B.get? b = some o) ∧ sI.heap.UpToSlots s.heap ∧ HandSPX.FlyingZ B (X.env :: X.outer) a (Zc cls d) s.heap ∧ s.os = sI.os ∧ AllBare s.gens
  no : H a = none
section
variable {X : Cx} {pins : List (Addr × Obj)} {σ : L2.St} {H : Hp} {a : Addr} {cls : Value} {d : Option Addr} {s : Shared}
theorem Before.inv (b : Before X pins σ H a cls d s) : Inv X pins σ H s ∧ ∃ oe, s.heap.get? a = some oe ∧ Zc cls d oe ∧ (∃ vs, oe.data = .fields vs) ∧ (X.env.frame = some X.env.locals → a ≠ X.env.locals ∧ a ∉ X.fs) := by
  obtain ⟨B, sI, I, nb, up, fl, os, ag⟩ := b.ex
  obtain ⟨oe, vs, he, hz, hd⟩ := fl.there
  refine ⟨I.landed nb fl.1 up os ag, oe, he, hz, ⟨vs, hd⟩, fun hf => ?_⟩
  have out : a ∉ frs (X.env :: X.outer) := fun hm => by
    obtain ⟨_, o2, e2, no2⟩ := fl.2.2.1.mem hm
    rw [he] at e2
    exact no2 _ (Option.some.inj e2 ▸ hd)
  refine ⟨fun z => out (List.mem_filterMap.mpr ⟨X.env, List.mem_cons_self, by rw [hf, z]⟩), fun hm => ?_⟩
  obtain ⟨e, he2, q⟩ := List.mem_filterMap.mp hm
  exact out (List.mem_filterMap.mpr ⟨e, List.mem_cons_of_mem _ he2, q⟩)
/-- what the clauses do with it, by what is wished of it -/
def Clauses (X : Cx) (hds : List ExceptHandler) (wf : Ends → WX) : Prop := ∀ (pins : List (Addr × Obj)) (σ : L2.St) (H : Hp) (a : Addr) (cls : Value) (d : Option Addr) (s : Shared) (D : Ends),
  Before X pins σ H a cls d s → wf D cls d σ H → wpAny (model X.prog X.w) X.A (handleBy (.ref a) X.env hds) (SP X pins D) X.xe s
theorem cl_nil {Wout : WX} (hs : X.stack = X.env :: X.outer) (hf : X.env.frame = some X.env.locals) (tk : Takes X Wout) : Clauses X [] (fun _ => Wout) := by
  intro pins σ H a cls d s D b w
  obtain ⟨B, sI, I, nb, up, fl, os, ag⟩ := b.ex
  obtain ⟨_, _, _, oe, vs, tr, _, _, he, _, hd, h1, _⟩ := id fl
  refine wpAny_handleBy_nil ?_
  unfold PySem.passOn
  refine wpAny_bind (wpAny_field he hd h1 ?_)
  have some_ : ¬ ((Value.ref tr == Value.none) = true) := by simp
  rw [if_neg some_]
  have off : wpAny (model X.prog X.w) X.A (setFlight (.ref a) X.env.frame) (fun _ s2 => wpAny (model X.prog X.w) X.A (throw (.ref a) : Sem Flow) (SP X pins D) X.xe s2) X.xe s := by
    rw [hf]
    exact HandSPX.setFlight_upZ fl fun h2 he2 up2 => wpAny_throw (tk _ _ ⟨a, B, sI, pins, σ, H, cls, d, rfl, I, nb, up.trans up2, .inr (.inr (by rw [hs]; exact he2)), b.no, os, ag, w⟩)
  first
    | exact wpAny_bind (wpAny_pure (wpAny_bind off))
    | exact wpAny_bind off
/-- the class that a clause names is looked up -/
theorem cl_name {x : Str} {c : Value} {np : Pos} {oe : Obj} {pn : List (Addr × Obj)} {Q : Value → Shared → Prop} {E : Value → Shared → Prop} (hc : Names X x c) (S : Inv (X.suite a ((a, oe) :: pn)) [] σ H s) (q : Q c s) :
    wpAny (model X.prog X.w) (X.A.mark (some (.ref a))) (eval (.Name x np) X.env) Q E s := by
  obtain ⟨hg, hdb, hm | ⟨hm, hv, hn⟩⟩ := hc
  · exact ld_glob (X := X.suite a ((a, oe) :: pn)) S hg hm q hdb
  · exact ld_blt (X := X.suite a ((a, oe) :: pn)) S hg hm hv q hn hdb
theorem Before.again {s2 : Heap} (b : Before X pins σ H a cls d s) {B : Heap} {sI : Shared} (I : Inv X pins σ H sI) (nb : ∀ b o, sI.heap.get? b = some o → b ∉ frs X.stack → B.get? b = some o) (up : sI.heap.UpToSlots s2) (fl : HandSPX.FlyingZ B (X.env :: X.outer) a (Zc cls d) s2) (os : s.os = sI.os) (ag : AllBare s.gens) : Before X pins σ H a cls d { s with heap := s2 } :=
  ⟨⟨B, sI, I, nb, up, fl, os, ag⟩, b.no⟩
theorem ends_of {X : Cx} {pins : List (Addr × Obj)} {D : Ends} {f : Flow} {s : Shared} {oe : Obj} (ok : X.Ok) (h : SP (X.suite a ((a, oe) :: (X.pn ++ pins))) [] D f s) : SP X pins D f s := by
  cases f with
  | next => obtain ⟨σ6, H6, S6, q6⟩ := h; exact ⟨σ6, H6, S6.unsuite ok, q6⟩
  | brk => obtain ⟨σ6, H6, S6, q6⟩ := h; exact ⟨σ6, H6, S6.unsuite ok, q6⟩
  | cont => obtain ⟨σ6, H6, S6, q6⟩ := h; exact ⟨σ6, H6, S6.unsuite ok, q6⟩
  | ret u => obtain ⟨v, σ6, H6, S6, r6, q6⟩ := h; exact ⟨v, σ6, H6, S6.unsuite ok, r6, q6⟩
variable {x n : Str} {c : Value} {i : Nat} {suite : List Stmt} {b₀ : Stmt} {np pos' : Pos} {ts : Addr → Value → Option Addr → TS} {wr : Ends → WX} {hds : List ExceptHandler}
/-- what a clause wishes: the test's answer, then its suite or the others -/
def wClause (K : PySem.W.Frag) (c : Value) (here : Addr → Value → Option Addr → TS) (wr : Ends → WX) (D : Ends) : WX := fun cls d σ H =>
  ∃ b, PySem.W.exmOne K cls c = some b ∧ (b = true → ∀ a, H a = none → here a cls d D σ H) ∧ (b = false → wr D cls d σ H)
/-- the test of a clause -/
theorem cl_test {nm : Option Str} (hf : X.env.frame = some X.env.locals) (hc : Names X x c) {b : Bool} (hb : PySem.W.exmOne X.K cls c = some b) {D : Ends} (B : Before X pins σ H a cls d s)
    (h : if b = true then codeAny (model X.prog X.w) (X.A.mark (some (.ref a))) (.handlers (.ref a) [.ExceptHandler none nm (b₀ :: suite) pos'] X.env) (fun r s2 => match r with
          | .ok f => (match nm with
            | none => SP X pins D f s2
            | some n => wpAny (model X.prog X.w) X.A (do bindName X.env n .none; unbindBehindTheSuite X.env n pos') (fun _ s3 => SP X pins D f s3) X.xe s2)
          | .error e => cameBackBy (model X.prog X.w) X.A X.env X.xe e s2) s
      else wpAny (model X.prog X.w) X.A (handleBy (.ref a) X.env hds) (SP X pins D) X.xe s) :
    wpAny (model X.prog X.w) X.A (handleBy (.ref a) X.env (.ExceptHandler (some (.Name x np)) nm (b₀ :: suite) pos' :: hds)) (SP X pins D) X.xe s := by
  obtain ⟨I, oe, he, hz, ⟨vs, hd⟩, hn⟩ := B.inv
  obtain ⟨nL, nF⟩ := hn hf
  have S := I.suite he hd B.no nL nF
  refine wpAny_handleBy_cons (codeAny_handlers_test (cl_name hc S ?_)) (by intro q; cases q)
  have look : PySem.W.Looks (model X.prog X.w) s.heap (typeOf (.ref a)) cls := fun A Q E s2 k q => wpAny_typeOf_ref (k _ _ he) (by rw [hz.1]; exact q)
  refine (PySem.W.exm_one (M := model X.prog X.w) I.kIn look hb).here ?_
  cases b with
  | true => exact h
  | false => exact h
/-- except x: suite -/
theorem cl_only (hs : X.stack = X.env :: X.outer) (hf : X.env.frame = some X.env.locals) (hc : Names X x c) (hr : Clauses X hds wr)
    (hsu : ∀ (a : Addr) (oe : Obj) (cls : Value) (d : Option Addr) (pn : List (Addr × Obj)), Zc cls d oe → (∃ vs, oe.data = .fields vs) → PSs (X.suite a ((a, oe) :: pn)) (b₀ :: suite) (ts a cls d)) :
    Clauses X (.ExceptHandler (some (.Name x np)) none (b₀ :: suite) pos' :: hds) (wClause X.K c ts wr) := by
  intro pins σ H a cls d s D B ⟨b, hb, yes, no⟩
  refine cl_test hf hc hb B ?_
  cases b with
  | false => simp only [Bool.false_eq_true, if_false]; exact hr pins σ H a cls d s D B (no rfl)
  | true =>
    simp only [if_true]
    obtain ⟨B0, sI, I, nb, up, fl, os, ag⟩ := B.ex
    refine codeAny_handlers_suite (HandSPX.lands_againZ fl fun h4 fl4 up4 => ?_)
    have B4 := B.again I nb (up.trans up4) fl4 os ag
    obtain ⟨I4, oe, he, hz, ⟨vs, hd⟩, hn⟩ := B4.inv
    obtain ⟨nL, nF⟩ := hn hf
    refine wpAny_mono ((hsu a oe cls d (X.pn ++ pins) hz ⟨_, hd⟩).run [] _ σ H D (I4.suite he hd B.no nL nF) (yes rfl a B.no)) (fun f s6 q => ?_) (fun _ _ z => False.elim z)
    exact ends_of I.ok q
/-- slot i is forgotten behind -/
def goneE (i : Nat) (D : Ends) : Ends := { nx := fun σ H => D.nx (σ.set i none) H, rt := D.rt, bk := fun σ H => D.bk (σ.set i none) H, ct := fun σ H => D.ct (σ.set i none) H }
/-- except x as n: suite -/
theorem cl_as (hs : X.stack = X.env :: X.outer) (hf : X.env.frame = some X.env.locals) (hN : X.N.Nodup) (hi : X.N[i]? = some n) (hln : X.env.kindOf n = some .local) (hc : Names X x c) (hr : Clauses X hds wr)
    (hsu : ∀ (a : Addr) (oe : Obj) (cls : Value) (d : Option Addr) (pn : List (Addr × Obj)), Zc cls d oe → (∃ vs, oe.data = .fields vs) → PSs (X.suite a ((a, oe) :: pn)) (b₀ :: suite) (ts a cls d)) :
    Clauses X (.ExceptHandler (some (.Name x np)) (some n) (b₀ :: suite) pos' :: hds) (wClause X.K c (fun a cls d D σ H => ts a cls d (goneE i D) (σ.set i (some (.ref a))) H) wr) := by
  intro pins σ H a cls d s D B ⟨b, hb, yes, no⟩
  refine cl_test hf hc hb B ?_
  cases b with
  | false => simp only [Bool.false_eq_true, if_false]; exact hr pins σ H a cls d s D B (no rfl)
  | true =>
    simp only [if_true]
    obtain ⟨B0, sI, I, nb, up, fl, os, ag⟩ := B.ex
    refine codeAny_handlers_suite_as (HandSPX.lands_againZ fl fun h4 fl4 up4 => ?_)
    have B4 := B.again I nb (up.trans up4) fl4 os ag
    obtain ⟨I4, oe, he, hz, ⟨vs, hd⟩, hn⟩ := B4.inv
    obtain ⟨nL, nF⟩ := hn hf
    refine store_ok (X := X.suite a ((a, oe) :: (X.pn ++ pins))) (v := .ref a) (I4.suite he hd B.no nL nF) hN hi (.inl hln) rfl (fun s5 S5 => ?_) (.inr hln)
    refine wpAny_mono ((hsu a oe cls d (X.pn ++ pins) hz ⟨_, hd⟩).run [] s5 _ H (goneE i D) S5 (yes rfl a B.no)) (fun f s6 q => ?_) (fun _ _ z => False.elim z)
    have gone : ∀ {σ6 : L2.St} {H6 : Hp} {Q : Shared → Prop}, Inv (X.suite a ((a, oe) :: (X.pn ++ pins))) [] σ6 H6 s6 → (∀ s7, Inv X pins (σ6.set i none) H6 s7 → Q s7) →
        wpAny (model X.prog X.w) X.A (do bindName X.env n .none; unbindBehindTheSuite X.env n pos') (fun _ s7 => Q s7) X.xe s6 := fun S6 hq => gone_ok (S6.unsuite I.ok) hN hi hln hq
    cases f with
    | next => obtain ⟨σ6, H6, S6, q6⟩ := q; exact gone S6 fun s7 J => ⟨_, _, J, q6⟩
    | brk => obtain ⟨σ6, H6, S6, q6⟩ := q; exact gone S6 fun s7 J => ⟨_, _, J, q6⟩
    | cont => obtain ⟨σ6, H6, S6, q6⟩ := q; exact gone S6 fun s7 J => ⟨_, _, J, q6⟩
    | ret u => obtain ⟨v, σ6, H6, S6, r6, q6⟩ := q; exact gone S6 fun s7 J => ⟨v, _, _, J, r6, q6⟩
/-- the whole try -/
theorem ps_tryC {body : List Stmt} {h₀ : ExceptHandler} {pos : Pos} {wf : Ends → WX} {tb : WX → TS} (hs : X.stack = X.env :: X.outer) (hf : X.env.frame = some X.env.locals) (hh : Clauses X (h₀ :: hds) wf)
    (hb : ∀ (W : WX) (pn : List (Addr × Obj)) (xe : Value → Shared → Prop), Takes (X.tr pn xe) W → PassesOwn (model X.prog X.w) X.A X.env xe → PSs (X.tr pn xe) body (tb W)) :
    PS X (.Try body (h₀ :: hds) [] [] pos) (fun D σ H => tb (wf D) D σ H) := by
  refine ⟨fun pins s σ H D I h => ?_⟩
  have ok := I.ok
  have fr : X.A.frames = some (X.env :: X.outer) := by rw [ok.frames, hs]
  let xe : Value → Shared → Prop := fun e s₁ => wpAny (model X.prog X.w) X.A (noteFrame e X.env) (fun _ s₂ => wpAny (model X.prog X.w) X.A (setFlight e none) (fun _ s₃ => wpAny (model X.prog X.w) X.A (handleBy e X.env (h₀ :: hds)) (SP X pins D) X.xe s₃) X.xe s₂) X.xe s₁
  have tk : Takes (X.tr (X.pn ++ pins) xe) (wf D) := by
    intro u s' ⟨a, B, sI, pins', σ', H', cls, d, e, J', nb, up, sky, na, os, ag, w⟩
    subst e
    have I2 := J'.ofTry ok
    have sky2 : Sky B (X.env :: X.outer) a (Zc cls d) X.env.locals s'.heap := by rw [← hs]; exact sky
    show wpAny (model X.prog X.w) X.A (noteFrame (.ref a) X.env) _ _ _
    exact Sky.land Zc.steady fr hf sky2 fun h3 fl3 up3 => hh pins σ' H' a cls d { s' with heap := h3 } D ⟨⟨B, sI, I2, nb, up.trans up3, fl3, os, ag⟩, na⟩ w
  refine wpAny_Try_except (wpAny_mono ((hb (wf D) (X.pn ++ pins) xe tk PassesOwn.looking).run [] s σ H D (I.toTry _) h) (fun f s1 q => ?_) (fun _ _ z => z))
  cases f with
  | next => obtain ⟨σ', H', J, q⟩ := q; exact wpAny_execs_nil ⟨σ', H', J.ofTry ok, q⟩
  | brk => obtain ⟨σ', H', J, q⟩ := q; exact ⟨σ', H', J.ofTry ok, q⟩
  | cont => obtain ⟨σ', H', J, q⟩ := q; exact ⟨σ', H', J.ofTry ok, q⟩
  | ret u => obtain ⟨v, σ', H', J, r, q⟩ := q; exact ⟨v, σ', H', J.ofTry ok, r, q⟩
end
end Mir
/-! Mir, part Z: raise, try. -/
namespace Mir
open PySem PySem.Spec PyProof.Rows L2
/-- how the class at C makes its exceptions: n arguments, kept under these names -/
def MakesX (P : Program) (w : World) (K : PySem.W.Frag) (C : Addr) (fs : List Str) : Prop :=
  ∀ (base : Heap) (mg : Str → Option Value) (A : Around) (Em : Value → Shared → Prop) (hp : Heap) (g : Array GenState) (d : Drawn) (t : Nat) (os : OsState) (us : List Value) (Q : Value → Shared → Prop), L2.Mod K mg base → mg "super" = none → us.length = fs.length → A.depth + 2 < recursionLimit →
    (∀ b o, base.get? b = some o → hp.get? b = some o) →
    (∀ (h' : Heap) (tk' e dx ta : Nat), (∀ b o, hp.get? b = some o → h'.get? b = some o) → hp.objs.size ≤ e → e < dx → h'.get? e = some (PySem.W.excObj C ta (some dx) .none) → h'.Ns1 dx (fun y => (fs.zip us).lookup y) → Q (.ref e) ⟨h', g, d, tk', os⟩) →
    wpAny (model P w) A (call (.ref C) us) Q Em ⟨hp, g, d, t, os⟩
theorem zip_relO {y : Str} : ∀ {fs : List Str} {vs : List V} {us : List Value}, Vals vs us → RelO ((fs.zip vs).lookup y) ((fs.zip us).lookup y)
  | [], _, _, _ => True.intro
  | _ :: _, [], _, r => by cases r; exact True.intro
  | f :: fs, v :: vs, _, r => by
    cases r with
    | @cons _ u _ us rv rr =>
      simp only [List.zip_cons_cons]
      by_cases q : y = f
      · subst q; simp [List.lookup]; exact rv
      · have : (y == f) = false := beq_eq_false_iff_ne.mpr q
        simp only [List.lookup, this]
        exact zip_relO rr
/-- X(..), to be raised -/
def tMkX (C : Addr) (fs : List Str) (ta : TA) : L2.St → Hp → XK → Prop := fun σ H Q => ta σ H fun vs H1 => vs.length = fs.length ∧ ∀ dd, H1 dd = none → Q (.ref C) (some dd) (upd H1 dd (.xd (fs.zip vs)))
theorem pmk_x {X : Cx} {x : Str} {C : Addr} {fs : List Str} {e : Expr} {es : List Expr} {ta : TA} {p pos : Pos} (mk : MakesX X.prog X.w X.K C fs) (hsu : X.mg "super" = none) (hA : X.A.depth + 2 < recursionLimit) (ra : Raises X (.ref C)) (kC : PySem.W.keepIn X.K (.ref C) = true) (hg : Gl X x) (hm : X.mg x = some (.ref C)) (ha : PA X (e :: es) ta)
    (hdb : (x == ("__debug__" : Str)) = false := by decide) (he : starEach (e :: es) X.env = (false, eval e X.env) :: starEach es X.env := by rfl) (hpl : (backTo pos (starEach es X.env)).any (·.1) = false := by rfl) :
    PMk X (.Call (.Name x p) (e :: es) [] pos) (tMkX C fs ta) := by
  intro pins s σ H Q I h
  refine wpAny_Call_Name_kw (ld_glob I hg hm ?_ hdb)
  refine PySem.W.callWith_K (h₀ := X.base) I.ok.mod.kin kC (thn (ha.run pos pins s σ H _ I h) fun us s1 ⟨vs, H1, I1, r1, hl, q1⟩ => ⟨I1.kIn, ?_⟩) he hpl
  show wpAny _ _ (call (.ref C) us) _ _ _
  obtain ⟨hp, g, d, tk, os⟩ := s1
  refine mk X.base X.mg X.A _ hp g d tk os us _ I1.ok.mod hsu (by rw [← r1.length]; exact hl) hA I1.bk fun h' tk' e1 dx ta' k le lt hx hn => ?_
  have ne : ∀ {b : Addr} {o : Obj}, hp.get? b = some o → b ≠ e1 := fun q => Nat.ne_of_lt (Nat.lt_of_lt_of_le (Heap.lt_size q) le)
  obtain ⟨G, g1, g2⟩ := restrict h' fun b => decide (b ≠ e1)
  have gk : ∀ b, b ≠ e1 → G.get? b = h'.get? b := fun b hb => g1 b (decide_eq_true hb)
  have ge : G.get? e1 = none := g2 e1 (by simp)
  have dne : dx ≠ e1 := Nat.ne_of_gt lt
  have hdx : hp.objs.size ≤ dx := Nat.le_of_lt (Nat.lt_of_le_of_lt le lt)
  have kG : ∀ b o, hp.get? b = some o → G.get? b = some o := fun b o q => (gk b (ne q)).trans (k b o q)
  have ok : ObjOk X.prog X.w (upd H1 dx (.xd (fs.zip vs))) G dx (.xd (fs.zip vs)) := ⟨_, hn.at fun o q => (gk dx dne).trans q, fun f => zip_relO r1⟩
  have J : Inv X pins σ (upd H1 dx (.xd (fs.zip vs))) ⟨G, g, d, tk', os⟩ := I1.laid (t' := tk') kG hdx ok
  refine ⟨e1, _, _, ⟨G, g, d, tk', os⟩, _, .ref C, some dx, rfl, J, fun b o q => ?_, ge, hx, ⟨rfl, rfl⟩, rfl, rfl, ?_, rfl, I1.bare, ra, q1 dx (I1.hok.fresh hdx)⟩
  · by_cases hb : b = e1
    · rw [hb, ge] at q; cases q
    · exact (gk b hb).symm.trans q
  · rw [upd_ne (Ne.symm dne)]; exact I1.hok.fresh le
/-! ### raise -/
def sRaise (c : Nat) (a : AM) : SM := fun σ s => (a σ s).bind fun vs s1 => .exc (.ins c vs) s1
/-- how a class of the text may be raised -/
structure RaiseS (P : Program) (w : World) (K : PySem.W.Frag) (T : Tb) (c n : Nat) : Prop where
  makes : MakesX P w K (T.ca c) (T.fl c)
  len : (T.fl c).length = n
  exC : PySem.W.subIn K (.ref (T.ca c)) (.type "BaseException") = some true
  tyC : PySem.W.typeIn K (.ref (T.ca c)) = some (.type "type")
  kC : PySem.W.keepIn K (.ref (T.ca c)) = true
section
variable {X : Cx} {T : Tb} {W : WX} {x : Str} {c n : Nat} {e : Expr} {es : List Expr} {ma : AM} {p pos pos' : Pos}
theorem ms_raise (rs : RaiseS X.prog X.w X.K T c n) (hsu : X.mg "super" = none) {k : Nat} (hr : Room k X.A) (hc : X.calm = true) (tk : Takes X W) (hg : Gl X x) (hm : X.mg x = some (.ref (T.ca c))) (ha : PA X (e :: es) (tL X.K T W ma)) (hl : LenA ma n)
    (hdb : (x == ("__debug__" : Str)) = false := by decide) (he : starEach (e :: es) X.env = (false, eval e X.env) :: starEach es X.env := by rfl) (hpl : (backTo pos' (starEach es X.env)).any (·.1) = false := by rfl) :
    PS X (.Raise (some (.Call (.Name x p) (e :: es) [] pos')) none pos) (tS X.K T W (sRaise c ma)) := by
  have hA : X.A.depth + 2 < recursionLimit := by have := hr.dp; omega
  refine PS.weak (ps_raise hc tk (pmk_x (fs := T.fl c) rs.makes hsu hA (raises_own rs.exC rs.tyC) rs.kC hg hm ha hdb he hpl)) fun D σ H ⟨P, F, io, en, s, hE, hS, hp⟩ => ?_
  refine ⟨P, F, io, en, s, hE, hS, ?_⟩
  unfold sRaise at hp
  cases hm' : ma en s with
  | ok xs s1 =>
    rw [hm'] at hp
    intro F1 io1 vs H1 l1 r1 hS1
    have hn := hl _ _ _ _ hm'
    refine ⟨by rw [← r1.length, hn, rs.len], fun dd hd => ?_⟩
    obtain ⟨l2, hS2⟩ := hS1.grow (o := .xd ((T.fl c).zip vs)) hd
    have e1 : (T.fl c).length = vs.length := by rw [← r1.length, hn, rs.len]
    have z1 : ((T.fl c).zip vs).map (·.1) = T.fl c := List.map_fst_zip (Nat.le_of_eq e1)
    have z2 : ((T.fl c).zip vs).map (·.2) = vs := List.map_snd_zip (Nat.le_of_eq e1.symm)
    refine hp _ io1 _ _ σ _ (l1.trans l2) ⟨c, xs, rfl, rfl, fun _ => ⟨dd, _, rfl, upd_same, ?_, by rw [z2]; exact r1.mono l2⟩⟩ hS2
    rw [z1, r1.length, ← e1, List.take_length]
  | exc y s1 => rw [hm'] at hp; exact fun F' io' cls d H' l hr hs => hp F' io' cls d σ H' l hr hs
  | stuck => rw [hm'] at hp; exact hp
end
end Mir
/-! Mir, part W: try with clauses; a held exception's attributes. -/
namespace Mir
open PySem PySem.Spec PyProof.Rows L2
/-! ### the relations do not look at what else is known -/
section
variable {K : PySem.W.Frag} {T T' : Tb} {F : Hp} {io : List Addr}
structure Same (T T' : Tb) : Prop where
  ca : T'.ca = T.ca
  fa : T'.fa = T.fa
  fl : T'.fl = T.fl
theorem Same.symm (h : Same T T') : Same T' T := ⟨h.ca.symm, h.fa.symm, h.fl.symm⟩
mutual
theorem R.conv (h : Same T T') : ∀ (x : PV) (v : V), R K T F io x v → R K T' F io x v
  | .non, _, r => by cases r; exact .non
  | .bl _, _, r => by cases r; exact .bl _
  | .int _, _, r => by cases r; exact .int _
  | .str _, _, r => by cases r; exact .str _
  | .fn i, _, r => by cases r; rw [← h.fa]; exact .fn i
  | .cls c, _, r => by cases r; rw [← h.ca]; exact .cls c
  | .ty _, _, r => by cases r; exact .ty _
  | .loc _, _, r => by cases r with | loc e => exact .loc e
  | .tup xs, _, r => by cases r with | tup e q => exact .tup e (Rs.conv h xs _ q)
  | .lst xs, _, r => by cases r with | lst e q => exact .lst e (Rs.conv h xs _ q)
  | .ro xs, _, r => by cases r with | ro e q => exact .ro e (Rs.conv h xs _ q)
  | .dic ks vs, _, r => by cases r with | dic e q1 q2 => exact .dic e (Rs.conv h ks _ q1) (Rs.conv h vs _ q2)
  | .ins c vs, _, r => by cases r with | ins e e2 q => exact .ins (by rw [h.ca]; exact e) (by rw [h.fl]; exact e2) (Rs.conv h vs _ q)
theorem Rs.conv (h : Same T T') : ∀ (xs : List PV) (vs : List V), Rs K T F io xs vs → Rs K T' F io xs vs
  | [], _, r => by cases r; exact .nil
  | x :: xs, _, r => by cases r with | cons a b => exact .cons (R.conv h x _ a) (Rs.conv h xs _ b)
end
theorem RO.conv (h : Same T T') {c : PV} {o : HO} (r : RO K T F io c o) : RO K T' F io c o := by
  cases r with
  | lst q => exact .lst (Rs.conv h _ _ q)
  | dic q1 q2 => exact .dic (Rs.conv h _ _ q1) (Rs.conv h _ _ q2)
  | @ins dx c vs fv e q =>
    have := RO.ins (K := K) (T := T') (F := F) (io := io) (dx := dx) (by rw [h.fl]; exact e) (Rs.conv h _ _ q)
    rw [h.ca] at this
    exact this
theorem RS.conv (h : Same T T') {P : Hp} {s : Store} {H : Hp} (r : RS K T P F io s H) : RS K T' P F io s H :=
  ⟨r.len, r.nd, r.sub, r.dis, fun n c e => let ⟨a, o, e1, e2, e3⟩ := r.cell n c e; ⟨a, o, e1, e2, e3.conv h⟩, r.kept⟩
theorem RE.conv (h : Same T T') {e : Env} {σ : L2.St} (r : RE K T F io e σ) (g : T'.gh F io σ) : RE K T' F io e σ :=
  ⟨r.len, fun i x q => let ⟨v, e1, e2⟩ := r.at_ i x q; ⟨v, e1, R.conv h _ _ e2⟩, g⟩
/-- a slot may be given anything, if it is forgotten -/
theorem RE.unset {e : Env} {σ : L2.St} (r : RE K T F io e σ) (i : Nat) (u : Option V) (g : T'.gh F io (σ.set i u)) (h : Same T T') : RE K T' F io (e.set i none) (σ.set i u) := by
  refine ⟨by simp [r.len], fun j x q => ?_, g⟩
  by_cases hj : j = i
  · subst hj
    have hl : j < e.length := by simpa using (List.getElem?_eq_some_iff.mp q).1
    rw [List.getElem?_set_self hl] at q
    cases q
  · rw [List.getElem?_set_ne (Ne.symm hj)] at q ⊢
    obtain ⟨v, e1, e2⟩ := r.at_ j x q
    exact ⟨v, e1, R.conv h _ _ e2⟩
end
/-- a fact found by its instance -/
class Fact' (p : Prop) : Prop where
  out : p
/-- an exception's dict holds its fields -/
def xFld (K : PySem.W.Frag) (T : Tb) (F : Hp) (io : List Addr) (d : Option Addr) (c : Nat) (vs : List PV) : Prop :=
  vs ≠ [] → ∃ dd fv, d = some dd ∧ F dd = some (.xd fv) ∧ fv.map (·.1) = (T.fl c).take vs.length ∧ Rs K T F io vs (fv.map (·.2))
theorem xFld.mono {K : PySem.W.Frag} {T : Tb} {F F' : Hp} {io io' : List Addr} {d : Option Addr} {c : Nat} {vs : List PV} (l : Le F io F' io') (h : xFld K T F io d c vs) : xFld K T F' io' d c vs := fun hn => by
  obtain ⟨dd, fv, q1, q2, q3, q4⟩ := h hn
  exact ⟨dd, fv, q1, l.fm _ _ q2, q3, q4.mono l⟩
/-- what is known within a clause: the name holds the exception, its dict holds the fields -/
def excT (K : PySem.W.Frag) (T : Tb) (i : Nat) (a : Addr) (d : Option Addr) (c : Nat) (vs : List PV) : Tb := { T with
  gh := fun F io σ => σ[i]? = some (some (.ref a)) ∧ xFld K T F io d c vs
  ghm := fun F io F' io' σ l h => ⟨h.1, h.2.mono l⟩ }
instance excT_set {K : PySem.W.Frag} {T : Tb} {i j : Nat} {a : Addr} {d : Option Addr} {c : Nat} {vs : List PV} [h : Fact' (j ≠ i)] : GhSet (excT K T i a d c vs) j := ⟨fun F io σ v g => ⟨by rw [List.getElem?_set_ne h.out]; exact g.1, g.2⟩⟩
theorem excT_same {K : PySem.W.Frag} {T : Tb} {i : Nat} {a : Addr} {d : Option Addr} {c : Nat} {vs : List PV} : Same T (excT K T i a d c vs) := ⟨rfl, rfl, rfl⟩
/-! ### try -/
/-- a clause: which classes it takes; the slot of its name; its suite, by the exception's class and fields -/
structure Hd where
  tab : List (Nat × Bool)
  slot : Option Nat
  suite : Nat → List PV → SM
def offSlot (o : Option Nat) (σ : Env) : Env := match o with
  | some i => σ.set i none
  | none => σ
def slotIn (o : Option Nat) (σ : Env) : Bool := match o with
  | some i => decide (i < σ.length)
  | none => true
def tryHs : List Hd → Nat → List PV → Env → Store → Res (Env × Fl)
  | [], c, vs, _, s => .exc (.ins c vs) s
  | h :: r, c, vs, σ, s => match h.tab.lookup c with
    | some true => if slotIn h.slot σ = true then (noX (h.suite c vs (offSlot h.slot σ) s)).bind fun q s1 => .ok (offSlot h.slot q.1, q.2) s1 else .stuck
    | some false => tryHs r c vs σ s
    | none => .stuck
def sTry (b : SM) (hs : List Hd) : SM := fun σ s => match b σ s with
  | .ok r s1 => .ok r s1
  | .exc (.ins c vs) s1 => tryHs hs c vs σ s1
  | _ => .stuck
/-- a try's body: the slots are as they were when the exception was raised -/
def PostX (K : PySem.W.Frag) (T : Tb) (P : Hp) (W : WX) (F : Hp) (io : List Addr) (σ : L2.St) (r : Res (Env × Fl)) (D : Ends) : Prop := match r with
  | .exc e s => ∀ F' io' cls d H', Le F io F' io' → RX K T F' io' e cls d → RS K T P F' io' s H' → W cls d σ H'
  | r => PostS K T P W F io r D
def tX (K : PySem.W.Frag) (T : Tb) (W : WX) (m : SM) : TS := fun D σ H => ∃ P F io e s, RE K T F io e σ ∧ RS K T P F io s H ∧ PostX K T P W F io σ (m e s) D
theorem PSs.any {X : Cx} {st : List Stmt} {ι : Type} {t : ι → TS} (h : ∀ i, PSs X st (t i)) : PSs X st (fun D σ H => ∃ i, t i D σ H) := ⟨fun pins s σ H D I ⟨i, q⟩ => (h i).run pins s σ H D I q⟩
theorem PSs.when {X : Cx} {st : List Stmt} {p : Prop} {t : TS} (h : p → PSs X st t) : PSs X st (fun D σ H => p ∧ t D σ H) := ⟨fun pins s σ H D I ⟨a, q⟩ => (h a).run pins s σ H D I q⟩
section
variable {X : Cx} {T : Tb} {W : WX} {e : Expr} {me : EM} {mb : SM} {pos : Pos}
theorem PostX.use {K : PySem.W.Frag} {k : PV → Store → Res (Env × Fl)} {D : Ends} {P F : Hp} {io : List Addr} {en : Env} {s : Store} {σ : L2.St} {H : Hp} (hE : RE K T F io en σ) (hS : RS K T P F io s H) (h : PostX K T P W F io σ ((me en s).bind k) D) (hk : ∀ x s, ∃ r : (Env × Fl) × Store, k x s = .ok r.1 r.2 ∨ k x s = .stuck) {Q' : VK}
    (hq : ∀ v H1 F1 io1 x s1, RE K T F1 io1 en σ → R K T F1 io1 x v → RS K T P F1 io1 s1 H1 → Le F io F1 io1 → PostS K T P W F1 io1 (k x s1) D → Q' v H1) : tE K T W me σ H Q' := by
  refine ⟨P, F, io, en, s, hE, hS, ?_⟩
  cases hm : me en s with
  | ok x s1 =>
    rw [hm] at h
    intro F1 io1 v H1 l rx hS1
    refine hq v H1 F1 io1 x s1 (hE.mono l) rx hS1 l ?_
    have h' : PostX K T P W F io σ (k x s1) D := h
    obtain ⟨r, hr | hr⟩ := hk x s1
    · rw [hr] at h' ⊢; exact PostS.le l h'
    · rw [hr] at h'; exact h'.elim
  | exc y s1 => rw [hm] at h; exact h
  | stuck => rw [hm] at h; exact h
theorem mx_expr (he : PE X e (tE X.K T W me)) (hsw : swapsWith e none pos.line X.env = pure false := by rfl) : PSs X [.Expr e pos] (tX X.K T W (sExp me)) := by
  refine pss_one (PS.weak (ps_expr he hsw) fun D σ H ⟨P, F, io, en, s, hE, hS, hp⟩ => ?_)
  exact PostX.use hE hS hp (fun _ _ => ⟨(_, _), .inl rfl⟩) fun v H1 F1 io1 x s1 hE1 rx hS1 l1 hp1 => hp1 F1 io1 σ H1 Le.refl hE1 hS1
theorem mx_ret (he : PE X e (tE X.K T W me)) : PSs X [.Return (some e) pos] (tX X.K T W (sRet me)) := by
  refine pss_one (PS.weak (ps_ret he) fun D σ H ⟨P, F, io, en, s, hE, hS, hp⟩ => ?_)
  exact PostX.use hE hS hp (fun _ _ => ⟨(_, _), .inl rfl⟩) fun v H1 F1 io1 x s1 hE1 rx hS1 l1 hp1 => hp1 F1 io1 v H1 Le.refl rx hS1
end
/-- what the clauses are, and what they do -/
structure ClS (X : Cx) (T : Tb) (W : WX) (hds : List ExceptHandler) (hs : List Hd) : Prop where
  ex : ∃ wf, Clauses X hds wf ∧ ∀ (D : Ends) (cls : Value) (d : Option Addr) (σ : L2.St) (H : Hp) (P F : Hp) (io : List Addr) (en : Env) (s : Store) (c : Nat) (vs : List PV),
    RE X.K T F io en σ → RS X.K T P F io s H → RX X.K T F io (.ins c vs) cls d → PostX X.K T P W F io σ (tryHs hs c vs en s) D → wf D cls d σ H
section
variable {X : Cx} {T : Tb} {W : WX}
theorem cls_nil (hs : X.stack = X.env :: X.outer) (hf : X.env.frame = some X.env.locals) (tk : Takes X W) : ClS X T W [] [] :=
  ⟨_, cl_nil hs hf tk, fun D cls d σ H P F io en s c vs hE hS hx hp => hp F io cls d H Le.refl hx hS⟩
variable {x n : Str} {cv : Value} {i : Nat} {suite : List Stmt} {b₀ : Stmt} {np pos' : Pos} {hds : List ExceptHandler} {r : List Hd} {tab : List (Nat × Bool)} {m : Nat → List PV → SM}
theorem PostS.out {K : PySem.W.Frag} {T T' : Tb} {P F : Hp} {io : List Addr} {i : Nat} {D : Ends} {W W' : WX} {q : Res (Env × Fl)} (h : Same T T') [NoGh T] {σ0 : L2.St} (hp : PostX K T P W F io σ0 ((noX q).bind fun q s1 => .ok (offSlot (some i) q.1, q.2) s1) D) : PostS K T' P W' F io q (goneE i D) := by
  have hz : Same T' T := h.symm
  have off : ∀ {F' : Hp} {io' : List Addr} {e : Env} {σ : L2.St}, RE K T' F' io' e σ → RE K T F' io' (e.set i none) (σ.set i none) := fun r => by
    refine ⟨by simp [r.len], fun j x q => ?_, NoGh.free _ _ _⟩
    by_cases hj : j = i
    · subst hj
      have hl := (List.getElem?_eq_some_iff.mp q).1
      rw [List.getElem?_set_self (by simpa using hl)] at q
      cases q
    · rw [List.getElem?_set_ne (Ne.symm hj)] at q ⊢
      obtain ⟨v, e1, e2⟩ := r.at_ j x q
      exact ⟨v, e1, R.conv hz _ _ e2⟩
  cases q with
  | ok z s =>
    obtain ⟨e, f⟩ := z
    cases f with
    | next => exact fun F' io' σ H' l hE hS => hp F' io' _ H' l (off hE) (hS.conv hz)
    | brk => exact fun F' io' σ H' l hE hS => hp F' io' _ H' l (off hE) (hS.conv hz)
    | cont => exact fun F' io' σ H' l hE hS => hp F' io' _ H' l (off hE) (hS.conv hz)
    | ret x => exact fun F' io' v H' l hr hS => hp F' io' v H' l (R.conv hz _ _ hr) (hS.conv hz)
  | exc e s => exact hp.elim
  | stuck => exact hp.elim
theorem cls_as [NoGh T] (hs : X.stack = X.env :: X.outer) (hf : X.env.frame = some X.env.locals) (hN : X.N.Nodup) (hi : X.N[i]? = some n) (hln : X.env.kindOf n = some .local) (hc : Names X x cv)
    (ht : ∀ q ∈ tab, PySem.W.exmOne X.K (.ref (T.ca q.1)) cv = some q.2)
    (hsu : ∀ (a : Addr) (oe : Obj) (d : Option Addr) (pn : List (Addr × Obj)) (c : Nat) (vs : List PV), tab.lookup c = some true → Zc (.ref (T.ca c)) d oe → (∃ vs, oe.data = .fields vs) → PSs (X.suite a ((a, oe) :: pn)) (b₀ :: suite) (tS X.K (excT X.K T i a d c vs) (fun _ _ _ _ => False) (m c vs)))
    (hr : ClS X T W hds r) : ClS X T W (.ExceptHandler (some (.Name x np)) (some n) (b₀ :: suite) pos' :: hds) (⟨tab, some i, m⟩ :: r) := by
  obtain ⟨wf, h1, h2⟩ := hr.ex
  refine ⟨_, cl_as (i := i) (ts := fun a cls d D σ H => ∃ q : Nat × List PV, (cls = .ref (T.ca q.1) ∧ tab.lookup q.1 = some true) ∧ tS X.K (excT X.K T i a d q.1 q.2) (fun _ _ _ _ => False) (m q.1 q.2) D σ H) hs hf hN hi hln hc h1 (fun a oe cls d pn hz hd => ?_), fun D cls d σ H P F io en s c vs hE hS hx hp => ?_⟩
  · exact PSs.any fun q => PSs.when fun hq => hsu a oe d pn q.1 q.2 hq.2 (by rw [← hq.1]; exact hz) hd
  · obtain ⟨c', vs', e1, ecls, hfl⟩ := hx
    cases e1
    unfold tryHs at hp
    simp only at hp
    cases hl : tab.lookup c with
    | none => rw [hl] at hp; exact hp.elim
    | some b =>
      rw [hl] at hp
      refine ⟨b, by rw [ecls]; exact ht _ (lookup_mem hl), fun hb a ha => ?_, fun hb => ?_⟩
      · subst hb
        simp only at hp
        split at hp
        · rename_i hin
          have hlen : i < σ.length := by rw [← hE.len]; exact of_decide_eq_true hin
          refine ⟨(c, vs), ⟨ecls, hl⟩, P, F, io, en.set i none, s, ?_, hS.conv excT_same, PostS.out excT_same hp⟩
          refine hE.unset i _ ⟨?_, hfl⟩ excT_same
          rw [List.getElem?_set_self hlen]
        · exact hp.elim
      · subst hb
        exact h2 D cls d σ H P F io en s c vs hE hS ⟨c, vs, rfl, ecls, hfl⟩ hp
theorem cls_only (hs : X.stack = X.env :: X.outer) (hf : X.env.frame = some X.env.locals) (hc : Names X x cv)
    (ht : ∀ q ∈ tab, PySem.W.exmOne X.K (.ref (T.ca q.1)) cv = some q.2) {m : SM}
    (hsu : ∀ (a : Addr) (oe : Obj) (pn : List (Addr × Obj)), (∃ vs, oe.data = .fields vs) → PSs (X.suite a ((a, oe) :: pn)) (b₀ :: suite) (tS X.K T (fun _ _ _ _ => False) m))
    (hr : ClS X T W hds r) : ClS X T W (.ExceptHandler (some (.Name x np)) none (b₀ :: suite) pos' :: hds) (⟨tab, none, fun _ _ => m⟩ :: r) := by
  obtain ⟨wf, h1, h2⟩ := hr.ex
  refine ⟨_, cl_only (ts := fun a cls d D σ H => tS X.K T (fun _ _ _ _ => False) m D σ H) hs hf hc h1 (fun a oe cls d pn hz hd => hsu a oe pn hd), fun D cls d σ H P F io en s c vs hE hS hx hp => ?_⟩
  obtain ⟨c', vs', e1, ecls, hfl⟩ := hx
  cases e1
  unfold tryHs at hp
  simp only at hp
  cases hl : tab.lookup c with
  | none => rw [hl] at hp; exact hp.elim
  | some b =>
    rw [hl] at hp
    refine ⟨b, by rw [ecls]; exact ht _ (lookup_mem hl), fun hb a ha => ?_, fun hb => ?_⟩
    · subst hb
      simp only [slotIn, if_true, offSlot] at hp
      refine ⟨P, F, io, en, s, hE, hS, ?_⟩
      cases hm : m en s with
      | ok z s1 =>
        obtain ⟨e, f⟩ := z
        rw [hm] at hp
        cases f with
        | next => exact hp
        | brk => exact hp
        | cont => exact hp
        | ret x => exact hp
      | exc e s1 => rw [hm] at hp; exact hp.elim
      | stuck => rw [hm] at hp; exact hp.elim
    · subst hb
      exact h2 D cls d σ H P F io en s c vs hE hS ⟨c, vs, rfl, ecls, hfl⟩ hp
theorem ms_try {body : List Stmt} {h₀ : ExceptHandler} {pos : Pos} {mb : SM} {hs' : List Hd} (hs : X.stack = X.env :: X.outer) (hf : X.env.frame = some X.env.locals)
    (hb : ∀ (W' : WX) (pn : List (Addr × Obj)) (xe : Value → Shared → Prop), Takes (X.tr pn xe) W' → PSs (X.tr pn xe) body (tX X.K T W' mb)) (hh : ClS X T W (h₀ :: hds) hs') :
    PS X (.Try body (h₀ :: hds) [] [] pos) (tS X.K T W (sTry mb hs')) := by
  obtain ⟨wf, h1, h2⟩ := hh.ex
  refine PS.weak (ps_tryC hs hf h1 (tb := fun W' => tX X.K T W' mb) fun W' pn xe tk _ => hb W' pn xe tk) fun D σ H ⟨P, F, io, en, s, hE, hS, hp⟩ => ?_
  refine ⟨P, F, io, en, s, hE, hS, ?_⟩
  unfold sTry at hp
  cases hm : mb en s with
  | ok r s1 =>
    rw [hm] at hp
    obtain ⟨e, f⟩ := r
    cases f with
    | next => exact hp
    | brk => exact hp
    | cont => exact hp
    | ret x => exact hp
  | stuck => rw [hm] at hp; exact hp.elim
  | exc e s1 =>
    rw [hm] at hp
    intro F1 io1 cls d H1 l hx hS1
    cases e with
    | ins c vs =>
      simp only at hp
      refine h2 D cls d σ H1 P F1 io1 en s1 c vs (hE.mono l) hS1 hx ?_
      have hp2 := PostS.le l hp
      cases hq : tryHs hs' c vs en s1 with
      | ok z s2 => rw [hq] at hp2; exact hp2
      | exc y s2 => rw [hq] at hp2; exact fun F' io' cls d H' l hr hs => hp2 F' io' cls d σ H' l hr hs
      | stuck => rw [hq] at hp2; exact hp2.elim
    | _ => exact hp.elim
end
/-! ### the attributes of a held exception -/
def eXf (j : Nat) (vs : List PV) : EM := fun _ s => ofO vs[j]? s
section
variable {X : Cx} {T : Tb} {W : WX} {i j c : Nat} {a : Addr} {oe : Obj} {d : Option Addr} {vs : List PV} {pn : List (Addr × Obj)} {x n : Str} {p pos : Pos}
theorem me_xf (C : XfC X.K (T.ca c)) (hno : PySem.W.findIn X.K (.ref (T.ca c)) n = some none) (hat : (T.fl c)[j]? = some n) (hnd : (T.fl c).Nodup) (hz : Zc (.ref (T.ca c)) d oe) (hf : ∃ vs, oe.data = .fields vs)
    (hx : PE (X.suite a ((a, oe) :: pn)) (.Name x p) (tVar i)) (hb : attributeBase (.Name x p) n X.env (eval (.Name x p) X.env) = eval (.Name x p) X.env := by rfl) :
    PE (X.suite a ((a, oe) :: pn)) (.Attribute (.Name x p) n pos) (tE X.K (excT X.K T i a d c vs) W (eXf j vs)) := by
  refine PE.weak (pe_xf C hno hz hf hx hb) fun σ H Q ⟨P, F, io, en, s, hE, hS, hp⟩ => ?_
  obtain ⟨h1, h2⟩ := hE.gh
  unfold eXf at hp
  cases hv : vs[j]? with
  | none => rw [hv] at hp; exact hp.elim
  | some y =>
    rw [hv] at hp
    have hj := (List.getElem?_eq_some_iff.mp hv).1
    obtain ⟨dd, fv, q1, q2, q3, q4⟩ := h2 (by intro z; subst z; simp at hj)
    obtain ⟨u, hu, ru⟩ := q4.get hv
    refine ⟨.ref a, h1, rfl, rfl, dd, fv, u, q1, hS.sub _ _ q2, lookup_at ?_ ?_ hu, hp.ok_of Le.refl (R.conv excT_same _ _ ru) hS⟩
    · rw [q3]; exact hnd.sublist (List.take_sublist _ _)
    · rw [q3]; exact fld_take hat hj
end
end Mir
/-! Mir, part V: what the head tells of exception classes. -/
namespace Mir
open PySem PySem.Spec PyProof.Rows L2
/-- an exception class of the text: over ValueError (or TypeError), its fields, its __init__ -/
structure XcD where
  cls : Str
  ve : Bool
  fs : List Str
  d : ExDef
def veT : List Value := [.type "ValueError", .type "Exception", .type "BaseException", .type "object"]
def teT : List Value := [.type "TypeError", .type "Exception", .type "BaseException", .type "object"]
/-- a def with its closure's names -/
def fnC (K : PySem.W.Frag) (p : Str × Option Str) : He.FnW := match K.lookup (He.fAd K p) with
  | some ⟨_, _, .func fd, _⟩ => some (fd.name, fd.qualname, fd.params, fd.body, fd.scope, fd.globals, fd.closure.map fun q => (q.1, 0), fd.builtins)
  | _ => none
def XcD.val (x : XcD) : He.FnW := some (x.d.name, x.d.qual, x.d.params, .stmts x.d.body, x.d.scope, mainGlobals, [("__class__", 0)], builtinsNs)
/-- looks at the class -/
def xcB1 (K : PySem.W.Frag) (C : Addr) (B newId initId : String) (bm : List Value) : Bool := PySem.W.excInitIn K C bm newId && (PySem.W.excOver K C bm && (decide (PySem.W.findIn K (.ref C) "__setattr__" = some (some (.builtin "object.__setattr__"))) && (PySem.W.hasDictIn K C &&
  (decide (PySem.W.subIn K (.ref C) (.type B) = some true) && (decide (PySem.W.mroIn K C (.ref C) = some true) && (decide (PySem.W.findIn K (.ref C) "__init__" = some (some (.ref (He.ma K C "__init__")))) && (PySem.W.isFn K (.ref (He.ma K C "__init__")) &&
  (decide (PySem.W.ks_superIn K C C "__init__" = some (some (.builtin initId))) && (decide (PySem.W.nsIn K cStatics "thirdparty.any" = some none) && (decide (PySem.W.subIn K (.ref C) (.type "BaseException") = some true) && (decide (PySem.W.typeIn K (.ref C) = some (.type "type")) && PySem.W.keepIn K (.ref C))))))))))))
/-- looks at its __init__ -/
def xcB2 (K : PySem.W.Frag) (C : Addr) (file0 q : Str) : Bool := match K.lookup (He.ma K C "__init__") with
  | some ⟨_, _, .func fd, _⟩ => decide (fd.defaults = .none) && (PySem.W.codeIn K fd.code q && ((match fd.code with
    | .ref cda => (match K.lookup cda with
      | some ⟨_, _, .fields vs, _⟩ => (match (vs[2]? : Option Value) with
        | some (.str file _) => file0 == file
        | _ => false)
      | _ => false)
    | _ => false) && (match fd.closure with
    | [(_, cc)] => (match K.lookup cc with
      | some ⟨_, _, .cell (some (.ref D)), _⟩ => decide (D = C)
      | _ => false)
    | _ => false)))
  | _ => false
def xcB (file0 : Str) (x : XcD) (K : PySem.W.Frag) : Bool := (if x.ve = true then xcB1 K (He.ga K x.cls) "ValueError" "ValueError.__new__" "ValueError.__init__" veT else xcB1 K (He.ga K x.cls) "TypeError" "TypeError.__new__" "TypeError.__init__" teT) &&
  (xcB2 K (He.ga K x.cls) file0 x.d.qual && x.fs.all fun f => decide (PySem.W.takerIn K (He.ga K x.cls) f = some none))
theorem xc1_ok {K : PySem.W.Frag} {x : XcD} {B newId initId : String} {bm : List Value} {file0 : Str} (h1 : xcB1 K (He.ga K x.cls) B newId initId bm = true) (h2 : xcB2 K (He.ga K x.cls) file0 x.d.qual = true) (e : fnC K (x.cls, some "__init__") = x.val) :
    (∃ cda cc kV cdv, ExCls K (He.ga K x.cls) B newId initId bm file0 x.d (He.ma K (He.ga K x.cls) "__init__") cda cc kV cdv) ∧ PySem.W.subIn K (.ref (He.ga K x.cls)) (.type "BaseException") = some true ∧ PySem.W.typeIn K (.ref (He.ga K x.cls)) = some (.type "type") ∧ PySem.W.keepIn K (.ref (He.ga K x.cls)) = true := by
  unfold xcB1 at h1
  simp only [Bool.and_eq_true, decide_eq_true_eq] at h1
  obtain ⟨a1, a2, a3, a4, a5, a6, a7, a8, a9, a10, a11, a12, a13⟩ := h1
  refine ⟨?_, a11, a12, a13⟩
  unfold xcB2 at h2
  unfold fnC XcD.val at e
  rw [show He.fAd K (x.cls, some "__init__") = He.ma K (He.ga K x.cls) "__init__" from rfl] at e
  obtain ⟨xc, xv, xf, D⟩ := x
  simp only at *
  cases q : K.lookup (He.ma K (He.ga K xc) "__init__") with
  | none => rw [q] at h2; cases h2
  | some o =>
    obtain ⟨oc, od, dt, osl⟩ := o
    rw [q] at h2 e
    cases dt with
    | func fd =>
      obtain ⟨n1, n2, n3, n4, n5, n6, n7, n8, n9, n10, n11, n12, n13, n14, n15⟩ := fd
      simp only [Option.some.injEq, Prod.mk.injEq] at e
      obtain ⟨z1, z2, z3, z4, z5, z6, z7, z8⟩ := e
      subst z1 z2 z3 z4 z5 z6 z8
      simp only [Bool.and_eq_true, decide_eq_true_eq] at h2
      obtain ⟨d1, b1, b2, b3⟩ := h2
      subst d1
      split at b2
      · rename_i cda
        split at b2
        · rename_i ccl cdd vs ccs hcode
          split at b2
          · rename_i file tf hvs
            split at b3
            · rename_i nm cc
              simp only [List.map_cons, List.map_nil, List.cons.injEq, Prod.mk.injEq, and_true] at z7
              subst z7
              split at b3
              · rename_i cl cld D' csl hcell
                have hD := of_decide_eq_true b3
                subst hD
                exact ⟨cda, cc, n9, .ref cda, a1, a2, a3, a4, a5, a6, a7, a8, ⟨oc, od, n10, n11, n12, n14, osl, q⟩, b1, rfl, ⟨ccl, cdd, vs, ccs, file, tf, hcode, hvs, b2⟩, ⟨cl, cld, csl, hcell⟩, a9, a10⟩
              · cases b3
            · cases b3
          · cases b2
        · cases b2
      · cases b2
    | _ => cases h2
/-! ### the Hook -/
def asX (g : Addr → Option Obj) (n : Nat) : List Addr := He.asD g n ++ (cStatics :: (He.asD g n).flatMap fun a => match g a with
  | some o => (match o.data with
    | .func fd => fd.closure.map (·.2)
    | _ => [])
  | none => [])
abbrev AlN : Type := AlM × List He.FnW
def obsN (fa : List He.Fa) (fn : List He.DefD) (xs : List XcD) (ex : Ex) (K : PySem.W.Frag) : AlN := (obsM fa fn ex K, xs.map fun x => fnC K (x.cls, some "__init__"))
def obsNG (n : Nat) (fa : List He.Fa) (fn : List He.DefD) (xs : List XcD) (ex : Ex) (g : Addr → Option Obj) : AlN := obsN fa fn xs ex (He.frG g (asX g n))
def valN (fn : List He.DefD) (xs : List XcD) : AlN := ((He.valD fn, true), xs.map XcD.val)
def hookN (n : Nat) (fa : List He.Fa) (fn : List He.DefD) (xs : List XcD) (ex : Ex) : PySem.W.Hook where
  α := AlN
  obs := fun s => obsNG n fa fn xs ex s.heap.get?
  val := fun _ => valN fn xs
  says := fun _ h => ∃ K : PySem.W.Frag, K.In h ∧ obsN fa fn xs ex K = valN fn xs
  of := fun _ _ e => ⟨_, He.frG_in, e⟩
  keeps := fun _ _ _ ⟨K, hK, c⟩ k => ⟨K, PySem.W.Frag.In.keeps hK k, c⟩
theorem obsNG_eq {n : Nat} {fa : List He.Fa} {fn : List He.DefD} {xs : List XcD} {ex : Ex} {g : Addr → Option Obj} {s : Shared} (h : ∀ a, g a = s.heap.get? a) : obsNG n fa fn xs ex g = (hookN n fa fn xs ex).obs s := by
  have e : g = s.heap.get? := funext h
  rw [e] <;> rfl
/-- what is told of the written part, and of the program's own file -/
structure SaysN (P : Program) (file0 : Str) (fa : List He.Fa) (fn : List He.DefD) (xs : List XcD) (ex : Ex) (K : PySem.W.Frag) : Prop where
  eq : obsN fa fn xs ex K = valN fn xs
  file : P.main.file = file0
  sup : (P.main.scope.names.lookup ("super" : Str)).isSome = false
section
variable {P : Program} {file0 : Str} {fa : List He.Fa} {fn : List He.DefD} {xs : List XcD} {ex : Ex} {K : PySem.W.Frag}
theorem SaysN.m (c : SaysN P file0 fa fn xs ex K) : SaysM fa fn ex K := congrArg (fun z : AlN => z.1) c.eq
theorem SaysN.d (c : SaysN P file0 fa fn xs ex K) : He.SaysD fa fn K := c.m.d
theorem SaysN.xx (c : SaysN P file0 fa fn xs ex K) (i : Nat) {f : PySem.W.Frag → Bool} (h : ex[i]? = some f := by rfl) : f K = true := c.m.xx i h
theorem SaysN.fc (c : SaysN P file0 fa fn xs ex K) (i : Nat) {x : XcD} (h : xs[i]? = some x := by rfl) : fnC K (x.cls, some "__init__") = x.val := by
  have e : (xs.map fun x => fnC K (x.cls, some "__init__")) = xs.map XcD.val := congrArg (fun z : AlN => z.2) c.eq
  have e2 : (xs.map fun x => fnC K (x.cls, some "__init__"))[i]? = (xs.map XcD.val)[i]? := by rw [e]
  rw [List.getElem?_map, List.getElem?_map, h] at e2
  exact Option.some.inj e2
/-- such a class may be raised: one field -/
theorem SaysN.raise1 {w : World} {T : Tb} {n : Nat} (c : SaysN P file0 fa fn xs ex K) (i : Nat) {x : XcD} (h : xs[i]? = some x) {j : Nat} (hx : ex[j]? = some (xcB file0 x)) (hc : T.ca n = He.ga K x.cls) {f : Str} (hf : x.fs = [f]) (hl : T.fl n = [f]) (S : ExScope [f] x.d.scope) (hfd : (f == ("__debug__" : Str)) = false) (hsf : (f == ("self" : Str)) = false)
    {ar : Arg} (hpar : (x.d.params.posonlyargs ++ x.d.params.args).head? = some ar) (har : ar.arg = ("self" : Str))
    {p0 p1 pa pc pcall pe q1 q2 q3 q4 : Pos} {msg : Str} {jj : Nat} (hbody : x.d.body = [supS p0 p1 pa pc pcall pe msg jj, stoS q1 q2 q3 q4 f]) {pl : Sem Bool} (hev : ∀ env : PySem.Env, eval (.Call (.Attribute (.Call (.Name "super" p0) [] [] p1) "__init__" pa) [.Constant (.str msg) jj pc] [] pcall) env = (do
      let ov ← attributeBase (.Call (.Name "super" p0) [] [] p1) "__init__" env (eval (.Call (.Name "super" p0) [] [] p1) env)
      standAt pa.atName
      let (f, first) ← holding [ov] (getMethod ov "__init__" pl)
      callWith pcall f first (backTo pcall (starEach [.Constant (.str msg) jj pc] env)) []))
    (hbind : ∀ (kV cdv doc pm : Value) (an : Option Addr) (ct : Value) (cc e : Addr) (u : Value), bindArgs (PySem.W.ksFn x.d.name x.d.qual x.d.params x.d.body x.d.scope .none kV doc pm an cdv ct cc) ⟨[.ref e, u], []⟩ = pure [(("self" : Str), Value.ref e), (f, u)]) : RaiseS P w K T n 1 := by
  have hb := c.xx j hx
  unfold xcB at hb
  simp only [Bool.and_eq_true] at hb
  obtain ⟨b1, b2, b3⟩ := hb
  have ht : PySem.W.takerIn K (He.ga K x.cls) f = some none := by
    have := List.all_eq_true.mp b3 f (by rw [hf]; simp)
    exact of_decide_eq_true this
  have key : ∀ {B newId initId : String} {bm : List Value}, ExBase B newId initId bm → xcB1 K (He.ga K x.cls) B newId initId bm = true → RaiseS P w K T n 1 := fun {B newId initId bm} EB h1 => by
    obtain ⟨⟨cda, cc, kV, cdv, EC⟩, e1, e2, e3⟩ := xc1_ok h1 b2 (c.fc i h)
    rw [← c.file] at EC
    refine ⟨?_, by rw [hl]; rfl, by rw [hc]; exact e1, by rw [hc]; exact e2, by rw [hc]; exact e3⟩
    rw [hc, hl]
    intro base mg A Em hp g d t os us Q Mo hms hlen hroom kb h
    match us, hlen with
    | [u], _ =>
      refine ex_make1 EB EC S hfd hsf ht Mo hms c.sup hpar har hbody hev kb hroom (fun doc pm an ct e => hbind kV cdv doc pm an ct cc e u) fun h' tk' e dx ta k le lt hx hn => h h' tk' e dx ta k le lt hx ?_
      have z : (fun y => (List.zip [f] [u]).lookup y) = fun y => if y = f then some u else none := by
        funext y
        by_cases q : y = f
        · subst q; simp [List.lookup]
        · have : (y == f) = false := beq_eq_false_iff_ne.mpr q
          simp [List.lookup, this, q]
      rw [z]; exact hn
  cases hve : x.ve with
  | true => rw [hve] at b1; exact key exVE b1
  | false => rw [hve] at b1; exact key exTE b1
/-- what an except suite asks of the class -/
def xfB1 (K : PySem.W.Frag) (C f : Str) : Bool := xfB K (He.ga K C) && decide (PySem.W.findIn K (.ref (He.ga K C)) f = some none)
theorem xfB1_ok {C f : Str} (h : xfB1 K C f = true) : XfC K (He.ga K C) ∧ PySem.W.findIn K (.ref (He.ga K C)) f = some none := by
  unfold xfB1 at h
  rw [Bool.and_eq_true] at h
  exact ⟨xfB_ok h.1, of_decide_eq_true h.2⟩
/-- which classes a clause takes -/
def exmB (ca : List Str) (D : Str) (tab : List (Nat × Bool)) (K : PySem.W.Frag) : Bool := tab.all fun q => decide (PySem.W.exmOne K (.ref (He.ga K (ca.getD q.1 ""))) (.ref (He.ga K D)) = some q.2)
theorem exmB_ok {ca : List Str} {fl : List (List Str)} {D : Str} {tab : List (Nat × Bool)} (h : exmB ca D tab K = true) : ∀ q ∈ tab, PySem.W.exmOne K (.ref ((tbM K ca fl).ca q.1)) (.ref (He.ga K D)) = some q.2 := fun q hq => of_decide_eq_true (List.all_eq_true.mp h q hq)
end
theorem tab_one {tab : List (Nat × Bool)} {n c : Nat} (hd : tab.all (fun q => !q.2 || q.1 == n) = true) (h : tab.lookup c = some true) : c = n := by
  have := List.all_eq_true.mp hd _ (lookup_mem h)
  simpa using this
end Mir
/-! Mir, part U: further operations: upper, a list many times. -/
namespace Mir
open PySem PySem.Spec PyProof.Rows L2
abbrev up1 : Nat → Nat := PyProof.Rows.up1
/-- o.upper(), plain signs -/
def eUpper (o : EM) : EM := fun σ s => (o σ s).bind fun x s1 => match x with
  | .str a => if a.all (· < 128) = true ∧ a.length ≤ 5592405 then .ok (.str (a.map up1)) s1 else .stuck
  | _ => .stuck
/-- xs * k, the items -/
def aRep (a b : EM) : AM := fun σ s => (a σ s).bind fun x s1 => (b σ s1).bind fun y s2 => match deref s2 x, y with
  | .lst xs, .int k => if 0 ≤ k ∧ k < 1000 ∧ xs.length * k.toNat ≤ sz then .ok (List.replicate k.toNat xs).flatten s2 else .stuck
  | _, _ => .stuck
@[simp] theorem eUpper_ap (o : EM) (σ : Env) (s : Store) : eUpper o σ s = (o σ s).bind fun x s1 => (match x with
  | .str a => if a.all (· < 128) = true ∧ a.length ≤ 5592405 then .ok (.str (a.map up1)) s1 else .stuck
  | _ => .stuck) := rfl
@[simp] theorem aRep_ap (a b : EM) (σ : Env) (s : Store) : aRep a b σ s = (a σ s).bind fun x s1 => (b σ s1).bind fun y s2 => (match deref s2 x, y with
  | .lst xs, .int k => if 0 ≤ k ∧ k < 1000 ∧ xs.length * k.toNat ≤ sz then .ok (List.replicate k.toNat xs).flatten s2 else .stuck
  | _, _ => .stuck) := rfl
@[simp] theorem sRaise_ap (c : Nat) (a : AM) (σ : Env) (s : Store) : sRaise c a σ s = (a σ s).bind fun vs s1 => .exc (.ins c vs) s1 := rfl
@[simp] theorem eXf_ap (j : Nat) (vs : List PV) (σ : Env) (s : Store) : eXf j vs σ s = ofO vs[j]? s := rfl
theorem sTry_ap (b : SM) (hs : List Hd) (σ : Env) (s : Store) : sTry b hs σ s = (match b σ s with
  | .ok r s1 => .ok r s1
  | .exc (.ins c vs) s1 => tryHs hs c vs σ s1
  | _ => .stuck) := rfl
section
variable {X : Cx} {T : Tb} {W : WX} {a b o : Expr} {ma mb mo : EM} {pos apos : Pos}
theorem me_upper (ho : PE X o (tE X.K T W mo)) (hbase : attributeBase o "upper" X.env (eval o X.env) = eval o X.env := by rfl) (hline : (apos.endLine == pos.line) = true := by rfl) : PE X (.Call (.Attribute o "upper" apos) [] [] pos) (tE X.K T W (eUpper mo)) := by
  refine PE.weak (pe_upper ho hbase hline) fun σ H Q ⟨P, F, io, en, s, hE, hS, hp⟩ => ?_
  refine tE_use hE hS hp fun v H1 F1 io1 x s1 hE1 rx hS1 l1 hp1 => ?_
  cases rx with
  | str l =>
    simp only at hp1
    split at hp1
    · rename_i hz
      refine ⟨⟨_, rfl⟩, St8 l, rfl, rfl, by rw [str8_len]; exact hz.2, ?_⟩
      have e : Txt.upper (St8 l) = St8 (l.map up1) := SX.upper_S hz.1
      rw [e]
      exact hp1.ok_of Le.refl (.str _) hS1
    · exact hp1.elim
  | _ => exact hp1.elim
theorem rep_rs {K : PySem.W.Frag} {F : Hp} {io : List Addr} {xs : List PV} {vs : List V} (r : Rs K T F io xs vs) : ∀ n : Nat, Rs K T F io (List.replicate n xs).flatten (List.replicate n vs).flatten
  | 0 => .nil
  | n + 1 => by simp only [List.replicate_succ, List.flatten_cons]; exact r.append (rep_rs r n)
theorem mf_rep (ha : PE X a (tE X.K T W ma)) (hb : PE X b (tE X.K T W mb)) : PE X (.BinOp a .Mult b pos) (tF X.K T W (aRep ma mb)) := by
  refine PE.weak (pe_op op_rep ha hb) fun σ H Q ⟨P, F, io, en, s, hE, hS, hp⟩ => ?_
  refine ⟨P, F, io, en, s, hE, hS, ?_⟩
  refine Post.mono (NewL.bind (rel := rV X.K T) hp) fun v H1 ⟨F1, io1, x, s1, l1, rx, hS1, hp1⟩ => ?_
  refine ⟨P, F1, io1, en, s1, hE.mono l1, hS1, ?_⟩
  refine Post.mono (NewL.bind (rel := rV X.K T) hp1) fun u H2 ⟨F2, io2, y, s2, l2, ry, hS2, hp2⟩ => ?_
  simp only at hp2
  split at hp2
  · rename_i xs k hx
    split at hp2
    · rename_i hz
      cases ry
      obtain ⟨p, vs, rfl, h1, r1⟩ := hS2.list (rx.mono l2) hx
      have hk : k < 2 ^ 63 := by omega
      have hk2 : -(2 ^ 63) ≤ k := by omega
      exact ⟨p, k, vs, rfl, rfl, h1, hk2, hk, by rw [← r1.length]; exact hz.2.2, fun z np => hp2 F2 io2 z _ H2 Le.refl (rep_rs r1 _) hS2 np⟩
    · exact hp2.elim
  · exact hp2.elim
end
end Mir
/-! Mir, part Q: loops by invariants; more simp rules of the plain side. -/
namespace Mir
@[simp] theorem eJoin_ap (o e : EM) (σ : Env) (s : Store) : eJoin o e σ s = (o σ s).bind fun x s1 => (match x with
  | .str a => (e σ s1).bind fun y s2 => (match (itemsOf s2 y).bind strsOf with
    | some ys => if (ys.map (·.length)).sum + ys.length * a.length ≤ sz then .ok (.str (TL.joinL a ys)) s2 else .stuck
    | none => .stuck)
  | _ => .stuck) := rfl
@[simp] theorem eSplit_ap (o e : EM) (σ : Env) (s : Store) : eSplit o e σ s = (o σ s).bind fun x s1 => (match x with
  | .str a => (e σ s1).bind fun y s2 => (match y with
    | .str b => if b ≠ [] ∧ b.all (· < 256) = true ∧ a.length + 2 ≤ sz then .ok (.lst ((TL.spl b 0 [] a).map .str)) s2 else .stuck
    | _ => .stuck)
  | _ => .stuck) := rfl
@[simp] theorem aCat_ap (a b : EM) (σ : Env) (s : Store) : aCat a b σ s = (a σ s).bind fun x s1 => (b σ s1).bind fun y s2 => (match deref s2 x, deref s2 y with
  | .lst xs, .lst ys => if xs.length + ys.length ≤ sz then .ok (xs ++ ys) s2 else .stuck
  | _, _ => .stuck) := rfl
@[simp] theorem atP_three {α : Type} (x y z u : α) (xs : List α) : atP (x :: y :: z :: u :: xs) 3 = some u := atP_of (j := 3) rfl rfl
@[simp] theorem atP_four {α : Type} (x y z u v : α) (xs : List α) : atP (x :: y :: z :: u :: v :: xs) 4 = some v := atP_of (j := 4) rfl rfl
@[simp] theorem pyNe_int (s : Store) (a b : Int) : pyNe (.int a) (.int b) s = .ok (.bl (!(a == b))) s := rfl
theorem sz_val : sz = 16777216 := rfl
theorem Walk.ok_none {w : Walk} (h : w.at_ = none) (s : Store) : w.ok s := by unfold Walk.ok; rw [h]; trivial
/-- a comprehension by what holds between its turns -/
theorem compGo_inv {g : GM} {t : TM} {e : EM} {σ : Env} {w : Walk} (hw : w.at_ = none) (P : Store → Prop) (Q : PV → Prop) : ∀ (xs acc : List PV) (s : Store), P s →
    (∀ x ∈ xs, ∀ s, P s → ∃ σ1 s1 y s2, g x σ s = .ok σ1 s ∧ t σ1 s = .ok true s1 ∧ e σ1 s1 = .ok y s2 ∧ P s2 ∧ Q y) →
    ∃ ys s', compGo w g t e σ xs acc s = .ok (acc ++ ys) s' ∧ ys.length = xs.length ∧ (∀ y ∈ ys, Q y) ∧ P s' := by
  intro xs
  induction xs with
  | nil => intro acc s hs _; exact ⟨[], s, by simp [compGo, Walk.ok_none hw], rfl, by simp, hs⟩
  | cons x xs ih =>
    intro acc s hs h
    obtain ⟨σ1, s1, y, s2, h1, h2, h3, h4, h5⟩ := h x (List.mem_cons_self ..) s hs
    obtain ⟨ys, s', e1, e2, e3, e4⟩ := ih (acc ++ [y]) s2 h4 fun z hz => h z (List.mem_cons_of_mem _ hz)
    refine ⟨y :: ys, s', ?_, by simp [e2], fun z hz => ?_, e4⟩
    · unfold compGo
      rw [if_pos (Walk.ok_none hw s), h1]
      simp only [noX_ok, Res.bind_ok, h2, h3, if_true]
      rw [e1]; simp
    · rcases List.mem_cons.mp hz with rfl | hz
      · exact h5
      · exact e3 z hz
/-- .. with some left out -/
theorem compGo_some {g : GM} {t : TM} {e : EM} {σ : Env} {w : Walk} (hw : w.at_ = none) (P : Store → Prop) (Q : PV → Prop) : ∀ (xs acc : List PV) (s : Store), P s →
    (∀ x ∈ xs, ∀ s, P s → ∃ σ1 k s1, g x σ s = .ok σ1 s ∧ t σ1 s = .ok k s1 ∧ P s1 ∧ (k = true → ∃ y s2, e σ1 s1 = .ok y s2 ∧ P s2 ∧ Q y)) →
    ∃ ys s', compGo w g t e σ xs acc s = .ok (acc ++ ys) s' ∧ ys.length ≤ xs.length ∧ (∀ y ∈ ys, Q y) ∧ P s' := by
  intro xs
  induction xs with
  | nil => intro acc s hs _; exact ⟨[], s, by simp [compGo, Walk.ok_none hw], Nat.le_refl _, by simp, hs⟩
  | cons x xs ih =>
    intro acc s hs h
    obtain ⟨σ1, k, s1, h1, h2, h3, h4⟩ := h x (List.mem_cons_self ..) s hs
    cases k with
    | true =>
      obtain ⟨y, s2, h5, h6, h7⟩ := h4 rfl
      obtain ⟨ys, s', e1, e2, e3, e4⟩ := ih (acc ++ [y]) s2 h6 fun z hz => h z (List.mem_cons_of_mem _ hz)
      refine ⟨y :: ys, s', ?_, by simp [e2], fun z hz => ?_, e4⟩
      · unfold compGo
        rw [if_pos (Walk.ok_none hw s), h1]
        simp only [noX_ok, Res.bind_ok, h2, h5, if_true]
        rw [e1]; simp
      · rcases List.mem_cons.mp hz with rfl | hz
        · exact h7
        · exact e3 z hz
    | false =>
      obtain ⟨ys, s', e1, e2, e3, e4⟩ := ih acc s1 h3 fun z hz => h z (List.mem_cons_of_mem _ hz)
      refine ⟨ys, s', ?_, by simp; omega, e3, e4⟩
      unfold compGo
      rw [if_pos (Walk.ok_none hw s), h1]
      simp only [noX_ok, Res.bind_ok, h2, Bool.false_eq_true, if_false]
      exact e1
/-- .. whose items are the kept ones themselves -/
theorem compGo_sub {g : GM} {t : TM} {e : EM} {σ : Env} {w : Walk} (hw : w.at_ = none) (P : Store → Prop) : ∀ (xs acc : List PV) (s : Store), P s → (∀ x ∈ xs, ∀ s, P s → ∃ σ1 k s2, g x σ s = .ok σ1 s ∧ t σ1 s = .ok k s2 ∧ P s2 ∧ (k = true → e σ1 s2 = .ok x s2)) →
    ∃ ys s', compGo w g t e σ xs acc s = .ok (acc ++ ys) s' ∧ ys.Sublist xs ∧ P s' := by
  intro xs
  induction xs with
  | nil => intro acc s hs _; exact ⟨[], s, by simp [compGo, Walk.ok_none hw], .slnil, hs⟩
  | cons x xs ih =>
    intro acc s hs h
    obtain ⟨σ1, k, s2, h1, h2, h3, h4⟩ := h x (List.mem_cons_self ..) s hs
    unfold compGo
    rw [if_pos (Walk.ok_none hw s), h1]
    simp only [noX_ok, Res.bind_ok, h2]
    cases k with
    | true =>
      simp only [if_true, h4 rfl, noX_ok, Res.bind_ok]
      obtain ⟨ys, s', e1, e2, e3⟩ := ih (acc ++ [x]) s2 h3 fun y hy => h y (List.mem_cons_of_mem _ hy)
      exact ⟨x :: ys, s', by rw [e1]; simp, e2.cons_cons x, e3⟩
    | false =>
      simp only [Bool.false_eq_true, if_false]
      obtain ⟨ys, s', e1, e2, e3⟩ := ih acc s2 h3 fun y hy => h y (List.mem_cons_of_mem _ hy)
      exact ⟨ys, s', e1, e2.cons x, e3⟩
/-- a for loop that runs through -/
theorem forGo_inv {g : GM} {b : SM} {keep : Env → Env} {w : Walk} (I : Nat → List PV → Env → Store → Prop) : ∀ (xs : List PV) (n : Nat) (σ : Env) (s : Store), I n xs σ s →
    (∀ n xs σ s, I n xs σ s → w.ok s) →
    (∀ n x xs σ s, I n (x :: xs) σ s → ∃ σ1 s1 σ2 f s2, g x σ s = .ok σ1 s1 ∧ b σ1 s1 = .ok (σ2, f) s2 ∧ (f = .next ∨ f = .cont) ∧ I (n + 1) xs (keep σ2) s2) →
    ∃ σ' s', forGo w g b keep xs σ s = .ok (σ', .next) s' ∧ I (n + xs.length) [] σ' s' := by
  intro xs
  induction xs with
  | nil => intro n σ s h ok _; exact ⟨σ, s, by simp [forGo, ok _ _ _ _ h], h⟩
  | cons x xs ih =>
    intro n σ s h ok st
    obtain ⟨σ1, s1, σ2, f, s2, h1, h2, h3, h4⟩ := st n x xs σ s h
    obtain ⟨σ', s', e1, e2⟩ := ih (n + 1) (keep σ2) s2 h4 ok st
    refine ⟨σ', s', ?_, by rw [List.length_cons]; have : n + (xs.length + 1) = n + 1 + xs.length := by omega
                           rw [this]; exact e2⟩
    unfold forGo
    rw [if_pos (ok _ _ _ _ h), h1]
    simp only [Res.bind_ok, h2]
    rcases h3 with rfl | rfl <;> exact e1
/-- a for loop that may return -/
theorem forGo_ret {g : GM} {b : SM} {keep : Env → Env} {w : Walk} (I : Nat → List PV → Env → Store → Prop) (V : PV → Store → Prop) : ∀ (xs : List PV) (n : Nat) (σ : Env) (s : Store), I n xs σ s →
    (∀ n xs σ s, I n xs σ s → w.ok s) →
    (∀ n x xs σ s, I n (x :: xs) σ s → ∃ σ1 s1 σ2 f s2, g x σ s = .ok σ1 s1 ∧ b σ1 s1 = .ok (σ2, f) s2 ∧ (((f = .next ∨ f = .cont) ∧ I (n + 1) xs (keep σ2) s2) ∨ ∃ v, f = .ret v ∧ V v s2)) →
    ∃ σ' f s', forGo w g b keep xs σ s = .ok (σ', f) s' ∧ ((f = .next ∧ I (n + xs.length) [] σ' s') ∨ ∃ v, f = .ret v ∧ V v s') := by
  intro xs
  induction xs with
  | nil => intro n σ s h ok _; exact ⟨σ, .next, s, by simp [forGo, ok _ _ _ _ h], .inl ⟨rfl, h⟩⟩
  | cons x xs ih =>
    intro n σ s h ok st
    obtain ⟨σ1, s1, σ2, f, s2, h1, h2, h3⟩ := st n x xs σ s h
    rcases h3 with ⟨h3, h4⟩ | ⟨v, rfl, h4⟩
    · obtain ⟨σ', f', s', e1, e2⟩ := ih (n + 1) (keep σ2) s2 h4 ok st
      refine ⟨σ', f', s', ?_, ?_⟩
      · unfold forGo
        rw [if_pos (ok _ _ _ _ h), h1]
        simp only [Res.bind_ok, h2]
        rcases h3 with rfl | rfl <;> exact e1
      · rw [List.length_cons]; have : n + (xs.length + 1) = n + 1 + xs.length := by omega
        rw [this]; exact e2
    · refine ⟨σ2, .ret v, s2, ?_, .inr ⟨v, rfl, h4⟩⟩
      unfold forGo
      rw [if_pos (ok _ _ _ _ h), h1]
      simp only [Res.bind_ok, h2]
theorem atP_lt {α : Type} {xs : List α} {i : Int} (h0 : 0 ≤ i) (h1 : i < xs.length) : ∃ x ∈ xs, atP xs i = some x := by
  have hj : i.toNat < xs.length := by omega
  exact ⟨xs[i.toNat], List.getElem_mem _, atP_of (j := i.toNat) (by omega) (List.getElem?_eq_getElem hj)⟩
theorem join_nil : ∀ ys : List (List Nat), TL.joinL [] ys = ys.flatten
  | [] => rfl
  | [p] => by simp [TL.joinL]
  | p :: q :: r => by
    show p ++ ([] ++ TL.joinL [] (q :: r)) = _
    rw [join_nil (q :: r)]; simp
theorem strsOf_map : ∀ l : List (List Nat), strsOf (l.map .str) = some l
  | [] => rfl
  | x :: l => by simp [strsOf, strsOf_map l]
theorem finL_new {s : Store} {xs : List PV} (h : lbs s.length xs = true) : finL s (.loc s.length) (s ++ [.lst xs]) = .ok (.loc s.length) (s ++ [.lst xs]) := by
  unfold finL
  have hk : Kept s.length s (s ++ [.lst xs]) := fun i hi => by left; rw [List.getElem?_append_left hi]
  rw [if_pos ⟨hk, by simp⟩]
  simp [h]
theorem get1 (pre e : Store) (x y : PV) : (pre ++ x :: y :: e)[pre.length + 1]? = some y := by
  rw [List.getElem?_append_right (by omega)]; simp
theorem get2 (pre e : Store) (x y z : PV) : (pre ++ x :: y :: z :: e)[pre.length + 2]? = some z := by
  rw [List.getElem?_append_right (by omega)]; simp
theorem set1 (pre e : Store) (x y u : PV) : (pre ++ x :: y :: e).set (pre.length + 1) u = pre ++ x :: u :: e := by
  rw [List.set_append_right _ _ (by omega)]; simp
theorem set2 (pre e : Store) (x y z u : PV) : (pre ++ x :: y :: z :: e).set (pre.length + 2) u = pre ++ x :: y :: u :: e := by
  rw [List.set_append_right _ _ (by omega)]; simp
theorem der1 (pre e : Store) (x y : PV) : deref (pre ++ x :: y :: e) (.loc (pre.length + 1)) = y := by
  have h := get1 pre e x y
  simp only [deref, List.getD_eq_getElem?_getD]
  rw [h]; rfl
theorem der2 (pre e : Store) (x y z : PV) : deref (pre ++ x :: y :: z :: e) (.loc (pre.length + 2)) = z := by
  have h := get2 pre e x y z
  simp only [deref, List.getD_eq_getElem?_getD]
  rw [h]; rfl
theorem len4 {α : Type} {l : List α} (h : l.length = 4) : ∃ a b c d, l = [a, b, c, d] := by
  match l, h with
  | [a, b, c, d], _ => exact ⟨a, b, c, d, rfl⟩
theorem cut_lo {α : Type} {l : List α} {i : Nat} (h : i ≤ l.length) : cutP l none (some (i : Int)) = l.take i := by
  unfold cutP sIxP
  have h1 : ¬ ((i : Int) < 0) := by omega
  simp [h1]
theorem cut_hi {α : Type} {l : List α} {i : Nat} (h : i ≤ l.length) : cutP l (some (i : Int)) none = l.drop i := by
  unfold cutP sIxP
  have h1 : ¬ ((i : Int) < 0) := by omega
  simp [h1]
  have h2 : min i l.length = i := by omega
  rw [h2, List.take_of_length_le (by simp)]
theorem blsOf_mapP {α : Type} (l : List α) (p : α → Bool) : blsOf (l.map fun c => PV.bl (p c)) = some (l.map p) := by
  induction l with
  | nil => rfl
  | cons x l ih => simp [blsOf, ih]
end Mir
/-! Mir, part R: repr of small things; isinstance of a held exception. -/
namespace Mir
open PySem PySem.Spec PyProof.Rows L2
def reprP : PV → Option (List Nat)
  | .bl true => some [84, 114, 117, 101]
  | .bl false => some [70, 97, 108, 115, 101]
  | .non => some [78, 111, 110, 101]
  | _ => none
/-- repr(x), x True, False or None -/
def bRepr : ON := fun vs s => match vs with
  | [x] => (ofO (reprP x) s).bind fun l s => .ok (.str l) s
  | _ => .stuck
def rpV : V → Option Str
  | .bl true => some (St8 [84, 114, 117, 101])
  | .bl false => some (St8 [70, 97, 108, 115, 101])
  | .non => some (St8 [78, 111, 110, 101])
  | _ => none
theorem call_reprB {X : Cx} : CallR X (.builtin "repr") (fun xs H Q => ∃ x t, xs = [x] ∧ rpV x = some t ∧ Q (.str t) H) := by
  intro pins s σ H xs us Q I r h
  obtain ⟨x, t, rfl, hz, q⟩ := h
  obtain ⟨u, rfl, rx⟩ := vals1 r
  cases x with
  | bl b =>
    obtain rfl : u = .bool b := rx
    refine PySem.P.repr_of_bool ⟨.str t, H, I.tok _, ?_, q⟩
    cases b <;> (simp only [rpV, Option.some.injEq] at hz; subst hz; exact ⟨_, rfl⟩)
  | non =>
    obtain rfl : u = Value.none := rx
    refine PySem.P.repr_of_none ⟨.str t, H, I.tok _, ?_, q⟩
    simp only [rpV, Option.some.injEq] at hz; subst hz; exact ⟨_, rfl⟩
  | _ => cases hz
section
variable {X : Cx} {T : Tb}
theorem scr_repr : CallR X (.builtin "repr") (rN X.K T bRepr) := cr_of call_reprB fun P F io s xs vs H Q rx hS hp => by
  unfold bRepr at hp
  split at hp
  · obtain ⟨v, rfl, r1⟩ := rx.one
    rename_i x
    cases x with
    | bl b =>
      cases r1
      cases b
      · exact ⟨_, _, rfl, rfl, hp.ok_of Le.refl (.str _) hS⟩
      · exact ⟨_, _, rfl, rfl, hp.ok_of Le.refl (.str _) hS⟩
    | non => cases r1; exact ⟨_, _, rfl, rfl, hp.ok_of Le.refl (.str _) hS⟩
    | _ => exact hp.elim
  · exact hp.elim
end
@[simp] theorem bRepr_bl (b : Bool) (s : Store) : bRepr [.bl b] s = .ok (.str (if b then [84, 114, 117, 101] else [70, 97, 108, 115, 101])) s := by cases b <;> rfl
@[simp] theorem sCont_ap (σ : Env) (s : Store) : sCont σ s = .ok (σ, .cont) s := rfl
@[simp] theorem sBrk_ap (σ : Env) (s : Store) : sBrk σ s = .ok (σ, .brk) s := rfl
/-! ### isinstance of a held exception -/
/-- what the class C says when isinstance asks its instances for D -/
structure XisC (K : PySem.W.Frag) (C : Addr) (cv : Value) (b : Bool) : Prop where
  ok : ExcC K C
  kit : PySem.W.kitOne K (.ref C) cv = some b
def xisB (C D : Str) (b : Bool) (K : PySem.W.Frag) : Bool :=
  xfB K (He.ga K C) && (decide (PySem.W.findIn K (.ref (He.ga K C)) "__class__" = some (some (.builtin "object.__class__"))) && (decide (PySem.W.specialIn K (.builtin "object.__class__") "__get__" = some (some (.builtin "getset_descriptor.__get__"))) && (decide (PySem.W.takesIn K (.builtin "object.__class__") = some true) &&
    (decide (PySem.W.mroIn K (He.ga K C) (.type "object") = some true) && decide (PySem.W.kitOne K (.ref (He.ga K C)) (.ref (He.ga K D)) = some b)))))
theorem xisB_ok {C D : Str} {b : Bool} {K : PySem.W.Frag} (h : xisB C D b K = true) : XisC K (He.ga K C) (.ref (He.ga K D)) b := by
  unfold xisB at h
  simp only [Bool.and_eq_true, decide_eq_true_eq] at h
  obtain ⟨h1, h2, h3, h4, h5, h6⟩ := h
  have q := xfB_ok h1
  exact ⟨⟨q.ga, q.gg, q.exC, q.hdC, h2, h3, h4, h5⟩, h6⟩
/-- isinstance(e, D), e the exception that the suite holds, it has a field -/
def eXis (b : Bool) (vs : List PV) : EM := fun _ s => if vs.isEmpty = true then .stuck else .ok (.bl b) s
@[simp] theorem eXis_ap (b : Bool) (v : PV) (vs : List PV) (σ : Env) (s : Store) : eXis b (v :: vs) σ s = .ok (.bl b) s := rfl
def rIsD (a D : Addr) (b : Bool) (d : Option Addr) : List V → Hp → VK → Prop := fun xs H Q => xs = [.ref a, .ref D] ∧ (∃ dd fs, d = some dd ∧ H dd = some (.xd fs)) ∧ Q (.bl b) H
theorem call_isD {X : Cx} {a C D : Addr} {oe : Obj} {d : Option Addr} {b : Bool} {pn : List (Addr × Obj)} (E : XisC X.K C (.ref D) b) (hz : Zc (.ref C) d oe) (hf : ∃ vs, oe.data = .fields vs) : CallR (X.suite a ((a, oe) :: pn)) (.builtin "isinstance") (rIsD a D b d) := by
  intro pins s σ H xs us Q I r h
  obtain ⟨rfl, ⟨dd, fs, ed, ea⟩, q⟩ := h
  obtain ⟨u, w', rfl, r1, r2⟩ := vals2 r
  obtain rfl : u = Value.ref a := r1
  obtain rfl : w' = Value.ref D := r2
  subst ed
  obtain ⟨ha, _⟩ := I.pin (a, oe) (List.mem_append_left _ List.mem_cons_self)
  obtain ⟨vs, hd⟩ := hf
  have hx : ObjOk X.prog X.w H s.heap dd (.xd fs) := I.hok dd _ ea
  obtain ⟨mA, hns, hr⟩ := hx
  obtain ⟨od, ho, hl⟩ := lookIn_ns hns
  have J : PySem.W.InstAt s.heap a oe C (some od) := ⟨ha, hz.1, by unfold PySem.W.notCls; rw [hd] <;> rfl, by rw [hz.2]; exact ho⟩
  obtain ⟨cd, hc, _⟩ := PySem.W.any_some E.ok.hd
  exact PySem.W.kia_one (PySem.W.kitx_exc (by rw [hc]; rfl) E.ok.hg E.ok.hk E.ok.hs E.ok.ha E.ok.hn E.ok.ht E.ok.hm) I.kIn J E.kit (fun z => nomatch z) fun tk => ⟨.bl b, H, I.kept (t' := tk) fun _ _ z => z, rfl, q⟩
section
variable {X : Cx} {T : Tb} {W : WX} {i c : Nat} {a D : Addr} {oe : Obj} {d : Option Addr} {b : Bool} {vs : List PV} {pn : List (Addr × Obj)} {x y z : Str} {p p2 p3 pos : Pos}
theorem me_xis (E : XisC X.K (T.ca c) (.ref D) b) (hz : Zc (.ref (T.ca c)) d oe) (hf : ∃ vs, oe.data = .fields vs)
    (hx : PE (X.suite a ((a, oe) :: pn)) (.Name x p) (tVar i)) (hg : Gl (X.suite a ((a, oe) :: pn)) z) (hm : X.mg z = none) (hv : bootBuiltins z = some (.builtin "isinstance"))
    (hgD : Gl (X.suite a ((a, oe) :: pn)) y) (hmD : X.mg y = some (.ref D)) (hn : z ≠ "__name__" := by decide) (hdb : (z == ("__debug__" : Str)) = false := by decide) (hdy : (y == ("__debug__" : Str)) = false := by decide)
    (he : starEach [.Name x p, .Name y p2] X.env = (false, eval (.Name x p) X.env) :: starEach [.Name y p2] X.env := by rfl) (he2 : starEach [.Name y p2] X.env = (false, eval (.Name y p2) X.env) :: starEach [] X.env := by rfl) (hpl : (backTo pos (starEach [.Name x p, .Name y p2] X.env)).any (·.1) = false := by rfl) :
    PE (X.suite a ((a, oe) :: pn)) (.Call (.Name z p3) [.Name x p, .Name y p2] [] pos) (tE X.K (excT X.K T i a d c vs) W (eXis b vs)) := by
  refine PE.weak (pe_callB (call_isD E hz hf) hg hm hv (pa_cons hx (pa_cons (pe_glob (v := .ref D) hgD hmD rfl hdy) pa_nil he2) he) hn hdb he hpl) fun σ H Q ⟨P, F, io, en, s, hE, hS, hp⟩ => ?_
  obtain ⟨h1, h2⟩ := hE.gh
  unfold eXis at hp
  cases vs with
  | nil => exact hp.elim
  | cons v vs =>
    obtain ⟨dd, fv, q1, q2, q3, q4⟩ := h2 (by simp)
    exact ⟨.ref a, h1, rfl, ⟨dd, _, q1, hS.sub _ _ q2⟩, hp.ok_of Le.refl (.bl b) hS⟩
end
end Mir
/-! what the helpers of the laws from k35 on draw -/
namespace DL
open Mir
/-- the bag: three numbers, and those that are left -/
abbrev bg (a b c : Int) (r : List Int) : PV := .lst (.int a :: .int b :: .int c :: r.map .int)
def dr1 : SM := sIf (qAnd (qBl (eOp2 pyEq (eOp2 pyIdx (eVar 0) (eC (.int 0))) (eC (.int 0)))) (qBl (eOp2 pyGt (eBlt bLen (aCons (eVar 0) (aNil))) (eC (.int 3))))) (sSeq (sAsg (eMt mPop (eVar 0) (aCons (eC (.int 3)) (aNil))) (gName 2)) (sIf (qBl (eOp2 pyGe (eVar 2) (eOp2 pyPow (eC (.int 10)) (eC (.int 18))))) (sSetI (eVar 0) (eC (.int 0)) (eVar 2)) (sSetI (eVar 0) (eC (.int 1)) (eOp2 pyMod (eBlt bInt (aCons (eOp2 pyAdd (eOp2 pyMul (eOp2 pyIdx (eVar 0) (eC (.int 1))) (eC (.int 69621))) (eVar 2)) (aNil))) (eC (.int 2147483647)))))) (sNext)
def dr2 : SM := sSeq (sIf (qBl (eOp2 pyGt (eOp2 pyIdx (eVar 0) (eC (.int 0))) (eC (.int 0)))) (sSeq (sAsg (eOp2 pyMod (eBlt bInt (aCons (eOp2 pyIdx (eVar 0) (eC (.int 0))) (aNil))) (eVar 1)) (gName 3)) (sSeq (sSetI (eVar 0) (eC (.int 0)) (eOp2 pyFdiv (eOp2 pyIdx (eVar 0) (eC (.int 0))) (eVar 1))) (sRet (eVar 3)))) (sNext)) (sSeq (sAugI (eVar 0) (eC (.int 2)) (eC (.int 1))) (sSeq (sSetI (eVar 0) (eC (.int 1)) (eOp2 pyMod (eBlt bInt (aCons (eOp2 pyAdd (eOp2 pyMul (eOp2 pyIdx (eVar 0) (eC (.int 1))) (eC (.int 48271))) (eOp2 pyMul (eOp2 pyIdx (eVar 0) (eC (.int 2))) (eC (.int 9973)))) (aNil))) (eC (.int 2147483629)))) (sRet (eOp2 pyMod (eBlt bInt (aCons (eOp2 pyFdiv (eOp2 pyIdx (eVar 0) (eC (.int 1))) (eC (.int 5))) (aNil))) (eVar 1)))))
def drM : SM := sSeq dr1 dr2
noncomputable def dDraw : ON := runDef finV 4 drM
theorem dr2_eq (pre e : Store) (a b c m : Int) (r : List Int) (y z : Option PV) (h : 0 < m) (h2 : m < 2 ^ 127) :
    ∃ v a' b' c' σ', 0 ≤ v ∧ v < m ∧ dr2 [some (.loc pre.length), some (.int m), y, z] (pre ++ bg a b c r :: e) = .ok (σ', .ret (.int v)) (pre ++ bg a' b' c' r :: e) := by
  have m1 : ∀ i s, pyMod (.int i) (.int m) s = .ok (.int (i % m)) s := fun i s => pyMod_ok s h
  have m2 : ∀ i s, pyFdiv (.int i) (.int m) s = .ok (.int (i / m)) s := fun i s => pyFdiv_ok s h (by omega)
  have m3 : ∀ i s, pyMul (.int i) (.int 48271) s = .ok (.int (i * 48271)) s := fun i s => pyMulR s (by omega)
  have m4 : ∀ i s, pyMul (.int i) (.int 9973) s = .ok (.int (i * 9973)) s := fun i s => pyMulR s (by omega)
  have m5 : ∀ i s, pyMod (.int i) (.int 2147483629) s = .ok (.int (i % 2147483629)) s := fun i s => pyMod_ok s (by omega)
  have m6 : ∀ i s, pyFdiv (.int i) (.int 5) s = .ok (.int (i / 5)) s := fun i s => pyFdiv_ok s (by omega) (by omega)
  have i0 : ixP (r.length + 1 + 1 + 1) 0 = some 0 := by simp [ixP]; omega
  have i1 : ixP (r.length + 1 + 1 + 1) 1 = some 1 := by simp [ixP]; omega
  have i2 : ixP (r.length + 1 + 1 + 1) 2 = some 2 := by simp [ixP]; omega
  unfold dr2
  by_cases ha : 0 < a
  · refine ⟨a % m, a / m, b, c, [some (.loc pre.length), some (.int m), y, some (.int (a % m))], Int.emod_nonneg _ (by omega), Int.emod_lt_of_pos _ h, ?_⟩
    simp [ha, m1, m2, i0]
  · refine ⟨(((b * 48271 + (c + 1) * 9973) % 2147483629) / 5) % m, a, (b * 48271 + (c + 1) * 9973) % 2147483629, c + 1, [some (.loc pre.length), some (.int m), y, z], Int.emod_nonneg _ (by omega), Int.emod_lt_of_pos _ h, ?_⟩
    simp [ha, sAugI, m1, m3, m4, m5, m6, i1, i2]
theorem dr1_eq (pre e : Store) (a b c m : Int) (r : List Int) (hr : r.length ≤ 100) :
    ∃ a' b' r' y, r'.length ≤ 100 ∧ dr1 [some (.loc pre.length), some (.int m), none, none] (pre ++ bg a b c r :: e) = .ok ([some (.loc pre.length), some (.int m), y, none], .next) (pre ++ bg a' b' c r' :: e) := by
  unfold dr1
  by_cases ha : a = 0
  · subst ha
    cases r with
    | nil => exact ⟨0, b, [], none, by simp, by simp [bLen, lenP]⟩
    | cons x r =>
      have l3 : (3 : Int) < (r.length : Int) + 1 + 1 + 1 + 1 := by omega
      have m3 : ∀ i s, pyMul (.int i) (.int 69621) s = .ok (.int (i * 69621)) s := fun i s => pyMulR s (by omega)
      have m5 : ∀ i s, pyMod (.int i) (.int 2147483647) s = .ok (.int (i % 2147483647)) s := fun i s => pyMod_ok s (by omega)
      have i0 : ixP (r.length + 1 + 1 + 1) 0 = some 0 := by simp [ixP]; omega
      have i1 : ixP (r.length + 1 + 1 + 1) 1 = some 1 := by simp [ixP]; omega
      have pw : ∀ s, pyPow (.int 10) (.int 18) s = .ok (.int (10 ^ 18)) s := fun s => by simp [pyPow]
      have hr' : r.length ≤ 100 := by simp at hr; omega
      by_cases hx : (1000000000000000000 : Int) ≤ x
      · refine ⟨x, b, r, some (.int x), hr', ?_⟩
        simp [bLen, lenP, l3, isL, mPop, pw, hx, i0]
      · refine ⟨0, (b * 69621 + x) % 2147483647, r, some (.int x), hr', ?_⟩
        simp [bLen, lenP, l3, isL, mPop, pw, hx, i1, m3, m5]
  · exact ⟨a, b, r, none, hr, by simp [ha]⟩
def isBag (x : PV) : Prop := ∃ a b c r, r.length ≤ 100 ∧ x = bg a b c r
theorem isBag.lb {x : PV} (h : isBag x) (n : Nat) : Mir.lb n x = true := by
  obtain ⟨a, b, c, r, _, rfl⟩ := h
  have : Mir.lbs n (r.map PV.int) = true := isDs_lb 0 n _ (by simp [isD])
  simp [bg, this]
theorem draw_eq (pre e : Store) {x : PV} {m : Int} (hx : isBag x) (h : 0 < m) (h2 : m < 2 ^ 127) :
    ∃ (v : Int) (x' : PV), 0 ≤ v ∧ v < m ∧ isBag x' ∧ dDraw [.loc pre.length, .int m] (pre ++ x :: e) = .ok (.int v) (pre ++ x' :: e) := by
  obtain ⟨a, b, c, r, hr, rfl⟩ := hx
  obtain ⟨a1, b1, r1, y, hr1, e1⟩ := dr1_eq pre e a b c m r hr
  obtain ⟨v, a2, b2, c2, σ', v0, v1, e2⟩ := dr2_eq pre e a1 b1 c m r1 y none h h2
  have hb : isBag (bg a2 b2 c2 r1) := ⟨a2, b2, c2, r1, hr1, rfl⟩
  refine ⟨v, _, v0, v1, hb, ?_⟩
  unfold dDraw
  rw [runDef_ap]
  unfold drM
  rw [sSeq_ap]
  have el : ([PV.loc pre.length, PV.int m].map some ++ List.replicate (4 - [PV.loc pre.length, PV.int m].length) none) = [some (.loc pre.length), some (.int m), none, none] := rfl
  rw [el, e1]
  simp only [Res.bind_ok]
  rw [e2]
  exact finV_data (by simp) (kept_mid pre e _ _ (hb.lb _)) (by simp)
/-! ### the bag of a script -/
noncomputable def bagM : SM := sRetL (aCat (eLst (aCons (eC (.int 0)) (aCons (eC (.int 7)) (aCons (eC (.int 0)) (aNil))))) (eBlt bList (aCons (eVar 0) (aNil))))
/-! ### names -/
abbrev ABC : List Nat := [97, 98, 99, 100, 101, 102, 103, 104, 105, 106, 107, 108, 109, 110, 111, 112, 113, 114, 115, 116, 117, 118, 119, 120, 121, 122]
abbrev KEPT : List Nat := [109, 97, 114, 107, 115, 32, 107, 105, 110, 100, 32, 118, 97, 108, 117, 101, 32, 100, 101, 102, 32, 114, 101, 116, 117, 114, 110, 32, 110, 111, 110, 101, 32, 99, 111, 112, 121, 32, 105, 102, 32, 117, 110, 108, 101, 115, 115, 32, 105, 110, 32, 105, 115, 32, 109, 97, 114, 107, 32, 98, 111, 120, 32, 111, 110, 99, 101, 32, 97, 110, 101, 119, 32, 101, 97, 114, 108, 121, 32, 108, 97, 116, 101, 32, 99, 108, 115, 32, 115, 101, 108, 102, 32, 109, 101, 116, 104, 111, 100]
abbrev WDS : List (List Nat) := [[109, 97, 114, 107, 115], [107, 105, 110, 100], [118, 97, 108, 117, 101], [100, 101, 102], [114, 101, 116, 117, 114, 110], [110, 111, 110, 101], [99, 111, 112, 121], [105, 102], [117, 110, 108, 101, 115, 115], [105, 110], [105, 115], [109, 97, 114, 107], [98, 111, 120], [111, 110, 99, 101], [97, 110, 101, 119], [101, 97, 114, 108, 121], [108, 97, 116, 101], [99, 108, 115], [115, 101, 108, 102], [109, 101, 116, 104, 111, 100]]
theorem kept_spl : TL.spl [32] 0 [] KEPT = WDS := by decide
def isLow (c : Nat) : Prop := 97 ≤ c ∧ c ≤ 122
theorem abc_at {i : Int} (h0 : 0 ≤ i) (h1 : i < 26) (s : Store) : pyIdx (.str ABC) (.int i) s = .ok (.str [97 + i.toNat]) s := by
  have hj : i.toNat < 26 := by omega
  have : atP ABC i = some (97 + i.toNat) := by
    refine atP_of (j := i.toNat) (by omega) ?_
    generalize i.toNat = j at hj
    revert j
    decide
  have z : ABC.length ≤ sz := by decide
  simp only [pyIdx, this, if_pos z]
  rfl
theorem isLow_at {i : Int} (h1 : i < 26) : isLow (97 + i.toNat) := by unfold isLow; omega
def sg (i : Int) : Nat := 97 + (i % 26).toNat
theorem sg_low (i : Int) : isLow (sg i) := by unfold sg; exact isLow_at (by omega)
/-- a right name -/
structure isNm (w : List Nat) : Prop where
  ne : 1 ≤ w.length
  le : w.length ≤ 8
  low : ∀ c ∈ w, isLow c
  no : w ∉ WDS
structure wdOk (sh : Int) (i : Nat) (w : List Nat) : Prop where
  ex : ∃ u : List Nat, u.length ≤ 6 ∧ (∀ c ∈ u, isLow c) ∧ w = if u ++ [sg (sh + i)] ∈ WDS then u ++ [sg (sh + i)] ++ [sg (sh + 4)] ++ [sg (sh + 4)] else u ++ [sg (sh + i)]
theorem wds_len : ∀ w ∈ WDS, w.length ≤ 6 := by decide
theorem wds_sp : ∀ w ∈ WDS, ∀ c ∈ ABC, w ++ [c] ++ [c] ∉ WDS := by decide +kernel
theorem low_mem {c : Nat} (h : isLow c) : c ∈ ABC := by
  have : ∀ c, c < 26 → 97 + c ∈ ABC := by decide
  have h2 := this (c - 97) (by unfold isLow at h; omega)
  have e : 97 + (c - 97) = c := by unfold isLow at h; omega
  rwa [e] at h2
theorem wdOk.nm {sh : Int} {i : Nat} {w : List Nat} (h : wdOk sh i w) : isNm w := by
  obtain ⟨u, h1, h2, h3⟩ := h.ex
  have lv : ∀ c ∈ u ++ [sg (sh + i)], isLow c := fun c hc => by
    rcases List.mem_append.mp hc with q | q
    · exact h2 c q
    · simp at q; subst q; exact sg_low _
  split at h3
  · rename_i hw
    have l6 := wds_len _ hw
    subst h3
    refine ⟨by simp, by rw [List.length_append, List.length_append]; simp only [List.length_cons, List.length_nil]; omega, fun c hc => ?_, wds_sp _ hw _ (low_mem (sg_low _))⟩
    rcases List.mem_append.mp hc with q | q
    · rcases List.mem_append.mp q with q | q
      · exact lv c q
      · simp at q; subst q; exact sg_low _
    · simp at q; subst q; exact sg_low _
  · rename_i hw
    subst h3
    exact ⟨by simp, by simp; omega, lv, hw⟩
theorem sg_ne {sh : Int} {i j : Nat} (hi : i ≤ 4) (hj : j ≤ 4) (h : sg (sh + i) = sg (sh + j)) : i = j := by unfold sg at h; omega
theorem last_inj {α : Type} {u v : List α} {a b : α} (h : u ++ [a] = v ++ [b]) : u = v ∧ a = b := by
  have := List.append_inj' h rfl
  exact ⟨this.1, by simpa using this.2⟩
theorem wdOk.ne {sh : Int} {i j : Nat} {w : List Nat} (hi : i < 4) (hj : j < 4) (h : wdOk sh i w) (h' : wdOk sh j w) : i = j := by
  obtain ⟨u, _, _, e⟩ := h.ex
  obtain ⟨v, _, _, e'⟩ := h'.ex
  have d4 : ∀ k : Nat, k < 4 → sg (sh + k) ≠ sg (sh + 4) := fun k hk z => by
    have := sg_ne (i := k) (j := 4) (by omega) (by omega) z
    omega
  split at e <;> split at e' <;> rw [e] at e'
  · obtain ⟨e1, _⟩ := last_inj e'
    obtain ⟨e1, _⟩ := last_inj e1
    exact sg_ne (by omega) (by omega) (last_inj e1).2
  · exact absurd (last_inj e').2.symm (d4 j hj)
  · exact absurd (last_inj e').2 (d4 i hi)
  · exact sg_ne (by omega) (by omega) (last_inj e').2
/-- four names: right ones, no two alike -/
structure Nm4 (l : List (List Nat)) : Prop where
  w : ∀ x ∈ l, isNm x
  nd : l.Nodup
  len : l.length = 4
theorem nm4_of {sh : Int} {l : List (List Nat)} (hl : l.length = 4) (h : ∀ i w, l[i]? = some w → wdOk sh i w) : Nm4 l := by
  refine ⟨fun x hx => ?_, ?_, hl⟩
  · obtain ⟨i, hi, rfl⟩ := List.getElem_of_mem hx
    exact (h i _ (List.getElem?_eq_getElem hi)).nm
  · rw [List.nodup_iff_pairwise_ne, List.pairwise_iff_getElem]
    intro i j hi hj hij e
    have h1 := h i _ (List.getElem?_eq_getElem hi)
    have h2 := h j _ (List.getElem?_eq_getElem hj)
    rw [← e] at h2
    have := h1.ne (by omega) (by omega) h2
    omega
noncomputable def nmBody : SM := sSeq (sAsg (eJoin (eC (.str [])) (eLst (aComp (iRange1 (eCallK (fun vs _ => dDraw vs) (aCons (eVar 0) (aCons (eC (.int 7)) (aNil))) (aNil))) (gName 9) (qYes) (eOp2 pyIdx (eVar 2) (eCallK (fun vs _ => dDraw vs) (aCons (eVar 0) (aCons (eC (.int 26)) (aNil))) (aNil))) [9]))) (gName 8)) (sSeq (sAsg (eOp2 pyAdd (eVar 8) (eOp2 pyIdx (eVar 2) (eOp2 pyMod (eBlt bInt (aCons (eOp2 pyAdd (eVar 4) (eVar 7)) (aNil))) (eC (.int 26))))) (gName 8)) (sExp (eMt mAppend (eVar 6) (aCons (eIf (qBl (eOp2 pyIn (eVar 8) (eSplit (eVar 3) (eC (.str [32]))))) (eOp2 pyAdd (eOp2 pyAdd (eVar 8) (eVar 5)) (eVar 5)) (eVar 8)) (aNil)))))
noncomputable def nmM : SM := sSeq (sAsg (eC (.str ABC)) (gName 2)) (sSeq (sAsg (eC (.str KEPT)) (gName 3)) (sSeq (sAsg (eCallK (fun vs _ => dDraw vs) (aCons (eVar 0) (aCons (eC (.int 26)) (aNil))) (aNil)) (gName 4)) (sSeq (sAsg (eOp2 pyIdx (eVar 2) (eOp2 pyMod (eBlt bInt (aCons (eOp2 pyAdd (eVar 4) (eVar 1)) (aNil))) (eC (.int 26)))) (gName 5)) (sSeq (sNew (aNil) 6) (sSeq (sFor (iRange1 (eVar 1)) (gName 7) nmBody) (sRet (eVar 6)))))))
noncomputable def dNames : ON := runDef finV 10 nmM
abbrev nE (p : Nat) (sh : Int) (n k w : Option PV) : Env := [some (.loc p), some (.int 4), some (.str ABC), some (.str KEPT), some (.int sh), some (.str [sg (sh + 4)]), n, k, w, none]
theorem low_flat {ys : List (List Nat)} (h : ∀ y ∈ ys, ∃ c, isLow c ∧ y = [c]) : ys.flatten.length = ys.length ∧ (∀ c ∈ ys.flatten, isLow c) ∧ (ys.map (·.length)).sum = ys.length := by
  induction ys with
  | nil => simp
  | cons y ys ih =>
    obtain ⟨c, hc, rfl⟩ := h y (List.mem_cons_self ..)
    obtain ⟨i1, i2, i3⟩ := ih fun z hz => h z (List.mem_cons_of_mem _ hz)
    refine ⟨by simp [i1], fun d hd => ?_, by simp [i3]; omega⟩
    simp at hd
    rcases hd with rfl | ⟨z, hz, hd⟩
    · exact hc
    · exact i2 d (by simp; exact ⟨z, hz, hd⟩)
theorem wds_data : (WDS.map PV.str).all (isD dp) = true := by decide
theorem in_wds (w : List Nat) (hw : w.length ≠ 1 ∨ True) (s : Store) : pyIn (.str w) (.lst (WDS.map PV.str)) s = .ok (.bl (decide (w ∈ WDS))) s := by
  have h : ∀ l : List (List Nat), (l.map PV.str).any (fun z => eqF dp z (.str w)) = decide (w ∈ l) := by
    intro l
    induction l with
    | nil => simp
    | cons x l ih =>
      simp only [List.map_cons, List.any_cons, ih, List.mem_cons]
      have : eqF dp (.str x) (.str w) = (x == w) := rfl
      rw [this]
      by_cases q : x = w
      · subst q; simp
      · simp [q, Ne.symm q]
  unfold pyIn inP
  have hd : isD dp (.str w) = true := rfl
  have e : itemsOf s (.lst (WDS.map PV.str)) = some (WDS.map PV.str) := rfl
  split
  · rename_i h1; cases h1
  · rw [e]
    simp only [hd, wds_data, Bool.and_self, if_true, h]
    rfl
theorem body_eq (pre : Store) {sh : Int} (h0 : 0 ≤ sh) (h1 : sh < 26) (i : Nat) (hi : i < 4) (L : List (List Nat)) (hL : L.length < 100) {x : PV} (hx : isBag x) (w : Option PV) :
    ∃ v u x', isBag x' ∧ wdOk sh i v ∧ nmBody (nE pre.length sh (some (.loc (pre.length + 1))) (some (.int i)) w) (pre ++ [x, .lst (L.map .str)]) = .ok (nE pre.length sh (some (.loc (pre.length + 1))) (some (.int i)) u, .next) (pre ++ [x', .lst ((L ++ [v]).map .str)]) := by
  obtain ⟨n, x1, n0, n1, hx1, e1⟩ := draw_eq pre [.lst (L.map .str)] (m := 7) hx (by omega) (by omega)
  obtain ⟨ys, s1, c1, c2, c3, c4⟩ := compGo_inv (g := gName 9) (t := qYes) (e := eOp2 pyIdx (eVar 2) (eCallK (fun vs _ => dDraw vs) (aCons (eVar 0) (aCons (eC (.int 26)) (aNil))) (aNil))) (σ := nE pre.length sh (some (.loc (pre.length + 1))) (some (.int i)) w) (w := ⟨(List.range n.toNat).map fun k => .int (k : Nat), none⟩) rfl
    (fun s => ∃ x, isBag x ∧ s = pre ++ [x, .lst (L.map .str)]) (fun y => ∃ c, isLow c ∧ y = .str [c]) ((List.range n.toNat).map fun k => .int (k : Nat)) [] (pre ++ [x1, .lst (L.map .str)]) ⟨x1, hx1, rfl⟩ (by
      rintro y - s ⟨x, hx, rfl⟩
      obtain ⟨v, x2, v0, v1, hx2, e2⟩ := draw_eq pre [.lst (L.map .str)] (m := 26) hx (by omega) (by omega)
      refine ⟨_, _, .str [97 + v.toNat], pre ++ [x2, .lst (L.map .str)], rfl, rfl, ?_, ⟨x2, hx2, rfl⟩, _, isLow_at v1, rfl⟩
      simp [e2, abc_at v0 v1])
  obtain ⟨x2, hx2, rfl⟩ := c4
  obtain ⟨us, rfl, hus⟩ : ∃ us : List (List Nat), ys = us.map .str ∧ ∀ y ∈ us, ∃ c, isLow c ∧ y = [c] := by
    clear c1 c2
    induction ys with
    | nil => exact ⟨[], rfl, by simp⟩
    | cons y ys ih =>
      obtain ⟨us, h1, h2⟩ := ih fun z hz => c3 z (List.mem_cons_of_mem _ hz)
      obtain ⟨c, hc, rfl⟩ := c3 y (List.mem_cons_self ..)
      exact ⟨[c] :: us, by simp [h1], fun z hz => by
        rcases List.mem_cons.mp hz with rfl | hz
        · exact ⟨c, hc, rfl⟩
        · exact h2 z hz⟩
  obtain ⟨f1, f2, f3⟩ := low_flat hus
  have ul : us.length ≤ 6 := by
    have : us.length = n.toNat := by simpa using c2
    omega
  have n2 : -4611686018427387904 ≤ n := by omega
  have n3 : n ≤ 16777216 := by omega
  have ul2 : us.length ≤ sz := by simp only [sz]; omega
  have ad : ∀ s, pyAdd (.str us.flatten) (.str [sg (sh + i)]) s = .ok (.str (us.flatten ++ [sg (sh + i)])) s := fun s => pyAdd_str s (by rw [f1]; simp only [sz, List.length_cons, List.length_nil]; omega)
  have ad2 : ∀ s, pyAdd (.str (us.flatten ++ [sg (sh + i)])) (.str [sg (sh + 4)]) s = .ok (.str (us.flatten ++ [sg (sh + i)] ++ [sg (sh + 4)])) s := fun s => pyAdd_str s (by rw [List.length_append, f1]; simp only [sz, List.length_cons, List.length_nil]; omega)
  have ad3 : ∀ s, pyAdd (.str (us.flatten ++ [sg (sh + i)] ++ [sg (sh + 4)])) (.str [sg (sh + 4)]) s = .ok (.str (us.flatten ++ [sg (sh + i)] ++ [sg (sh + 4)] ++ [sg (sh + 4)])) s := fun s => pyAdd_str s (by rw [List.length_append, List.length_append, f1]; simp only [sz, List.length_cons, List.length_nil]; omega)
  have ab : ∀ s, pyIdx (.str ABC) (.int ((sh + i) % 26)) s = .ok (.str [sg (sh + i)]) s := fun s => by rw [abc_at (by omega) (by omega)]; rfl
  have md : ∀ s, pyMod (.int (sh + i)) (.int 26) s = .ok (.int ((sh + i) % 26)) s := fun s => pyMod_ok s (by omega)
  have hL2 : L.length < sz := by simp only [sz]; omega
  have iw := fun s => in_wds (us.flatten ++ [sg (sh + i)]) (.inr trivial) s
  generalize hvv : (if us.flatten ++ [sg (sh + i)] ∈ WDS then us.flatten ++ [sg (sh + i)] ++ [sg (sh + 4)] ++ [sg (sh + 4)] else us.flatten ++ [sg (sh + i)]) = v
  have ok : wdOk sh i v := ⟨us.flatten, by omega, f2, hvv.symm⟩
  refine ⟨v, some (.str (us.flatten ++ [sg (sh + i)])), x2, hx2, ok, ?_⟩
  have sm : (us.map (·.length)).sum ≤ sz := by rw [f3]; exact ul2
  simp only [List.append_assoc, List.cons_append, List.nil_append] at ad2 ad3
  unfold nmBody
  simp only [nE] at c1 ⊢
  simp [iRange1, e1, n2, n3, wipe]
  simp at c1
  rw [c1]
  simp [strsOf_map, sm, join_nil, md, ab, ad]
  have g1 : isL (pre ++ [x2, .lst (L.map .str)]) (.loc (pre.length + 1)) = true := by unfold isL; rw [der1 pre [] x2]
  have z101 : (101 : Nat) ≤ sz := by decide
  simp only [g1, z101, if_true, kept_spl, Res.bind_ok, iw, noX_ok]
  by_cases hw : us.flatten ++ [sg (sh + i)] ∈ WDS
  · rw [if_pos hw] at hvv
    simp [hw, ad2, ad3, mAppend, get1, set1, hL2]
    simpa using hvv
  · rw [if_neg hw] at hvv
    simp [hw, mAppend, get1, set1, hL2]
    simpa using hvv
theorem names_eq (pre : Store) {x : PV} (hx : isBag x) : ∃ l x', Nm4 l ∧ isBag x' ∧ dNames [.loc pre.length, .int 4] (pre ++ [x]) = .ok (.lst (l.map .str)) (pre ++ [x']) := by
  obtain ⟨sh, x1, h0, h1, hx1, e1⟩ := draw_eq pre [] (m := 26) hx (by omega) (by omega)
  have md : ∀ s, pyMod (.int (sh + 4)) (.int 26) s = .ok (.int ((sh + 4) % 26)) s := fun s => pyMod_ok s (by omega)
  have ab : ∀ s, pyIdx (.str ABC) (.int ((sh + 4) % 26)) s = .ok (.str [sg (sh + 4)]) s := fun s => by rw [abc_at (by omega) (by omega)]; rfl
  obtain ⟨σ', s', f1, L, w, x2, k, f2, f3, f4, f5⟩ := forGo_inv (g := gName 7) (b := nmBody) (keep := keepAs (nE pre.length sh (some (.loc (pre.length + 1))) none none)) (w := ⟨(List.range 4).map fun k => .int (k : Nat), none⟩)
    (fun n xs σ s => ∃ (L : List (List Nat)) (w : Option PV) (x : PV) (k : Option PV), isBag x ∧ n ≤ 4 ∧ (σ = nE pre.length sh (some (.loc (pre.length + 1))) none none ∧ xs = ((List.range 4).drop n).map (fun k => .int (k : Nat))) ∧ (s = pre ++ [x, .lst (L.map .str)] ∧ L.length = n ∧ ∀ i w, L[i]? = some w → wdOk sh i w))
    ((List.range 4).map fun k => .int (k : Nat)) 0 (nE pre.length sh (some (.loc (pre.length + 1))) none none) (pre ++ [x1, .lst []]) ⟨[], none, x1, none, hx1, by omega, ⟨rfl, rfl⟩, rfl, rfl, by simp⟩ (fun _ _ _ _ _ => trivial) (by
      rintro n y ys σ s ⟨L, w, x, k, hx, hn, ⟨rfl, hy⟩, rfl, hl, hw⟩
      have hn4 : n < 4 := by
        rcases Nat.lt_or_ge n 4 with q | q
        · exact q
        · have : n = 4 := by omega
          subst this
          have z : ((List.range 4).drop 4).map (fun k : Nat => PV.int k) = [] := rfl
          rw [z] at hy; cases hy
      have hy2 : y = .int (n : Nat) ∧ ys = ((List.range 4).drop (n + 1)).map (fun k => .int (k : Nat)) := by
        have h4 : (List.range 4).drop n = n :: (List.range 4).drop (n + 1) := by
          rw [List.drop_eq_getElem_cons (by simp; exact hn4)]; simp
        rw [h4, List.map_cons] at hy
        exact ⟨(List.cons.inj hy).1, (List.cons.inj hy).2⟩
      obtain ⟨rfl, rfl⟩ := hy2
      obtain ⟨v, u, x', hx', hv, e⟩ := body_eq pre h0 h1 n hn4 L (by omega) hx none
      refine ⟨_, _, _, _, _, rfl, e, .inl rfl, L ++ [v], none, x', none, hx', by omega, ⟨by simp [keepAs], rfl⟩, rfl, by simp [hl], fun i w hi => ?_⟩
      rcases Nat.lt_trichotomy i L.length with q | q | q
      · rw [List.getElem?_append_left q] at hi
        exact hw i w hi
      · subst q
        simp at hi
        subst hi
        rw [hl]; exact hv
      · rw [List.getElem?_eq_none (by simp; omega)] at hi
        cases hi)
  obtain ⟨rfl, hl, hw⟩ := f5
  refine ⟨L, x2, nm4_of (by simpa using hl) hw, f2, ?_⟩
  unfold dNames
  rw [runDef_ap]
  unfold nmM
  obtain ⟨rfl, -⟩ := f4
  simp [e1, md, ab, iRange1, sz]
  simp only [nE] at f1
  rw [f1]
  simp
  have lbq : ∀ n, lbs n (L.map PV.str) = true := fun n => isDs_lb 0 n _ (by simp [isD])
  have f := finV_new (old := pre ++ [x]) (new := pre ++ [x2]) (e := [.lst (L.map .str)]) (n := pre.length + 1) (c := .lst (L.map .str)) (by simp) (kept_mid pre [] _ _ (f2.lb _)) (by simp)
      (by rw [List.append_assoc]; exact get1 pre [] _ _) (by rw [lb_lst]; exact lbq _)
  rw [List.append_assoc] at f
  exact f
theorem bag_eq (s : Store) {ns : List Int} (hl : ns.length ≤ 63) : ∃ x, isBag x ∧ runDef finL 1 bagM [.ro (ns.map .int)] s = .ok (.loc s.length) (s ++ [x]) := by
  refine ⟨bg 0 7 0 ns, ⟨0, 7, 0, ns, by omega, rfl⟩, ?_⟩
  rw [runDef_ap]
  unfold bagM
  have h1 : bList [.ro (ns.map .int)] s = .ok (.lst (ns.map .int)) s := rfl
  have z : 3 + ns.length ≤ sz := by simp only [sz]; omega
  simp [h1, z]
  exact finL_new (by have : lbs s.length (ns.map PV.int) = true := isDs_lb 0 _ _ (by simp [isD]); simp [this])
end DL
/-! what the package's functions about names and parts answer, for any plain data -/
namespace PL
open Mir
def c_LETTERS : PV := .str [97, 98, 99, 100, 101, 102, 103, 104, 105, 106, 107, 108, 109, 110, 111, 112, 113, 114, 115, 116, 117, 118, 119, 120, 121, 122]
def c_WORDS : PV := .tup [.str [109, 97, 114, 107, 115], .str [107, 105, 110, 100], .str [118, 97, 108, 117, 101], .str [100, 101, 102], .str [114, 101, 116, 117, 114, 110], .str [110, 111, 110, 101], .str [99, 111, 112, 121], .str [105, 102], .str [117, 110, 108, 101, 115, 115], .str [105, 110], .str [105, 115], .str [109, 97, 114, 107], .str [98, 111, 120], .str [111, 110, 99, 101], .str [97, 110, 101, 119], .str [101, 97, 114, 108, 121], .str [108, 97, 116, 101], .str [99, 108, 115], .str [115, 101, 108, 102], .str [109, 101, 116, 104, 111, 100]]
def c_MOST_LETTERS : PV := .int 8
noncomputable def m_is_name (tab : List ((Tg × Tg) × Bool)) : SM := sSeq (sIf (qOr (qNot (qOf (eBlt (bIsi tab) (aCons (eVar 0) (aCons (eC (.ty "str")) (aNil)))))) (qNot (qBl (eChain pyLe pyLe (eC (.int 1)) (eBlt bLen (aCons (eVar 0) (aNil))) (eC c_MOST_LETTERS))))) (sRet (eC (.bl false))) (sNext)) (sRet (eAnd (eOp2 pyNotIn (eVar 0) (eC c_WORDS)) (eBlt bAll (aCons (eLst (aComp (iSeq (eVar 0)) (gName 1) (qYes) (eOp2 pyIn (eVar 1) (eC c_LETTERS)) [1])) (aNil)))))
noncomputable def d_is_name (tab : List ((Tg × Tg) × Bool)) : ON := runDef finV 2 (m_is_name tab)
noncomputable def m_are_items (tab : List ((Tg × Tg) × Bool)) : SM := sSeq (sIf (qOr (qNot (qOf (eBlt (bIsi tab) (aCons (eVar 0) (aCons (eC (.ty "tuple")) (aNil)))))) (qNot (qOf (eBlt bAll (aCons (eLst (aComp (iSeq (eVar 0)) (gName 2) (qYes) (eCallK (fun vs _ => d_is_name tab vs) (aCons (eVar 2) (aNil)) (aNil)) [2])) (aNil)))))) (sRet (eC (.bl false))) (sNext)) (sRet (eBlt bAll (aCons (eLst (aComp (iRange1 (eOp2 pySub (eBlt bLen (aCons (eVar 0) (aNil))) (eC (.int 1)))) (gName 1) (qYes) (eOp2 pyLt (eOp2 pyIdx (eVar 0) (eVar 1)) (eOp2 pyIdx (eVar 0) (eOp2 pyAdd (eVar 1) (eC (.int 1))))) [1])) (aNil))))
noncomputable def d_are_items (tab : List ((Tg × Tg) × Bool)) : ON := runDef finV 3 (m_are_items tab)
noncomputable def m_is_owner (tab : List ((Tg × Tg) × Bool)) : SM := sRet (eOr (eCallK (fun vs _ => d_is_name tab vs) (aCons (eVar 0) (aNil)) (aNil)) (eAnd (eBlt (bIsi tab) (aCons (eVar 0) (aCons (eC (.ty "str")) (aNil)))) (eOp2 pyEq (eVar 0) (eC (.str [99, 108, 115])))))
noncomputable def d_is_owner (tab : List ((Tg × Tg) × Bool)) : ON := runDef finV 1 (m_is_owner tab)
noncomputable def m_is_truth (tab : List ((Tg × Tg) × Bool)) : SM := sRet (eBlt (bIsi tab) (aCons (eVar 0) (aCons (eC (.ty "bool")) (aNil))))
noncomputable def d_is_truth (tab : List ((Tg × Tg) × Bool)) : ON := runDef finV 1 (m_is_truth tab)
noncomputable def m_has_word (tab : List ((Tg × Tg) × Bool)) : SM := sRet (eAnd (eBlt (bIsi tab) (aCons (eVar 0) (aCons (eC (.ty "tuple")) (aNil)))) (eAnd (eOp2 pyGt (eBlt bLen (aCons (eVar 0) (aNil))) (eC (.int 0))) (eBlt (bIsi tab) (aCons (eOp2 pyIdx (eVar 0) (eC (.int 0))) (aCons (eC (.ty "str")) (aNil))))))
noncomputable def d_has_word (tab : List ((Tg × Tg) × Bool)) : ON := runDef finV 1 (m_has_word tab)
noncomputable def m_is_default (tab : List ((Tg × Tg) × Bool)) : SM := sSeq (sIf (qNot (qOf (eCallK (fun vs _ => d_has_word tab vs) (aCons (eVar 1) (aNil)) (aNil)))) (sRet (eC (.bl false))) (sNext)) (sSeq (sPar (aCons (eOp2 pyIdx (eVar 1) (eC (.int 0))) (aCons (eBlt bLen (aCons (eVar 1) (aNil))) aNil)) 2 3) (sSeq (sIf (qBl (eOp2 pyEq (eVar 0) (eC (.str [109, 97, 114, 107])))) (sRet (eAnd (eOp2 pyEq (eVar 2) (eC (.str [109, 97, 114, 107]))) (eAnd (eOp2 pyEq (eVar 3) (eC (.int 2))) (eCallK (fun vs _ => d_is_name tab vs) (aCons (eOp2 pyIdx (eVar 1) (eC (.int 1))) (aNil)) (aNil))))) (sNext)) (sSeq (sIf (qBl (eOp2 pyIn (eVar 2) (eTup (aCons (eC (.str [111, 110, 99, 101])) (aCons (eC (.str [97, 110, 101, 119])) (aNil)))))) (sRet (eAnd (eOp2 pyEq (eVar 3) (eC (.int 2))) (eCallK (fun vs _ => d_are_items tab vs) (aCons (eOp2 pyIdx (eVar 1) (eC (.int 1))) (aNil)) (aNil)))) (sNext)) (sSeq (sIf (qBl (eOp2 pyEq (eVar 2) (eC (.str [101, 97, 114, 108, 121])))) (sRet (eAnd (eOp2 pyEq (eVar 3) (eC (.int 3))) (eAnd (eCallK (fun vs _ => d_is_name tab vs) (aCons (eOp2 pyIdx (eVar 1) (eC (.int 1))) (aNil)) (aNil)) (eCallK (fun vs _ => d_is_name tab vs) (aCons (eOp2 pyIdx (eVar 1) (eC (.int 2))) (aNil)) (aNil))))) (sNext)) (sRet (eAnd (eOp2 pyEq (eVar 2) (eC (.str [108, 97, 116, 101]))) (eAnd (eOp2 pyEq (eVar 3) (eC (.int 3))) (eAnd (eCallK (fun vs _ => d_is_owner tab vs) (aCons (eOp2 pyIdx (eVar 1) (eC (.int 1))) (aNil)) (aNil)) (eCallK (fun vs _ => d_is_name tab vs) (aCons (eOp2 pyIdx (eVar 1) (eC (.int 2))) (aNil)) (aNil))))))))))
noncomputable def d_is_default (tab : List ((Tg × Tg) × Bool)) : ON := runDef finV 4 (m_is_default tab)
noncomputable def m_look_name (tab : List ((Tg × Tg) × Bool)) (cN : Nat) : SM := sIf (qNot (qOf (eCallK (fun vs _ => d_is_name tab vs) (aCons (eVar 0) (aNil)) (aNil)))) (sRaise cN (aCons (eVar 0) (aNil))) (sNext)
noncomputable def d_look_name (tab : List ((Tg × Tg) × Bool)) (cN : Nat) : ON := runDef finV 1 (m_look_name tab cN)
noncomputable def m_Param_init (tab : List ((Tg × Tg) × Bool)) (cN : Nat) (cP : Nat) (tn th td tm : List (Nat × Nat)) : SM := sSeq (sExp (eCallK (fun vs _ => d_look_name tab cN vs) (aCons (eVar 1) (aNil)) (aNil))) (sSeq (sIf (qOr (qNot (qOf (eBlt (bIsi tab) (aCons (eVar 2) (aCons (eC (.ty "str")) (aNil)))))) (qBl (eOp2 pyNotIn (eVar 2) (eTup (aCons (eC (.str [109, 97, 114, 107])) (aCons (eC (.str [98, 111, 120])) (aNil))))))) (sRaise cP (aCons (eC (.str [104, 111, 108, 100, 115])) (aNil))) (sNext)) (sSeq (sIf (qAnd (qBl (eNotB (eOp1 (pyIs .non) (eVar 3)))) (qNot (qOf (eCallK (fun vs _ => d_is_default tab vs) (aCons (eVar 2) (aCons (eVar 3) (aNil))) (aNil))))) (sRaise cP (aCons (eC (.str [100, 101, 102, 97, 117, 108, 116])) (aNil))) (sNext)) (sSeq (sIf (qNot (qOf (eCallK (fun vs _ => d_is_truth tab vs) (aCons (eVar 4) (aNil)) (aNil)))) (sRaise cP (aCons (eC (.str [110, 97, 109, 101, 100])) (aNil))) (sNext)) (sSeq (sSetF tn (eVar 0) (eVar 1)) (sSeq (sSetF th (eVar 0) (eVar 2)) (sSeq (sSetF td (eVar 0) (eVar 3)) (sSetF tm (eVar 0) (eVar 4))))))))
noncomputable def d_Param_init (tab : List ((Tg × Tg) × Bool)) (cN : Nat) (cP : Nat) (tn th td tm : List (Nat × Nat)) : ON := runDef finV 5 (m_Param_init tab cN cP tn th td tm)
/-! ### plain data -/
abbrev WDS : List (List Nat) := [[109, 97, 114, 107, 115], [107, 105, 110, 100], [118, 97, 108, 117, 101], [100, 101, 102], [114, 101, 116, 117, 114, 110], [110, 111, 110, 101], [99, 111, 112, 121], [105, 102], [117, 110, 108, 101, 115, 115], [105, 110], [105, 115], [109, 97, 114, 107], [98, 111, 120], [111, 110, 99, 101], [97, 110, 101, 119], [101, 97, 114, 108, 121], [108, 97, 116, 101], [99, 108, 115], [115, 101, 108, 102], [109, 101, 116, 104, 111, 100]]
abbrev ABC : List Nat := [97, 98, 99, 100, 101, 102, 103, 104, 105, 106, 107, 108, 109, 110, 111, 112, 113, 114, 115, 116, 117, 118, 119, 120, 121, 122]
abbrev sMark : List Nat := [109, 97, 114, 107]
abbrev sBox : List Nat := [98, 111, 120]
abbrev sOnce : List Nat := [111, 110, 99, 101]
abbrev sAnew : List Nat := [97, 110, 101, 119]
abbrev sEarly : List Nat := [101, 97, 114, 108, 121]
abbrev sLate : List Nat := [108, 97, 116, 101]
abbrev sCls : List Nat := [99, 108, 115]
/-- data: texts are short -/
def G : Nat → PV → Bool
  | _, .non => true
  | _, .bl _ => true
  | _, .int _ => true
  | _, .str l => decide (l.length ≤ 1000)
  | n + 1, .tup xs => decide (xs.length ≤ 1000) && xs.all (G n)
  | n + 1, .lst xs => decide (xs.length ≤ 1000) && xs.all (G n)
  | _, _ => false
theorem G_isD : ∀ (n : Nat) (v : PV), G n v = true → isD n v = true
  | n, .non, _ => by cases n <;> rfl
  | n, .bl _, _ => by cases n <;> rfl
  | n, .int _, _ => by cases n <;> rfl
  | n, .str _, _ => by cases n <;> rfl
  | n + 1, .tup xs, h => by
    simp only [G, Bool.and_eq_true, List.all_eq_true] at h
    simp only [isD, List.all_eq_true]
    exact fun x hx => G_isD n x (h.2 x hx)
  | n + 1, .lst xs, h => by
    simp only [G, Bool.and_eq_true, List.all_eq_true] at h
    simp only [isD, List.all_eq_true]
    exact fun x hx => G_isD n x (h.2 x hx)
  | 0, .tup xs, h => by simp [G] at h
  | 0, .lst xs, h => by simp [G] at h
  | n, .ro xs, h => by cases n <;> simp [G] at h
  | n, .dic _ _, h => by cases n <;> simp [G] at h
  | n, .ins _ _, h => by cases n <;> simp [G] at h
  | n, .loc _, h => by cases n <;> simp [G] at h
  | n, .fn _, h => by cases n <;> simp [G] at h
  | n, .cls _, h => by cases n <;> simp [G] at h
  | n, .ty _, h => by cases n <;> simp [G] at h
theorem G_mono : ∀ (n : Nat) (v : PV), G n v = true → G (n + 1) v = true
  | n, .non, _ => by cases n <;> rfl
  | n, .bl _, _ => by cases n <;> rfl
  | n, .int _, _ => by cases n <;> rfl
  | n, .str _, h => by cases n <;> exact h
  | n + 1, .tup xs, h => by
    simp only [G, Bool.and_eq_true, List.all_eq_true] at h ⊢
    exact ⟨h.1, fun x hx => G_mono n x (h.2 x hx)⟩
  | n + 1, .lst xs, h => by
    simp only [G, Bool.and_eq_true, List.all_eq_true] at h ⊢
    exact ⟨h.1, fun x hx => G_mono n x (h.2 x hx)⟩
  | 0, .tup xs, h => by simp [G] at h
  | 0, .lst xs, h => by simp [G] at h
  | n, .ro xs, h => by cases n <;> simp [G] at h
  | n, .dic _ _, h => by cases n <;> simp [G] at h
  | n, .ins _ _, h => by cases n <;> simp [G] at h
  | n, .loc _, h => by cases n <;> simp [G] at h
  | n, .fn _, h => by cases n <;> simp [G] at h
  | n, .cls _, h => by cases n <;> simp [G] at h
  | n, .ty _, h => by cases n <;> simp [G] at h
theorem G_le {n m : Nat} {x : PV} (hm : n ≤ m) (h : G n x = true) : G m x = true := by
  induction hm with
  | refl => exact h
  | step _ ih => exact G_mono _ _ ih
theorem G_deref {n : Nat} {x : PV} {s : Store} (h : G n x = true) : deref s x = x := by
  cases x <;> first | rfl | (cases n <;> simp [G] at h)
theorem G_lb {n : Nat} {x : PV} (b : Nat) (h : G n x = true) : lb b x = true := isD_lb n b x (G_isD n x h)
theorem G_lbs {n : Nat} {l : List PV} (b : Nat) (h : ∀ x ∈ l, G n x = true) : lbs b l = true := lbs_iff.mpr fun x hx => G_lb b (h x hx)
theorem pyNe_G {x y : PV} {s : Store} (h : G dp x = true) (h' : G dp y = true) : pyNe x y s = .ok (.bl (!eqF dp x y)) s := by
  unfold pyNe
  rw [G_deref h, G_deref h', G_isD _ _ h, G_isD _ _ h']; rfl
theorem pyEq_G {x y : PV} {s : Store} (h : G dp x = true) (h' : G dp y = true) : pyEq x y s = .ok (.bl (eqF dp x y)) s := by
  unfold pyEq
  rw [G_deref h, G_deref h', G_isD _ _ h, G_isD _ _ h']; rfl
theorem pyIn_tup {x : PV} {s : Store} {xs : List PV} (h : isD dp x = true) (h' : xs.all (isD dp) = true) : pyIn x (.tup xs) s = .ok (.bl (xs.any fun z => eqF dp z x)) s := by
  unfold pyIn inP
  split
  · rename_i heq; cases heq
  · simp [h, h']
theorem pyNotIn_tup {x : PV} {s : Store} {xs : List PV} (h : isD dp x = true) (h' : xs.all (isD dp) = true) : pyNotIn x (.tup xs) s = .ok (.bl (!(xs.any fun z => eqF dp z x))) s := by
  unfold pyNotIn inP
  split
  · rename_i heq; cases heq
  · simp [h, h']
theorem pyIn_lst {x : PV} {s : Store} {xs : List PV} (h : isD dp x = true) (h' : xs.all (isD dp) = true) : pyIn x (.lst xs) s = .ok (.bl (xs.any fun z => eqF dp z x)) s := by
  unfold pyIn inP
  split
  · rename_i heq; cases heq
  · simp [h, h']
/-- what the table of classes must tell -/
structure TabOk (tab : List ((Tg × Tg) × Bool)) : Prop where
  s : ∀ b ∈ ["NoneType", "bool", "int", "str", "tuple", "list"], tab.lookup (.t b, .t "str") = some (b == "str")
  t : ∀ b ∈ ["NoneType", "bool", "int", "str", "tuple", "list"], tab.lookup (.t b, .t "tuple") = some (b == "tuple")
  b : ∀ b ∈ ["NoneType", "bool", "int", "str", "tuple", "list"], tab.lookup (.t b, .t "bool") = some (b == "bool")
def isStr : PV → Bool
  | .str _ => true
  | _ => false
def isTup : PV → Bool
  | .tup _ => true
  | _ => false
def isBl : PV → Bool
  | .bl _ => true
  | _ => false
section
variable {tab : List ((Tg × Tg) × Bool)} (K : TabOk tab) {n : Nat} {x : PV} {s : Store}
include K
theorem isi_str (h : G n x = true) : bIsi tab [x, .ty "str"] s = .ok (.bl (isStr x)) s := by
  cases x <;> first | (rw [bIsi_ty]; simp only [tgOf_non, tgOf_bl, tgOf_int, tgOf_str, tgOf_tup, tgOf_lst, Option.bind_some]; rw [K.s _ (by simp)]; rfl) | (cases n <;> simp [G] at h)
theorem isi_tup (h : G n x = true) : bIsi tab [x, .ty "tuple"] s = .ok (.bl (isTup x)) s := by
  cases x <;> first | (rw [bIsi_ty]; simp only [tgOf_non, tgOf_bl, tgOf_int, tgOf_str, tgOf_tup, tgOf_lst, Option.bind_some]; rw [K.t _ (by simp)]; rfl) | (cases n <;> simp [G] at h)
theorem isi_bool (h : G n x = true) : bIsi tab [x, .ty "bool"] s = .ok (.bl (isBl x)) s := by
  cases x <;> first | (rw [bIsi_ty]; simp only [tgOf_non, tgOf_bl, tgOf_int, tgOf_str, tgOf_tup, tgOf_lst, Option.bind_some]; rw [K.b _ (by simp)]; rfl) | (cases n <;> simp [G] at h)
end
theorem len2 {α : Type} (w : α) (r : List α) : ((((w :: r).length : Int)) == 2) = (match r with | [_] => true | _ => false) := by
  match r with
  | [] => rfl
  | [_] => rfl
  | _ :: _ :: r =>
    show ((((r.length + 3 : Nat) : Int)) == 2) = false
    rw [beq_eq_false_iff_ne]; omega
theorem len3 {α : Type} (w : α) (r : List α) : ((((w :: r).length : Int)) == 3) = (match r with | [_, _] => true | _ => false) := by
  match r with
  | [] => rfl
  | [_] => rfl
  | [_, _] => rfl
  | _ :: _ :: _ :: r =>
    show ((((r.length + 4 : Nat) : Int)) == 3) = false
    rw [beq_eq_false_iff_ne]; omega
/-! ### names -/
def inW (w : List Nat) : Bool := decide (w ∈ WDS)
def isLow (c : Nat) : Bool := decide (c ∈ ABC)
def nmB (w : List Nat) : Bool := decide (1 ≤ w.length) && decide (w.length ≤ 8) && (!inW w && w.all isLow)
def nmP : PV → Bool
  | .str w => nmB w
  | _ => false
theorem any_words (w : List Nat) : ∀ l : List (List Nat), (l.map PV.str).any (fun z => eqF dp z (.str w)) = decide (w ∈ l)
  | [] => by simp
  | x :: l => by
    simp only [List.map_cons, List.any_cons, any_words w l, List.mem_cons]
    have : eqF dp (.str x) (.str w) = (x == w) := rfl
    rw [this]
    by_cases q : x = w
    · subst q; simp
    · simp [q, Ne.symm q]
theorem wordsE : c_WORDS = .tup (WDS.map .str) := rfl
theorem notin_words (w : List Nat) (s : Store) : pyNotIn (.str w) c_WORDS s = .ok (.bl (!inW w)) s := by
  rw [wordsE, pyNotIn_tup rfl (by decide), any_words]; rfl
theorem all_map {α : Type} {s : Store} (l : List α) (p : α → Bool) : bAll [.lst (l.map fun c => PV.bl (p c))] s = .ok (.bl (l.all p)) s := by
  unfold bAll
  simp [blsOf_mapP]
section
variable {tab : List ((Tg × Tg) × Bool)} (K : TabOk tab) {n : Nat} {x : PV}
include K
theorem isname_eq (h : G n x = true) (s : Store) : d_is_name tab [x] s = .ok (.bl (nmP x)) s := by
  have fin : ∀ b, finV s (.bl b) s = .ok (.bl b) s := fun b => finV_data rfl (kept_refl _ _) (by simp)
  have hi := isi_str K (s := s) h
  unfold d_is_name
  rw [runDef_ap]
  unfold m_is_name
  by_cases hs : isStr x = true
  case neg =>
    simp [hi, hs]
    rw [fin]
    cases x <;> first | rfl | (simp [isStr] at hs)
  case pos =>
    cases x <;> first | (simp [isStr] at hs; done) | skip
    rename_i w
    have hw : w.length ≤ 1000 := by cases n <;> simpa [G] using h
    have hz : w.length ≤ sz := by simp only [sz]; omega
    have hg : compGo ⟨w.map fun c => PV.str [c], none⟩ (gName 1) qYes (eOp2 pyIn (eVar 1) (eC c_LETTERS)) [some (.str w), none] (w.map fun c => PV.str [c]) [] s = .ok (w.map fun c => PV.bl (isLow c)) s := by
      rw [compGo_pure (fun _ => true) (fun y => match y with | .str [c] => .bl (isLow c) | _ => .non)]
      · rw [List.filter_eq_self.mpr (by simp), List.nil_append, List.map_map]; rfl
      · intro y hy
        obtain ⟨c, hc, rfl⟩ := List.mem_map.mp hy
        refine ⟨_, rfl, rfl, fun _ => ?_⟩
        have : inP s (.str [c]) c_LETTERS = some (isLow c) := rfl
        simp only [eOp2_ap, eVar_ap, eC_ap]
        simp [pyIn, this]
    simp only [isStr] at hi
    by_cases g1 : 1 ≤ w.length
    · by_cases g2 : w.length ≤ 8
      · have i1 : (1 : Int) ≤ (w.length : Int) := by omega
        have i2 : (w.length : Int) ≤ 8 := by omega
        have am := all_map (s := s) w isLow
        cases hin : inW w
        · simp [hi, bLen_str _ hz, c_MOST_LETTERS, i1, i2, notin_words, hin, iSeq, hz, wipe, hg, am]
          rw [fin]
          simp only [nmP, nmB, g1, g2, hin]
          simp
        · simp [hi, bLen_str _ hz, c_MOST_LETTERS, i1, i2, notin_words, hin]
          rw [fin]
          simp only [nmP, nmB, hin]
          simp
      · have i1 : (1 : Int) ≤ (w.length : Int) := by omega
        have i2 : ¬ (w.length : Int) ≤ 8 := by omega
        simp [hi, bLen_str _ hz, c_MOST_LETTERS, i1, i2]
        rw [fin]
        simp [nmP, nmB, g2]
    · have i1 : ¬ (1 : Int) ≤ (w.length : Int) := by omega
      simp [hi, bLen_str _ hz, c_MOST_LETTERS, i1]
      rw [fin]
      simp only [nmP, nmB, decide_eq_false g1]
      simp
def strOf : PV → List Nat
  | .str w => w
  | _ => []
def ascB (xs : List PV) : Bool := (List.range (xs.length - 1)).all fun k => decide (strOf (xs.getD k .non) < strOf (xs.getD (k + 1) .non))
/-- is this a tuple of names in order -/
def itP : PV → Bool
  | .tup xs => xs.all nmP && ascB xs
  | _ => false
theorem items_eq (h : G (n + 1) x = true) (s : Store) : d_are_items tab [x] s = .ok (.bl (itP x)) s := by
  have fin : ∀ b, finV s (.bl b) s = .ok (.bl b) s := fun b => finV_data rfl (kept_refl _ _) (by simp)
  have hi := isi_tup K (s := s) h
  unfold d_are_items
  rw [runDef_ap]
  unfold m_are_items
  by_cases ht : isTup x = true
  case neg =>
    simp [hi, ht]
    rw [fin]
    cases x <;> first | rfl | (simp [isTup] at ht)
  case pos =>
    cases x <;> first | (simp [isTup] at ht; done) | skip
    rename_i xs
    simp only [G, Bool.and_eq_true, List.all_eq_true, decide_eq_true_eq] at h
    obtain ⟨hl, hx⟩ := h
    have c1 : compGo ⟨xs, none⟩ (gName 2) qYes (eCallK (fun vs _ => d_is_name tab vs) (aCons (eVar 2) aNil) aNil) [some (.tup xs), none, none] xs [] s = .ok (xs.map fun y => PV.bl (nmP y)) s := by
      rw [compGo_pure (fun _ => true) (fun y => .bl (nmP y))]
      · rw [List.filter_eq_self.mpr (by simp)]; simp
      · intro y hy
        refine ⟨_, rfl, rfl, fun _ => ?_⟩
        simp [isname_eq K (hx y hy)]
    have a1 := all_map (s := s) xs nmP
    simp only [isTup] at hi
    cases hn : xs.all nmP
    · rw [hn] at a1
      simp [hi, iSeq, wipe, c1, a1]
      rw [fin]
      simp [itP, hn]
    · rw [hn] at a1
      have st : ∀ k (hk : k < xs.length), ∃ w, xs[k] = .str w := fun k hk => by
        have := List.all_eq_true.mp hn xs[k] (List.getElem_mem hk)
        cases hz : xs[k] <;> rw [hz] at this <;> first | exact ⟨_, rfl⟩ | (simp [nmP] at this)
      have c2 : compGo ⟨(List.range (xs.length - 1)).map fun k => .int (k : Nat), none⟩ (gName 1) qYes (eOp2 pyLt (eOp2 pyIdx (eVar 0) (eVar 1)) (eOp2 pyIdx (eVar 0) (eOp2 pyAdd (eVar 1) (eC (.int 1))))) [some (.tup xs), none, none] ((List.range (xs.length - 1)).map fun k => .int (k : Nat)) [] s = .ok ((List.range (xs.length - 1)).map fun k => PV.bl (decide (strOf (xs.getD k .non) < strOf (xs.getD (k + 1) .non)))) s := by
        rw [compGo_pure (fun _ => true) (fun y => match y with | .int i => .bl (decide (strOf (xs.getD i.toNat .non) < strOf (xs.getD (i.toNat + 1) .non))) | _ => .non)]
        · rw [List.filter_eq_self.mpr (by simp), List.nil_append, List.map_map]; rfl
        · intro y hy
          obtain ⟨k, hk, rfl⟩ := List.mem_map.mp hy
          have hk' := List.mem_range.mp hk
          have b1 : k < xs.length := by omega
          have b2 : k + 1 < xs.length := by omega
          obtain ⟨u, hu⟩ := st k b1
          obtain ⟨v, hv⟩ := st (k + 1) b2
          refine ⟨_, rfl, rfl, fun _ => ?_⟩
          have a1 : atP xs (k : Int) = some (.str u) := atP_of rfl (by rw [List.getElem?_eq_getElem b1, hu])
          have a2 : atP xs ((k : Int) + 1) = some (.str v) := atP_of (j := k + 1) (by omega) (by rw [List.getElem?_eq_getElem b2, hv])
          simp [a1, a2, List.getElem?_eq_getElem b1, List.getElem?_eq_getElem b2, hu, hv, strOf]
      have a2 := all_map (s := s) (List.range (xs.length - 1)) (fun k => decide (strOf (xs.getD k .non) < strOf (xs.getD (k + 1) .non)))
      have e3 : ((xs.length : Int) - 1).toNat = xs.length - 1 := by omega
      have e4 : -4611686018427387904 ≤ (xs.length : Int) - 1 := by omega
      have e5 : (xs.length : Int) - 1 ≤ 16777216 := by omega
      generalize (List.range (xs.length - 1)).map (fun k => PV.bl (decide (strOf (xs.getD k .non) < strOf (xs.getD (k + 1) .non)))) = LL at c2 a2
      simp [hi, iSeq, wipe, c1, a1, iRange1, e3, e4, e5, c2, a2]
      rw [fin]
      simp only [itP, hn, Bool.true_and]
      rfl
/-- .. the name of a kind, or cls -/
def owP : PV → Bool
  | .str w => nmB w || w == sCls
  | _ => false
theorem owner_eq (h : G n x = true) (s : Store) : d_is_owner tab [x] s = .ok (.bl (owP x)) s := by
  have fin : ∀ b, finV s (.bl b) s = .ok (.bl b) s := fun b => finV_data rfl (kept_refl _ _) (by simp)
  have hi := isi_str K (s := s) h
  unfold d_is_owner
  rw [runDef_ap]
  unfold m_is_owner
  have h1 := isname_eq K h s
  cases hb : nmP x
  · rw [hb] at h1
    by_cases hs : isStr x = true
    · cases x <;> first | (simp [isStr] at hs; done) | skip
      rename_i w
      simp only [nmP] at hb
      simp only [isStr] at hi
      simp [-bIsi_ty, h1, hi]
      rw [fin]
      simp [owP, hb]
    · simp [-bIsi_ty, h1, hi, hs]
      rw [fin]
      cases x <;> first | rfl | (simp [isStr] at hs)
  · rw [hb] at h1
    simp [h1]
    rw [fin]
    cases x <;> first | (simp [nmP] at hb; done) | skip
    simp only [nmP] at hb
    simp [owP, hb]
theorem truth_eq (h : G n x = true) (s : Store) : d_is_truth tab [x] s = .ok (.bl (isBl x)) s := by
  have fin : ∀ b, finV s (.bl b) s = .ok (.bl b) s := fun b => finV_data rfl (kept_refl _ _) (by simp)
  unfold d_is_truth
  rw [runDef_ap]
  unfold m_is_truth
  simp [isi_bool K (s := s) h, fin]
def hwP : PV → Bool
  | .tup (.str _ :: _) => true
  | _ => false
theorem word_eq (h : G (n + 1) x = true) (s : Store) : d_has_word tab [x] s = .ok (.bl (hwP x)) s := by
  have fin : ∀ b, finV s (.bl b) s = .ok (.bl b) s := fun b => finV_data rfl (kept_refl _ _) (by simp)
  have hi := isi_tup K (s := s) h
  unfold d_has_word
  rw [runDef_ap]
  unfold m_has_word
  by_cases ht : isTup x = true
  case neg =>
    simp [hi, ht]
    rw [fin]
    cases x <;> first | rfl | (simp [isTup] at ht)
  case pos =>
    cases x <;> first | (simp [isTup] at ht; done) | skip
    rename_i xs
    simp only [G, Bool.and_eq_true, List.all_eq_true, decide_eq_true_eq] at h
    simp only [isTup] at hi
    cases xs with
    | nil => simp [hi]; rw [fin]; rfl
    | cons a r =>
      have h2 := isi_str K (s := s) (h.2 a (by simp))
      have h3 : (0 : Int) < (r.length : Int) + 1 := by omega
      simp [-bIsi_ty, hi, h2, h3]
      rw [fin]
      cases a <;> rfl
/-- what a default may be, for a parameter that holds h -/
def dfP (h : List Nat) : PV → Bool
  | .tup (.str w :: r) => if h == sMark then w == sMark && (match r with
      | [a] => nmP a
      | _ => false)
    else if w == sOnce || w == sAnew then (match r with
      | [a] => itP a
      | _ => false)
    else if w == sEarly then (match r with
      | [a, b] => nmP a && nmP b
      | _ => false)
    else w == sLate && (match r with
      | [a, b] => owP a && nmP b
      | _ => false)
  | _ => false
set_option maxHeartbeats 0 in
theorem default_eq {h : List Nat} (h1 : h.length ≠ 1) (hx : G (n + 2) x = true) (s : Store) : d_is_default tab [.str h, x] s = .ok (.bl (dfP h x)) s := by
  have fin : ∀ b, finV s (.bl b) s = .ok (.bl b) s := fun b => finV_data rfl (kept_refl _ _) (by simp)
  have hw := word_eq K hx s
  unfold d_is_default
  rw [runDef_ap]
  unfold m_is_default
  cases hb : hwP x
  case false =>
    rw [hb] at hw
    simp [hw]
    rw [fin]
    unfold dfP
    split
    · rename_i w r; simp [hwP] at hb
    · rfl
  case true =>
    rw [hb] at hw
    obtain ⟨w, r, rfl⟩ : ∃ w r, x = .tup (.str w :: r) := by
      unfold hwP at hb
      split at hb
      · exact ⟨_, _, rfl⟩
      · cases hb
    simp only [G, Bool.and_eq_true, List.all_eq_true, decide_eq_true_eq] at hx
    obtain ⟨hl, hr⟩ := hx
    have hr' : ∀ y ∈ r, G (n + 1) y = true := fun y hy => hr y (List.mem_cons_of_mem _ hy)
    have pi : pyIn (.str w) (.tup [.str sOnce, .str sAnew]) s = .ok (.bl (w == sOnce || w == sAnew)) s := by
      rw [pyIn_tup rfl rfl]
      simp only [List.any_cons, List.any_nil, Bool.or_false]
      have e1 : eqF dp (.str sOnce) (.str w) = (w == sOnce) := BEq.comm
      have e2 : eqF dp (.str sAnew) (.str w) = (w == sAnew) := BEq.comm
      rw [e1, e2]
    have L2 := len2 (PV.str w) r
    have L3 := len3 (PV.str w) r
    simp only [List.length_cons] at L2 L3
    by_cases hm : h = sMark
    · subst hm
      by_cases q : w = sMark
      · subst q
        match r, hr', L2 with
        | [a], hr', _ => simp [hw, dfP, isname_eq K (hr' a (by simp)), fin]
        | [], _, _ => simp [hw, dfP, fin]
        | a :: b :: r, _, L2 => 
          have : ¬ ((r.length : Int) + 1 + 1 + 1 = 2) := by omega
          simp [hw, dfP, fin, this]
      · have q' : (w == sMark) = false := by simpa using q
        simp [hw, q', fin]
        simp [dfP, q']
    · have hm' : (h == sMark) = false := by simpa using hm
      by_cases q1 : (w == sOnce || w == sAnew) = true
      · rw [q1] at pi
        match r, hr' with
        | [a], hr' => simp [hw, hm', pi, items_eq K (hr' a (by simp)), fin, dfP, q1]
        | [], _ => simp [hw, hm', pi, fin, dfP, q1]
        | a :: b :: r, _ =>
          have : ¬ ((r.length : Int) + 1 + 1 + 1 = 2) := by omega
          simp [hw, hm', pi, this, fin, dfP, q1]
      · simp only [Bool.not_eq_true] at q1
        rw [q1] at pi
        by_cases q2 : w = sEarly
        · subst q2
          match r, hr' with
          | [a, b], hr' =>
            have e1 := isname_eq K (hr' a (by simp)) s
            have e2 := isname_eq K (hr' b (by simp)) s
            cases ha : nmP a <;> rw [ha] at e1 <;> simp [hw, hm', pi, e1, e2, fin, dfP, q1, ha]
          | [], _ => simp [hw, hm', pi, fin, dfP, q1]
          | [_], _ => simp [hw, hm', pi, fin, dfP, q1]
          | a :: b :: c :: r, _ =>
            have : ¬ ((r.length : Int) + 1 + 1 + 1 + 1 = 3) := by omega
            simp [hw, hm', pi, this, fin, dfP, q1]
        · have q2' : (w == sEarly) = false := by simpa using q2
          by_cases q3 : w = sLate
          · subst q3
            match r, hr' with
            | [a, b], hr' =>
              have e1 := owner_eq K (hr' a (by simp)) s
              have e2 := isname_eq K (hr' b (by simp)) s
              cases ha : owP a <;> rw [ha] at e1 <;> simp [hw, hm', pi, e1, e2, fin, dfP, q1, ha]
            | [], _ => simp [hw, hm', pi, fin, dfP, q1]
            | [_], _ => simp [hw, hm', pi, fin, dfP, q1]
            | a :: b :: c :: r, _ =>
              have : ¬ ((r.length : Int) + 1 + 1 + 1 + 1 = 3) := by omega
              simp [hw, hm', pi, this, fin, dfP, q1]
          · have q3' : (w == sLate) = false := by simpa using q3
            simp [hw, hm', pi, q2', q3', fin]
            simp only [dfP, hm', q1, q2', q3', Bool.false_eq_true, if_false, Bool.false_and]
/-- the first fault of a parameter's parts: 0 name, 1 holds, 2 default, 3 named -/
def holdsOk : PV → Bool
  | .str h => h == sMark || h == sBox
  | _ => false
def parFault (nm ho de na : PV) : Option Nat :=
  if nmP nm = false then some 0 else if holdsOk ho = false then some 1 else if (match de with
    | .non => false
    | _ => !dfP (strOf ho) de) = true then some 2 else if isBl na = false then some 3 else none
variable {cN cP : Nat} {tn th td tm : List (Nat × Nat)}
theorem look_ok (h : G n x = true) (hn : nmP x = true) (s : Store) : d_look_name tab cN [x] s = .ok .non s := by
  have h1 := isname_eq K h s
  rw [hn] at h1
  unfold d_look_name
  rw [runDef_ap]
  unfold m_look_name
  simp [h1]
  rw [finV_data rfl (kept_refl _ _) (by simp)]
theorem finX_same {e : PV} {s : Store} (h : lb s.length e = true) : finX s e s = .exc e s := by
  unfold finX
  rw [if_pos ⟨kept_refl _ _, Nat.le_refl _, h⟩, List.take_length]
theorem finX_drop {e : PV} {s r : Store} (h : lb s.length e = true) : finX s e (s ++ r) = .exc e s := by
  unfold finX
  have hk : Kept s.length s (s ++ r) := fun i hi => by left; rw [List.getElem?_append_left hi]
  have hl : s.length ≤ (s ++ r).length := by simp
  rw [if_pos ⟨hk, hl, h⟩]
  simp
theorem look_bad (h : G n x = true) (hn : nmP x = false) (s : Store) : d_look_name tab cN [x] s = .exc (.ins cN [x]) s := by
  have h1 := isname_eq K h s
  rw [hn] at h1
  unfold d_look_name
  rw [runDef_ap]
  unfold m_look_name
  simp [h1]
  exact finX_same K (by simp [G_lb s.length h])
/-- what the making of a parameter comes to -/
def parRes (c0 cN cP : Nat) (nm ho de na : PV) (s : Store) : Res PV := match parFault nm ho de na with
  | some 0 => .exc (.ins cN [nm]) s
  | some 1 => .exc (.ins cP [.str [104, 111, 108, 100, 115]]) s
  | some 2 => .exc (.ins cP [.str [100, 101, 102, 97, 117, 108, 116]]) s
  | some _ => .exc (.ins cP [.str [110, 97, 109, 101, 100]]) s
  | none => .ok (.ins c0 [nm, ho, de, na]) s
structure FldOk (c0 : Nat) (tn th td tm : List (Nat × Nat)) : Prop where
  n : tn.lookup c0 = some 0
  h : th.lookup c0 = some 1
  d : td.lookup c0 = some 2
  m : tm.lookup c0 = some 3
omit K in
theorem isN_some {x : PV} (s : Store) (h : x ≠ .non) : pyIs .non x s = .ok (.bl false) s := by
  cases x <;> first | rfl | exact absurd rfl h
omit K in
theorem isN_non (s : Store) : pyIs .non .non s = .ok (.bl true) s := rfl
theorem notin_mb {h : List Nat} (s : Store) : pyNotIn (.str h) (.tup [.str sMark, .str sBox]) s = .ok (.bl (!(h == sMark || h == sBox))) s := by
  rw [pyNotIn_tup rfl rfl]
  simp only [List.any_cons, List.any_nil, Bool.or_false]
  have e1 : eqF dp (.str sMark) (.str h) = (h == sMark) := BEq.comm
  have e2 : eqF dp (.str sBox) (.str h) = (h == sBox) := BEq.comm
  rw [e1, e2]
set_option maxHeartbeats 0 in
theorem new_par {c0 : Nat} {nm ho de na : PV} (hf : FldOk c0 tn th td tm) (h1 : G 5 nm = true) (h2 : G 5 ho = true) (h3 : G 5 de = true) (h4 : G 5 na = true) (s : Store) :
    newOf c0 finV (fun vs zs => d_Param_init tab cN cP tn th td tm (pickL [0, 1, 2, 3, 4] (vs ++ ([] : List PV) ++ zs))) [nm] [ho, de, na] s = parRes c0 cN cP nm ho de na s := by
  have l1 := fun b => G_lb b h1
  have l2 := fun b => G_lb b h2
  have l3 := fun b => G_lb b h3
  have l4 := fun b => G_lb b h4
  have t4 := truth_eq K h4
  unfold newOf
  simp only [pickL, List.append_nil, List.cons_append, List.nil_append]
  show (match d_Param_init tab cN cP tn th td tm [.loc s.length, nm, ho, de, na] (s ++ [.ins c0 []]) with
    | .ok .non s1 => finV s (.loc s.length) s1
    | .ok _ _ => .stuck
    | .exc e s1 => finX s e s1
    | .stuck => .stuck) = _
  have bad : ∀ c (v : PV), (∀ b, lb b v = true) → d_Param_init tab cN cP tn th td tm [.loc s.length, nm, ho, de, na] (s ++ [.ins c0 []]) = .exc (.ins c [v]) (s ++ [.ins c0 []]) →
      (match d_Param_init tab cN cP tn th td tm [.loc s.length, nm, ho, de, na] (s ++ [.ins c0 []]) with
    | .ok .non s1 => finV s (.loc s.length) s1
    | .ok _ _ => .stuck
    | .exc e s1 => finX s e s1
    | .stuck => .stuck) = .exc (.ins c [v]) s := fun c v hv e => by
    rw [e]
    exact finX_drop K (by simp [hv])
  have body : ∀ r, m_Param_init tab cN cP tn th td tm [some (.loc s.length), some nm, some ho, some de, some na] (s ++ [.ins c0 []]) = r → d_Param_init tab cN cP tn th td tm [.loc s.length, nm, ho, de, na] (s ++ [.ins c0 []]) = (match r with
    | .ok (_, .ret v) s1 => finV (s ++ [.ins c0 []]) v s1
    | .ok (_, .next) s1 => finV (s ++ [.ins c0 []]) .non s1
    | .ok _ _ => .stuck
    | .exc e s1 => finX (s ++ [.ins c0 []]) e s1
    | .stuck => .stuck) := fun r e => by
    unfold d_Param_init
    rw [runDef_ap]
    simp only [List.map_cons, List.map_nil, List.length_cons, List.length_nil, Nat.sub_self, List.replicate_zero, List.append_nil, Nat.reduceAdd]
    rw [e] <;> rfl
  have exc : ∀ c (v : PV), (∀ b, lb b v = true) → m_Param_init tab cN cP tn th td tm [some (.loc s.length), some nm, some ho, some de, some na] (s ++ [.ins c0 []]) = .exc (.ins c [v]) (s ++ [.ins c0 []]) → _ := fun c v hv e => bad c v hv (by rw [body _ e]; exact finX_same K (by simp [hv]))
  unfold parRes parFault
  cases hn : nmP nm
  · simp only [if_true]
    refine exc cN nm l1 ?_
    unfold m_Param_init
    simp [look_bad K h1 hn]
  · simp only [Bool.true_eq_false, if_false]
    have lk := look_ok K (cN := cN) h1 hn
    cases hh : holdsOk ho
    · simp only [if_true]
      refine exc cP _ (by simp) ?_
      unfold m_Param_init
      by_cases hs : isStr ho = true
      · cases ho <;> first | (simp [isStr] at hs; done) | skip
        rename_i w
        have i2 := isi_str K (s := s ++ [.ins c0 []]) h2
        simp only [isStr] at i2
        simp only [holdsOk] at hh
        have nm2 := notin_mb K (h := w) (s ++ [.ins c0 []])
        rw [hh] at nm2
        simp [-bIsi_ty, lk, i2, nm2]
      · have i2 := isi_str K (s := s ++ [.ins c0 []]) h2
        simp [-bIsi_ty, lk, i2, hs]
    · simp only [Bool.true_eq_false, if_false]
      obtain ⟨w, rfl, hw⟩ : ∃ w, ho = .str w ∧ (w == sMark || w == sBox) = true := by
        cases ho <;> first | (simp [holdsOk] at hh; done) | skip
        exact ⟨_, rfl, hh⟩
      have i2 := isi_str K (s := s ++ [.ins c0 []]) h2
      simp only [isStr] at i2
      have nm2 := notin_mb K (h := w) (s ++ [.ins c0 []])
      rw [hw] at nm2
      have wl : w.length ≠ 1 := by
        simp only [Bool.or_eq_true, beq_iff_eq] at hw
        rcases hw with rfl | rfl <;> decide
      by_cases hd : (match de with | .non => false | _ => !dfP (strOf (.str w)) de) = true
      · rw [if_pos hd]
        refine exc cP _ (by simp) ?_
        unfold m_Param_init
        have nd : de ≠ .non := by intro e; subst e; simp at hd
        have hd2 : dfP w de = false := by
          cases de <;> first | exact absurd rfl nd | (simpa [strOf] using hd)
        have df := default_eq K (n := 3) wl h3 (s ++ [.ins c0 []])
        rw [hd2] at df
        simp [-bIsi_ty, lk, i2, nm2, isN_some _ nd, df]
      · rw [if_neg hd]
        have pre : ∀ s' : Store, s' = s ++ [.ins c0 []] → (qAnd (qBl (eNotB (eOp1 (pyIs .non) (eVar 3)))) (qNot (qOf (eCallK (fun vs _ => d_is_default tab vs) (aCons (eVar 2) (aCons (eVar 3) (aNil))) (aNil))))) [some (.loc s.length), some nm, some (.str w), some de, some na] s' = .ok false s' := fun s' es => by
          by_cases nd : de = .non
          · subst nd; simp [isN_non]
          · have hd2 : dfP w de = true := by
              cases de <;> first | exact absurd rfl nd | (simpa [strOf] using hd)
            have df := default_eq K (n := 3) wl h3 s'
            rw [hd2] at df
            simp [isN_some _ nd, df]
        cases hb : isBl na
        · simp only [if_true]
          refine exc cP _ (by simp) ?_
          rw [hb] at t4
          unfold m_Param_init
          have p := pre _ rfl
          rw [sSeq_ap]
          simp [-bIsi_ty, -qAnd_ap, lk, i2, nm2, p, t4]
        · simp only [Bool.true_eq_false, if_false]
          rw [hb] at t4
          have p := pre _ rfl
          have e : m_Param_init tab cN cP tn th td tm [some (.loc s.length), some nm, some (.str w), some de, some na] (s ++ [.ins c0 []]) = .ok ([some (.loc s.length), some nm, some (.str w), some de, some na], .next) (s ++ [.ins c0 [nm, .str w, de, na]]) := by
            unfold m_Param_init
            rw [sSeq_ap]
            simp [-bIsi_ty, -qAnd_ap, lk, i2, nm2, p, t4, hf.n, hf.h, hf.d, hf.m, putF]
          rw [body _ e]
          have f1 : finV (s ++ [.ins c0 []]) .non (s ++ [.ins c0 [nm, .str w, de, na]]) = .ok .non (s ++ [.ins c0 [nm, .str w, de, na]]) := finV_data (by simp) (kept_mid s [] _ _ (by simp [l1, l3, l4])) (by simp)
          simp only [f1]
          exact finV_new rfl (kept_refl _ _) (Nat.le_refl _) (by simp) (by simp [l1, l3, l4])
end
end PL
namespace K38
open PySem PySem.Spec PyProof.Rows L2 Mir
/-! ## the text of law_k38_callers_made -/
def top (i : Nat) : Stmt := PySem.Challenge.pw_oncedefaults_k38_callers_made.main.body.getD i (.Pass ⟨0, 0, 0, 0⟩)
def sub (i j : Nat) : Stmt := (clsBody (top i)).getD j (.Pass ⟨0, 0, 0, 0⟩)
def caN : List Str := ["Callers", "BadCallers"]
def flN : List (List Str) := [["methods", "changes", "passes"], ["part"]]
def file0 : Str := PySem.Challenge.pw_oncedefaults_k38_callers_made.main.file
abbrev tb (K : PySem.W.Frag) : Tb := tbM K caN flN
def c_LETTERS : PV := .str [97, 98, 99, 100, 101, 102, 103, 104, 105, 106, 107, 108, 109, 110, 111, 112, 113, 114, 115, 116, 117, 118, 119, 120, 121, 122]
def c_WORDS : PV := .tup [.str [109, 97, 114, 107, 115], .str [107, 105, 110, 100], .str [118, 97, 108, 117, 101], .str [100, 101, 102], .str [114, 101, 116, 117, 114, 110], .str [110, 111, 110, 101], .str [99, 111, 112, 121], .str [105, 102], .str [117, 110, 108, 101, 115, 115], .str [105, 110], .str [105, 115], .str [109, 97, 114, 107], .str [98, 111, 120], .str [111, 110, 99, 101], .str [97, 110, 101, 119], .str [101, 97, 114, 108, 121], .str [108, 97, 116, 101], .str [99, 108, 115], .str [115, 101, 108, 102], .str [109, 101, 116, 104, 111, 100]]
def c_MOST_LETTERS : PV := .int 8
def t_passes : List (Nat × Nat) := [(0, 2)]
def t_changes : List (Nat × Nat) := [(0, 1)]
def t_methods : List (Nat × Nat) := [(0, 0)]
def isiT : List ((Tg × Tg) × Bool) := [((.t "NoneType", .t "str"), false), ((.t "bool", .t "str"), false), ((.t "int", .t "str"), false), ((.t "str", .t "str"), true), ((.t "tuple", .t "str"), false), ((.t "list", .t "str"), false), ((.c 0, .t "str"), false), ((.t "NoneType", .t "tuple"), false), ((.t "bool", .t "tuple"), false), ((.t "int", .t "tuple"), false), ((.t "str", .t "tuple"), false), ((.t "tuple", .t "tuple"), true), ((.t "list", .t "tuple"), false), ((.c 0, .t "tuple"), false), ((.t "NoneType", .t "bool"), false), ((.t "bool", .t "bool"), true), ((.t "int", .t "bool"), false), ((.t "str", .t "bool"), false), ((.t "tuple", .t "bool"), false), ((.t "list", .t "bool"), false), ((.c 0, .t "bool"), false), ((.t "NoneType", .c 0), false), ((.t "bool", .c 0), false), ((.t "int", .c 0), false), ((.t "str", .c 0), false), ((.t "tuple", .c 0), false), ((.t "list", .c 0), false), ((.c 0, .c 0), true)]
@[simp] theorem isi_0 : isiT.lookup (.t "NoneType", .t "str") = some false := by decide
@[simp] theorem isi_1 : isiT.lookup (.t "bool", .t "str") = some false := by decide
@[simp] theorem isi_2 : isiT.lookup (.t "int", .t "str") = some false := by decide
@[simp] theorem isi_3 : isiT.lookup (.t "str", .t "str") = some true := by decide
@[simp] theorem isi_4 : isiT.lookup (.t "tuple", .t "str") = some false := by decide
@[simp] theorem isi_5 : isiT.lookup (.t "list", .t "str") = some false := by decide
@[simp] theorem isi_6 : isiT.lookup (.c 0, .t "str") = some false := by decide
@[simp] theorem isi_7 : isiT.lookup (.t "NoneType", .t "tuple") = some false := by decide
@[simp] theorem isi_8 : isiT.lookup (.t "bool", .t "tuple") = some false := by decide
@[simp] theorem isi_9 : isiT.lookup (.t "int", .t "tuple") = some false := by decide
@[simp] theorem isi_10 : isiT.lookup (.t "str", .t "tuple") = some false := by decide
@[simp] theorem isi_11 : isiT.lookup (.t "tuple", .t "tuple") = some true := by decide
@[simp] theorem isi_12 : isiT.lookup (.t "list", .t "tuple") = some false := by decide
@[simp] theorem isi_13 : isiT.lookup (.c 0, .t "tuple") = some false := by decide
@[simp] theorem isi_14 : isiT.lookup (.t "NoneType", .t "bool") = some false := by decide
@[simp] theorem isi_15 : isiT.lookup (.t "bool", .t "bool") = some true := by decide
@[simp] theorem isi_16 : isiT.lookup (.t "int", .t "bool") = some false := by decide
@[simp] theorem isi_17 : isiT.lookup (.t "str", .t "bool") = some false := by decide
@[simp] theorem isi_18 : isiT.lookup (.t "tuple", .t "bool") = some false := by decide
@[simp] theorem isi_19 : isiT.lookup (.t "list", .t "bool") = some false := by decide
@[simp] theorem isi_20 : isiT.lookup (.c 0, .t "bool") = some false := by decide
@[simp] theorem isi_21 : isiT.lookup (.t "NoneType", .c 0) = some false := by decide
@[simp] theorem isi_22 : isiT.lookup (.t "bool", .c 0) = some false := by decide
@[simp] theorem isi_23 : isiT.lookup (.t "int", .c 0) = some false := by decide
@[simp] theorem isi_24 : isiT.lookup (.t "str", .c 0) = some false := by decide
@[simp] theorem isi_25 : isiT.lookup (.t "tuple", .c 0) = some false := by decide
@[simp] theorem isi_26 : isiT.lookup (.t "list", .c 0) = some false := by decide
@[simp] theorem isi_27 : isiT.lookup (.c 0, .c 0) = some true := by decide
/-! ### what the defs do -/
noncomputable section
def N_is_truth : List Str := ["thing"]
def m_is_truth : SM := sRet (eBlt (bIsi isiT) (aCons (eVar 0) (aCons (eC (.ty "bool")) (aNil))))
def d_is_truth : ON := runDef finV 1 m_is_truth
def N_is_name : List Str := ["thing", "sign"]
def m_is_name : SM := sSeq (sIf (qOr (qNot (qOf (eBlt (bIsi isiT) (aCons (eVar 0) (aCons (eC (.ty "str")) (aNil)))))) (qNot (qBl (eChain pyLe pyLe (eC (.int 1)) (eBlt bLen (aCons (eVar 0) (aNil))) (eC c_MOST_LETTERS))))) (sRet (eC (.bl false))) (sNext)) (sRet (eAnd (eOp2 pyNotIn (eVar 0) (eC c_WORDS)) (eBlt bAll (aCons (eLst (aComp (iSeq (eVar 0)) (gName 1) (qYes) (eOp2 pyIn (eVar 1) (eC c_LETTERS)) [1])) (aNil)))))
def d_is_name : ON := runDef finV 2 m_is_name
def N_are_pairs : List Str := ["thing", "k", "pair"]
def b_are_pairs_0 : SM := sSeq (sIf (qOr (qNot (qOf (eBlt (bIsi isiT) (aCons (eVar 2) (aCons (eC (.ty "tuple")) (aNil)))))) (qBl (eOp2 pyNe (eBlt bLen (aCons (eVar 2) (aNil))) (eC (.int 2))))) (sRet (eC (.bl false))) (sNext)) (sIf (qOr (qNot (qOf (eCallK (fun vs _ => d_is_name vs) (aCons (eOp2 pyIdx (eVar 2) (eC (.int 0))) (aNil)) (aNil)))) (qOr (qNot (qOf (eCallK (fun vs _ => d_is_name vs) (aCons (eOp2 pyIdx (eVar 2) (eC (.int 1))) (aNil)) (aNil)))) (qBl (eOp2 pyIn (eVar 2) (eSlice (eVar 0) (oNone) (oSome (eVar 1))))))) (sRet (eC (.bl false))) (sNext))
def m_are_pairs : SM := sSeq (sIf (qNot (qOf (eBlt (bIsi isiT) (aCons (eVar 0) (aCons (eC (.ty "tuple")) (aNil)))))) (sRet (eC (.bl false))) (sNext)) (sSeq (sFor (iEnum (eVar 0)) (gTup [1, 2]) (b_are_pairs_0)) (sRet (eC (.bl true))))
def d_are_pairs : ON := runDef finV 3 m_are_pairs
def N_Callers_init : List Str := ["self", "methods", "changes", "passes"]
def m_Callers_init : SM := sSeq (sIf (qAnd (qBl (eNotB (eOp1 (pyIs .non) (eVar 1)))) (qNot (qOf (eCallK (fun vs _ => d_are_pairs vs) (aCons (eVar 1) (aNil)) (aNil))))) (sRaise 1 (aCons (eC (.str [109, 101, 116, 104, 111, 100, 115])) (aNil))) (sNext)) (sSeq (sIf (qNot (qOf (eCallK (fun vs _ => d_is_truth vs) (aCons (eVar 2) (aNil)) (aNil)))) (sRaise 1 (aCons (eC (.str [99, 104, 97, 110, 103, 101, 115])) (aNil))) (sNext)) (sSeq (sIf (qNot (qOf (eCallK (fun vs _ => d_is_truth vs) (aCons (eVar 3) (aNil)) (aNil)))) (sRaise 1 (aCons (eC (.str [112, 97, 115, 115, 101, 115])) (aNil))) (sNext)) (sSeq (sSetF t_methods (eVar 0) (eVar 1)) (sSeq (sSetF t_changes (eVar 0) (eVar 2)) (sSetF t_passes (eVar 0) (eVar 3))))))
def d_Callers_init : ON := runDef finV 4 m_Callers_init
def N_Callers_eq : List Str := ["self", "other"]
def m_Callers_eq : SM := sSeq (sIf (qNot (qOf (eBlt (bIsi isiT) (aCons (eVar 1) (aCons (eC (.cls 0)) (aNil)))))) (sRet (eC (.bl false))) (sNext)) (sRet (eAnd (eOp2 pyEq (eFld t_methods (eVar 0)) (eFld t_methods (eVar 1))) (eAnd (eOp2 pyEq (eFld t_changes (eVar 0)) (eFld t_changes (eVar 1))) (eOp2 pyEq (eFld t_passes (eVar 0)) (eFld t_passes (eVar 1))))))
def d_Callers_eq : ON := runDef finV 2 m_Callers_eq
def eqG : List Tg := [.t "NoneType", .t "bool", .t "int", .t "str", .t "tuple", .t "list", .c 0]
def eqT : EqTab := [(0, eqG, fun vs _ => d_Callers_eq vs)]
def N_law_made : List Str := ["_law_parts", "e"]
def m_law_made : SM := sSeq (sTry (sRet (eCallK (newOf 0 finV (fun vs zs => d_Callers_init (pickL [0, 1, 3, 4] (vs ++ ([(.non)] : List PV) ++ ([] : List PV) ++ zs)))) (aCons (eOp2 pyIdx (eVar 0) (eC (.int 0))) (aNil)) (aCons (eOp2 pyIdx (eVar 0) (eC (.int 1))) (aCons (eOp2 pyIdx (eVar 0) (eC (.int 2))) (aNil))))) [⟨[(1, true)], some 1, fun _ vs => sIf (qAnd (qOf (eXis true vs)) (qNot (qOf (eXis false vs)))) (sRet (eXf 0 vs)) (sNext)⟩]) (sRet (eC .non))
def d_law_made : ON := runDef finV 2 m_law_made
def N_law_are_pairs : List Str := ["_law_thing", "_law_names_here", "_law_k", "_law_pair"]
def b_law_are_pairs_0 : SM := sSeq (sAsg (eOp2 pyIdx (eVar 0) (eVar 2)) (gName 3)) (sSeq (sIf (qOr (qNot (qOf (eBlt (bIsi isiT) (aCons (eVar 3) (aCons (eC (.ty "tuple")) (aNil)))))) (qOr (qBl (eOp2 pyNe (eBlt bLen (aCons (eVar 3) (aNil))) (eC (.int 2)))) (qBl (eOp2 pyIn (eVar 3) (eSlice (eVar 0) (oNone) (oSome (eVar 2))))))) (sRet (eC (.bl false))) (sNext)) (sIf (qOr (qBl (eOp2 pyNotIn (eOp2 pyIdx (eVar 3) (eC (.int 0))) (eVar 1))) (qBl (eOp2 pyNotIn (eOp2 pyIdx (eVar 3) (eC (.int 1))) (eVar 1)))) (sRet (eC (.bl false))) (sNext)))
def m_law_are_pairs : SM := sSeq (sIf (qNot (qOf (eBlt (bIsi isiT) (aCons (eVar 0) (aCons (eC (.ty "tuple")) (aNil)))))) (sRet (eC (.bl false))) (sNext)) (sSeq (sFor (iRange1 (eBlt bLen (aCons (eVar 0) (aNil)))) (gName 2) (b_law_are_pairs_0)) (sRet (eC (.bl true))))
def d_law_are_pairs : ON := runDef finV 4 m_law_are_pairs
def N_law_due : List Str := ["_law_parts", "_law_names_here"]
def m_law_due : SM := sSeq (sIf (qAnd (qBl (eNotB (eOp1 (pyIs .non) (eOp2 pyIdx (eVar 0) (eC (.int 0)))))) (qNot (qOf (eCallK (fun vs _ => d_law_are_pairs vs) (aCons (eOp2 pyIdx (eVar 0) (eC (.int 0))) (aCons (eVar 1) (aNil))) (aNil))))) (sRet (eC (.str [109, 101, 116, 104, 111, 100, 115]))) (sNext)) (sSeq (sIf (qNot (qOf (eBlt (bIsi isiT) (aCons (eOp2 pyIdx (eVar 0) (eC (.int 1))) (aCons (eC (.ty "bool")) (aNil)))))) (sRet (eC (.str [99, 104, 97, 110, 103, 101, 115]))) (sNext)) (sRet (eIf (qOf (eBlt (bIsi isiT) (aCons (eOp2 pyIdx (eVar 0) (eC (.int 2))) (aCons (eC (.ty "bool")) (aNil))))) (eC .non) (eC (.str [112, 97, 115, 115, 101, 115])))))
def d_law_due : ON := runDef finV 2 m_law_due
def N_law_draw : List Str := ["_law_bag_here", "_law_many", "_law_cell", "_law_digit"]
def m_law_draw : SM := sSeq (sIf (qAnd (qBl (eOp2 pyEq (eOp2 pyIdx (eVar 0) (eC (.int 0))) (eC (.int 0)))) (qBl (eOp2 pyGt (eBlt bLen (aCons (eVar 0) (aNil))) (eC (.int 3))))) (sSeq (sAsg (eMt mPop (eVar 0) (aCons (eC (.int 3)) (aNil))) (gName 2)) (sIf (qBl (eOp2 pyGe (eVar 2) (eOp2 pyPow (eC (.int 10)) (eC (.int 18))))) (sSetI (eVar 0) (eC (.int 0)) (eVar 2)) (sSetI (eVar 0) (eC (.int 1)) (eOp2 pyMod (eBlt bInt (aCons (eOp2 pyAdd (eOp2 pyMul (eOp2 pyIdx (eVar 0) (eC (.int 1))) (eC (.int 69621))) (eVar 2)) (aNil))) (eC (.int 2147483647)))))) (sNext)) (sSeq (sIf (qBl (eOp2 pyGt (eOp2 pyIdx (eVar 0) (eC (.int 0))) (eC (.int 0)))) (sSeq (sAsg (eOp2 pyMod (eBlt bInt (aCons (eOp2 pyIdx (eVar 0) (eC (.int 0))) (aNil))) (eVar 1)) (gName 3)) (sSeq (sSetI (eVar 0) (eC (.int 0)) (eOp2 pyFdiv (eOp2 pyIdx (eVar 0) (eC (.int 0))) (eVar 1))) (sRet (eVar 3)))) (sNext)) (sSeq (sAugI (eVar 0) (eC (.int 2)) (eC (.int 1))) (sSeq (sSetI (eVar 0) (eC (.int 1)) (eOp2 pyMod (eBlt bInt (aCons (eOp2 pyAdd (eOp2 pyMul (eOp2 pyIdx (eVar 0) (eC (.int 1))) (eC (.int 48271))) (eOp2 pyMul (eOp2 pyIdx (eVar 0) (eC (.int 2))) (eC (.int 9973)))) (aNil))) (eC (.int 2147483629)))) (sRet (eOp2 pyMod (eBlt bInt (aCons (eOp2 pyFdiv (eOp2 pyIdx (eVar 0) (eC (.int 1))) (eC (.int 5))) (aNil))) (eVar 1))))))
def d_law_draw : ON := runDef finV 4 m_law_draw
def N_law_truth : List Str := ["_law_bag_here"]
def m_law_truth : SM := sRet (eOp2 pyIdx (eLst (aCons (eC (.bl true)) (aCons (eC (.bl false)) (aCons (eC (.bl true)) (aCons (eC (.bl false)) (aCons (eC (.bl true)) (aCons (eC (.bl false)) (aCons (eC .non) (aCons (eC (.int 1)) (aCons (eC (.int 0)) (aCons (eC (.str [84, 114, 117, 101])) (aCons (eTup (aNil)) (aNil))))))))))))) (eCallK (fun vs _ => d_law_draw vs) (aCons (eVar 0) (aCons (eC (.int 11)) (aNil))) (aNil)))
def d_law_truth : ON := runDef finV 1 m_law_truth
def N_law_pairs_drawn : List Str := ["_law_bag_here", "_law_names_here", "_law_found", "_law_k"]
def b_law_pairs_drawn_0 : SM := sExp (eMt mAppend (eVar 2) (aCons (eTup (aCons (eOp2 pyIdx (eVar 1) (eCallK (fun vs _ => d_law_draw vs) (aCons (eVar 0) (aCons (eBlt bLen (aCons (eVar 1) (aNil))) (aNil))) (aNil))) (aCons (eOp2 pyIdx (eVar 1) (eCallK (fun vs _ => d_law_draw vs) (aCons (eVar 0) (aCons (eBlt bLen (aCons (eVar 1) (aNil))) (aNil))) (aNil))) (aNil)))) (aNil)))
def m_law_pairs_drawn : SM := sSeq (sNew (aNil) 2) (sSeq (sFor (iRange1 (eCallK (fun vs _ => d_law_draw vs) (aCons (eVar 0) (aCons (eC (.int 5)) (aNil))) (aNil))) (gName 3) (b_law_pairs_drawn_0)) (sRet (eBlt bTuple (aCons (eVar 2) (aNil)))))
def d_law_pairs_drawn : ON := runDef finV 4 m_law_pairs_drawn
def N_law_methods : List Str := ["_law_bag_here", "_law_names_here", "_law_pairs", "_law_word", "_law_odd"]
def m_law_methods : SM := sSeq (sAsg (eCallK (fun vs _ => d_law_pairs_drawn vs) (aCons (eVar 0) (aCons (eVar 1) (aNil))) (aNil)) (gName 2)) (sSeq (sAsg (eCallK (fun vs _ => d_law_draw vs) (aCons (eVar 0) (aCons (eC (.int 9)) (aNil))) (aNil)) (gName 3)) (sSeq (sIf (qBl (eOp2 pyLt (eVar 3) (eC (.int 4)))) (sRet (eIf (qBl (eOp2 pyEq (eVar 3) (eC (.int 0)))) (eC .non) (eVar 2))) (sNext)) (sSeq (sIf (qBl (eOp2 pyEq (eVar 3) (eC (.int 4)))) (sRet (eBlt bList (aCons (eVar 2) (aNil)))) (sNext)) (sSeq (sIf (qBl (eOp2 pyEq (eVar 3) (eC (.int 5)))) (sRet (eOp2 pyAdd (eVar 2) (eTup (aCons (eTup (aCons (eJoin (eC (.str [])) (eLst (aCons (eOp2 pyIdx (eVar 1) (eC (.int 0))) (aCons (eOp2 pyIdx (eVar 1) (eC (.int 1))) (aCons (eC (.str [97, 97, 97, 97, 97, 97, 97, 97])) (aNil)))))) (aCons (eOp2 pyIdx (eVar 1) (eC (.int 1))) (aNil)))) (aNil))))) (sNext)) (sSeq (sIf (qBl (eOp2 pyEq (eVar 3) (eC (.int 6)))) (sRet (eOp2 pyAdd (eVar 2) (eTup (aCons (eTup (aCons (eOp2 pyIdx (eVar 1) (eC (.int 0))) (aCons (eOp2 pyIdx (eVar 1) (eC (.int 1))) (aCons (eOp2 pyIdx (eVar 1) (eC (.int 2))) (aNil))))) (aNil))))) (sNext)) (sSeq (sIf (qBl (eOp2 pyEq (eVar 3) (eC (.int 7)))) (sRet (eOp2 pyAdd (eVar 2) (eTup (aCons (eLst (aCons (eOp2 pyIdx (eVar 1) (eC (.int 0))) (aCons (eOp2 pyIdx (eVar 1) (eC (.int 1))) (aNil)))) (aNil))))) (sNext)) (sSeq (sAsg (eLst (aCons (eC (.bl true)) (aCons (eC (.bl false)) (aCons (eC (.int 0)) (aCons (eC (.str [])) (aCons (eC (.str [99, 108, 115])) (aCons (eTup (aCons (eC (.str [98, 111, 120])) (aCons (eOp2 pyIdx (eVar 1) (eC (.int 0))) (aNil)))) (aCons (eTup (aCons (eTup (aCons (eOp2 pyIdx (eVar 1) (eC (.int 0))) (aCons (eC (.str [109, 101, 116, 104, 111, 100])) (aNil)))) (aNil))) (aCons (eTup (aCons (eTup (aCons (eOp2 pyIdx (eVar 1) (eC (.int 0))) (aCons (eC .non) (aNil)))) (aNil))) (aCons (eTup (aCons (eC (.int 1)) (aCons (eC (.int 2)) (aNil)))) (aNil))))))))))) (gName 4)) (sRet (eOp2 pyIdx (eVar 4) (eCallK (fun vs _ => d_law_draw vs) (aCons (eVar 0) (aCons (eBlt bLen (aCons (eVar 4) (aNil))) (aNil))) (aNil)))))))))))
def d_law_methods : ON := runDef finV 5 m_law_methods
def N_law_names : List Str := ["_law_bag_here", "_law_many", "_law_letters", "_law_kept", "_law_shift", "_law_spare", "_law_found", "_law_k", "_law_word", "_law_j"]
def b_law_names_0 : SM := sSeq (sAsg (eJoin (eC (.str [])) (eLst (aComp (iRange1 (eCallK (fun vs _ => d_law_draw vs) (aCons (eVar 0) (aCons (eC (.int 7)) (aNil))) (aNil))) (gName 9) (qYes) (eOp2 pyIdx (eVar 2) (eCallK (fun vs _ => d_law_draw vs) (aCons (eVar 0) (aCons (eC (.int 26)) (aNil))) (aNil))) [9]))) (gName 8)) (sSeq (sAsg (eOp2 pyAdd (eVar 8) (eOp2 pyIdx (eVar 2) (eOp2 pyMod (eBlt bInt (aCons (eOp2 pyAdd (eVar 4) (eVar 7)) (aNil))) (eC (.int 26))))) (gName 8)) (sExp (eMt mAppend (eVar 6) (aCons (eIf (qBl (eOp2 pyIn (eVar 8) (eSplit (eVar 3) (eC (.str [32]))))) (eOp2 pyAdd (eOp2 pyAdd (eVar 8) (eVar 5)) (eVar 5)) (eVar 8)) (aNil)))))
def m_law_names : SM := sSeq (sAsg (eC (.str [97, 98, 99, 100, 101, 102, 103, 104, 105, 106, 107, 108, 109, 110, 111, 112, 113, 114, 115, 116, 117, 118, 119, 120, 121, 122])) (gName 2)) (sSeq (sAsg (eC (.str [109, 97, 114, 107, 115, 32, 107, 105, 110, 100, 32, 118, 97, 108, 117, 101, 32, 100, 101, 102, 32, 114, 101, 116, 117, 114, 110, 32, 110, 111, 110, 101, 32, 99, 111, 112, 121, 32, 105, 102, 32, 117, 110, 108, 101, 115, 115, 32, 105, 110, 32, 105, 115, 32, 109, 97, 114, 107, 32, 98, 111, 120, 32, 111, 110, 99, 101, 32, 97, 110, 101, 119, 32, 101, 97, 114, 108, 121, 32, 108, 97, 116, 101, 32, 99, 108, 115, 32, 115, 101, 108, 102, 32, 109, 101, 116, 104, 111, 100])) (gName 3)) (sSeq (sAsg (eCallK (fun vs _ => d_law_draw vs) (aCons (eVar 0) (aCons (eC (.int 26)) (aNil))) (aNil)) (gName 4)) (sSeq (sAsg (eOp2 pyIdx (eVar 2) (eOp2 pyMod (eBlt bInt (aCons (eOp2 pyAdd (eVar 4) (eVar 1)) (aNil))) (eC (.int 26)))) (gName 5)) (sSeq (sNew (aNil) 6) (sSeq (sFor (iRange1 (eVar 1)) (gName 7) (b_law_names_0)) (sRet (eVar 6)))))))
def d_law_names : ON := runDef finV 10 m_law_names
def N_law_bag : List Str := ["_law_script"]
def m_law_bag : SM := sRetL (aCat (eLst (aCons (eC (.int 0)) (aCons (eC (.int 7)) (aCons (eC (.int 0)) (aNil))))) (eBlt bList (aCons (eVar 0) (aNil))))
def d_law_bag : ON := runDef finL 1 m_law_bag
def N_law : List Str := ["_law_script", "_law_bag_here", "_law_names_here", "_law_made_here", "_law_k", "_law_one", "_law_plain", "_law_parts", "_law_due_here", "_law_actual", "_law_other"]
def b_law_0 : SM := sIf (qOr (qBl (eOp2 pyNe (eOwnEq eqT (eOp2 pyIdx (eVar 5) (eC (.int 1))) (eOp2 pyIdx (eVar 10) (eC (.int 1)))) (eOp2 pyEq (eOp2 pyIdx (eVar 5) (eC (.int 0))) (eOp2 pyIdx (eVar 10) (eC (.int 0)))))) (qBl (eOp2 pyEq (eOwnNe eqT (eOp2 pyIdx (eVar 5) (eC (.int 1))) (eOp2 pyIdx (eVar 10) (eC (.int 1)))) (eOp2 pyEq (eOp2 pyIdx (eVar 5) (eC (.int 0))) (eOp2 pyIdx (eVar 10) (eC (.int 0))))))) (sRet (eC (.bl false))) (sNext)
def b_law_1 : SM := sSeq (sFor (iSeq (eVar 3)) (gName 10) (b_law_0)) (sSeq (sIf (qOr (qBl (eOwnNe eqT (eOp2 pyIdx (eVar 5) (eC (.int 1))) (eCallK (newOf 0 finV (fun vs zs => d_Callers_init (pickL [0, 1, 3, 4] (vs ++ ([(.non)] : List PV) ++ ([] : List PV) ++ zs)))) (aCons (eOp2 pyIdx (eOp2 pyIdx (eVar 5) (eC (.int 0))) (eC (.int 0))) (aNil)) (aCons (eOp2 pyIdx (eOp2 pyIdx (eVar 5) (eC (.int 0))) (eC (.int 1))) (aCons (eOp2 pyIdx (eOp2 pyIdx (eVar 5) (eC (.int 0))) (eC (.int 2))) (aNil)))))) (qBl (eOwnEq eqT (eOp2 pyIdx (eVar 5) (eC (.int 1))) (eOp2 pyIdx (eVar 5) (eC (.int 0)))))) (sRet (eC (.bl false))) (sNext)) (sSeq (sIf (qBl (eOwnEq eqT (eOp2 pyIdx (eVar 5) (eC (.int 1))) (eCallK (newOf 0 finV (fun vs zs => d_Callers_init (pickL [0, 1, 3, 4] (vs ++ ([(.non)] : List PV) ++ ([] : List PV) ++ zs)))) (aCons (eOp2 pyIdx (eOp2 pyIdx (eVar 5) (eC (.int 0))) (eC (.int 0))) (aNil)) (aCons (eNot (eOp2 pyIdx (eOp2 pyIdx (eVar 5) (eC (.int 0))) (eC (.int 1)))) (aCons (eOp2 pyIdx (eOp2 pyIdx (eVar 5) (eC (.int 0))) (eC (.int 2))) (aNil)))))) (sRet (eC (.bl false))) (sNext)) (sIf (qBl (eOwnEq eqT (eOp2 pyIdx (eVar 5) (eC (.int 1))) (eCallK (newOf 0 finV (fun vs zs => d_Callers_init (pickL [0, 1, 3, 4] (vs ++ ([(.non)] : List PV) ++ ([] : List PV) ++ zs)))) (aCons (eOp2 pyIdx (eOp2 pyIdx (eVar 5) (eC (.int 0))) (eC (.int 0))) (aNil)) (aCons (eOp2 pyIdx (eOp2 pyIdx (eVar 5) (eC (.int 0))) (eC (.int 1))) (aCons (eNot (eOp2 pyIdx (eOp2 pyIdx (eVar 5) (eC (.int 0))) (eC (.int 2)))) (aNil)))))) (sRet (eC (.bl false))) (sNext))))
def b_law_2 : SM := sSeq (sAsg (eTup (aCons (eCallK (fun vs _ => d_law_methods vs) (aCons (eVar 1) (aCons (eVar 2) (aNil))) (aNil)) (aCons (eCallK (fun vs _ => d_law_truth vs) (aCons (eVar 1) (aNil)) (aNil)) (aCons (eCallK (fun vs _ => d_law_truth vs) (aCons (eVar 1) (aNil)) (aNil)) (aNil))))) (gName 7)) (sSeq (sAsg (eCallK (fun vs _ => d_law_due vs) (aCons (eVar 7) (aCons (eVar 2) (aNil))) (aNil)) (gName 8)) (sSeq (sAsg (eCallK (fun vs _ => d_law_made vs) (aCons (eVar 7) (aNil)) (aNil)) (gName 9)) (sSeq (sIf (qBl (eNotB (eOp1 (pyIs .non) (eVar 8)))) (sSeq (sIf (qOr (qNot (qOf (eBlt (bIsi isiT) (aCons (eVar 9) (aCons (eC (.ty "str")) (aNil)))))) (qBl (eOp2 pyNe (eVar 9) (eVar 8)))) (sRet (eC (.bl false))) (sNext)) (sCont)) (sNext)) (sSeq (sIf (qOr (qNot (qOf (eBlt (bIsi isiT) (aCons (eVar 9) (aCons (eC (.cls 0)) (aNil)))))) (qBl (eOp2 pyNe (eFld t_methods (eVar 9)) (eOp2 pyIdx (eVar 7) (eC (.int 0)))))) (sRet (eC (.bl false))) (sNext)) (sSeq (sIf (qOr (qBl (eOp2 pyNe (eBlt bRepr (aCons (eFld t_changes (eVar 9)) (aNil))) (eBlt bRepr (aCons (eOp2 pyIdx (eVar 7) (eC (.int 1))) (aNil))))) (qBl (eOp2 pyNe (eBlt bRepr (aCons (eFld t_passes (eVar 9)) (aNil))) (eBlt bRepr (aCons (eOp2 pyIdx (eVar 7) (eC (.int 2))) (aNil)))))) (sRet (eC (.bl false))) (sNext)) (sSeq (sIf (qBl (eOp2 pyNe (eBlt (bIsi isiT) (aCons (eOp2 pyIdx (eVar 7) (eC (.int 0))) (aCons (eC (.ty "tuple")) (aNil)))) (eBlt (bIsi isiT) (aCons (eFld t_methods (eVar 9)) (aCons (eC (.ty "tuple")) (aNil)))))) (sRet (eC (.bl false))) (sNext)) (sExp (eMt mAppend (eVar 3) (aCons (eTup (aCons (eVar 7) (aCons (eVar 9) (aNil)))) (aNil))))))))))
def m_law : SM := sSeq (sAsg (eCallK (fun vs _ => d_law_bag vs) (aCons (eVar 0) (aNil)) (aNil)) (gName 1)) (sSeq (sAsg (eCallK (fun vs _ => d_law_names vs) (aCons (eVar 1) (aCons (eC (.int 4)) (aNil))) (aNil)) (gName 2)) (sSeq (sNew (aNil) 3) (sSeq (sFor (iRange1 (eC (.int 4))) (gName 4) (b_law_2)) (sSeq (sFor (iSeq (eVar 3)) (gName 5) (b_law_1)) (sSeq (sAsg (eCallK (newOf 0 finV (fun vs zs => d_Callers_init (pickL [0, 1, 2, 3] (vs ++ ([(.non)] : List PV) ++ ([(.bl true), (.bl true)] : List PV) ++ zs)))) aNil (aNil)) (gName 6)) (sRet (eAnd (eOp1 (pyIs .non) (eFld t_methods (eVar 6))) (eAnd (eOp1 (pyIs (.bl true)) (eFld t_changes (eVar 6))) (eOp1 (pyIs (.bl true)) (eFld t_passes (eVar 6)))))))))))
def d_law : ON := runDef finV 11 m_law
end
/-! ### facts -/
abbrev s_is_truth : Stmt := top 10
def D_is_truth : He.DefD := ⟨("is_truth", none), "is_truth", "is_truth", defArgs s_is_truth, defBody s_is_truth, defScope s_is_truth, [], []⟩
abbrev s_is_name : Stmt := top 9
def D_is_name : He.DefD := ⟨("is_name", none), "is_name", "is_name", defArgs s_is_name, defBody s_is_name, defScope s_is_name, [], []⟩
abbrev s_are_pairs : Stmt := top 12
def D_are_pairs : He.DefD := ⟨("are_pairs", none), "are_pairs", "are_pairs", defArgs s_are_pairs, defBody s_are_pairs, defScope s_are_pairs, [], []⟩
abbrev s_Callers_init : Stmt := sub 13 0
def D_Callers_init : He.DefD := ⟨("Callers", some "__init__"), "__init__", "Callers.__init__", defArgs s_Callers_init, defBody s_Callers_init, defScope s_Callers_init, [.non], [("changes", .bl true), ("passes", .bl true)]⟩
abbrev s_Callers_eq : Stmt := sub 13 2
def D_Callers_eq : He.DefD := ⟨("Callers", some "__eq__"), "__eq__", "Callers.__eq__", defArgs s_Callers_eq, defBody s_Callers_eq, defScope s_Callers_eq, [], []⟩
abbrev s_law_made : Stmt := top 22
def D_law_made : He.DefD := ⟨("_law_made", none), "_law_made", "_law_made", defArgs s_law_made, defBody s_law_made, defScope s_law_made, [], []⟩
abbrev s_law_are_pairs : Stmt := top 19
def D_law_are_pairs : He.DefD := ⟨("_law_are_pairs", none), "_law_are_pairs", "_law_are_pairs", defArgs s_law_are_pairs, defBody s_law_are_pairs, defScope s_law_are_pairs, [], []⟩
abbrev s_law_due : Stmt := top 23
def D_law_due : He.DefD := ⟨("_law_due", none), "_law_due", "_law_due", defArgs s_law_due, defBody s_law_due, defScope s_law_due, [], []⟩
abbrev s_law_draw : Stmt := top 16
def D_law_draw : He.DefD := ⟨("_law_draw", none), "_law_draw", "_law_draw", defArgs s_law_draw, defBody s_law_draw, defScope s_law_draw, [], []⟩
abbrev s_law_truth : Stmt := top 21
def D_law_truth : He.DefD := ⟨("_law_truth", none), "_law_truth", "_law_truth", defArgs s_law_truth, defBody s_law_truth, defScope s_law_truth, [], []⟩
abbrev s_law_pairs_drawn : Stmt := top 18
def D_law_pairs_drawn : He.DefD := ⟨("_law_pairs_drawn", none), "_law_pairs_drawn", "_law_pairs_drawn", defArgs s_law_pairs_drawn, defBody s_law_pairs_drawn, defScope s_law_pairs_drawn, [], []⟩
abbrev s_law_methods : Stmt := top 20
def D_law_methods : He.DefD := ⟨("_law_methods", none), "_law_methods", "_law_methods", defArgs s_law_methods, defBody s_law_methods, defScope s_law_methods, [], []⟩
abbrev s_law_names : Stmt := top 17
def D_law_names : He.DefD := ⟨("_law_names", none), "_law_names", "_law_names", defArgs s_law_names, defBody s_law_names, defScope s_law_names, [], []⟩
abbrev s_law_bag : Stmt := top 15
def D_law_bag : He.DefD := ⟨("_law_bag", none), "_law_bag", "_law_bag", defArgs s_law_bag, defBody s_law_bag, defScope s_law_bag, [], []⟩
abbrev s_law : Stmt := top 24
def D_law : He.DefD := ⟨("law", none), "law", "law", defArgs s_law, defBody s_law, defScope s_law, [], []⟩
def fn : List He.DefD := [D_is_truth, D_is_name, D_are_pairs, D_Callers_init, D_Callers_eq, D_law_made, D_law_are_pairs, D_law_due, D_law_draw, D_law_truth, D_law_pairs_drawn, D_law_methods, D_law_names, D_law_bag, D_law]
abbrev sx_BadCallers : Stmt := sub 3 0
def XC_BadCallers : XcD := ⟨"BadCallers", true, ["part"], ⟨"__init__", "BadCallers.__init__", defArgs sx_BadCallers, defBody sx_BadCallers, defScope sx_BadCallers⟩⟩
def fa : List He.Fa := [.glo "is_truth", .keep "is_truth", .glo "BadCallers", .glo "is_name", .keep "is_name", .glo "are_pairs", .keep "are_pairs", .glo "Callers", .glo "BadWorld", .glo "PartError", .glo "_law_made", .keep "_law_made", .glo "_law_are_pairs", .keep "_law_are_pairs", .glo "_law_due", .keep "_law_due", .glo "_law_draw", .keep "_law_draw", .glo "_law_truth", .keep "_law_truth", .glo "_law_pairs_drawn", .keep "_law_pairs_drawn", .glo "_law_methods", .keep "_law_methods", .glo "_law_names", .keep "_law_names", .glo "_law_bag", .keep "_law_bag", .glo "law", .free "isinstance", .free "bool", .free "super", .free "enumerate", .free "all", .free "len", .free "str", .free "tuple", .free "range", .free "repr", .free "int", .free "list", .cls "Callers", .mkr "Callers", .noat "Callers" "passes", .noat "Callers" "changes", .noat "Callers" "methods", .meth "Callers" "__eq__"]
def ex : Ex := [fun K => conC K "LETTERS" c_LETTERS, fun K => conC K "WORDS" c_WORDS, fun K => conC K "MOST_LETTERS" c_MOST_LETTERS, fun K => insB K (He.ga K "Callers"), xcB file0 XC_BadCallers, exmB caN "BadCallers" [(1, true)], fun K => xfB1 K "BadCallers" "part", xisB "BadCallers" "BadWorld" false, xisB "BadCallers" "PartError" true, kitB2 caN isiT, nfB caN 0 eqG, neB caN 0]
def xs : List XcD := [XC_BadCallers]
section
variable {P : Program} {w : World} {K : PySem.W.Frag} {h base : Heap} {mg : Str → Option Value} (c : SaysN P file0 fa fn xs ex K) (X : K.In h) (G : h.Ns mainGlobals mg)
include c X G in
theorem hg_is_truth : mg "is_truth" = some (.ref (He.ga K "is_truth")) := He.glo_ok X G (c.d.fact 0 (f := .glo "is_truth") rfl)
include c in
theorem hk_is_truth : PySem.W.keepIn K (.ref (He.ga K "is_truth")) = true := c.d.fact 1 (f := .keep "is_truth") rfl
include c X G in
theorem hg_BadCallers : mg "BadCallers" = some (.ref (He.ga K "BadCallers")) := He.glo_ok X G (c.d.fact 2 (f := .glo "BadCallers") rfl)
include c X G in
theorem hg_is_name : mg "is_name" = some (.ref (He.ga K "is_name")) := He.glo_ok X G (c.d.fact 3 (f := .glo "is_name") rfl)
include c in
theorem hk_is_name : PySem.W.keepIn K (.ref (He.ga K "is_name")) = true := c.d.fact 4 (f := .keep "is_name") rfl
include c X G in
theorem hg_are_pairs : mg "are_pairs" = some (.ref (He.ga K "are_pairs")) := He.glo_ok X G (c.d.fact 5 (f := .glo "are_pairs") rfl)
include c in
theorem hk_are_pairs : PySem.W.keepIn K (.ref (He.ga K "are_pairs")) = true := c.d.fact 6 (f := .keep "are_pairs") rfl
include c X G in
theorem hg_Callers : mg "Callers" = some (.ref (He.ga K "Callers")) := He.glo_ok X G (c.d.fact 7 (f := .glo "Callers") rfl)
include c X G in
theorem hg_BadWorld : mg "BadWorld" = some (.ref (He.ga K "BadWorld")) := He.glo_ok X G (c.d.fact 8 (f := .glo "BadWorld") rfl)
include c X G in
theorem hg_PartError : mg "PartError" = some (.ref (He.ga K "PartError")) := He.glo_ok X G (c.d.fact 9 (f := .glo "PartError") rfl)
include c X G in
theorem hg__law_made : mg "_law_made" = some (.ref (He.ga K "_law_made")) := He.glo_ok X G (c.d.fact 10 (f := .glo "_law_made") rfl)
include c in
theorem hk__law_made : PySem.W.keepIn K (.ref (He.ga K "_law_made")) = true := c.d.fact 11 (f := .keep "_law_made") rfl
include c X G in
theorem hg__law_are_pairs : mg "_law_are_pairs" = some (.ref (He.ga K "_law_are_pairs")) := He.glo_ok X G (c.d.fact 12 (f := .glo "_law_are_pairs") rfl)
include c in
theorem hk__law_are_pairs : PySem.W.keepIn K (.ref (He.ga K "_law_are_pairs")) = true := c.d.fact 13 (f := .keep "_law_are_pairs") rfl
include c X G in
theorem hg__law_due : mg "_law_due" = some (.ref (He.ga K "_law_due")) := He.glo_ok X G (c.d.fact 14 (f := .glo "_law_due") rfl)
include c in
theorem hk__law_due : PySem.W.keepIn K (.ref (He.ga K "_law_due")) = true := c.d.fact 15 (f := .keep "_law_due") rfl
include c X G in
theorem hg__law_draw : mg "_law_draw" = some (.ref (He.ga K "_law_draw")) := He.glo_ok X G (c.d.fact 16 (f := .glo "_law_draw") rfl)
include c in
theorem hk__law_draw : PySem.W.keepIn K (.ref (He.ga K "_law_draw")) = true := c.d.fact 17 (f := .keep "_law_draw") rfl
include c X G in
theorem hg__law_truth : mg "_law_truth" = some (.ref (He.ga K "_law_truth")) := He.glo_ok X G (c.d.fact 18 (f := .glo "_law_truth") rfl)
include c in
theorem hk__law_truth : PySem.W.keepIn K (.ref (He.ga K "_law_truth")) = true := c.d.fact 19 (f := .keep "_law_truth") rfl
include c X G in
theorem hg__law_pairs_drawn : mg "_law_pairs_drawn" = some (.ref (He.ga K "_law_pairs_drawn")) := He.glo_ok X G (c.d.fact 20 (f := .glo "_law_pairs_drawn") rfl)
include c in
theorem hk__law_pairs_drawn : PySem.W.keepIn K (.ref (He.ga K "_law_pairs_drawn")) = true := c.d.fact 21 (f := .keep "_law_pairs_drawn") rfl
include c X G in
theorem hg__law_methods : mg "_law_methods" = some (.ref (He.ga K "_law_methods")) := He.glo_ok X G (c.d.fact 22 (f := .glo "_law_methods") rfl)
include c in
theorem hk__law_methods : PySem.W.keepIn K (.ref (He.ga K "_law_methods")) = true := c.d.fact 23 (f := .keep "_law_methods") rfl
include c X G in
theorem hg__law_names : mg "_law_names" = some (.ref (He.ga K "_law_names")) := He.glo_ok X G (c.d.fact 24 (f := .glo "_law_names") rfl)
include c in
theorem hk__law_names : PySem.W.keepIn K (.ref (He.ga K "_law_names")) = true := c.d.fact 25 (f := .keep "_law_names") rfl
include c X G in
theorem hg__law_bag : mg "_law_bag" = some (.ref (He.ga K "_law_bag")) := He.glo_ok X G (c.d.fact 26 (f := .glo "_law_bag") rfl)
include c in
theorem hk__law_bag : PySem.W.keepIn K (.ref (He.ga K "_law_bag")) = true := c.d.fact 27 (f := .keep "_law_bag") rfl
include c X G in
theorem hg_law : mg "law" = some (.ref (He.ga K "law")) := He.glo_ok X G (c.d.fact 28 (f := .glo "law") rfl)
include c X G in
theorem hb_isinstance : mg "isinstance" = none := He.free_ok X G (c.d.fact 29 (f := .free "isinstance") rfl)
include c X G in
theorem hb_bool : mg "bool" = none := He.free_ok X G (c.d.fact 30 (f := .free "bool") rfl)
include c X G in
theorem hb_super : mg "super" = none := He.free_ok X G (c.d.fact 31 (f := .free "super") rfl)
include c X G in
theorem hb_enumerate : mg "enumerate" = none := He.free_ok X G (c.d.fact 32 (f := .free "enumerate") rfl)
include c X G in
theorem hb_all : mg "all" = none := He.free_ok X G (c.d.fact 33 (f := .free "all") rfl)
include c X G in
theorem hb_len : mg "len" = none := He.free_ok X G (c.d.fact 34 (f := .free "len") rfl)
include c X G in
theorem hb_str : mg "str" = none := He.free_ok X G (c.d.fact 35 (f := .free "str") rfl)
include c X G in
theorem hb_tuple : mg "tuple" = none := He.free_ok X G (c.d.fact 36 (f := .free "tuple") rfl)
include c X G in
theorem hb_range : mg "range" = none := He.free_ok X G (c.d.fact 37 (f := .free "range") rfl)
include c X G in
theorem hb_repr : mg "repr" = none := He.free_ok X G (c.d.fact 38 (f := .free "repr") rfl)
include c X G in
theorem hb_int : mg "int" = none := He.free_ok X G (c.d.fact 39 (f := .free "int") rfl)
include c X G in
theorem hb_list : mg "list" = none := He.free_ok X G (c.d.fact 40 (f := .free "list") rfl)
include c X G in
theorem hc_LETTERS : ∃ v u, mg "LETTERS" = some u ∧ RelV v u ∧ ∀ F io, R K (tb K) F io c_LETTERS v := con_ok X G (c.xx 0 (f := fun K => conC K "LETTERS" c_LETTERS) rfl)
include c X G in
theorem hc_WORDS : ∃ v u, mg "WORDS" = some u ∧ RelV v u ∧ ∀ F io, R K (tb K) F io c_WORDS v := con_ok X G (c.xx 1 (f := fun K => conC K "WORDS" c_WORDS) rfl)
include c X G in
theorem hc_MOST_LETTERS : ∃ v u, mg "MOST_LETTERS" = some u ∧ RelV v u ∧ ∀ F io, R K (tb K) F io c_MOST_LETTERS v := con_ok X G (c.xx 2 (f := fun K => conC K "MOST_LETTERS" c_MOST_LETTERS) rfl)
include c in
theorem hcl_Callers : Cls K (He.ga K "Callers") := He.cls_ok (c.d.fact 41 (f := .cls "Callers") rfl)
include c in
theorem hmk_Callers : Mk K ((tb K).ca 0) (He.ma K (He.ga K "Callers") "__init__") := He.mkr_ok (c.d.fact 42 (f := .mkr "Callers") rfl)
include c in
theorem hin_Callers : InsOk K ((tb K).ca 0) := insB_ok (hcl_Callers c) (c.xx 3 (f := fun K => insB K (He.ga K "Callers")) rfl)
include c in
theorem hR_BadCallers : RaiseS P w K (tb K) 1 1 := c.raise1 0 (x := XC_BadCallers) rfl (j := 4) rfl rfl (f := "part") rfl rfl ⟨rfl, rfl, by decide, rfl, by decide, rfl, rfl⟩ (by decide) (by decide) rfl rfl rfl (fun _ => rfl) (fun _ _ _ _ _ _ _ _ _ => rfl)
include c in
theorem hcl_x_BadCallers : ∀ q ∈ ([(1, true)] : List (Nat × Bool)), PySem.W.exmOne K (.ref ((tb K).ca q.1)) (.ref (He.ga K "BadCallers")) = some q.2 := exmB_ok (c.xx 5 (f := exmB caN "BadCallers" [(1, true)]) rfl)
include c in
theorem hxf_BadCallers_part : XfC K ((tb K).ca 1) ∧ PySem.W.findIn K (.ref ((tb K).ca 1)) "part" = some none := xfB1_ok (c.xx 6 (f := fun K => xfB1 K "BadCallers" "part") rfl)
include c in
theorem hxi_BadCallers_BadWorld : XisC K ((tb K).ca 1) (.ref (He.ga K "BadWorld")) false := xisB_ok (c.xx 7 (f := xisB "BadCallers" "BadWorld" false) rfl)
include c in
theorem hxi_BadCallers_PartError : XisC K ((tb K).ca 1) (.ref (He.ga K "PartError")) true := xisB_ok (c.xx 8 (f := xisB "BadCallers" "PartError" true) rfl)
include c in
theorem hf_passes_Callers : FldS K (tb K) "passes" 0 2 := ⟨hcl_Callers c, He.noat_ok (c.d.fact 43 (f := .noat "Callers" "passes") rfl), (show (flN.getD 0 [])[2]? = some _ by decide), (show (flN.getD 0 []).Nodup by decide), (show (flN.getD 0 []).length ≤ 40 by decide)⟩
include c in
theorem hf_passes : ∀ q ∈ t_passes, FldS K (tb K) "passes" q.1 q.2 := by
  intro q hq
  simp only [t_passes, List.mem_cons, List.not_mem_nil, or_false] at hq
  rcases hq with rfl
  · exact hf_passes_Callers c
include c in
theorem hf_changes_Callers : FldS K (tb K) "changes" 0 1 := ⟨hcl_Callers c, He.noat_ok (c.d.fact 44 (f := .noat "Callers" "changes") rfl), (show (flN.getD 0 [])[1]? = some _ by decide), (show (flN.getD 0 []).Nodup by decide), (show (flN.getD 0 []).length ≤ 40 by decide)⟩
include c in
theorem hf_changes : ∀ q ∈ t_changes, FldS K (tb K) "changes" q.1 q.2 := by
  intro q hq
  simp only [t_changes, List.mem_cons, List.not_mem_nil, or_false] at hq
  rcases hq with rfl
  · exact hf_changes_Callers c
include c in
theorem hf_methods_Callers : FldS K (tb K) "methods" 0 0 := ⟨hcl_Callers c, He.noat_ok (c.d.fact 45 (f := .noat "Callers" "methods") rfl), (show (flN.getD 0 [])[0]? = some _ by decide), (show (flN.getD 0 []).Nodup by decide), (show (flN.getD 0 []).length ≤ 40 by decide)⟩
include c in
theorem hf_methods : ∀ q ∈ t_methods, FldS K (tb K) "methods" q.1 q.2 := by
  intro q hq
  simp only [t_methods, List.mem_cons, List.not_mem_nil, or_false] at hq
  rcases hq with rfl
  · exact hf_methods_Callers c
include c in
theorem hIns : ∀ n, n < 1 → InsOk K ((tb K).ca n) := by
  intro n hn
  match n, hn with
  | 0, _ => exact hin_Callers c
include c in
theorem hIsi : IsiS K (tb K) isiT := by
  intro e he
  have h1 := List.all_eq_true.mp (c.xx 9 (f := kitB2 caN isiT) rfl) e he
  refine ⟨by rw [tgA_eq, tgA_eq]; exact of_decide_eq_true h1, fun n hn => ?_⟩
  have h2 : isiT.all (fun e => match e.1.1 with
    | .c n => decide (n < 1)
    | _ => true) = true := by decide
  have h3 := List.all_eq_true.mp h2 e he
  rw [hn] at h3
  exact hIns c n (of_decide_eq_true h3)
theorem sc_is_truth : FnScope N_is_truth ["thing"] (defScope s_is_truth) := ⟨rfl, rfl, rfl, by decide +kernel, rfl, by decide +kernel, by decide +kernel⟩
include c X G in
theorem ok_is_truth {fd : FuncData} (F : FunD K D_is_truth.name D_is_truth.qual D_is_truth.params D_is_truth.body D_is_truth.scope (D_is_truth.dvs K) (D_is_truth.kws K) (He.fAd K D_is_truth.at_) fd) : FnOk P w K mg h (L2.CX P w) 1 (He.fAd K D_is_truth.at_) fd ["thing"] (spM K (tb K) 1 (d_is_truth)) :=
  fn_ok F sc_is_truth finV_ok rfl fun cdv A outer s H E hr =>
    (ms_one (ms_ret (me_blt (scr_isi (hIsi c)) rfl (hb_isinstance c X G) rfl (ma_cons (me_var 0 (pv 0)) (ma_cons (me_bty (n := "bool") rfl (hb_bool c X G) rfl) ma_nil)))))
include c X G in
theorem fs_is_truth : FnS P w K mg h (tb K) 1 (He.fAd K D_is_truth.at_) 1 [] (fun vs _ => d_is_truth vs) := by
  obtain ⟨fd, F⟩ := c.d.def_ 0 (d := D_is_truth) rfl
  exact ⟨fd, _, _, _, ok_is_truth c X G F, callS_plain F rfl (fun _ _ _ _ _ _ us hl => match us, hl with | [_], _ => rfl), rfl⟩
theorem sc_is_name : FnScope N_is_name ["thing"] (defScope s_is_name) := ⟨rfl, rfl, rfl, by decide +kernel, rfl, by decide +kernel, by decide +kernel⟩
include c X G in
theorem ok_is_name {fd : FuncData} (F : FunD K D_is_name.name D_is_name.qual D_is_name.params D_is_name.body D_is_name.scope (D_is_name.dvs K) (D_is_name.kws K) (He.fAd K D_is_name.at_) fd) : FnOk P w K mg h (L2.CX P w) 1 (He.fAd K D_is_name.at_) fd ["thing"] (spM K (tb K) 1 (d_is_name)) :=
  fn_ok F sc_is_name finV_ok rfl fun cdv A outer s H E hr =>
    (ms_cons (ms_if (PW.pt (qw_or (qe_not (qe_of (me_blt (scr_isi (hIsi c)) rfl (hb_isinstance c X G) rfl (ma_cons (me_var 0 (pv 0)) (ma_cons (me_bty (n := "str") rfl (hb_str c X G) rfl) ma_nil))))) (qw_or1 (qe_not (qe_chain sop_le sop_le me_int (me_blt scr_len rfl (hb_len c X G) rfl (ma_cons (me_var 0 (pv 0)) ma_nil)) (me_con rfl (hc_MOST_LETTERS c X G))))))) (ms_one (ms_ret me_bl)) ms_nil) (ms_one (ms_ret (me_and (me_cmp (sop_notIn (ru hr)) (me_var 0 (pv 0)) (me_con rfl (hc_WORDS c X G)) (by with_unfolding_all rfl)) (me_and1 (me_blt (scr_all rfl) rfl (hb_all c X G) rfl (ma_cons (me_fresh (mf_comp (own := [("sign", 1)]) rfl sc_is_name.nd (mi_seq (me_var 0 (pv 0))) (show BlkOk N_is_name (defScope s_is_name) _ [("sign", 1)] from ⟨rfl, by decide +kernel, by decide +kernel, by decide +kernel, by decide +kernel⟩) (fun _ _ _ _ _ => pg_name sc_is_name.nd rfl (Or.inl rfl)) (gin_name (by decide)) (fun _ _ _ _ _ => pts0) (fun _ _ _ _ _ => (me_cmp (sop_in (ru hr)) (me_var 1 (pv 1)) (me_con rfl (hc_LETTERS c X G)) (by with_unfolding_all rfl))))) ma_nil)))))))
include c X G in
theorem fs_is_name : FnS P w K mg h (tb K) 1 (He.fAd K D_is_name.at_) 1 [] (fun vs _ => d_is_name vs) := by
  obtain ⟨fd, F⟩ := c.d.def_ 1 (d := D_is_name) rfl
  exact ⟨fd, _, _, _, ok_is_name c X G F, callS_plain F rfl (fun _ _ _ _ _ _ us hl => match us, hl with | [_], _ => rfl), rfl⟩
theorem sc_are_pairs : FnScope N_are_pairs ["thing"] (defScope s_are_pairs) := ⟨rfl, rfl, rfl, by decide +kernel, rfl, by decide +kernel, by decide +kernel⟩
include c X G in
theorem ok_are_pairs {fd : FuncData} (F : FunD K D_are_pairs.name D_are_pairs.qual D_are_pairs.params D_are_pairs.body D_are_pairs.scope (D_are_pairs.dvs K) (D_are_pairs.kws K) (He.fAd K D_are_pairs.at_) fd) : FnOk P w K mg h (L2.CX P w) 2 (He.fAd K D_are_pairs.at_) fd ["thing"] (spM K (tb K) 1 (d_are_pairs)) :=
  fn_ok F sc_are_pairs finV_ok rfl fun cdv A outer s H E hr =>
    (ms_cons (ms_if (qe_not (qe_of (me_blt (scr_isi (hIsi c)) rfl (hb_isinstance c X G) rfl (ma_cons (me_var 0 (pv 0)) (ma_cons (me_bty (n := "tuple") rfl (hb_tuple c X G) rfl) ma_nil))))) (ms_one (ms_ret me_bl)) ms_nil) (ms_cons (ms_for passesB rfl (mi_enum rfl (hb_enumerate c X G) (me_var 0 (pv 0))) (mg_tup rfl (mgs_cons (pg_name sc_are_pairs.nd rfl (by first | exact Or.inl rfl | exact Or.inr rfl)) (mgs_cons (pg_name sc_are_pairs.nd rfl (by first | exact Or.inl rfl | exact Or.inr rfl)) mgs_nil))) (gok_tup [1, 2]) (ms_cons (ms_if (PW.pt (qw_or (qe_not (qe_of (me_blt (scr_isi (hIsi c)) rfl (hb_isinstance c X G) rfl (ma_cons (me_var 2 (pv 2)) (ma_cons (me_bty (n := "tuple") rfl (hb_tuple c X G) rfl) ma_nil))))) (qw_or1 (qe_cmp (sop_ne (ru hr)) (me_blt scr_len rfl (hb_len c X G) rfl (ma_cons (me_var 2 (pv 2)) ma_nil)) me_int (nomark _))))) (ms_one (ms_ret me_bl)) ms_nil) (ms_one (ms_if (PW.pt (qw_or (qe_not (qe_of (me_call (fs_is_name (w := w) (P := P) c X G) (hr.mono (by decide)) takesB rfl (hg_is_name c X G) (hk_is_name c) (ma_cons (me_idx (me_var 2 (pv 2)) me_int (fun _ _ => rfl)) ma_nil) (len_cons len_nil) mk_nil len_nil))) (qw_or (qe_not (qe_of (me_call (fs_is_name (w := w) (P := P) c X G) (hr.mono (by decide)) takesB rfl (hg_is_name c X G) (hk_is_name c) (ma_cons (me_idx (me_var 2 (pv 2)) me_int (fun _ _ => rfl)) ma_nil) (len_cons len_nil) mk_nil len_nil))) (qw_or1 (qe_cmp (sop_in (ru hr)) (me_var 2 (pv 2)) (me_slice (me_var 0 (pv 0)) mo_none (mo_some (me_var 1 (pv 1)))) (by with_unfolding_all rfl)))))) (ms_one (ms_ret me_bl)) ms_nil)))) (ms_one (ms_ret me_bl))))
include c X G in
theorem fs_are_pairs : FnS P w K mg h (tb K) 2 (He.fAd K D_are_pairs.at_) 1 [] (fun vs _ => d_are_pairs vs) := by
  obtain ⟨fd, F⟩ := c.d.def_ 2 (d := D_are_pairs) rfl
  exact ⟨fd, _, _, _, ok_are_pairs c X G F, callS_plain F rfl (fun _ _ _ _ _ _ us hl => match us, hl with | [_], _ => rfl), rfl⟩
theorem sc_Callers_init : FnScope N_Callers_init ["self", "methods", "changes", "passes"] (defScope s_Callers_init) := ⟨rfl, rfl, rfl, by decide +kernel, rfl, by decide +kernel, by decide +kernel⟩
include c X G in
theorem ok_Callers_init {fd : FuncData} (F : FunD K D_Callers_init.name D_Callers_init.qual D_Callers_init.params D_Callers_init.body D_Callers_init.scope (D_Callers_init.dvs K) (D_Callers_init.kws K) (He.fAd K D_Callers_init.at_) fd) : FnOk P w K mg h (L2.CX P w) 3 (He.fAd K D_Callers_init.at_) fd ["self", "methods", "changes", "passes"] (spM K (tb K) 4 (d_Callers_init)) :=
  fn_ok F sc_Callers_init finV_ok rfl fun cdv A outer s H E hr =>
    (ms_cons (ms_if (PW.pt (qw_and (qe_notN (me_var 1 (pv 1))) (qw_and1 (qe_not (qe_of (me_call (fs_are_pairs (w := w) (P := P) c X G) (hr.mono (by decide)) takesB rfl (hg_are_pairs c X G) (hk_are_pairs c) (ma_cons (me_var 1 (pv 1)) ma_nil) (len_cons len_nil) mk_nil len_nil)))))) (ms_one (ms_raise (hR_BadCallers (P := P) (w := w) c) (hb_super c X G) hr rfl takesB rfl (hg_BadCallers c X G) (ma_cons (me_str rfl) ma_nil) (len_cons len_nil))) ms_nil) (ms_cons (ms_if (qe_not (qe_of (me_call (fs_is_truth (w := w) (P := P) c X G) (hr.mono (by decide)) takesB rfl (hg_is_truth c X G) (hk_is_truth c) (ma_cons (me_var 2 (pv 2)) ma_nil) (len_cons len_nil) mk_nil len_nil))) (ms_one (ms_raise (hR_BadCallers (P := P) (w := w) c) (hb_super c X G) hr rfl takesB rfl (hg_BadCallers c X G) (ma_cons (me_str rfl) ma_nil) (len_cons len_nil))) ms_nil) (ms_cons (ms_if (qe_not (qe_of (me_call (fs_is_truth (w := w) (P := P) c X G) (hr.mono (by decide)) takesB rfl (hg_is_truth c X G) (hk_is_truth c) (ma_cons (me_var 3 (pv 3)) ma_nil) (len_cons len_nil) mk_nil len_nil))) (ms_one (ms_raise (hR_BadCallers (P := P) (w := w) c) (hb_super c X G) hr rfl takesB rfl (hg_BadCallers c X G) (ma_cons (me_str rfl) ma_nil) (len_cons len_nil))) ms_nil) (ms_cons (ms_fld (me_var 0 (pv 0)) (me_var 1 (pv 1)) (hf_methods c)) (ms_cons (ms_fld (me_var 0 (pv 0)) (me_var 2 (pv 2)) (hf_changes c)) (ms_one (ms_fld (me_var 0 (pv 0)) (me_var 3 (pv 3)) (hf_passes c))))))))
include c X G in
theorem fs_Callers_init_1_ : FnS P w K mg h (tb K) 3 (He.fAd K D_Callers_init.at_) 1 [] (fun vs zs => d_Callers_init (pickL [0, 1, 2, 3] (vs ++ ([(.non)] : List PV) ++ ([(.bl true), (.bl true)] : List PV) ++ zs))) := by
  obtain ⟨fd, F⟩ := c.d.def_ 3 (d := D_Callers_init) rfl
  exact ⟨fd, _, _, _, ok_Callers_init c X G F, callS_pk (n := 1) (ks := []) (ms := [("changes", .bl true), ("passes", .bl true)]) (pd := [(.non)]) (mp := [(.bl true), (.bl true)]) (sel := [0, 1, 2, 3]) F (List.cons_ne_nil _ _) (List.cons_ne_nil _ _) (List.forall_mem_cons.mpr ⟨(.head _), (List.forall_mem_cons.mpr ⟨(.tail _ (.head _)), (fun _ h => nomatch h)⟩)⟩) (fun _ _ => (.cons .non .nil)) (fun _ _ => (.cons (.bl _) (.cons (.bl _) .nil))) (by decide) (fun _ _ _ _ _ _ _ us its mv ws h1 h2 h3 h4 => match us, its, mv, ws, h1, h2, h3, h4 with | [_], [_], [_, _], [], _, _, _, _ => ⟨_, rfl, ⟨_, _, _, _, _, _, rfl, rfl, ⟨_, _, _, _, _, _, rfl, rfl, rfl⟩⟩⟩), rfl⟩
include c X G in
theorem fs_Callers_init_2_changes_passes : FnS P w K mg h (tb K) 3 (He.fAd K D_Callers_init.at_) 2 ["changes", "passes"] (fun vs zs => d_Callers_init (pickL [0, 1, 3, 4] (vs ++ ([(.non)] : List PV) ++ ([] : List PV) ++ zs))) := by
  obtain ⟨fd, F⟩ := c.d.def_ 3 (d := D_Callers_init) rfl
  exact ⟨fd, _, _, _, ok_Callers_init c X G F, callS_pk (n := 2) (ks := ["changes", "passes"]) (ms := []) (pd := [(.non)]) (mp := []) (sel := [0, 1, 3, 4]) F (List.cons_ne_nil _ _) (List.cons_ne_nil _ _) (fun _ h => nomatch h) (fun _ _ => (.cons .non .nil)) (fun _ _ => .nil) (by decide) (fun _ _ _ _ _ _ _ us its mv ws h1 h2 h3 h4 => match us, its, mv, ws, h1, h2, h3, h4 with | [_, _], [_], [], [_, _], _, _, _, _ => ⟨_, rfl, rfl⟩), rfl⟩
theorem sc_Callers_eq : FnScope N_Callers_eq ["self", "other"] (defScope s_Callers_eq) := ⟨rfl, rfl, rfl, by decide +kernel, rfl, by decide +kernel, by decide +kernel⟩
include c X G in
theorem ok_Callers_eq {fd : FuncData} (F : FunD K D_Callers_eq.name D_Callers_eq.qual D_Callers_eq.params D_Callers_eq.body D_Callers_eq.scope (D_Callers_eq.dvs K) (D_Callers_eq.kws K) (He.fAd K D_Callers_eq.at_) fd) : FnOk P w K mg h (L2.CX P w) 1 (He.fAd K D_Callers_eq.at_) fd ["self", "other"] (spM K (tb K) 2 (d_Callers_eq)) :=
  fn_ok F sc_Callers_eq finV_ok rfl fun cdv A outer s H E hr =>
    (ms_cons (ms_if (qe_not (qe_of (me_blt (scr_isi (hIsi c)) rfl (hb_isinstance c X G) rfl (ma_cons (me_var 1 (pv 1)) (ma_cons (me_gcls (T := tb K) (c := 0) rfl (hg_Callers c X G)) ma_nil))))) (ms_one (ms_ret me_bl)) ms_nil) (ms_one (ms_ret (me_and (me_cmp (sop_eq (ru hr)) (me_fld (me_var 0 (pv 0)) (hf_methods c)) (me_fld (me_var 1 (pv 1)) (hf_methods c)) (nomark _)) (me_and (me_cmp (sop_eq (ru hr)) (me_fld (me_var 0 (pv 0)) (hf_changes c)) (me_fld (me_var 1 (pv 1)) (hf_changes c)) (nomark _)) (me_and1 (me_cmp (sop_eq (ru hr)) (me_fld (me_var 0 (pv 0)) (hf_passes c)) (me_fld (me_var 1 (pv 1)) (hf_passes c)) (nomark _))))))))
include c X G in
theorem fs_Callers_eq : FnS P w K mg h (tb K) 1 (He.fAd K D_Callers_eq.at_) 2 [] (fun vs _ => d_Callers_eq vs) := by
  obtain ⟨fd, F⟩ := c.d.def_ 4 (d := D_Callers_eq) rfl
  exact ⟨fd, _, _, _, ok_Callers_eq c X G F, callS_plain F rfl (fun _ _ _ _ _ _ us hl => match us, hl with | [_, _], _ => rfl), rfl⟩
include c in
theorem hNf_Callers : ∀ g ∈ eqG, PySem.W.notFirst K ((tb K).ca 0) ((tb K).tgv g) = true ∧ ∀ d, g = .c d → InsOk K ((tb K).ca d) := by
  intro g hg
  have h1 := List.all_eq_true.mp (c.xx 10 (f := nfB caN 0 eqG) rfl) g hg
  refine ⟨by rw [tgA_eq]; exact h1, fun n hn => ?_⟩
  have h2 : eqG.all (fun e => match e with
    | .c n => decide (n < 1)
    | _ => true) = true := by decide
  have h3 := List.all_eq_true.mp h2 g hg
  rw [hn] at h3
  exact hIns c n (of_decide_eq_true h3)
include c in
theorem hNe_Callers : PySem.W.findIn K (.ref ((tb K).ca 0)) "__ne__" = some (some (.builtin "object.__ne__")) ∧ PySem.W.mroIn K ((tb K).ca 0) (.type "object") = some true := by
  have h1 := c.xx 11 (f := neB caN 0) rfl
  unfold neB at h1
  rw [Bool.and_eq_true] at h1
  exact ⟨of_decide_eq_true h1.1, of_decide_eq_true h1.2⟩
abbrev KEQ : Nat := 1
include c X G in
theorem hEq : ∀ q ∈ eqT, EqS P w K mg h (tb K) KEQ q.1 q.2.1 q.2.2 := by
  intro q hq
  simp only [eqT, List.mem_cons, List.not_mem_nil, or_false] at hq
  subst hq
  exact ⟨⟨_, (He.meth_ok (c.d.fact 46 (f := .meth "Callers" "__eq__") rfl)).at_, (He.meth_ok (c.d.fact 46 (f := .meth "Callers" "__eq__") rfl)).fn, fs_Callers_eq c X G⟩, hNf_Callers c, hNe_Callers c⟩
theorem sc_law_made : FnScope N_law_made ["_law_parts"] (defScope s_law_made) := ⟨rfl, rfl, rfl, by decide +kernel, rfl, by decide +kernel, by decide +kernel⟩
include c X G in
theorem ok_law_made {fd : FuncData} (F : FunD K D_law_made.name D_law_made.qual D_law_made.params D_law_made.body D_law_made.scope (D_law_made.dvs K) (D_law_made.kws K) (He.fAd K D_law_made.at_) fd) : FnOk P w K mg h (L2.CX P w) 5 (He.fAd K D_law_made.at_) fd ["_law_parts"] (spM K (tb K) 1 (d_law_made)) :=
  fn_ok F sc_law_made finV_ok rfl fun cdv A outer s H E hr =>
    (ms_cons (ms_try rfl rfl (fun W1 pn1 xe1 tkW => (mx_ret (me_new (c := 0) finV_ok (hmk_Callers c) (fs_Callers_init_2_changes_passes (w := w) (P := P) c X G) (hr.mono (by decide)) tkW rfl (hg_Callers c X G) (ma_cons (me_idx (me_var 0 (pv 0)) me_int (fun _ _ => rfl)) ma_nil) (len_cons len_nil) (mk_cons (me_idx (me_var 0 (pv 0)) me_int (fun _ _ => rfl)) (mk_cons (me_idx (me_var 0 (pv 0)) me_int (fun _ _ => rfl)) mk_nil)) (len_cons (len_cons len_nil))))) (cls_as (i := 1) rfl rfl sc_law_made.nd rfl rfl ⟨rfl, by decide, .inl (hg_BadCallers c X G)⟩ (hcl_x_BadCallers c) (fun a oe d pn c1 vs ht hz hf => by
      have ec := tab_one (n := 1) (by decide) ht
      subst ec
      exact (ms_one (ms_if (PW.pt (qw_and (qe_of (me_xis (c := 1) (hxi_BadCallers_PartError c) hz hf (pv 1) rfl (hb_isinstance c X G) rfl rfl (hg_PartError c X G))) (qw_and1 (qe_not (qe_of (me_xis (c := 1) (hxi_BadCallers_BadWorld c) hz hf (pv 1) rfl (hb_isinstance c X G) rfl rfl (hg_BadWorld c X G))))))) (ms_one (ms_ret (me_xf (j := 0) (c := 1) (hxf_BadCallers_part c).1 (hxf_BadCallers_part c).2 rfl (show (flN.getD 1 []).Nodup by decide) hz hf (pv 1)))) ms_nil))) (cls_nil rfl rfl takesB))) (ms_one (ms_ret me_non)))
include c X G in
theorem fs_law_made : FnS P w K mg h (tb K) 5 (He.fAd K D_law_made.at_) 1 [] (fun vs _ => d_law_made vs) := by
  obtain ⟨fd, F⟩ := c.d.def_ 5 (d := D_law_made) rfl
  exact ⟨fd, _, _, _, ok_law_made c X G F, callS_plain F rfl (fun _ _ _ _ _ _ us hl => match us, hl with | [_], _ => rfl), rfl⟩
theorem sc_law_are_pairs : FnScope N_law_are_pairs ["_law_thing", "_law_names_here"] (defScope s_law_are_pairs) := ⟨rfl, rfl, rfl, by decide +kernel, rfl, by decide +kernel, by decide +kernel⟩
include c X G in
theorem ok_law_are_pairs {fd : FuncData} (F : FunD K D_law_are_pairs.name D_law_are_pairs.qual D_law_are_pairs.params D_law_are_pairs.body D_law_are_pairs.scope (D_law_are_pairs.dvs K) (D_law_are_pairs.kws K) (He.fAd K D_law_are_pairs.at_) fd) : FnOk P w K mg h (L2.CX P w) 1 (He.fAd K D_law_are_pairs.at_) fd ["_law_thing", "_law_names_here"] (spM K (tb K) 2 (d_law_are_pairs)) :=
  fn_ok F sc_law_are_pairs finV_ok rfl fun cdv A outer s H E hr =>
    (ms_cons (ms_if (qe_not (qe_of (me_blt (scr_isi (hIsi c)) rfl (hb_isinstance c X G) rfl (ma_cons (me_var 0 (pv 0)) (ma_cons (me_bty (n := "tuple") rfl (hb_tuple c X G) rfl) ma_nil))))) (ms_one (ms_ret me_bl)) ms_nil) (ms_cons (ms_for passesB rfl (mi_range1 rfl (hb_range c X G) (me_blt scr_len rfl (hb_len c X G) rfl (ma_cons (me_var 0 (pv 0)) ma_nil))) (mg_name (pg_name sc_law_are_pairs.nd rfl (by first | exact Or.inl rfl | exact Or.inr rfl))) (gok_name 2) (ms_cons (ms_asg (me_idx (me_var 0 (pv 0)) (me_var 2 (pv 2)) (fun _ _ => rfl)) (mg_name (pg_name sc_law_are_pairs.nd rfl (by first | exact Or.inl rfl | exact Or.inr rfl))) (gok_name 3)) (ms_cons (ms_if (PW.pt (qw_or (qe_not (qe_of (me_blt (scr_isi (hIsi c)) rfl (hb_isinstance c X G) rfl (ma_cons (me_var 3 (pv 3)) (ma_cons (me_bty (n := "tuple") rfl (hb_tuple c X G) rfl) ma_nil))))) (qw_or (qe_cmp (sop_ne (ru hr)) (me_blt scr_len rfl (hb_len c X G) rfl (ma_cons (me_var 3 (pv 3)) ma_nil)) me_int (nomark _)) (qw_or1 (qe_cmp (sop_in (ru hr)) (me_var 3 (pv 3)) (me_slice (me_var 0 (pv 0)) mo_none (mo_some (me_var 2 (pv 2)))) (by with_unfolding_all rfl)))))) (ms_one (ms_ret me_bl)) ms_nil) (ms_one (ms_if (PW.pt (qw_or (qe_cmp (sop_notIn (ru hr)) (me_idx (me_var 3 (pv 3)) me_int (fun _ _ => rfl)) (me_var 1 (pv 1)) (by with_unfolding_all rfl)) (qw_or1 (qe_cmp (sop_notIn (ru hr)) (me_idx (me_var 3 (pv 3)) me_int (fun _ _ => rfl)) (me_var 1 (pv 1)) (by with_unfolding_all rfl))))) (ms_one (ms_ret me_bl)) ms_nil))))) (ms_one (ms_ret me_bl))))
include c X G in
theorem fs_law_are_pairs : FnS P w K mg h (tb K) 1 (He.fAd K D_law_are_pairs.at_) 2 [] (fun vs _ => d_law_are_pairs vs) := by
  obtain ⟨fd, F⟩ := c.d.def_ 6 (d := D_law_are_pairs) rfl
  exact ⟨fd, _, _, _, ok_law_are_pairs c X G F, callS_plain F rfl (fun _ _ _ _ _ _ us hl => match us, hl with | [_, _], _ => rfl), rfl⟩
theorem sc_law_due : FnScope N_law_due ["_law_parts", "_law_names_here"] (defScope s_law_due) := ⟨rfl, rfl, rfl, by decide +kernel, rfl, by decide +kernel, by decide +kernel⟩
include c X G in
theorem ok_law_due {fd : FuncData} (F : FunD K D_law_due.name D_law_due.qual D_law_due.params D_law_due.body D_law_due.scope (D_law_due.dvs K) (D_law_due.kws K) (He.fAd K D_law_due.at_) fd) : FnOk P w K mg h (L2.CX P w) 2 (He.fAd K D_law_due.at_) fd ["_law_parts", "_law_names_here"] (spM K (tb K) 2 (d_law_due)) :=
  fn_ok F sc_law_due finV_ok rfl fun cdv A outer s H E hr =>
    (ms_cons (ms_if (PW.pt (qw_and (qe_notN (me_idx (me_var 0 (pv 0)) me_int (fun _ _ => rfl))) (qw_and1 (qe_not (qe_of (me_call (fs_law_are_pairs (w := w) (P := P) c X G) (hr.mono (by decide)) takesB rfl (hg__law_are_pairs c X G) (hk__law_are_pairs c) (ma_cons (me_idx (me_var 0 (pv 0)) me_int (fun _ _ => rfl)) (ma_cons (me_var 1 (pv 1)) ma_nil)) (len_cons (len_cons len_nil)) mk_nil len_nil)))))) (ms_one (ms_ret (me_str rfl))) ms_nil) (ms_cons (ms_if (qe_not (qe_of (me_blt (scr_isi (hIsi c)) rfl (hb_isinstance c X G) rfl (ma_cons (me_idx (me_var 0 (pv 0)) me_int (fun _ _ => rfl)) (ma_cons (me_bty (n := "bool") rfl (hb_bool c X G) rfl) ma_nil))))) (ms_one (ms_ret (me_str rfl))) ms_nil) (ms_one (ms_ret (me_if (qe_of (me_blt (scr_isi (hIsi c)) rfl (hb_isinstance c X G) rfl (ma_cons (me_idx (me_var 0 (pv 0)) me_int (fun _ _ => rfl)) (ma_cons (me_bty (n := "bool") rfl (hb_bool c X G) rfl) ma_nil)))) me_non (me_str rfl))))))
include c X G in
theorem fs_law_due : FnS P w K mg h (tb K) 2 (He.fAd K D_law_due.at_) 2 [] (fun vs _ => d_law_due vs) := by
  obtain ⟨fd, F⟩ := c.d.def_ 7 (d := D_law_due) rfl
  exact ⟨fd, _, _, _, ok_law_due c X G F, callS_plain F rfl (fun _ _ _ _ _ _ us hl => match us, hl with | [_, _], _ => rfl), rfl⟩
theorem sc_law_draw : FnScope N_law_draw ["_law_bag_here", "_law_many"] (defScope s_law_draw) := ⟨rfl, rfl, rfl, by decide +kernel, rfl, by decide +kernel, by decide +kernel⟩
include c X G in
theorem ok_law_draw {fd : FuncData} (F : FunD K D_law_draw.name D_law_draw.qual D_law_draw.params D_law_draw.body D_law_draw.scope (D_law_draw.dvs K) (D_law_draw.kws K) (He.fAd K D_law_draw.at_) fd) : FnOk P w K mg h (L2.CX P w) 1 (He.fAd K D_law_draw.at_) fd ["_law_bag_here", "_law_many"] (spM K (tb K) 2 (d_law_draw)) :=
  fn_ok F sc_law_draw finV_ok rfl fun cdv A outer s H E hr =>
    (ms_cons (ms_if (PW.pt (qw_and (qe_cmp (sop_eq (ru hr)) (me_idx (me_var 0 (pv 0)) me_int (fun _ _ => rfl)) me_int (nomark _)) (qw_and1 (qe_cmp sop_gt (me_blt scr_len rfl (hb_len c X G) rfl (ma_cons (me_var 0 (pv 0)) ma_nil)) me_int (nomark _))))) (ms_cons (ms_asg (me_mt PySem.F.slot_list_pop PySem.F.type_list_pop mt_popAt smt_pop (me_var 0 (pv 0)) (ma_cons me_int ma_nil)) (mg_name (pg_name sc_law_draw.nd rfl (by first | exact Or.inl rfl | exact Or.inr rfl))) (gok_name 2)) (ms_one (ms_if (qe_cmp sop_ge (me_var 2 (pv 2)) (me_op2 sop_pow me_int me_int) (nomark _)) (ms_one (ms_setI (me_var 2 (pv 2)) (me_var 0 (pv 0)) me_int)) (ms_one (ms_setI (me_op2 sop_mod (me_bltT scr_int rfl (hb_int c X G) rfl (ma_cons (me_op2 sop_add (me_op2 sop_mul (me_idx (me_var 0 (pv 0)) me_int (fun _ _ => rfl)) me_int) (me_var 2 (pv 2))) ma_nil)) me_int) (me_var 0 (pv 0)) me_int))))) ms_nil) (ms_cons (ms_if (qe_cmp sop_gt (me_idx (me_var 0 (pv 0)) me_int (fun _ _ => rfl)) me_int (nomark _)) (ms_cons (ms_asg (me_op2 sop_mod (me_bltT scr_int rfl (hb_int c X G) rfl (ma_cons (me_idx (me_var 0 (pv 0)) me_int (fun _ _ => rfl)) ma_nil)) (me_var 1 (pv 1))) (mg_name (pg_name sc_law_draw.nd rfl (by first | exact Or.inl rfl | exact Or.inr rfl))) (gok_name 3)) (ms_cons (ms_setI (me_op2 sop_fdiv (me_idx (me_var 0 (pv 0)) me_int (fun _ _ => rfl)) (me_var 1 (pv 1))) (me_var 0 (pv 0)) me_int) (ms_one (ms_ret (me_var 3 (pv 3)))))) ms_nil) (ms_cons (ms_augI (me_var 0 (pv 0)) me_int me_int) (ms_cons (ms_setI (me_op2 sop_mod (me_bltT scr_int rfl (hb_int c X G) rfl (ma_cons (me_op2 sop_add (me_op2 sop_mul (me_idx (me_var 0 (pv 0)) me_int (fun _ _ => rfl)) me_int) (me_op2 sop_mul (me_idx (me_var 0 (pv 0)) me_int (fun _ _ => rfl)) me_int)) ma_nil)) me_int) (me_var 0 (pv 0)) me_int) (ms_one (ms_ret (me_op2 sop_mod (me_bltT scr_int rfl (hb_int c X G) rfl (ma_cons (me_op2 sop_fdiv (me_idx (me_var 0 (pv 0)) me_int (fun _ _ => rfl)) me_int) ma_nil)) (me_var 1 (pv 1)))))))))
include c X G in
theorem fs_law_draw : FnS P w K mg h (tb K) 1 (He.fAd K D_law_draw.at_) 2 [] (fun vs _ => d_law_draw vs) := by
  obtain ⟨fd, F⟩ := c.d.def_ 8 (d := D_law_draw) rfl
  exact ⟨fd, _, _, _, ok_law_draw c X G F, callS_plain F rfl (fun _ _ _ _ _ _ us hl => match us, hl with | [_, _], _ => rfl), rfl⟩
theorem sc_law_truth : FnScope N_law_truth ["_law_bag_here"] (defScope s_law_truth) := ⟨rfl, rfl, rfl, by decide +kernel, rfl, by decide +kernel, by decide +kernel⟩
include c X G in
theorem ok_law_truth {fd : FuncData} (F : FunD K D_law_truth.name D_law_truth.qual D_law_truth.params D_law_truth.body D_law_truth.scope (D_law_truth.dvs K) (D_law_truth.kws K) (He.fAd K D_law_truth.at_) fd) : FnOk P w K mg h (L2.CX P w) 2 (He.fAd K D_law_truth.at_) fd ["_law_bag_here"] (spM K (tb K) 1 (d_law_truth)) :=
  fn_ok F sc_law_truth finV_ok rfl fun cdv A outer s H E hr =>
    (ms_one (ms_ret (me_idx (me_fresh (mf_lst (ma_cons me_bl (ma_cons me_bl (ma_cons me_bl (ma_cons me_bl (ma_cons me_bl (ma_cons me_bl (ma_cons me_non (ma_cons me_int (ma_cons me_int (ma_cons (me_str rfl) (ma_cons (me_tup ma_nil len_nil) ma_nil))))))))))) (len_cons (len_cons (len_cons (len_cons (len_cons (len_cons (len_cons (len_cons (len_cons (len_cons (len_cons len_nil))))))))))))) (me_call (fs_law_draw (w := w) (P := P) c X G) (hr.mono (by decide)) takesB rfl (hg__law_draw c X G) (hk__law_draw c) (ma_cons (me_var 0 (pv 0)) (ma_cons me_int ma_nil)) (len_cons (len_cons len_nil)) mk_nil len_nil) (fun _ _ => rfl))))
include c X G in
theorem fs_law_truth : FnS P w K mg h (tb K) 2 (He.fAd K D_law_truth.at_) 1 [] (fun vs _ => d_law_truth vs) := by
  obtain ⟨fd, F⟩ := c.d.def_ 9 (d := D_law_truth) rfl
  exact ⟨fd, _, _, _, ok_law_truth c X G F, callS_plain F rfl (fun _ _ _ _ _ _ us hl => match us, hl with | [_], _ => rfl), rfl⟩
theorem sc_law_pairs_drawn : FnScope N_law_pairs_drawn ["_law_bag_here", "_law_names_here"] (defScope s_law_pairs_drawn) := ⟨rfl, rfl, rfl, by decide +kernel, rfl, by decide +kernel, by decide +kernel⟩
include c X G in
theorem ok_law_pairs_drawn {fd : FuncData} (F : FunD K D_law_pairs_drawn.name D_law_pairs_drawn.qual D_law_pairs_drawn.params D_law_pairs_drawn.body D_law_pairs_drawn.scope (D_law_pairs_drawn.dvs K) (D_law_pairs_drawn.kws K) (He.fAd K D_law_pairs_drawn.at_) fd) : FnOk P w K mg h (L2.CX P w) 2 (He.fAd K D_law_pairs_drawn.at_) fd ["_law_bag_here", "_law_names_here"] (spM K (tb K) 2 (d_law_pairs_drawn)) :=
  fn_ok F sc_law_pairs_drawn finV_ok rfl fun cdv A outer s H E hr =>
    (ms_cons (ms_new (mf_lst ma_nil len_nil) (pg_name sc_law_pairs_drawn.nd rfl (by first | exact Or.inl rfl | exact Or.inr rfl))) (ms_cons (ms_for passesB rfl (mi_range1 rfl (hb_range c X G) (me_call (fs_law_draw (w := w) (P := P) c X G) (hr.mono (by decide)) takesB rfl (hg__law_draw c X G) (hk__law_draw c) (ma_cons (me_var 0 (pv 0)) (ma_cons me_int ma_nil)) (len_cons (len_cons len_nil)) mk_nil len_nil)) (mg_name (pg_name sc_law_pairs_drawn.nd rfl (by first | exact Or.inl rfl | exact Or.inr rfl))) (gok_name 3) (ms_one (ms_expr (me_mt PySem.F.slot_list_append PySem.F.type_list_append mt_append smt_append (me_var 2 (pv 2)) (ma_cons (me_tup (ma_cons (me_idx (me_var 1 (pv 1)) (me_call (fs_law_draw (w := w) (P := P) c X G) (hr.mono (by decide)) takesB rfl (hg__law_draw c X G) (hk__law_draw c) (ma_cons (me_var 0 (pv 0)) (ma_cons (me_blt scr_len rfl (hb_len c X G) rfl (ma_cons (me_var 1 (pv 1)) ma_nil)) ma_nil)) (len_cons (len_cons len_nil)) mk_nil len_nil) (fun _ _ => rfl)) (ma_cons (me_idx (me_var 1 (pv 1)) (me_call (fs_law_draw (w := w) (P := P) c X G) (hr.mono (by decide)) takesB rfl (hg__law_draw c X G) (hk__law_draw c) (ma_cons (me_var 0 (pv 0)) (ma_cons (me_blt scr_len rfl (hb_len c X G) rfl (ma_cons (me_var 1 (pv 1)) ma_nil)) ma_nil)) (len_cons (len_cons len_nil)) mk_nil len_nil) (fun _ _ => rfl)) ma_nil)) (len_cons (len_cons len_nil))) ma_nil))))) (ms_one (ms_ret (me_bltT scr_tuple rfl (hb_tuple c X G) rfl (ma_cons (me_var 2 (pv 2)) ma_nil))))))
include c X G in
theorem fs_law_pairs_drawn : FnS P w K mg h (tb K) 2 (He.fAd K D_law_pairs_drawn.at_) 2 [] (fun vs _ => d_law_pairs_drawn vs) := by
  obtain ⟨fd, F⟩ := c.d.def_ 10 (d := D_law_pairs_drawn) rfl
  exact ⟨fd, _, _, _, ok_law_pairs_drawn c X G F, callS_plain F rfl (fun _ _ _ _ _ _ us hl => match us, hl with | [_, _], _ => rfl), rfl⟩
theorem sc_law_methods : FnScope N_law_methods ["_law_bag_here", "_law_names_here"] (defScope s_law_methods) := ⟨rfl, rfl, rfl, by decide +kernel, rfl, by decide +kernel, by decide +kernel⟩
include c X G in
theorem ok_law_methods {fd : FuncData} (F : FunD K D_law_methods.name D_law_methods.qual D_law_methods.params D_law_methods.body D_law_methods.scope (D_law_methods.dvs K) (D_law_methods.kws K) (He.fAd K D_law_methods.at_) fd) : FnOk P w K mg h (L2.CX P w) 3 (He.fAd K D_law_methods.at_) fd ["_law_bag_here", "_law_names_here"] (spM K (tb K) 2 (d_law_methods)) :=
  fn_ok F sc_law_methods finV_ok rfl fun cdv A outer s H E hr =>
    (ms_cons (ms_asg (me_call (fs_law_pairs_drawn (w := w) (P := P) c X G) (hr.mono (by decide)) takesB rfl (hg__law_pairs_drawn c X G) (hk__law_pairs_drawn c) (ma_cons (me_var 0 (pv 0)) (ma_cons (me_var 1 (pv 1)) ma_nil)) (len_cons (len_cons len_nil)) mk_nil len_nil) (mg_name (pg_name sc_law_methods.nd rfl (by first | exact Or.inl rfl | exact Or.inr rfl))) (gok_name 2)) (ms_cons (ms_asg (me_call (fs_law_draw (w := w) (P := P) c X G) (hr.mono (by decide)) takesB rfl (hg__law_draw c X G) (hk__law_draw c) (ma_cons (me_var 0 (pv 0)) (ma_cons me_int ma_nil)) (len_cons (len_cons len_nil)) mk_nil len_nil) (mg_name (pg_name sc_law_methods.nd rfl (by first | exact Or.inl rfl | exact Or.inr rfl))) (gok_name 3)) (ms_cons (ms_if (qe_cmp sop_lt (me_var 3 (pv 3)) me_int (nomark _)) (ms_one (ms_ret (me_if (qe_cmp (sop_eq (ru hr)) (me_var 3 (pv 3)) me_int (nomark _)) me_non (me_var 2 (pv 2))))) ms_nil) (ms_cons (ms_if (qe_cmp (sop_eq (ru hr)) (me_var 3 (pv 3)) me_int (nomark _)) (ms_one (ms_ret (me_bltT scr_list rfl (hb_list c X G) rfl (ma_cons (me_var 2 (pv 2)) ma_nil)))) ms_nil) (ms_cons (ms_if (qe_cmp (sop_eq (ru hr)) (me_var 3 (pv 3)) me_int (nomark _)) (ms_one (ms_ret (me_op2 sop_add (me_var 2 (pv 2)) (me_tup (ma_cons (me_tup (ma_cons (me_join (me_str rfl) (me_fresh (mf_lst (ma_cons (me_idx (me_var 1 (pv 1)) me_int (fun _ _ => rfl)) (ma_cons (me_idx (me_var 1 (pv 1)) me_int (fun _ _ => rfl)) (ma_cons (me_str rfl) ma_nil))) (len_cons (len_cons (len_cons len_nil)))))) (ma_cons (me_idx (me_var 1 (pv 1)) me_int (fun _ _ => rfl)) ma_nil)) (len_cons (len_cons len_nil))) ma_nil) (len_cons len_nil))))) ms_nil) (ms_cons (ms_if (qe_cmp (sop_eq (ru hr)) (me_var 3 (pv 3)) me_int (nomark _)) (ms_one (ms_ret (me_op2 sop_add (me_var 2 (pv 2)) (me_tup (ma_cons (me_tup (ma_cons (me_idx (me_var 1 (pv 1)) me_int (fun _ _ => rfl)) (ma_cons (me_idx (me_var 1 (pv 1)) me_int (fun _ _ => rfl)) (ma_cons (me_idx (me_var 1 (pv 1)) me_int (fun _ _ => rfl)) ma_nil))) (len_cons (len_cons (len_cons len_nil)))) ma_nil) (len_cons len_nil))))) ms_nil) (ms_cons (ms_if (qe_cmp (sop_eq (ru hr)) (me_var 3 (pv 3)) me_int (nomark _)) (ms_one (ms_ret (me_op2 sop_add (me_var 2 (pv 2)) (me_tup (ma_cons (me_fresh (mf_lst (ma_cons (me_idx (me_var 1 (pv 1)) me_int (fun _ _ => rfl)) (ma_cons (me_idx (me_var 1 (pv 1)) me_int (fun _ _ => rfl)) ma_nil)) (len_cons (len_cons len_nil)))) ma_nil) (len_cons len_nil))))) ms_nil) (ms_cons (ms_asg (me_fresh (mf_lst (ma_cons me_bl (ma_cons me_bl (ma_cons me_int (ma_cons (me_str rfl) (ma_cons (me_str rfl) (ma_cons (me_tup (ma_cons (me_str rfl) (ma_cons (me_idx (me_var 1 (pv 1)) me_int (fun _ _ => rfl)) ma_nil)) (len_cons (len_cons len_nil))) (ma_cons (me_tup (ma_cons (me_tup (ma_cons (me_idx (me_var 1 (pv 1)) me_int (fun _ _ => rfl)) (ma_cons (me_str rfl) ma_nil)) (len_cons (len_cons len_nil))) ma_nil) (len_cons len_nil)) (ma_cons (me_tup (ma_cons (me_tup (ma_cons (me_idx (me_var 1 (pv 1)) me_int (fun _ _ => rfl)) (ma_cons me_non ma_nil)) (len_cons (len_cons len_nil))) ma_nil) (len_cons len_nil)) (ma_cons (me_tup (ma_cons me_int (ma_cons me_int ma_nil)) (len_cons (len_cons len_nil))) ma_nil))))))))) (len_cons (len_cons (len_cons (len_cons (len_cons (len_cons (len_cons (len_cons (len_cons len_nil))))))))))) (mg_name (pg_name sc_law_methods.nd rfl (by first | exact Or.inl rfl | exact Or.inr rfl))) (gok_name 4)) (ms_one (ms_ret (me_idx (me_var 4 (pv 4)) (me_call (fs_law_draw (w := w) (P := P) c X G) (hr.mono (by decide)) takesB rfl (hg__law_draw c X G) (hk__law_draw c) (ma_cons (me_var 0 (pv 0)) (ma_cons (me_blt scr_len rfl (hb_len c X G) rfl (ma_cons (me_var 4 (pv 4)) ma_nil)) ma_nil)) (len_cons (len_cons len_nil)) mk_nil len_nil) (fun _ _ => rfl))))))))))))
include c X G in
theorem fs_law_methods : FnS P w K mg h (tb K) 3 (He.fAd K D_law_methods.at_) 2 [] (fun vs _ => d_law_methods vs) := by
  obtain ⟨fd, F⟩ := c.d.def_ 11 (d := D_law_methods) rfl
  exact ⟨fd, _, _, _, ok_law_methods c X G F, callS_plain F rfl (fun _ _ _ _ _ _ us hl => match us, hl with | [_, _], _ => rfl), rfl⟩
theorem sc_law_names : FnScope N_law_names ["_law_bag_here", "_law_many"] (defScope s_law_names) := ⟨rfl, rfl, rfl, by decide +kernel, rfl, by decide +kernel, by decide +kernel⟩
include c X G in
theorem ok_law_names {fd : FuncData} (F : FunD K D_law_names.name D_law_names.qual D_law_names.params D_law_names.body D_law_names.scope (D_law_names.dvs K) (D_law_names.kws K) (He.fAd K D_law_names.at_) fd) : FnOk P w K mg h (L2.CX P w) 2 (He.fAd K D_law_names.at_) fd ["_law_bag_here", "_law_many"] (spM K (tb K) 2 (d_law_names)) :=
  fn_ok F sc_law_names finV_ok rfl fun cdv A outer s H E hr =>
    (ms_cons (ms_asg (me_str rfl) (mg_name (pg_name sc_law_names.nd rfl (by first | exact Or.inl rfl | exact Or.inr rfl))) (gok_name 2)) (ms_cons (ms_asg (me_str rfl) (mg_name (pg_name sc_law_names.nd rfl (by first | exact Or.inl rfl | exact Or.inr rfl))) (gok_name 3)) (ms_cons (ms_asg (me_call (fs_law_draw (w := w) (P := P) c X G) (hr.mono (by decide)) takesB rfl (hg__law_draw c X G) (hk__law_draw c) (ma_cons (me_var 0 (pv 0)) (ma_cons me_int ma_nil)) (len_cons (len_cons len_nil)) mk_nil len_nil) (mg_name (pg_name sc_law_names.nd rfl (by first | exact Or.inl rfl | exact Or.inr rfl))) (gok_name 4)) (ms_cons (ms_asg (me_idx (me_var 2 (pv 2)) (me_op2 sop_mod (me_bltT scr_int rfl (hb_int c X G) rfl (ma_cons (me_op2 sop_add (me_var 4 (pv 4)) (me_var 1 (pv 1))) ma_nil)) me_int) (fun _ _ => rfl)) (mg_name (pg_name sc_law_names.nd rfl (by first | exact Or.inl rfl | exact Or.inr rfl))) (gok_name 5)) (ms_cons (ms_new (mf_lst ma_nil len_nil) (pg_name sc_law_names.nd rfl (by first | exact Or.inl rfl | exact Or.inr rfl))) (ms_cons (ms_for passesB rfl (mi_range1 rfl (hb_range c X G) (me_var 1 (pv 1))) (mg_name (pg_name sc_law_names.nd rfl (by first | exact Or.inl rfl | exact Or.inr rfl))) (gok_name 7) (ms_cons (ms_asg (me_join (me_str rfl) (me_fresh (mf_comp (own := [("_law_j", 9)]) rfl sc_law_names.nd (mi_range1 rfl (hb_range c X G) (me_call (fs_law_draw (w := w) (P := P) c X G) (hr.mono (by decide)) takesB rfl (hg__law_draw c X G) (hk__law_draw c) (ma_cons (me_var 0 (pv 0)) (ma_cons me_int ma_nil)) (len_cons (len_cons len_nil)) mk_nil len_nil)) (show BlkOk N_law_names (defScope s_law_names) _ [("_law_j", 9)] from ⟨rfl, by decide +kernel, by decide +kernel, by decide +kernel, by decide +kernel⟩) (fun _ _ _ _ _ => pg_name sc_law_names.nd rfl (Or.inl rfl)) (gin_name (by decide)) (fun _ _ _ _ _ => pts0) (fun _ _ _ _ _ => (me_idx (me_var 2 (pv 2)) (me_call (fs_law_draw (w := w) (P := P) c X G) (hr.mono (by decide)) tkz0 rfl (hg__law_draw c X G) (hk__law_draw c) (ma_cons (me_var 0 (pv 0)) (ma_cons me_int ma_nil)) (len_cons (len_cons len_nil)) mk_nil len_nil) (fun _ _ => rfl)))))) (mg_name (pg_name sc_law_names.nd rfl (by first | exact Or.inl rfl | exact Or.inr rfl))) (gok_name 8)) (ms_cons (ms_asg (me_op2 sop_add (me_var 8 (pv 8)) (me_idx (me_var 2 (pv 2)) (me_op2 sop_mod (me_bltT scr_int rfl (hb_int c X G) rfl (ma_cons (me_op2 sop_add (me_var 4 (pv 4)) (me_var 7 (pv 7))) ma_nil)) me_int) (fun _ _ => rfl))) (mg_name (pg_name sc_law_names.nd rfl (by first | exact Or.inl rfl | exact Or.inr rfl))) (gok_name 8)) (ms_one (ms_expr (me_mt PySem.F.slot_list_append PySem.F.type_list_append mt_append smt_append (me_var 6 (pv 6)) (ma_cons (me_if (qe_cmp (sop_in (ru hr)) (me_var 8 (pv 8)) (me_split (me_var 3 (pv 3)) (me_str rfl)) (by with_unfolding_all rfl)) (me_op2 sop_add (me_op2 sop_add (me_var 8 (pv 8)) (me_var 5 (pv 5))) (me_var 5 (pv 5))) (me_var 8 (pv 8))) ma_nil))))))) (ms_one (ms_ret (me_var 6 (pv 6))))))))))
include c X G in
theorem fs_law_names : FnS P w K mg h (tb K) 2 (He.fAd K D_law_names.at_) 2 [] (fun vs _ => d_law_names vs) := by
  obtain ⟨fd, F⟩ := c.d.def_ 12 (d := D_law_names) rfl
  exact ⟨fd, _, _, _, ok_law_names c X G F, callS_plain F rfl (fun _ _ _ _ _ _ us hl => match us, hl with | [_, _], _ => rfl), rfl⟩
theorem sc_law_bag : FnScope N_law_bag ["_law_script"] (defScope s_law_bag) := ⟨rfl, rfl, rfl, by decide +kernel, rfl, by decide +kernel, by decide +kernel⟩
include c X G in
theorem ok_law_bag {fd : FuncData} (F : FunD K D_law_bag.name D_law_bag.qual D_law_bag.params D_law_bag.body D_law_bag.scope (D_law_bag.dvs K) (D_law_bag.kws K) (He.fAd K D_law_bag.at_) fd) : FnOk P w K mg h (L2.CX P w) 1 (He.fAd K D_law_bag.at_) fd ["_law_script"] (spM K (tb K) 1 (d_law_bag)) :=
  fn_ok F sc_law_bag finL_ok rfl fun cdv A outer s H E hr =>
    (ms_one (ms_retL (mf_cat (me_fresh (mf_lst (ma_cons me_int (ma_cons me_int (ma_cons me_int ma_nil))) (len_cons (len_cons (len_cons len_nil))))) (me_bltT scr_list rfl (hb_list c X G) rfl (ma_cons (me_var 0 (pv 0)) ma_nil)))))
include c X G in
theorem fs_law_bag : FnS P w K mg h (tb K) 1 (He.fAd K D_law_bag.at_) 1 [] (fun vs _ => d_law_bag vs) := by
  obtain ⟨fd, F⟩ := c.d.def_ 13 (d := D_law_bag) rfl
  exact ⟨fd, _, _, _, ok_law_bag c X G F, callS_plain F rfl (fun _ _ _ _ _ _ us hl => match us, hl with | [_], _ => rfl), rfl⟩
theorem sc_law : FnScope N_law ["_law_script"] (defScope s_law) := ⟨rfl, rfl, rfl, by decide +kernel, rfl, by decide +kernel, by decide +kernel⟩
include c X G in
theorem ok_law {fd : FuncData} (F : FunD K D_law.name D_law.qual D_law.params D_law.body D_law.scope (D_law.dvs K) (D_law.kws K) (He.fAd K D_law.at_) fd) : FnOk P w K mg h (L2.CX P w) 6 (He.fAd K D_law.at_) fd ["_law_script"] (spM K (tb K) 1 (d_law)) :=
  fn_ok F sc_law finV_ok rfl fun cdv A outer s H E hr =>
    (ms_cons (ms_asg (me_call (fs_law_bag (w := w) (P := P) c X G) (hr.mono (by decide)) takesB rfl (hg__law_bag c X G) (hk__law_bag c) (ma_cons (me_var 0 (pv 0)) ma_nil) (len_cons len_nil) mk_nil len_nil) (mg_name (pg_name sc_law.nd rfl (by first | exact Or.inl rfl | exact Or.inr rfl))) (gok_name 1)) (ms_cons (ms_asg (me_call (fs_law_names (w := w) (P := P) c X G) (hr.mono (by decide)) takesB rfl (hg__law_names c X G) (hk__law_names c) (ma_cons (me_var 1 (pv 1)) (ma_cons me_int ma_nil)) (len_cons (len_cons len_nil)) mk_nil len_nil) (mg_name (pg_name sc_law.nd rfl (by first | exact Or.inl rfl | exact Or.inr rfl))) (gok_name 2)) (ms_cons (ms_new (mf_lst ma_nil len_nil) (pg_name sc_law.nd rfl (by first | exact Or.inl rfl | exact Or.inr rfl))) (ms_cons (ms_for passesB rfl (mi_range1 rfl (hb_range c X G) me_int) (mg_name (pg_name sc_law.nd rfl (by first | exact Or.inl rfl | exact Or.inr rfl))) (gok_name 4) (ms_cons (ms_asg (me_tup (ma_cons (me_call (fs_law_methods (w := w) (P := P) c X G) (hr.mono (by decide)) takesB rfl (hg__law_methods c X G) (hk__law_methods c) (ma_cons (me_var 1 (pv 1)) (ma_cons (me_var 2 (pv 2)) ma_nil)) (len_cons (len_cons len_nil)) mk_nil len_nil) (ma_cons (me_call (fs_law_truth (w := w) (P := P) c X G) (hr.mono (by decide)) takesB rfl (hg__law_truth c X G) (hk__law_truth c) (ma_cons (me_var 1 (pv 1)) ma_nil) (len_cons len_nil) mk_nil len_nil) (ma_cons (me_call (fs_law_truth (w := w) (P := P) c X G) (hr.mono (by decide)) takesB rfl (hg__law_truth c X G) (hk__law_truth c) (ma_cons (me_var 1 (pv 1)) ma_nil) (len_cons len_nil) mk_nil len_nil) ma_nil))) (len_cons (len_cons (len_cons len_nil)))) (mg_name (pg_name sc_law.nd rfl (by first | exact Or.inl rfl | exact Or.inr rfl))) (gok_name 7)) (ms_cons (ms_asg (me_call (fs_law_due (w := w) (P := P) c X G) (hr.mono (by decide)) takesB rfl (hg__law_due c X G) (hk__law_due c) (ma_cons (me_var 7 (pv 7)) (ma_cons (me_var 2 (pv 2)) ma_nil)) (len_cons (len_cons len_nil)) mk_nil len_nil) (mg_name (pg_name sc_law.nd rfl (by first | exact Or.inl rfl | exact Or.inr rfl))) (gok_name 8)) (ms_cons (ms_asg (me_call (fs_law_made (w := w) (P := P) c X G) (hr.mono (by decide)) takesB rfl (hg__law_made c X G) (hk__law_made c) (ma_cons (me_var 7 (pv 7)) ma_nil) (len_cons len_nil) mk_nil len_nil) (mg_name (pg_name sc_law.nd rfl (by first | exact Or.inl rfl | exact Or.inr rfl))) (gok_name 9)) (ms_cons (ms_if (qe_notN (me_var 8 (pv 8))) (ms_cons (ms_if (PW.pt (qw_or (qe_not (qe_of (me_blt (scr_isi (hIsi c)) rfl (hb_isinstance c X G) rfl (ma_cons (me_var 9 (pv 9)) (ma_cons (me_bty (n := "str") rfl (hb_str c X G) rfl) ma_nil))))) (qw_or1 (qe_cmp (sop_ne (ru hr)) (me_var 9 (pv 9)) (me_var 8 (pv 8)) (nomark _))))) (ms_one (ms_ret me_bl)) ms_nil) (ms_one ms_continue)) ms_nil) (ms_cons (ms_if (PW.pt (qw_or (qe_not (qe_of (me_blt (scr_isi (hIsi c)) rfl (hb_isinstance c X G) rfl (ma_cons (me_var 9 (pv 9)) (ma_cons (me_gcls (T := tb K) (c := 0) rfl (hg_Callers c X G)) ma_nil))))) (qw_or1 (qe_cmp (sop_ne (ru hr)) (me_fld (me_var 9 (pv 9)) (hf_methods c)) (me_idx (me_var 7 (pv 7)) me_int (fun _ _ => rfl)) (nomark _))))) (ms_one (ms_ret me_bl)) ms_nil) (ms_cons (ms_if (PW.pt (qw_or (qe_cmp (sop_ne (ru hr)) (me_blt scr_repr rfl (hb_repr c X G) rfl (ma_cons (me_fld (me_var 9 (pv 9)) (hf_changes c)) ma_nil)) (me_blt scr_repr rfl (hb_repr c X G) rfl (ma_cons (me_idx (me_var 7 (pv 7)) me_int (fun _ _ => rfl)) ma_nil)) (nomark _)) (qw_or1 (qe_cmp (sop_ne (ru hr)) (me_blt scr_repr rfl (hb_repr c X G) rfl (ma_cons (me_fld (me_var 9 (pv 9)) (hf_passes c)) ma_nil)) (me_blt scr_repr rfl (hb_repr c X G) rfl (ma_cons (me_idx (me_var 7 (pv 7)) me_int (fun _ _ => rfl)) ma_nil)) (nomark _))))) (ms_one (ms_ret me_bl)) ms_nil) (ms_cons (ms_if (qe_cmp (sop_ne (ru hr)) (me_blt (scr_isi (hIsi c)) rfl (hb_isinstance c X G) rfl (ma_cons (me_idx (me_var 7 (pv 7)) me_int (fun _ _ => rfl)) (ma_cons (me_bty (n := "tuple") rfl (hb_tuple c X G) rfl) ma_nil))) (me_blt (scr_isi (hIsi c)) rfl (hb_isinstance c X G) rfl (ma_cons (me_fld (me_var 9 (pv 9)) (hf_methods c)) (ma_cons (me_bty (n := "tuple") rfl (hb_tuple c X G) rfl) ma_nil))) (nomark _)) (ms_one (ms_ret me_bl)) ms_nil) (ms_one (ms_expr (me_mt PySem.F.slot_list_append PySem.F.type_list_append mt_append smt_append (me_var 3 (pv 3)) (ma_cons (me_tup (ma_cons (me_var 7 (pv 7)) (ma_cons (me_var 9 (pv 9)) ma_nil)) (len_cons (len_cons len_nil))) ma_nil)))))))))))) (ms_cons (ms_for passesB rfl (mi_seq (me_var 3 (pv 3))) (mg_name (pg_name sc_law.nd rfl (by first | exact Or.inl rfl | exact Or.inr rfl))) (gok_name 5) (ms_cons (ms_for passesB rfl (mi_seq (me_var 3 (pv 3))) (mg_name (pg_name sc_law.nd rfl (by first | exact Or.inl rfl | exact Or.inr rfl))) (gok_name 10) (ms_one (ms_if (PW.pt (qw_or (qe_cmp (sop_ne (ru hr)) (me_ownEq (k := KEQ) (hEq c X G) (hr.mono (by decide)) takesB (me_idx (me_var 5 (pv 5)) me_int (fun _ _ => rfl)) (me_idx (me_var 10 (pv 10)) me_int (fun _ _ => rfl)) (nomark _)) (me_cmp (sop_eq (ru hr)) (me_idx (me_var 5 (pv 5)) me_int (fun _ _ => rfl)) (me_idx (me_var 10 (pv 10)) me_int (fun _ _ => rfl)) (nomark _)) (nomark _)) (qw_or1 (qe_cmp (sop_eq (ru hr)) (me_ownNe (k := KEQ) (hEq c X G) (hr.mono (by decide)) takesB (me_idx (me_var 5 (pv 5)) me_int (fun _ _ => rfl)) (me_idx (me_var 10 (pv 10)) me_int (fun _ _ => rfl)) (nomark _)) (me_cmp (sop_eq (ru hr)) (me_idx (me_var 5 (pv 5)) me_int (fun _ _ => rfl)) (me_idx (me_var 10 (pv 10)) me_int (fun _ _ => rfl)) (nomark _)) (nomark _))))) (ms_one (ms_ret me_bl)) ms_nil))) (ms_cons (ms_if (PW.pt (qw_or (qe_ownNe (k := KEQ) (hEq c X G) (hr.mono (by decide)) takesB (me_idx (me_var 5 (pv 5)) me_int (fun _ _ => rfl)) (me_new (c := 0) finV_ok (hmk_Callers c) (fs_Callers_init_2_changes_passes (w := w) (P := P) c X G) (hr.mono (by decide)) takesB rfl (hg_Callers c X G) (ma_cons (me_idx (me_idx (me_var 5 (pv 5)) me_int (fun _ _ => rfl)) me_int (fun _ _ => rfl)) ma_nil) (len_cons len_nil) (mk_cons (me_idx (me_idx (me_var 5 (pv 5)) me_int (fun _ _ => rfl)) me_int (fun _ _ => rfl)) (mk_cons (me_idx (me_idx (me_var 5 (pv 5)) me_int (fun _ _ => rfl)) me_int (fun _ _ => rfl)) mk_nil)) (len_cons (len_cons len_nil))) (nomark _)) (qw_or1 (qe_ownEq (k := KEQ) (hEq c X G) (hr.mono (by decide)) takesB (me_idx (me_var 5 (pv 5)) me_int (fun _ _ => rfl)) (me_idx (me_var 5 (pv 5)) me_int (fun _ _ => rfl)) (nomark _))))) (ms_one (ms_ret me_bl)) ms_nil) (ms_cons (ms_if (qe_ownEq (k := KEQ) (hEq c X G) (hr.mono (by decide)) takesB (me_idx (me_var 5 (pv 5)) me_int (fun _ _ => rfl)) (me_new (c := 0) finV_ok (hmk_Callers c) (fs_Callers_init_2_changes_passes (w := w) (P := P) c X G) (hr.mono (by decide)) takesB rfl (hg_Callers c X G) (ma_cons (me_idx (me_idx (me_var 5 (pv 5)) me_int (fun _ _ => rfl)) me_int (fun _ _ => rfl)) ma_nil) (len_cons len_nil) (mk_cons (me_not (me_idx (me_idx (me_var 5 (pv 5)) me_int (fun _ _ => rfl)) me_int (fun _ _ => rfl))) (mk_cons (me_idx (me_idx (me_var 5 (pv 5)) me_int (fun _ _ => rfl)) me_int (fun _ _ => rfl)) mk_nil)) (len_cons (len_cons len_nil))) (nomark _)) (ms_one (ms_ret me_bl)) ms_nil) (ms_one (ms_if (qe_ownEq (k := KEQ) (hEq c X G) (hr.mono (by decide)) takesB (me_idx (me_var 5 (pv 5)) me_int (fun _ _ => rfl)) (me_new (c := 0) finV_ok (hmk_Callers c) (fs_Callers_init_2_changes_passes (w := w) (P := P) c X G) (hr.mono (by decide)) takesB rfl (hg_Callers c X G) (ma_cons (me_idx (me_idx (me_var 5 (pv 5)) me_int (fun _ _ => rfl)) me_int (fun _ _ => rfl)) ma_nil) (len_cons len_nil) (mk_cons (me_idx (me_idx (me_var 5 (pv 5)) me_int (fun _ _ => rfl)) me_int (fun _ _ => rfl)) (mk_cons (me_not (me_idx (me_idx (me_var 5 (pv 5)) me_int (fun _ _ => rfl)) me_int (fun _ _ => rfl))) mk_nil)) (len_cons (len_cons len_nil))) (nomark _)) (ms_one (ms_ret me_bl)) ms_nil)))))) (ms_cons (ms_asg (me_new0 (c := 0) finV_ok (hmk_Callers c) (fs_Callers_init_1_ (w := w) (P := P) c X G) (hr.mono (by decide)) takesB rfl (hg_Callers c X G) mk_nil len_nil) (mg_name (pg_name sc_law.nd rfl (by first | exact Or.inl rfl | exact Or.inr rfl))) (gok_name 6)) (ms_one (ms_ret (me_and (me_isN (me_fld (me_var 6 (pv 6)) (hf_methods c))) (me_and (me_isB (me_fld (me_var 6 (pv 6)) (hf_changes c))) (me_and1 (me_isB (me_fld (me_var 6 (pv 6)) (hf_passes c))))))))))))))
include c X G in
theorem fs_law : FnS P w K mg h (tb K) 6 (He.fAd K D_law.at_) 1 [] (fun vs _ => d_law vs) := by
  obtain ⟨fd, F⟩ := c.d.def_ 14 (d := D_law) rfl
  exact ⟨fd, _, _, _, ok_law c X G F, callS_plain F rfl (fun _ _ _ _ _ _ us hl => match us, hl with | [_], _ => rfl), rfl⟩
end
end K38
namespace K38
open Mir
open DL (isNm Nm4 isBag)
open PL (G nmP nmB isBl isTup isStr)
theorem tabOk : PL.TabOk isiT := ⟨by decide, by decide, by decide⟩
theorem nameE : d_is_name = PL.d_is_name isiT := rfl
theorem truthE : d_is_truth = PL.d_is_truth isiT := rfl
theorem drawE : d_law_draw = DL.dDraw := rfl
theorem namesE : d_law_names = DL.dNames := rfl
/-- the pairs from here on, behind those -/
def apO (f : PV → Bool) (pre : List PV) : PV → Bool
  | .tup [a, b] => f a && f b && !(pre.any fun z => eqF dp z (.tup [a, b]))
  | _ => false
theorem apO_two (f : PV → Bool) (pre : List PV) (a b : PV) : apO f pre (.tup [a, b]) = (f a && f b && !(pre.any fun z => eqF dp z (.tup [a, b]))) := rfl
theorem apO_len (f : PV → Bool) (pre : List PV) {ys : List PV} (h : (ys.length : Int) ≠ 2) : apO f pre (.tup ys) = false := by
  match ys, h with
  | [], _ => rfl
  | [_], _ => rfl
  | [_, _], h => exact absurd rfl h
  | _ :: _ :: _ :: _, _ => rfl
theorem apO_no (f : PV → Bool) (pre : List PV) {x : PV} (h : isTup x = false) : apO f pre x = false := by
  cases x <;> first | rfl | (simp [isTup] at h)
def apG (f : PV → Bool) : List PV → List PV → Bool
  | _, [] => true
  | pre, x :: r => apO f pre x && apG f (pre ++ [x]) r
def apP (f : PV → Bool) : PV → Bool
  | .tup xs => apG f [] xs
  | _ => false
theorem pairSplit (x : PV) : (∃ a b, x = .tup [a, b]) ∨ (isTup x = true ∧ ∃ xs, x = .tup xs ∧ (xs.length : Int) ≠ 2) ∨ isTup x = false := by
  cases x <;> first | exact .inr (.inr rfl) | skip
  rename_i xs
  match xs with
  | [a, b] => exact .inl ⟨a, b, rfl⟩
  | [] => exact .inr (.inl ⟨rfl, _, rfl, by simp⟩)
  | [_] => exact .inr (.inl ⟨rfl, _, rfl, by simp⟩)
  | _ :: _ :: _ :: r => exact .inr (.inl ⟨rfl, _, rfl, by simp; omega⟩)
theorem in_tup {x : PV} {xs : List PV} (s : Store) (h : isD dp x = true) (h' : xs.all (isD dp) = true) : pyIn x (.tup xs) s = .ok (.bl (xs.any fun z => eqF dp z x)) s := by
  unfold pyIn inP
  split
  · rename_i heq; cases heq
  · simp [h, h']
theorem GD {x : PV} (h : G 4 x = true) : isD dp x = true := PL.G_isD _ _ (PL.G_mono _ _ (PL.G_mono _ _ (PL.G_mono _ _ (PL.G_mono _ _ (PL.G_mono _ _ (PL.G_mono _ _ (PL.G_mono _ _ (PL.G_mono _ _ h))))))))
theorem Gall {n : Nat} {xs : List PV} (h : G (n + 1) (.tup xs) = true) : xs.length ≤ 1000 ∧ ∀ x ∈ xs, G n x = true := by
  simp only [G, Bool.and_eq_true, List.all_eq_true, decide_eq_true_eq] at h
  exact h
theorem pairs_eq {x : PV} (hx : G 5 x = true) (s : Store) : d_are_pairs [x] s = .ok (.bl (apP nmP x)) s := by
  have fin : ∀ b, finV s (.bl b) s = .ok (.bl b) s := fun b => finV_data rfl (kept_refl _ _) (by simp)
  have hi := PL.isi_tup (s := s) tabOk hx
  unfold d_are_pairs
  rw [runDef_ap]
  unfold m_are_pairs
  by_cases ht : isTup x = true
  case neg =>
    have ht' : isTup x = false := by simpa using ht
    have : apP nmP x = false := by cases x <;> first | rfl | (simp [isTup] at ht')
    simp [-bIsi_ty, hi, ht', this, fin]
  case pos =>
    obtain ⟨L, rfl⟩ : ∃ L, x = .tup L := by cases x <;> first | (simp [isTup] at ht; done) | exact ⟨_, rfl⟩
    obtain ⟨hl, hG⟩ := Gall hx
    obtain ⟨σ', f, s', e1, e2⟩ := forGo_ret (g := gTup [1, 2]) (b := b_are_pairs_0) (keep := keepAs [some (.tup L), none, none]) (w := ⟨enumI 0 L, none⟩)
      (fun n xs σ s1 => xs = enumI n (L.drop n) ∧ apG nmP [] L = apG nmP (L.take n) (L.drop n) ∧ (σ = [some (.tup L), none, none] ∧ s1 = s)) (fun v s1 => v = .bl false ∧ apG nmP [] L = false ∧ s1 = s) (enumI 0 L) 0 [some (.tup L), none, none] s ⟨by simp, by simp, rfl, rfl⟩ (fun _ _ _ _ _ => trivial) (by
        rintro n x xs σ s1 ⟨hx, hap, rfl, rfl⟩
        have hn : n < L.length := by
          rcases Nat.lt_or_ge n L.length with q | q
          · exact q
          · rw [List.drop_of_length_le q] at hx; simp [enumI] at hx
        rw [List.drop_eq_getElem_cons hn] at hx hap
        simp only [enumI] at hx
        obtain ⟨rfl, rfl⟩ := List.cons.inj hx
        have hg := hG L[n] (List.getElem_mem hn)
        have cut : cutP L none (some (n : Int)) = L.take n := cut_lo (by omega)
        have hin := in_tup (x := L[n]) (xs := L.take n) s1 (GD hg) (by rw [List.all_eq_true]; exact fun y hy => GD (hG y (List.mem_of_mem_take hy)))
        have hi := PL.isi_tup (s := s1) tabOk hg
        have tk : L.take n ++ [L[n]] = L.take (n + 1) := by rw [List.take_succ_eq_append_getElem hn]
        simp only [apG, tk] at hap
        rcases pairSplit L[n] with ⟨a, b, ex⟩ | ⟨t, ys, ex, hy⟩ | t
        · rw [ex] at hg hin hi hap
          obtain ⟨_, hab⟩ := Gall hg
          have na := PL.isname_eq tabOk (hab a (by simp)) s1
          have nb := PL.isname_eq tabOk (hab b (by simp)) s1
          simp only [isTup] at hi
          rw [apO_two] at hap
          cases ha : nmP a
          · refine ⟨_, _, [some (.tup L), some (.int n), some (.tup [a, b])], .ret (.bl false), s1, rfl, ?_, .inr ⟨_, rfl, rfl, by rw [hap, ha]; rfl, rfl⟩⟩
            rw [ha] at na
            unfold b_are_pairs_0
            simp [-bIsi_ty, ex, hi, nameE, na]
          · cases hb : nmP b
            · refine ⟨_, _, [some (.tup L), some (.int n), some (.tup [a, b])], .ret (.bl false), s1, rfl, ?_, .inr ⟨_, rfl, rfl, by rw [hap, ha, hb]; rfl, rfl⟩⟩
              rw [ha] at na
              rw [hb] at nb
              unfold b_are_pairs_0
              simp [-bIsi_ty, ex, hi, nameE, na, nb]
            · rw [ha] at na
              rw [hb] at nb
              cases hq : (L.take n).any fun z => eqF dp z (.tup [a, b])
              · rw [hq] at hin
                refine ⟨_, _, [some (.tup L), some (.int n), some (.tup [a, b])], .next, s1, rfl, ?_, .inl ⟨.inl rfl, rfl, by rw [hap, ha, hb, hq]; rfl, rfl, rfl⟩⟩
                unfold b_are_pairs_0
                simp [-bIsi_ty, ex, hi, nameE, na, nb, sliceV, cut, hin]
              · rw [hq] at hin
                refine ⟨_, _, [some (.tup L), some (.int n), some (.tup [a, b])], .ret (.bl false), s1, rfl, ?_, .inr ⟨_, rfl, rfl, by rw [hap, ha, hb, hq]; rfl, rfl⟩⟩
                unfold b_are_pairs_0
                simp [-bIsi_ty, ex, hi, nameE, na, nb, sliceV, cut, hin]
        · rw [ex] at hi
          simp only [isTup] at hi
          have z : apO nmP (L.take n) L[n] = false := by rw [ex]; exact apO_len _ _ hy
          refine ⟨_, _, [some (.tup L), some (.int n), some L[n]], .ret (.bl false), s1, rfl, ?_, .inr ⟨_, rfl, rfl, by rw [hap, z]; rfl, rfl⟩⟩
          unfold b_are_pairs_0
          simp [-bIsi_ty, ex, hi, hy]
        · rw [t] at hi
          have z : apO nmP (L.take n) L[n] = false := apO_no _ _ t
          refine ⟨_, _, [some (.tup L), some (.int n), some L[n]], .ret (.bl false), s1, rfl, ?_, .inr ⟨_, rfl, rfl, by rw [hap, z]; rfl, rfl⟩⟩
          unfold b_are_pairs_0
          simp [-bIsi_ty, hi])
    have z : L.length ≤ sz := by simp only [sz]; omega
    simp only [isTup] at hi
    rcases e2 with ⟨rfl, h1, h2, rfl, rfl⟩ | ⟨v, rfl, rfl, h2, rfl⟩
    · have ht : apP nmP (.tup L) = true := by
        show apG nmP [] L = true
        rw [h2]
        have : L.drop (0 + (enumI 0 L).length) = [] := by
          cases hd : L.drop (0 + (enumI 0 L).length) with
          | nil => rfl
          | cons a b => rw [hd] at h1; simp [enumI] at h1
        rw [this]; rfl
      simp [-bIsi_ty, hi, iEnum, z, e1, ht, fin]
    · have ht : apP nmP (.tup L) = false := h2
      simp [-bIsi_ty, hi, iEnum, z, e1, ht, fin]
end K38
namespace K38
open Mir
open DL (isNm Nm4 isBag)
open PL (G nmP nmB isBl isTup isStr)
def memN (l : List (List Nat)) : PV → Bool
  | .str w => decide (w ∈ l)
  | _ => false
theorem any_mem (l : List (List Nat)) (y : PV) : (l.map PV.str).any (fun z => eqF dp z y) = memN l y := by
  induction l with
  | nil => cases y <;> rfl
  | cons a l ih =>
    simp only [List.map_cons, List.any_cons, ih]
    cases y with
    | str w =>
      simp only [memN]
      show ((a == w) || decide (w ∈ l)) = decide (w ∈ a :: l)
      by_cases h : a = w
      · simp [h]
      · have h2 : (a == w) = false := beq_eq_false_iff_ne.mpr h
        rw [h2, Bool.false_or]
        exact decide_eq_decide.mpr ⟨fun q => List.mem_cons_of_mem _ q, fun q => (List.mem_cons.mp q).resolve_left (Ne.symm h)⟩
    | _ => rfl
theorem notin_names (l : List (List Nat)) {y : PV} (s : Store) (h : isD dp y = true) : pyNotIn y (.lst (l.map .str)) s = .ok (.bl (!memN l y)) s := by
  unfold pyNotIn inP
  split
  · rename_i heq; cases heq
  · rename_i x' y' _
    have : (l.map PV.str).all (isD dp) = true := by rw [List.all_eq_true]; intro z hz; obtain ⟨w, _, rfl⟩ := List.mem_map.mp hz; rfl
    simp only [itemsOf_lst, h, this, Bool.and_self, if_true, any_mem]
    rfl
theorem idx_at (L : List PV) (n : Nat) (hn : n < L.length) (s : Store) : pyIdx (.tup L) (.int n) s = .ok L[n] s := by
  rw [pyIdx_tup, atP_of (j := n) (by simp) (by rw [List.getElem?_eq_getElem hn])]
  rfl
theorem lpairs_eq (l : List (List Nat)) {x : PV} (hx : G 5 x = true) (s : Store) : d_law_are_pairs [x, .lst (l.map .str)] s = .ok (.bl (apP (memN l) x)) s := by
  have fin : ∀ b, finV s (.bl b) s = .ok (.bl b) s := fun b => finV_data rfl (kept_refl _ _) (by simp)
  have hi := PL.isi_tup (s := s) tabOk hx
  unfold d_law_are_pairs
  rw [runDef_ap]
  unfold m_law_are_pairs
  by_cases ht : isTup x = true
  case neg =>
    have ht' : isTup x = false := by simpa using ht
    have : apP (memN l) x = false := by cases x <;> first | rfl | (simp [isTup] at ht')
    simp [-bIsi_ty, hi, ht', this, fin]
  case pos =>
    obtain ⟨L, rfl⟩ : ∃ L, x = .tup L := by cases x <;> first | (simp [isTup] at ht; done) | exact ⟨_, rfl⟩
    obtain ⟨hl, hG⟩ := Gall hx
    generalize hE : ([some (.tup L), some (.lst (l.map .str)), none, none] : Env) = E0
    obtain ⟨σ', f, s', e1, e2⟩ := forGo_ret (g := gName 2) (b := b_law_are_pairs_0) (keep := keepAs E0) (w := ⟨(List.range L.length).map fun k => .int (k : Nat), none⟩)
      (fun n xs σ s1 => n ≤ L.length ∧ xs = (((List.range L.length).drop n).map fun k => .int (k : Nat)) ∧ apG (memN l) [] L = apG (memN l) (L.take n) (L.drop n) ∧ (σ = E0 ∧ s1 = s)) (fun v s1 => v = .bl false ∧ apG (memN l) [] L = false ∧ s1 = s) ((List.range L.length).map fun k => .int (k : Nat)) 0 E0 s ⟨by omega, by simp, by simp, rfl, rfl⟩ (fun _ _ _ _ _ => trivial) (by
        rintro n x xs σ s1 ⟨hle, hx, hap, rfl, rfl⟩
        subst hE
        have hn : n < L.length := by
          rcases Nat.lt_or_ge n L.length with q | q
          · exact q
          · rw [List.drop_of_length_le (by simpa using q)] at hx; simp at hx
        have hn2 : n < (List.range L.length).length := by simpa using hn
        rw [List.drop_eq_getElem_cons hn2] at hx
        rw [List.drop_eq_getElem_cons hn] at hap
        simp only [List.map_cons, List.getElem_range] at hx
        obtain ⟨rfl, rfl⟩ := List.cons.inj hx
        have hg := hG L[n] (List.getElem_mem hn)
        have cut : cutP L none (some (n : Int)) = L.take n := cut_lo (by omega)
        have hin := in_tup (x := L[n]) (xs := L.take n) s1 (GD hg) (by rw [List.all_eq_true]; exact fun y hy => GD (hG y (List.mem_of_mem_take hy)))
        have hi := PL.isi_tup (s := s1) tabOk hg
        have ix := idx_at L n hn s1
        have tk : L.take n ++ [L[n]] = L.take (n + 1) := by rw [List.take_succ_eq_append_getElem hn]
        simp only [apG, tk] at hap
        rcases pairSplit L[n] with ⟨a, b, ex⟩ | ⟨t, ys, ex, hy⟩ | t
        · rw [ex] at hg hin hi hap ix
          obtain ⟨_, hab⟩ := Gall hg
          have na := notin_names l s1 (GD (PL.G_mono _ _ (hab a (by simp))))
          have nb := notin_names l s1 (GD (PL.G_mono _ _ (hab b (by simp))))
          simp only [isTup] at hi
          rw [apO_two] at hap
          cases hq : (L.take n).any fun z => eqF dp z (.tup [a, b])
          case true =>
            rw [hq] at hin
            refine ⟨_, _, [some (.tup L), some (.lst (l.map .str)), some (.int n), some (.tup [a, b])], .ret (.bl false), s1, rfl, ?_, .inr ⟨_, rfl, rfl, by rw [hap, hq]; simp, rfl⟩⟩
            unfold b_law_are_pairs_0
            simp [-bIsi_ty, -pyIdx_tup, ix, hi, sliceV, cut, hin]
          case false =>
            rw [hq] at hin
            cases ha : memN l a
            · refine ⟨_, _, [some (.tup L), some (.lst (l.map .str)), some (.int n), some (.tup [a, b])], .ret (.bl false), s1, rfl, ?_, .inr ⟨_, rfl, rfl, by rw [hap, ha]; rfl, rfl⟩⟩
              rw [ha] at na
              unfold b_law_are_pairs_0
              simp only [sSeq_ap, sAsg_ap, eOp2_ap, eVar_ap, List.getElem?_cons_zero, List.getElem?_cons_succ, Res.bind_ok, ix]
              simp [-bIsi_ty, ix, hi, sliceV, cut, hin, na]
            · cases hb : memN l b
              · refine ⟨_, _, [some (.tup L), some (.lst (l.map .str)), some (.int n), some (.tup [a, b])], .ret (.bl false), s1, rfl, ?_, .inr ⟨_, rfl, rfl, by rw [hap, ha, hb]; rfl, rfl⟩⟩
                rw [ha] at na
                rw [hb] at nb
                unfold b_law_are_pairs_0
                simp only [sSeq_ap, sAsg_ap, eOp2_ap, eVar_ap, List.getElem?_cons_zero, List.getElem?_cons_succ, Res.bind_ok, ix]
                simp [-bIsi_ty, ix, hi, sliceV, cut, hin, na, nb]
              · refine ⟨_, _, [some (.tup L), some (.lst (l.map .str)), some (.int n), some (.tup [a, b])], .next, s1, rfl, ?_, .inl ⟨.inl rfl, by omega, rfl, by rw [hap, ha, hb, hq]; rfl, rfl, rfl⟩⟩
                rw [ha] at na
                rw [hb] at nb
                unfold b_law_are_pairs_0
                simp only [sSeq_ap, sAsg_ap, eOp2_ap, eVar_ap, List.getElem?_cons_zero, List.getElem?_cons_succ, Res.bind_ok, ix]
                simp [-bIsi_ty, ix, hi, sliceV, cut, hin, na, nb]
        · rw [ex] at hi ix
          simp only [isTup] at hi
          have z : apO (memN l) (L.take n) L[n] = false := by rw [ex]; exact apO_len _ _ hy
          refine ⟨_, _, [some (.tup L), some (.lst (l.map .str)), some (.int n), some L[n]], .ret (.bl false), s1, rfl, ?_, .inr ⟨_, rfl, rfl, by rw [hap, z]; rfl, rfl⟩⟩
          unfold b_law_are_pairs_0
          simp only [sSeq_ap, sAsg_ap, eOp2_ap, eVar_ap, List.getElem?_cons_zero, List.getElem?_cons_succ, Res.bind_ok, ix]
          simp [-bIsi_ty, ix, ex, hi, hy]
        · rw [t] at hi
          have z : apO (memN l) (L.take n) L[n] = false := apO_no _ _ t
          refine ⟨_, _, [some (.tup L), some (.lst (l.map .str)), some (.int n), some L[n]], .ret (.bl false), s1, rfl, ?_, .inr ⟨_, rfl, rfl, by rw [hap, z]; rfl, rfl⟩⟩
          unfold b_law_are_pairs_0
          simp only [sSeq_ap, sAsg_ap, eOp2_ap, eVar_ap, List.getElem?_cons_zero, List.getElem?_cons_succ, Res.bind_ok, ix]
          simp [-bIsi_ty, ix, hi])
    have z1 : -4611686018427387904 ≤ (L.length : Int) := by omega
    have z2 : (L.length : Int) ≤ 16777216 := by omega
    simp only [isTup] at hi
    subst hE
    rcases e2 with ⟨rfl, h0, h1, h2, rfl, rfl⟩ | ⟨v, rfl, rfl, h2, rfl⟩
    · have ht : apP (memN l) (.tup L) = true := by
        show apG (memN l) [] L = true
        rw [h2]
        have : L.drop (0 + ((List.range L.length).map fun k => PV.int (k : Nat)).length) = [] := by simp
        rw [this]; rfl
      simp [-bIsi_ty, hi, iRange1, z1, z2, e1, ht, fin]
    · have ht : apP (memN l) (.tup L) = false := h2
      simp [-bIsi_ty, hi, iRange1, z1, z2, e1, ht, fin]
end K38
namespace K38
open Mir
open DL (isNm Nm4 isBag)
open PL (G nmP nmB isBl isTup isStr)
abbrev pr (p : List Nat × List Nat) : PV := .tup [.str p.1, .str p.2]
theorem isNm_nm {w : List Nat} (h : isNm w) : nmB w = true := by
  have no : PL.inW w = false := by
    unfold PL.inW
    rw [decide_eq_false_iff_not]
    exact h.no
  have al : w.all PL.isLow = true := by
    rw [List.all_eq_true]
    intro c hc
    have := h.low c hc
    unfold PL.isLow
    exact decide_eq_true (DL.low_mem this)
  unfold nmB
  rw [no, al, decide_eq_true h.ne, decide_eq_true h.le]
  rfl
theorem apO_congr {f g : PV → Bool} {x : PV} (pre : List PV) (h : ∀ a b, x = .tup [a, b] → (f a && f b) = (g a && g b)) : apO f pre x = apO g pre x := by
  rcases pairSplit x with ⟨a, b, rfl⟩ | ⟨_, ys, rfl, hy⟩ | t
  · rw [apO_two, apO_two, h a b rfl]
  · rw [apO_len _ _ hy, apO_len _ _ hy]
  · rw [apO_no _ _ t, apO_no _ _ t]
theorem apG_congr {f g : PV → Bool} : ∀ (L pre : List PV), (∀ x ∈ L, ∀ a b, x = .tup [a, b] → (f a && f b) = (g a && g b)) → apG f pre L = apG g pre L
  | [], _, _ => rfl
  | x :: L, pre, h => by
    simp only [apG]
    rw [apO_congr pre (h x (List.mem_cons_self ..)), apG_congr L _ fun y hy => h y (List.mem_cons_of_mem _ hy)]
/-- both tellings agree -/
structure MsF (l : List (List Nat)) (ms : PV) : Prop where
  g : G 4 ms = true
  ag : ms = .non ∨ apP nmP ms = apP (memN l) ms
theorem msF_tup {l : List (List Nat)} {L : List PV} (g : G 4 (.tup L) = true) (h : ∀ x ∈ L, ∀ a b, x = .tup [a, b] → (nmP a && nmP b) = (memN l a && memN l b)) : MsF l (.tup L) := ⟨g, .inr (apG_congr L [] h)⟩
theorem msF_no {l : List (List Nat)} {x : PV} (g : G 4 x = true) (h : isTup x = false) : MsF l x := ⟨g, .inr (by cases x <;> first | rfl | (simp [isTup] at h))⟩
theorem mem_two {l : List (List Nat)} {w : List Nat} (hw : ∀ x ∈ l, isNm x) (h : w ∈ l) : nmP (.str w) = true ∧ memN l (.str w) = true := ⟨isNm_nm (hw w h), decide_eq_true h⟩
theorem fin_bag {e : Store} {x x' v : PV} (h : isBag x') (hv : G 5 v = true) : finV (x :: e) v (x' :: e) = .ok v (x' :: e) :=
  finV_data (by simp) (kept_mid [] e _ _ (h.lb _)) (PL.G_lb _ hv)
theorem draw1 (e : Store) {x : PV} {m : Int} (hx : isBag x) (h : 0 < m) (h2 : m < 2 ^ 127) :
    ∃ (v : Int) (x' : PV), 0 ≤ v ∧ v < m ∧ isBag x' ∧ DL.dDraw [.loc 0, .int m] (x :: e) = .ok (.int v) (x' :: e) := DL.draw_eq [] e hx h h2
def TR : List PV := [.bl true, .bl false, .bl true, .bl false, .bl true, .bl false, .non, .int 1, .int 0, .str [84, 114, 117, 101], .tup []]
theorem truth_mk (y : PV) {x : PV} (hx : isBag x) : ∃ v x', G 4 v = true ∧ isBag x' ∧ d_law_truth [.loc 0] [x, y] = .ok v [x', y] := by
  obtain ⟨t, x1, t0, t1, hx1, e1⟩ := draw1 [y] (m := 11) hx (by omega) (by omega)
  obtain ⟨z, hy, ey⟩ := atP_lt (xs := TR) t0 (by simpa [TR] using t1)
  have gy : G 4 z = true := by
    simp only [TR, List.mem_cons, List.not_mem_nil, or_false] at hy
    rcases hy with rfl | rfl | rfl | rfl | rfl | rfl | rfl | rfl | rfl | rfl | rfl <;> rfl
  refine ⟨z, x1, gy, hx1, ?_⟩
  unfold d_law_truth
  rw [runDef_ap]
  unfold m_law_truth
  simp only [TR] at ey
  simp [drawE, e1, ey]
  exact fin_bag hx1 (PL.G_mono _ _ gy)
theorem pairs_mk (y : PV) {x : PV} (hx : isBag x) (w0 w1 w2 w3 : List Nat) : ∃ (q : List (List Nat × List Nat)) (x' : PV), q.length ≤ 4 ∧ (∀ p ∈ q, p.1 ∈ [w0, w1, w2, w3] ∧ p.2 ∈ [w0, w1, w2, w3]) ∧ isBag x' ∧
    d_law_pairs_drawn [.loc 0, .lst [.str w0, .str w1, .str w2, .str w3]] [x, y] = .ok (.tup (q.map pr)) [x', y] := by
  obtain ⟨n, x1, n0, n1, hx1, e1⟩ := draw1 [y, .lst []] (m := 5) hx (by omega) (by omega)
  generalize hE : ([some (.loc 0), some (.lst [.str w0, .str w1, .str w2, .str w3]), some (.loc 2), none] : Env) = E0
  obtain ⟨σ', s', f1, q, x2, hk, hq1, hq2, hx2, rfl, rfl⟩ := forGo_inv (g := gName 3) (b := b_law_pairs_drawn_0) (keep := keepAs E0) (w := ⟨(List.range n.toNat).map fun k => .int (k : Nat), none⟩)
    (fun k xs σ s => ∃ (q : List (List Nat × List Nat)) (x' : PV), k + xs.length = n.toNat ∧ q.length ≤ k ∧ (∀ p ∈ q, p.1 ∈ [w0, w1, w2, w3] ∧ p.2 ∈ [w0, w1, w2, w3]) ∧ isBag x' ∧ σ = E0 ∧ s = [x', y, .lst (q.map pr)]) ((List.range n.toNat).map fun k => .int (k : Nat)) 0 E0 [x1, y, .lst []]
    ⟨[], x1, by simp, by simp, by simp, hx1, rfl, rfl⟩ (fun _ _ _ _ _ => trivial) (by
      rintro k z ys σ s ⟨q, x', hk, hq1, hq2, hx', rfl, rfl⟩
      subst hE
      obtain ⟨a, x2, a0, a1, hx2, e2⟩ := draw1 [y, .lst (q.map pr)] (m := 4) hx' (by omega) (by omega)
      obtain ⟨b, x3, b0, b1, hx3, e3⟩ := draw1 [y, .lst (q.map pr)] (m := 4) hx2 (by omega) (by omega)
      obtain ⟨u, hu, eu⟩ := atP_lt (xs := [PV.str w0, .str w1, .str w2, .str w3]) a0 (by simpa using a1)
      obtain ⟨v, hv, ev⟩ := atP_lt (xs := [PV.str w0, .str w1, .str w2, .str w3]) b0 (by simpa using b1)
      have pick : ∀ z ∈ [PV.str w0, .str w1, .str w2, .str w3], ∃ w ∈ [w0, w1, w2, w3], z = .str w := fun z hz => by
        obtain ⟨w, hw, e⟩ := List.mem_map.mp (show z ∈ [w0, w1, w2, w3].map PV.str from hz)
        exact ⟨w, hw, e.symm⟩
      obtain ⟨u', hu', rfl⟩ := pick u hu
      obtain ⟨v', hv', rfl⟩ := pick v hv
      have zz : q.length < sz := by simp only [sz]; simp at hk; omega
      refine ⟨_, _, [some (.loc 0), some (.lst [.str w0, .str w1, .str w2, .str w3]), some (.loc 2), some z], .next, [x3, y, .lst ((q ++ [(u', v')]).map pr)], rfl, ?_, .inl rfl, q ++ [(u', v')], x3, by simp at hk ⊢; omega, by simp; omega, ?_, hx3, by simp [keepAs], rfl⟩
      · unfold b_law_pairs_drawn_0
        simp [drawE, e2, e3, eu, ev, isL, deref, mAppend, zz]
      · intro p hp
        rcases List.mem_append.mp hp with h | h
        · exact hq2 p h
        · simp only [List.mem_singleton] at h; subst h; exact ⟨hu', hv'⟩)
  have hq4 : q.length ≤ 4 := by simp at hq1; omega
  refine ⟨q, x2, hq4, hq2, hx2, ?_⟩
  unfold d_law_pairs_drawn
  rw [runDef_ap]
  unfold m_law_pairs_drawn
  have v1 : -4611686018427387904 ≤ n := by omega
  have v2 : n ≤ 16777216 := by omega
  subst hE
  have hd : isD 3 (.tup (q.map pr)) = true := by simp [isD]
  have fin : finV [x, y] (.tup (q.map pr)) [x2, y, .lst (q.map pr)] = .ok (.tup (q.map pr)) [x2, y] :=
    finV_drop (old := [x, y]) (new := [x2, y]) (e := [.lst (q.map pr)]) (v := .tup (q.map pr)) (by simp) (kept_mid [] [y] _ _ (hx2.lb _)) (isD_lb 3 _ _ hd)
  have bt : bTuple [.loc 2] [x2, y, .lst (q.map pr)] = .ok (.tup (q.map pr)) [x2, y, .lst (q.map pr)] := rfl
  simp [drawE, e1, iRange1, v1, v2, f1, bt, fin]
end K38
namespace K38
open Mir
open DL (isNm Nm4 isBag)
open PL (G nmP nmB isBl isTup isStr)
theorem list_tup (xs : List PV) (s : Store) : bList [.tup xs] s = .ok (.lst xs) s := rfl
theorem add_tup (s : Store) {a b : List PV} (h : a.length + b.length ≤ sz) : pyAdd (.tup a) (.tup b) s = .ok (.tup (a ++ b)) s := by simp [pyAdd, h]
theorem nm_long {w : List Nat} (h : 9 ≤ w.length) : nmB w = false := by
  unfold nmB
  rw [decide_eq_false (by omega : ¬ w.length ≤ 8)]; simp
theorem methods_mk (y : PV) {x : PV} (hx : isBag x) {w0 w1 w2 w3 : List Nat} (hl : Nm4 [w0, w1, w2, w3]) : ∃ (ms x' : PV), MsF [w0, w1, w2, w3] ms ∧ isBag x' ∧
    d_law_methods [.loc 0, .lst [.str w0, .str w1, .str w2, .str w3]] [x, y] = .ok ms [x', y] := by
  obtain ⟨q, x1, hq1, hq2, hx1, e1⟩ := pairs_mk y hx w0 w1 w2 w3
  obtain ⟨v, x2, v0, v1, hx2, e2⟩ := draw1 [y] (m := 9) hx1 (by omega) (by omega)
  have nm := fun w (h : w ∈ [w0, w1, w2, w3]) => mem_two hl.w h
  have W0 := nm w0 (by simp)
  have W1 := nm w1 (by simp)
  have len : ∀ w ∈ [w0, w1, w2, w3], w.length ≤ 8 := fun w h => (hl.w w h).le
  have L0 := len w0 (by simp)
  have L1 := len w1 (by simp)
  have L2 := len w2 (by simp)
  have P0 := (hl.w w0 (by simp)).ne
  have hG : ∀ p ∈ q, G 3 (pr p) = true := fun p hp => by
    have h1 := len _ (hq2 p hp).1
    have h2 := len _ (hq2 p hp).2
    simp [G]; omega
  have hGm : (q.map pr).all (G 3) = true := by
    rw [List.all_eq_true]; intro y hy; obtain ⟨p, hp, rfl⟩ := List.mem_map.mp hy; exact hG p hp
  have ag : ∀ y ∈ q.map pr, ∀ a b, y = .tup [a, b] → (nmP a && nmP b) = (memN [w0, w1, w2, w3] a && memN [w0, w1, w2, w3] b) := by
    intro y hy a b e
    obtain ⟨p, hp, rfl⟩ := List.mem_map.mp hy
    simp only [pr, PV.tup.injEq, List.cons.injEq, and_true] at e
    obtain ⟨rfl, rfl⟩ := e
    obtain ⟨h1, h2⟩ := nm _ (hq2 p hp).1
    obtain ⟨h3, h4⟩ := nm _ (hq2 p hp).2
    rw [h1, h2, h3, h4]
  have qt : MsF [w0, w1, w2, w3] (.tup (q.map pr)) := msF_tup (by simp [G, hGm]; omega) ag
  have one : ∀ z : PV, G 3 z = true → (∀ a b, z = .tup [a, b] → (nmP a && nmP b) = (memN [w0, w1, w2, w3] a && memN [w0, w1, w2, w3] b)) → MsF [w0, w1, w2, w3] (.tup (q.map pr ++ [z])) := fun z hz h => by
    refine msF_tup (by simp only [G, List.all_append, hGm, List.all_cons, List.all_nil, hz, Bool.and_true, List.length_append, List.length_map, List.length_cons, List.length_nil, decide_eq_true_eq]; omega) fun y hy a b e => ?_
    rcases List.mem_append.mp hy with k | k
    · exact ag y k a b e
    · simp only [List.mem_singleton] at k; subst k; exact h a b e
  have fin : ∀ {x' ms : PV}, isBag x' → MsF [w0, w1, w2, w3] ms → finV [x, y] ms [x', y] = .ok ms [x', y] := fun h1 h2 => fin_bag h1 (PL.G_mono _ _ h2.g)
  have add : ∀ (z : PV) s, pyAdd (.tup (q.map pr)) (.tup [z]) s = .ok (.tup (q.map pr ++ [z])) s := fun z s => add_tup s (by simp [sz]; omega)
  unfold d_law_methods
  simp only [runDef_ap]
  unfold m_law_methods
  by_cases c0 : v = 0
  · subst c0
    refine ⟨.non, x2, ⟨rfl, .inl rfl⟩, hx2, ?_⟩
    simp [drawE, e1, e2, fin hx2 (⟨rfl, .inl rfl⟩ : MsF [w0, w1, w2, w3] .non)]
  by_cases c1 : v < 4
  · refine ⟨_, x2, qt, hx2, ?_⟩
    simp [drawE, e1, e2, c0, c1, fin hx2 qt]
  by_cases c4 : v = 4
  · subst c4
    have m : MsF [w0, w1, w2, w3] (.lst (q.map pr)) := msF_no (by simp [G, hGm]; omega) rfl
    refine ⟨_, x2, m, hx2, ?_⟩
    simp [drawE, e1, e2, list_tup, fin hx2 m]
  by_cases c5 : v = 5
  · subst c5
    have long : 9 ≤ (w0 ++ (w1 ++ [97, 97, 97, 97, 97, 97, 97, 97])).length := by simp; omega
    have n1 : nmP (.str (w0 ++ (w1 ++ [97, 97, 97, 97, 97, 97, 97, 97]))) = false := nm_long long
    have n2 : memN [w0, w1, w2, w3] (.str (w0 ++ (w1 ++ [97, 97, 97, 97, 97, 97, 97, 97]))) = false := decide_eq_false fun h => by have := len _ h; omega
    have m := one (.tup [.str (w0 ++ (w1 ++ [97, 97, 97, 97, 97, 97, 97, 97])), .str w1]) (by simp [G]; omega) (fun a b e => by
      simp only [PV.tup.injEq, List.cons.injEq, and_true] at e
      obtain ⟨rfl, rfl⟩ := e
      rw [n1, n2]; rfl)
    refine ⟨_, x2, m, hx2, ?_⟩
    have z : w0.length + (w1.length + 8) ≤ sz := by simp only [sz]; omega
    simp [drawE, e1, e2, strsOf, join_nil, z, add, fin hx2 m]
  by_cases c6 : v = 6
  · subst c6
    have m := one (.tup [.str w0, .str w1, .str w2]) (by simp [G]; omega) (fun a b e => by simp at e)
    refine ⟨_, x2, m, hx2, ?_⟩
    simp [drawE, e1, e2, add, fin hx2 m]
  by_cases c7 : v = 7
  · subst c7
    have m := one (.lst [.str w0, .str w1]) (by simp [G]; omega) (fun a b e => by simp at e)
    refine ⟨_, x2, m, hx2, ?_⟩
    simp [drawE, e1, e2, add, fin hx2 m]
  obtain ⟨t, x3, t0, t1, hx3, e3⟩ := draw1 [y] (m := 9) hx2 (by omega) (by omega)
  let L : List PV := [.bl true, .bl false, .int 0, .str [], .str [99, 108, 115], .tup [.str [98, 111, 120], .str w0], .tup [.tup [.str w0, .str [109, 101, 116, 104, 111, 100]]], .tup [.tup [.str w0, .non]], .tup [.int 1, .int 2]]
  obtain ⟨r, hy, ey⟩ := atP_lt (xs := L) t0 (by simpa [L] using t1)
  have m : MsF [w0, w1, w2, w3] r := by
    have no1 : memN [w0, w1, w2, w3] (.str [109, 101, 116, 104, 111, 100]) = false := decide_eq_false fun h => (hl.w _ h).no (by decide)
    simp only [L, List.mem_cons, List.not_mem_nil, or_false] at hy
    rcases hy with rfl | rfl | rfl | rfl | rfl | rfl | rfl | rfl | rfl
    · exact msF_no rfl rfl
    · exact msF_no rfl rfl
    · exact msF_no rfl rfl
    · exact msF_no rfl rfl
    · exact msF_no rfl rfl
    · exact msF_tup (by simp [G]; omega) (by simp)
    · exact msF_tup (by simp [G]; omega) (by
        intro z hz a b e
        simp only [List.mem_singleton] at hz
        subst hz
        simp only [PV.tup.injEq, List.cons.injEq, and_true] at e
        obtain ⟨rfl, rfl⟩ := e
        rw [no1, show nmP (.str [109, 101, 116, 104, 111, 100]) = false by decide]; simp)
    · exact msF_tup (by simp [G]; omega) (by
        intro z hz a b e
        simp only [List.mem_singleton] at hz
        subst hz
        simp only [PV.tup.injEq, List.cons.injEq, and_true] at e
        obtain ⟨rfl, rfl⟩ := e
        simp [nmP, memN])
    · exact msF_tup (by simp [G]) (by simp)
  refine ⟨r, x3, m, hx3, ?_⟩
  simp only [L] at ey
  simp [drawE, e1, e2, e3, c0, c1, c4, c5, c6, c7, ey, fin hx3 m]
end K38
namespace K38
open Mir
open DL (isNm Nm4 isBag)
open PL (G nmP nmB isBl isTup isStr)
/-- the fault of the parts: 0 methods, 1 changes, 2 passes -/
def msBad : PV → Bool
  | .non => false
  | x => !apP nmP x
theorem msBad_some {x : PV} (h : x ≠ .non) : msBad x = !apP nmP x := by
  cases x <;> first | rfl | exact absurd rfl h
def crFault (ms ch ps : PV) : Option (List Nat) :=
  if msBad ms = true then some [109, 101, 116, 104, 111, 100, 115] else if isBl ch = false then some [99, 104, 97, 110, 103, 101, 115] else if isBl ps = false then some [112, 97, 115, 115, 101, 115] else none
abbrev cr (ms ch ps : PV) : PV := .ins 0 [ms, ch, ps]
theorem G5 {x : PV} (h : G 4 x = true) : G 5 x = true := PL.G_mono _ _ h
theorem isN_some {x : PV} (s : Store) (h : x ≠ .non) : pyIs .non x s = .ok (.bl false) s := by
  cases x <;> first | rfl | exact absurd rfl h
theorem isN_non (s : Store) : pyIs .non .non s = .ok (.bl true) s := rfl
theorem init_eq {ms ch ps : PV} (h1 : G 4 ms = true) (h2 : G 4 ch = true) (h3 : G 4 ps = true) (s : Store) :
    d_Callers_init [.loc s.length, ms, ch, ps] (s ++ [.ins 0 []]) = (match crFault ms ch ps with
      | some w => .exc (.ins 1 [.str w]) (s ++ [.ins 0 []])
      | none => .ok .non (s ++ [cr ms ch ps])) := by
  have l1 := fun b => PL.G_lb b h1
  have l2 := fun b => PL.G_lb b h2
  have l3 := fun b => PL.G_lb b h3
  have t2 := PL.truth_eq tabOk h2 (s ++ [.ins 0 []])
  have t3 := PL.truth_eq tabOk h3 (s ++ [.ins 0 []])
  have ap := pairs_eq (G5 h1) (s ++ [.ins 0 []])
  have xs : ∀ w, finX (s ++ [.ins 0 []]) (.ins 1 [.str w]) (s ++ [.ins 0 []]) = .exc (.ins 1 [.str w]) (s ++ [.ins 0 []]) := fun w => by
    unfold finX
    rw [if_pos ⟨kept_refl _ _, Nat.le_refl _, by simp⟩, List.take_length]
  have fin : finV (s ++ [.ins 0 []]) .non (s ++ [cr ms ch ps]) = .ok .non (s ++ [cr ms ch ps]) := finV_data (by simp) (kept_mid s [] _ _ (by simp [l1, l2, l3])) (by simp)
  have pre : (qAnd (qBl (eNotB (eOp1 (pyIs .non) (eVar 1)))) (qNot (qOf (eCallK (fun vs _ => d_are_pairs vs) (aCons (eVar 1) (aNil)) (aNil))))) [some (.loc s.length), some ms, some ch, some ps] (s ++ [.ins 0 []]) = .ok (msBad ms) (s ++ [.ins 0 []]) := by
    by_cases hm : ms = .non
    · subst hm; simp [isN_non, msBad]
    · cases ha : apP nmP ms <;> rw [ha] at ap <;> simp [isN_some _ hm, ap, msBad_some hm, ha]
  unfold d_Callers_init crFault
  rw [runDef_ap]
  unfold m_Callers_init
  by_cases c1 : msBad ms = true
  · rw [c1] at pre
    rw [if_pos c1]
    simp [-qAnd_ap, pre, xs]
  · rw [Bool.not_eq_true] at c1
    rw [c1] at pre
    rw [if_neg (by rw [c1]; decide)]
    cases c2 : isBl ch
    · rw [c2] at t2
      simp [-qAnd_ap, pre, truthE, t2, xs]
    · rw [c2] at t2
      cases c3 : isBl ps
      · rw [c3] at t3
        simp [-qAnd_ap, pre, truthE, t2, t3, xs]
      · rw [c3] at t3
        simp [-qAnd_ap, pre, truthE, t2, t3, t_methods, t_changes, t_passes, putF]
        exact fin
theorem new_eq {ms ch ps : PV} (h1 : G 4 ms = true) (h2 : G 4 ch = true) (h3 : G 4 ps = true) (s : Store) :
    newOf 0 finV (fun vs zs => d_Callers_init (pickL [0, 1, 3, 4] (vs ++ (.non :: zs)))) [ms] [ch, ps] s = (match crFault ms ch ps with
      | some w => .exc (.ins 1 [.str w]) s
      | none => .ok (cr ms ch ps) s) := by
  have l1 := fun b => PL.G_lb b h1
  have l2 := fun b => PL.G_lb b h2
  have l3 := fun b => PL.G_lb b h3
  have i := init_eq h1 h2 h3 s
  unfold newOf
  simp only [pickL, List.append_nil, List.cons_append, List.nil_append]
  cases hf : crFault ms ch ps with
  | some w =>
    rw [hf] at i
    simp [i]
    exact PL.finX_drop tabOk (by simp)
  | none =>
    rw [hf] at i
    simp [i]
    exact finV_new rfl (kept_refl _ _) (Nat.le_refl _) (by simp) (by simp [l1, l2, l3])
theorem plain_eq (s : Store) : newOf 0 finV (fun vs zs => d_Callers_init (pickL [0, 1, 2, 3] (vs ++ (.non :: .bl true :: .bl true :: zs)))) [] [] s = .ok (cr .non (.bl true) (.bl true)) s := by
  have i := init_eq (ms := .non) (ch := .bl true) (ps := .bl true) rfl rfl rfl s
  unfold newOf
  simp only [pickL, List.append_nil, List.cons_append, List.nil_append]
  have hf : crFault .non (.bl true) (.bl true) = none := rfl
  rw [hf] at i
  simp [i]
  exact finV_new rfl (kept_refl _ _) (Nat.le_refl _) (by simp) (by simp)
def faultV : Option (List Nat) → PV
  | some w => .str w
  | none => .non
theorem made_eq {ms ch ps : PV} (h1 : G 4 ms = true) (h2 : G 4 ch = true) (h3 : G 4 ps = true) (s : Store) :
    d_law_made [.tup [ms, ch, ps]] s = .ok (match crFault ms ch ps with
      | some w => .str w
      | none => cr ms ch ps) s := by
  have l1 := fun b => PL.G_lb b h1
  have l2 := fun b => PL.G_lb b h2
  have l3 := fun b => PL.G_lb b h3
  have nw := new_eq h1 h2 h3 s
  have st : ∀ (b : SM) (hs : List Hd) (σ : Env) (s : Store), sTry b hs σ s = (match b σ s with
    | .ok r s1 => .ok r s1
    | .exc (.ins c vs) s1 => tryHs hs c vs σ s1
    | _ => .stuck) := fun _ _ _ _ => rfl
  unfold d_law_made
  rw [runDef_ap]
  unfold m_law_made
  cases hf : crFault ms ch ps with
  | some w =>
    rw [hf] at nw
    have fin : finV s (.str w) s = .ok (.str w) s := finV_data rfl (kept_refl _ _) (by simp)
    simp [st, nw, tryHs, List.lookup, offSlot, slotIn, fin]
  | none =>
    rw [hf] at nw
    have fin : finV s (cr ms ch ps) s = .ok (cr ms ch ps) s := finV_data rfl (kept_refl _ _) (by simp [l1, l2, l3])
    simp [st, nw, fin]
theorem due_eq {l : List (List Nat)} {ms ch ps : PV} (h1 : MsF l ms) (h2 : G 4 ch = true) (h3 : G 4 ps = true) (s : Store) :
    d_law_due [.tup [ms, ch, ps], .lst (l.map .str)] s = .ok (faultV (crFault ms ch ps)) s := by
  have b2 := PL.isi_bool (s := s) tabOk h2
  have b3 := PL.isi_bool (s := s) tabOk h3
  have ap := lpairs_eq l (G5 h1.g) s
  have fin : ∀ w, finV s (faultV w) s = .ok (faultV w) s := fun w => finV_data rfl (kept_refl _ _) (by cases w <;> simp [faultV])
  have pre : (qAnd (qBl (eNotB (eOp1 (pyIs .non) (eOp2 pyIdx (eVar 0) (eC (.int 0)))))) (qNot (qOf (eCallK (fun vs _ => d_law_are_pairs vs) (aCons (eOp2 pyIdx (eVar 0) (eC (.int 0))) (aCons (eVar 1) (aNil))) (aNil))))) [some (.tup [ms, ch, ps]), some (.lst (l.map .str))] s = .ok (msBad ms) s := by
    by_cases hm : ms = .non
    · subst hm; simp [isN_non, msBad]
    · have ag := h1.ag.resolve_left hm
      rw [← ag] at ap
      cases ha : apP nmP ms <;> rw [ha] at ap <;> simp [isN_some _ hm, ap, msBad_some hm, ha]
  unfold d_law_due crFault
  rw [runDef_ap]
  unfold m_law_due
  by_cases c1 : msBad ms = true
  · rw [c1] at pre
    rw [if_pos c1]
    have f := fin (some [109, 101, 116, 104, 111, 100, 115])
    simp only [faultV] at f
    simp [-qAnd_ap, pre, f, faultV]
  · rw [Bool.not_eq_true] at c1
    rw [c1] at pre
    rw [if_neg (by rw [c1]; decide)]
    cases c2 : isBl ch
    · rw [c2] at b2
      have f := fin (some [99, 104, 97, 110, 103, 101, 115])
      simp only [faultV] at f
      simp [-qAnd_ap, -bIsi_ty, pre, b2, f, faultV]
    · rw [c2] at b2
      cases c3 : isBl ps
      · rw [c3] at b3
        have f := fin (some [112, 97, 115, 115, 101, 115])
        simp only [faultV] at f
        simp [-qAnd_ap, -bIsi_ty, pre, b2, b3, f, faultV]
      · rw [c3] at b3
        have f := fin none
        simp only [faultV] at f
        simp [-qAnd_ap, -bIsi_ty, pre, b2, b3, f, faultV]
end K38
namespace K38
open Mir
open DL (isNm Nm4 isBag)
open PL (G nmP nmB isBl isTup isStr)
theorem eqL_congr {f g : PV → PV → Bool} : ∀ (xs ys : List PV), (∀ x ∈ xs, ∀ y ∈ ys, f x y = g x y) → eqL f xs ys = eqL g xs ys
  | [], [], _ => rfl
  | [], _ :: _, _ => rfl
  | _ :: _, [], _ => rfl
  | x :: xs, y :: ys, h => by
    simp only [eqL]
    rw [h x (List.mem_cons_self ..) y (List.mem_cons_self ..), eqL_congr xs ys fun a ha b hb => h a (List.mem_cons_of_mem _ ha) b (List.mem_cons_of_mem _ hb)]
theorem eqF_succ : ∀ (n : Nat) (x y : PV), G n x = true → G n y = true → eqF (n + 1) x y = eqF n x y
  | 0, x, y, hx, hy => by cases x <;> cases y <;> first | rfl | (simp [G] at hx; done) | (simp [G] at hy; done)
  | n + 1, .tup xs, .tup ys, hx, hy => by
    simp only [G, Bool.and_eq_true, List.all_eq_true] at hx hy
    simp only [eqF]
    exact eqL_congr xs ys fun a ha b hb => eqF_succ n a b (hx.2 a ha) (hy.2 b hb)
  | n + 1, .lst xs, .lst ys, hx, hy => by
    simp only [G, Bool.and_eq_true, List.all_eq_true] at hx hy
    simp only [eqF]
    exact eqL_congr xs ys fun a ha b hb => eqF_succ n a b (hx.2 a ha) (hy.2 b hb)
  | n + 1, x, y, hx, hy => by
    cases x <;> cases y <;> first
      | rfl
      | (simp [G] at hx; done)
      | (simp [G] at hy; done)
      | (simp only [G, Bool.and_eq_true, List.all_eq_true] at hx hy
         simp only [eqF]
         exact eqL_congr _ _ fun a ha b hb => eqF_succ n a b (hx.2 a ha) (hy.2 b hb))
theorem G_le {n m : Nat} {x : PV} (hm : n ≤ m) (h : G n x = true) : G m x = true := by
  induction hm with
  | refl => exact h
  | step _ ih => exact PL.G_mono _ _ ih
theorem eq11 {x y : PV} (hx : G 4 x = true) (hy : G 4 y = true) : eqF 12 x y = eqF 11 x y := eqF_succ 11 x y (G_le (by decide) hx) (G_le (by decide) hy)
def eqE (a : PV) (c p : Bool) (a' : PV) (c' p' : Bool) : Bool := eqF 12 a a' && (c == c' && p == p')
theorem derG {x : PV} (h : G 4 x = true) (s : Store) : deref s x = x := by cases x <;> first | rfl | (simp [G] at h)
theorem eqG4 {x y : PV} (hx : G 4 x = true) (hy : G 4 y = true) (s : Store) : pyEq x y s = .ok (.bl (eqF 12 x y)) s := by
  unfold pyEq
  rw [derG hx, derG hy, GD hx, GD hy]; rfl
theorem neG4 {x y : PV} (hx : G 4 x = true) (hy : G 4 y = true) (s : Store) : pyNe x y s = .ok (.bl (!eqF 12 x y)) s := by
  unfold pyNe
  rw [derG hx, derG hy, GD hx, GD hy]; rfl
theorem refG {x : PV} (hx : G 4 x = true) : eqF 12 x x = true := eqF_refl _ _ (GD hx)
theorem eqBl (a b : Bool) (s : Store) : pyEq (.bl a) (.bl b) s = .ok (.bl (a == b)) s := rfl
theorem neBl (a b : Bool) (s : Store) : pyNe (.bl a) (.bl b) s = .ok (.bl (!(a == b))) s := rfl
section
variable {a a' : PV} {c p c' p' : Bool}
theorem own_eq (h : G 4 a = true) (h' : G 4 a' = true) (s : Store) : d_Callers_eq [cr a (.bl c) (.bl p), cr a' (.bl c') (.bl p')] s = .ok (.bl (eqE a c p a' c' p')) s := by
  have fin : ∀ b, finV s (.bl b) s = .ok (.bl b) s := fun b => finV_data rfl (kept_refl _ _) (by simp)
  have e := eqG4 h h' s
  unfold d_Callers_eq eqE
  rw [runDef_ap]
  unfold m_Callers_eq
  cases q : eqF 12 a a'
  · rw [q] at e
    simp [t_methods, t_changes, t_passes, e, fin]
  · rw [q] at e
    cases q2 : c == c'
    · simp [t_methods, t_changes, t_passes, e, eqBl, q2, fin]
    · simp [t_methods, t_changes, t_passes, e, eqBl, q2, fin]
theorem own_tup (xs : List PV) (s : Store) : d_Callers_eq [cr a (.bl c) (.bl p), .tup xs] s = .ok (.bl false) s := by
  have fin : ∀ b, finV s (.bl b) s = .ok (.bl b) s := fun b => finV_data rfl (kept_refl _ _) (by simp)
  unfold d_Callers_eq
  rw [runDef_ap]
  unfold m_Callers_eq
  simp [fin]
theorem tup_eq (h : G 4 a = true) (h' : G 4 a' = true) (s : Store) : pyEq (.tup [a, .bl c, .bl p]) (.tup [a', .bl c', .bl p']) s = .ok (.bl (eqE a c p a' c' p')) s := by
  have g : ∀ {a : PV} {c p : Bool}, G 4 a = true → isD dp (.tup [a, .bl c, .bl p]) = true := fun h => by
    have := PL.G_isD 11 _ (G_le (by decide : 4 ≤ 11) h)
    simp [isD, dp, this]
  unfold pyEq eqE
  simp only [deref_tup, g h, g h', Bool.and_self, if_true]
  rw [eq11 h h']
  show Res.ok (PV.bl (eqF 11 a a' && (c == c' && (p == p' && true)))) s = _
  rw [Bool.and_true]
theorem eqCC (s : Store) (vs ws : List PV) : eqOf eqT s (.ins 0 vs) (.ins 0 ws) = some fun vs _ => d_Callers_eq vs := by
  unfold eqOf
  simp [eqT, eqG]
theorem eqCT (s : Store) (vs ws : List PV) : eqOf eqT s (.ins 0 vs) (.tup ws) = some fun vs _ => d_Callers_eq vs := by
  unfold eqOf
  simp [eqT, eqG]
end
/-- what is kept of a turn: the parts and the instance -/
def It (v : PV) : Prop := ∃ (ms : PV) (c p : Bool), G 4 ms = true ∧ msBad ms = false ∧ v = .tup [.tup [ms, .bl c, .bl p], cr ms (.bl c) (.bl p)]
theorem fault_none {ms : PV} (h : msBad ms = false) (c p : Bool) : crFault ms (.bl c) (.bl p) = none := by
  unfold crFault
  rw [h]; rfl
theorem fault_inv {ms ch ps : PV} (h : crFault ms ch ps = none) : msBad ms = false ∧ (∃ c, ch = .bl c) ∧ ∃ p, ps = .bl p := by
  unfold crFault at h
  cases h1 : msBad ms
  · rw [h1, if_neg (by decide)] at h
    cases h2 : isBl ch
    · rw [h2] at h; cases h
    · rw [h2, if_neg (by decide)] at h
      cases h3 : isBl ps
      · rw [h3] at h; cases h
      · refine ⟨rfl, ?_, ?_⟩
        · cases ch <;> first | (cases h2; done) | exact ⟨_, rfl⟩
        · cases ps <;> first | (cases h3; done) | exact ⟨_, rfl⟩
  · rw [h1] at h; cases h
end K38
namespace K38
open Mir
open DL (isNm Nm4 isBag)
open PL (G nmP nmB isBl isTup isStr)
section
variable (ns : List Int) (w0 w1 w2 w3 : List Nat)
abbrev En (k one pl pt du ac ot : Option PV) : Env := [some (.ro (ns.map .int)), some (.loc 0), some (.lst [.str w0, .str w1, .str w2, .str w3]), some (.loc 1), k, one, pl, pt, du, ac, ot]
variable {ns w0 w1 w2 w3}
theorem neS {w : List Nat} (s : Store) : pyNe (.str w) (.str w) s = .ok (.bl false) s := by simp
/-- a turn of the first loop -/
theorem turn (hl : Nm4 [w0, w1, w2, w3]) (k : PV) {x : PV} (hx : isBag x) (items : List PV) (hlen : items.length < 100) (hit : ∀ v ∈ items, It v) :
    ∃ (pt du ac : Option PV) (f : Fl) (x' : PV) (items' : List PV), (f = .next ∨ f = .cont) ∧ isBag x' ∧ items'.length ≤ items.length + 1 ∧ (∀ v ∈ items', It v) ∧
      b_law_2 (En ns w0 w1 w2 w3 (some k) none none none none none none) [x, .lst items] = .ok (En ns w0 w1 w2 w3 (some k) none none pt du ac none, f) [x', .lst items'] := by
  obtain ⟨ms, x1, hm, hx1, e1⟩ := methods_mk (.lst items) hx hl
  obtain ⟨ch, x2, hc, hx2, e2⟩ := truth_mk (.lst items) hx1
  obtain ⟨ps, x3, hp, hx3, e3⟩ := truth_mk (.lst items) hx2
  have md := made_eq hm.g hc hp [x3, .lst items]
  have du := due_eq hm hc hp [x3, .lst items]
  simp only [List.map_cons, List.map_nil] at du
  cases hf : crFault ms ch ps with
  | some w =>
    rw [hf] at md du
    simp only [faultV] at du md
    have iss := isN_some (x := .str w) [x3, .lst items] (by simp)
    refine ⟨some (.tup [ms, ch, ps]), some (.str w), some (.str w), .cont, x3, items, .inr rfl, hx3, by omega, hit, ?_⟩
    unfold b_law_2
    have sc : ∀ (σ : Env) (s : Store), sCont σ s = .ok (σ, .cont) s := fun _ _ => rfl
    simp [e1, e2, e3, md, du, iss, sc]
  | none =>
    rw [hf] at md du
    simp only [faultV] at du md
    obtain ⟨hb, ⟨c, rfl⟩, p, rfl⟩ := fault_inv hf
    have it : It (.tup [.tup [ms, .bl c, .bl p], cr ms (.bl c) (.bl p)]) := ⟨ms, c, p, hm.g, hb, rfl⟩
    have nm := neG4 hm.g hm.g [x3, .lst items]
    rw [refG hm.g] at nm
    have tp := PL.isi_tup (s := [x3, .lst items]) tabOk hm.g
    have z : items.length < sz := by simp only [sz]; omega
    refine ⟨some (.tup [ms, .bl c, .bl p]), some .non, some (cr ms (.bl c) (.bl p)), .next, x3, items ++ [.tup [.tup [ms, .bl c, .bl p], cr ms (.bl c) (.bl p)]], .inl rfl, hx3, by simp, ?_, ?_⟩
    · intro v hv
      rcases List.mem_append.mp hv with h | h
      · exact hit v h
      · simp only [List.mem_singleton] at h; subst h; exact it
    · unfold b_law_2
      have ic : bIsi isiT [cr ms (.bl c) (.bl p), .cls 0] [x3, .lst items] = .ok (.bl true) [x3, .lst items] := by simp
      simp only [cr] at ic
      simp [-bIsi_ty, -bIsi_cls, e1, e2, e3, md, du, isN_non, ic, t_methods, t_changes, t_passes, nm, tp, neBl, isL, deref, mAppend, z]
theorem walk_ok {s : Store} {n : Nat} {xs its : List PV} (h : s[n]? = some (.lst xs)) (he : its = xs) : (⟨its, some (n, .lst xs)⟩ : Walk).ok s := by
  subst he; exact h
/-- a turn of the innermost loop -/
theorem inner {one ot : PV} (k : Option PV) (h1 : It one) (h2 : It ot) (s : Store) : b_law_0 (En ns w0 w1 w2 w3 k (some one) none none none none (some ot)) s = .ok (En ns w0 w1 w2 w3 k (some one) none none none none (some ot), .next) s := by
  obtain ⟨a, c, p, ga, _, rfl⟩ := h1
  obtain ⟨a', c', p', ga', _, rfl⟩ := h2
  have o := own_eq (c := c) (p := p) (c' := c') (p' := p') ga ga' s
  have t := tup_eq (c := c) (p := p) (c' := c') (p' := p') ga ga' s
  unfold b_law_0
  cases q : eqE a c p a' c' p' <;> rw [q] at o t <;> simp [eqCC, o, t, neBl, eqBl]
/-- a turn of the second loop -/
theorem second {items : List PV} (hit : ∀ v ∈ items, It v) {one x : PV} (h1 : It one) : ∃ ot, b_law_1 (En ns w0 w1 w2 w3 none (some one) none none none none none) [x, .lst items] = .ok (En ns w0 w1 w2 w3 none (some one) none none none none ot, .next) [x, .lst items] := by
  generalize hE : (En ns w0 w1 w2 w3 none (some one) none none none none none) = E0
  obtain ⟨σ', s', f1, _, rfl, rfl⟩ := forGo_inv (g := gName 10) (b := b_law_0) (keep := keepAs E0) (w := ⟨items, some (1, .lst items)⟩)
    (fun n xs σ s => (∀ y ∈ xs, It y) ∧ (σ = E0 ∧ s = [x, .lst items])) items 0 E0 [x, .lst items] ⟨hit, rfl, rfl⟩ (fun _ _ _ _ h => by obtain ⟨_, rfl, rfl⟩ := h; rfl) (by
      rintro n y ys σ s ⟨hy, rfl, rfl⟩
      subst hE
      exact ⟨_, _, _, .next, _, rfl, inner none h1 (hy y (List.mem_cons_self ..)) _, .inl rfl, fun z hz => hy z (List.mem_cons_of_mem _ hz), by simp [keepAs], rfl⟩)
  obtain ⟨a, c, p, ga, hb, rfl⟩ := h1
  have nw := fun c' p' => new_eq (ms := a) (ch := .bl c') (ps := .bl p') ga rfl rfl [x, .lst items]
  simp only [fault_none hb] at nw
  have oo := fun c' p' => own_eq (c := c) (p := p) (c' := c') (p' := p') ga ga [x, .lst items]
  have e0 : eqE a c p a c p = true := by simp [eqE, refG ga]
  have e1 : eqE a c p a (!c) p = false := by cases c <;> simp [eqE]
  have e2 : eqE a c p a c (!p) = false := by cases p <;> simp [eqE]
  have ot := own_tup (a := a) (c := c) (p := p) [a, .bl c, .bl p] [x, .lst items]
  refine ⟨none, ?_⟩
  rw [← hE]
  subst hE
  unfold b_law_1
  simp [iSeq, f1, nw, eqCC, eqCT, oo, e0, e1, e2, ot]
theorem plain (ns : List Int) (h : ns.length ≤ 63) : ∃ s', d_law [.ro (ns.map PV.int)] [] = .ok (.bl true) s' := by
  obtain ⟨x0, hx0, e0⟩ := DL.bag_eq [] h
  obtain ⟨l, x1, hN, hx1, e1⟩ := DL.names_eq [] hx0
  obtain ⟨w0, w1, w2, w3, rfl⟩ := len4 hN.len
  generalize hE : (En ns w0 w1 w2 w3 none none none none none none none) = E0
  obtain ⟨σ', s', f1, x2, items, hk, hi, hx2, hit, hσ, rfl⟩ := forGo_inv (g := gName 4) (b := b_law_2) (keep := keepAs E0) (w := ⟨(List.range 4).map fun k => .int (k : Nat), none⟩)
    (fun k xs σ s => ∃ (x : PV) (items : List PV), k + xs.length = 4 ∧ items.length ≤ k ∧ isBag x ∧ (∀ v ∈ items, It v) ∧ σ = E0 ∧ s = [x, .lst items]) ((List.range 4).map fun k => .int (k : Nat)) 0 E0 [x1, .lst []]
    ⟨x1, [], rfl, by simp, hx1, by simp, rfl, rfl⟩ (fun _ _ _ _ _ => trivial) (by
      rintro k y ys σ s ⟨x, items, hk, hi, hx, hit, rfl, rfl⟩
      subst hE
      obtain ⟨pt, du, ac, f, x', items', hf, hx', hl', hit', e⟩ := turn (ns := ns) hN y hx items (by simp at hk; omega) hit
      exact ⟨_, _, _, f, _, rfl, e, hf, x', items', by simp at hk ⊢; omega, by omega, hx', hit', by simp [keepAs], rfl⟩)
  rw [hσ] at f1
  obtain ⟨σ', s', f2, _, z8, rfl⟩ := forGo_inv (g := gName 5) (b := b_law_1) (keep := keepAs E0) (w := ⟨items, some (1, .lst items)⟩)
    (fun n xs σ s => (∀ y ∈ xs, It y) ∧ (σ = E0 ∧ s = [x2, .lst items])) items 0 E0 [x2, .lst items] ⟨hit, rfl, rfl⟩ (fun _ _ _ _ h => by obtain ⟨_, rfl, rfl⟩ := h; rfl) (by
      rintro n y ys σ s ⟨hy, rfl, rfl⟩
      subst hE
      obtain ⟨ot, e⟩ := second (ns := ns) (w0 := w0) (w1 := w1) (w2 := w2) (w3 := w3) (x := x2) hit (hy y (List.mem_cons_self ..))
      exact ⟨_, _, _, .next, _, rfl, e, .inl rfl, fun z hz => hy z (List.mem_cons_of_mem _ hz), by simp [keepAs], rfl⟩)
  rw [z8] at f2
  have nw := plain_eq [x2, .lst items]
  have fin : finV [] (.bl true) [x2, .lst items] = .ok (.bl true) [] := finV_drop (old := []) (new := []) (e := [x2, .lst items]) rfl (kept_refl _ _) rfl
  have bagE : d_law_bag = runDef finL 1 DL.bagM := rfl
  have r4 : iRange1 (eC (.int 4)) = fun σ s => .ok ⟨(List.range 4).map fun k => .int (k : Nat), none⟩ s := rfl
  have isT : ∀ s, pyIs (.bl true) (.bl true) s = .ok (.bl true) s := fun _ => rfl
  refine ⟨[], ?_⟩
  unfold d_law
  rw [runDef_ap]
  unfold m_law
  subst hE
  simp only [List.map_cons, List.map_nil] at e1
  simp only [List.nil_append, List.length_nil] at e0 e1
  simp [bagE, namesE, e0, e1, r4, f1, iSeq, f2, nw, t_methods, t_changes, t_passes, isN_non, isT, fin]
end
end K38
set_option maxHeartbeats 0
namespace K38
open PySem PySem.Spec PyProof.Rows L2 Mir
abbrev R0 : PySem.W.OpenRow := PySem.W.OpenLaw.row PySem.Challenge.rw_oncedefaults_k38_callers_made
abbrev hk : PySem.W.Hook := hookN 4 fa fn xs ex
def ob (s : PySem.W.SharedT) : AlN := obsNG 4 fa fn xs ex (HandSHeadRun.getT s)
theorem ob_eq (s : PySem.W.SharedT) : ob s = hk.obs s.abs := obsNG_eq (HandSHeadRun.getT_eq s)
def names : List Str := ["_wall", "_wall", "PartError", "BadCallers", "BadWorld", "LETTERS", "MOST_LETTERS", "WORDS", "is_name", "is_truth", "are_pairs", "Callers", "_law_bag", "_law_draw", "_law_names", "_law_pairs_drawn", "_law_are_pairs", "_law_methods", "_law_truth", "_law_made", "_law_due"]
theorem run (w : World) : HandSHeadRun.RunEq R0 (PySem.W.view R0.prog [24]) hk ob 40000 names w := by
  intro os
  kernel_rfl
end K38
set_option maxHeartbeats 0
namespace K38
open PySem PySem.Spec PyProof.Rows L2 Mir
theorem facts {P : Program} {w : World} {K : PySem.W.Frag} {h : Heap} {mg : Str → Option Value} {f : Addr} (X : K.In h) (G : h.Ns mainGlobals mg) (hfa : mg ("law" : Str) = some (.ref f)) (c : SaysN P file0 fa fn xs ex K) :
    ∃ fd : FuncData, (∀ (s : Shared) (v : Value), BindsTo s fd ⟨[v], []⟩ [("_law_script", v)]) ∧ ∀ base : Heap, K.In base → base.Ns mainGlobals mg → FnOk P w K mg base (L2.CX P w) 6 f fd ["_law_script"] (spM K (tb K) 1 d_law) := by
  obtain ⟨fd, F⟩ := c.d.def_ (fn.length - 1) (d := D_law) rfl
  have e := hfa.symm.trans (hg_law c X G)
  cases e
  have b := FunD.bindsA (ps := ["_law_script"]) F fun _ _ _ _ _ _ us hl => match us, hl with | [_], _ => rfl
  exact ⟨fd, fun s v => b s [v] rfl, fun base X2 G2 => ok_law c X2 G2 F⟩
end K38
open PySem PySem.W PySem.Calls PyProof.Rows
theorem PySem.Challenge.cw_oncedefaults_k38_callers_made_holds : PySem.Challenge.rw_oncedefaults_k38_callers_made.Holds := by
  w_on; o_law
  refine HandSHeadRun.head_any (r := K38.R0) (q := view K38.R0.prog [24]) (H := K38.hk) (ob := K38.ob) (M := 40000) (loose := K38.names) (d := HandSHeadRun.topDef K38.R0.prog 24) (kwd := []) K38.ob_eq
    (by kernel_rfl) (fun s => by kernel_rfl) K38.run (by kernel_rfl) (by kernel_rfl) (by kernel_rfl) (by rfl) (by first | assumption | decide +kernel) (by decide +kernel) ⟨rfl, rfl, rfl, rfl, rfl, by decide +kernel⟩ ?hw ?hc
  case hw => w_witness2
  case hc =>
    refine Mir.walk_ofM (l := PySem.Challenge.rw_oncedefaults_k38_callers_made) (n := 63) (k := 6) (x := "_law_script") (CX := fun w => L2.CX (PySem.Challenge.rw_oncedefaults_k38_callers_made).prog w) rfl (by decide) (by kernel_rfl) ⟨rfl, by decide, by decide⟩ ?F (fun _ _ _ _ _ z => Mir.cx_none z)
    intro w mg fa h Y G hmg0
    obtain ⟨K, KX, c⟩ := Y
    have hmg : mg ("law" : PySem.Str) = some (.ref fa) := by
      have e : (HandSHeadRun.topDef K38.R0.prog 24).name = ("law" : PySem.Str) := by kernel_rfl
      rw [← e]
      exact hmg0
    obtain ⟨fd, hb, hF⟩ := K38.facts (P := (PySem.Challenge.rw_oncedefaults_k38_callers_made).prog) (w := w) KX G hmg ⟨c, rfl, by kernel_rfl⟩
    exact ⟨K, fd, Mir.spM K (K38.tb K) 1 K38.d_law, KX, hb, fun H a ns hl _ hS => Mir.law_sp hS (K38.plain ns hl), hF⟩
