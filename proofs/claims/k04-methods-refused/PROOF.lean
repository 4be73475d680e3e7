import PyProof.Rows.All
import Wide.All
import OpenK.AllK
import Wide.FinOn
import KE.KStateDown
import HandS.ForMost
import HandS.ForExc
import HandS.Defaults
import HandS.Flow
import HandS.TupAny
import HandS.Deep
import HandS.Wide
import HandS.IsInst
import KE.DataEq
import HandS.MakeKw
import HandS.MakeKwOnly
import KE.GoesMore
import HandS.Iter
import HandS.SlotsOwn
import HandS.TupLe
import HandS.Head0
import HandS.Head1
import HandS.Head2
import HandS.HeadEnd
import HandS.HeadHook1
import HandS.HeadHook2
import HandS.Words
import HandS.WordsExc
import HandS.More
import HandS.Ends
import HandS.Text
import HandS.Codes
import KE.KExcSuper
import KE.KExcPX
import HandS.ExcInit
import HandS.ExcField
import HandS.ExcIs
import KE.KExcIs
import HandS.Star
import HandS.ClsMeth
import KE.KStar
import HandS.Dict
import KE.KTab
import HandS.HeadNt
import Wide.Once
import PySem.Challenge.RW_oncedefaults_k04_methods_refused
set_option Elab.async false
set_option linter.all false
set_option maxRecDepth 100000
/-! Mir, part A: the plain side. Values without addresses, a store of mutable things, a small monad, and what each construct does there. -/
namespace Mir
open PySem

/-- a value: what cannot change is a tree; what can change lies in the store, at a number -/
inductive PV where
  | non | bl (b : Bool) | int (i : Int) | str (l : List Nat)
  | tup (xs : List PV) | lst (xs : List PV) | ro (xs : List PV)
  | dic (ks vs : List PV)
  | ins (c : Nat) (vs : List PV)
  | loc (n : Nat) | fn (i : Nat) | cls (c : Nat) | ty (n : String)
  deriving Inhabited

abbrev Store := List PV
inductive Res (α : Type) where
  | ok (a : α) (s : Store) | exc (e : PV) (s : Store) | stuck
def Res.bind {α β : Type} (r : Res α) (k : α → Store → Res β) : Res β := match r with
  | .ok a s => k a s
  | .exc e s => .exc e s
  | .stuck => .stuck
@[simp] theorem Res.bind_ok {α β : Type} (a : α) (s : Store) (k : α → Store → Res β) : (Res.ok a s).bind k = k a s := rfl
@[simp] theorem Res.bind_exc {α β : Type} (e : PV) (s : Store) (k : α → Store → Res β) : (Res.exc e s).bind k = .exc e s := rfl
@[simp] theorem Res.bind_stuck {α β : Type} (k : α → Store → Res β) : (Res.stuck : Res α).bind k = .stuck := rfl
theorem Res.bind_assoc {α β γ : Type} (r : Res α) (k : α → Store → Res β) (l : β → Store → Res γ) : (r.bind k).bind l = r.bind fun a s => (k a s).bind l := by
  cases r <;> rfl

inductive Fl where
  | next | ret (v : PV) | brk | cont
abbrev Env := List (Option PV)
abbrev EM := Env → Store → Res PV
abbrev TM := Env → Store → Res Bool
abbrev AM := Env → Store → Res (List PV)
abbrev SM := Env → Store → Res (Env × Fl)
abbrev O1 := PV → Store → Res PV
abbrev O2 := PV → PV → Store → Res PV
abbrev ON := List PV → Store → Res PV
abbrev sz : Nat := 16777216
def ofO {α : Type} (o : Option α) (s : Store) : Res α := match o with
  | some a => .ok a s
  | none => .stuck
@[simp] theorem ofO_some {α : Type} (a : α) (s : Store) : ofO (some a) s = .ok a s := rfl
@[simp] theorem ofO_none {α : Type} (s : Store) : ofO (none : Option α) s = .stuck := rfl

/-! ### which places a value names -/
mutual
/-- all the places that it names lie below b -/
def lb (b : Nat) : PV → Bool
  | .tup xs => lbs b xs
  | .lst xs => lbs b xs
  | .ro xs => lbs b xs
  | .dic ks vs => lbs b ks && lbs b vs
  | .ins _ vs => lbs b vs
  | .loc n => decide (n < b)
  | _ => true
def lbs (b : Nat) : List PV → Bool
  | [] => true
  | x :: xs => lb b x && lbs b xs
end
@[simp] theorem lb_non (b : Nat) : lb b .non = true := by simp [lb]
@[simp] theorem lb_bl (b : Nat) (k : Bool) : lb b (.bl k) = true := by simp [lb]
@[simp] theorem lb_int (b : Nat) (k : Int) : lb b (.int k) = true := by simp [lb]
@[simp] theorem lb_str (b : Nat) (k : List Nat) : lb b (.str k) = true := by simp [lb]
@[simp] theorem lb_fn (b : Nat) (k : Nat) : lb b (.fn k) = true := by simp [lb]
@[simp] theorem lb_cls (b : Nat) (k : Nat) : lb b (.cls k) = true := by simp [lb]
@[simp] theorem lb_ty (b : Nat) (k : String) : lb b (.ty k) = true := by simp [lb]
@[simp] theorem lb_tup (b : Nat) (xs : List PV) : lb b (.tup xs) = lbs b xs := by simp [lb]
@[simp] theorem lb_lst (b : Nat) (xs : List PV) : lb b (.lst xs) = lbs b xs := by simp [lb]
@[simp] theorem lb_ro (b : Nat) (xs : List PV) : lb b (.ro xs) = lbs b xs := by simp [lb]
@[simp] theorem lb_dic (b : Nat) (ks vs : List PV) : lb b (.dic ks vs) = (lbs b ks && lbs b vs) := by simp [lb]
@[simp] theorem lb_ins (b c : Nat) (vs : List PV) : lb b (.ins c vs) = lbs b vs := by simp [lb]
@[simp] theorem lb_loc (b n : Nat) : lb b (.loc n) = decide (n < b) := by simp [lb]
@[simp] theorem lbs_nil (b : Nat) : lbs b [] = true := by simp [lbs]
@[simp] theorem lbs_cons (b : Nat) (x : PV) (xs : List PV) : lbs b (x :: xs) = (lb b x && lbs b xs) := by simp [lbs]
theorem lbs_all (b : Nat) : ∀ xs : List PV, lbs b xs = xs.all (lb b)
  | [] => by simp
  | x :: xs => by simp [lbs_all b xs]
@[simp] theorem lbs_append (b : Nat) (xs ys : List PV) : lbs b (xs ++ ys) = (lbs b xs && lbs b ys) := by simp [lbs_all]
theorem lbs_iff {b : Nat} {xs : List PV} : lbs b xs = true ↔ ∀ x ∈ xs, lb b x = true := by simp [lbs_all]
mutual
theorem lb_mono {b c : Nat} (h : b ≤ c) : ∀ v : PV, lb b v = true → lb c v = true
  | .non, _ => by simp
  | .bl _, _ => by simp
  | .int _, _ => by simp
  | .str _, _ => by simp
  | .fn _, _ => by simp
  | .cls _, _ => by simp
  | .ty _, _ => by simp
  | .loc n, e => by simp at *; omega
  | .tup xs, e => by simp at *; exact lbs_mono h xs e
  | .lst xs, e => by simp at *; exact lbs_mono h xs e
  | .ro xs, e => by simp at *; exact lbs_mono h xs e
  | .dic ks vs, e => by simp at *; exact ⟨lbs_mono h ks e.1, lbs_mono h vs e.2⟩
  | .ins _ vs, e => by simp at *; exact lbs_mono h vs e
theorem lbs_mono {b c : Nat} (h : b ≤ c) : ∀ xs : List PV, lbs b xs = true → lbs c xs = true
  | [], _ => by simp
  | x :: xs, e => by simp at *; exact ⟨lb_mono h x e.1, lbs_mono h xs e.2⟩
end

/-! ### reading -/
/-- what stands behind a value: of a place, its content -/
def deref (s : Store) : PV → PV
  | .loc n => s.getD n .non
  | v => v
/-- the items of a list or a tuple -/
def itemsOf (s : Store) (v : PV) : Option (List PV) := match deref s v with
  | .tup xs => some xs
  | .lst xs => some xs
  | .ro xs => some xs
  | _ => none
def truthV (s : Store) (v : PV) : Option Bool := match deref s v with
  | .non => some false
  | .bl b => some b
  | .int i => some (i != 0)
  | .str l => if l.length ≤ sz then some (!l.isEmpty) else none
  | .tup xs => some (!xs.isEmpty)
  | .lst xs => some (!xs.isEmpty)
  | .ro xs => some (!xs.isEmpty)
  | .dic ks _ => some (!ks.isEmpty)
  | _ => none

/-! ### combinators: expressions -/
def eVar (i : Nat) : EM := fun σ s => match σ[i]? with
  | some (some v) => .ok v s
  | _ => .stuck
def eC (v : PV) : EM := fun _ s => .ok v s
/-- what is raised is not carried further -/
def noX {α : Type} (r : Res α) : Res α := match r with
  | .ok a s => .ok a s
  | _ => .stuck
@[simp] theorem noX_ok {α : Type} (a : α) (s : Store) : noX (.ok a s) = .ok a s := rfl
@[simp] theorem noX_exc {α : Type} (a : PV) (s : Store) : noX (.exc a s : Res α) = .stuck := rfl
@[simp] theorem noX_stuck {α : Type} : noX (.stuck : Res α) = .stuck := rfl
def eOp1 (f : O1) (a : EM) : EM := fun σ s => (a σ s).bind fun x s1 => noX (f x s1)
def eOp2 (f : O2) (a b : EM) : EM := fun σ s => (a σ s).bind fun x s1 => (b σ s1).bind fun y s2 => noX (f x y s2)
def aNil : AM := fun _ s => .ok [] s
def aCons (a : EM) (r : AM) : AM := fun σ s => (a σ s).bind fun x s1 => (r σ s1).bind fun xs s2 => .ok (x :: xs) s2
def eCall (f : ON) (a : AM) : EM := fun σ s => (a σ s).bind f
/-- a built-in: it raises nothing here -/
def eBlt (f : ON) (a : AM) : EM := fun σ s => (a σ s).bind fun xs s1 => noX (f xs s1)
def eTup (a : AM) : EM := fun σ s => (a σ s).bind fun xs s1 => .ok (.tup xs) s1
/-- a new list, held as a tree -/
def eLst (a : AM) : EM := fun σ s => (a σ s).bind fun xs s1 => .ok (.lst xs) s1
def eIf (t : TM) (a b : EM) : EM := fun σ s => (t σ s).bind fun k s1 => if k = true then a σ s1 else b σ s1
def eAnd (a b : EM) : EM := fun σ s => (a σ s).bind fun x s1 => (ofO (truthV s1 x) s1).bind fun k s2 => if k = true then b σ s2 else .ok x s2
def eOr (a b : EM) : EM := fun σ s => (a σ s).bind fun x s1 => (ofO (truthV s1 x) s1).bind fun k s2 => if k = true then .ok x s2 else b σ s2
def eNot (a : EM) : EM := fun σ s => (a σ s).bind fun x s1 => (ofO (truthV s1 x) s1).bind fun k s2 => .ok (.bl !k) s2
def eNotB (a : EM) : EM := fun σ s => (a σ s).bind fun x s1 => match x with
  | .bl k => .ok (.bl !k) s1
  | _ => .stuck
def qOf (a : EM) : TM := fun σ s => (a σ s).bind fun x s1 => ofO (truthV s1 x) s1
/-- a test that is a comparison: its value is True or False -/
def qBl (a : EM) : TM := fun σ s => (a σ s).bind fun x s1 => match x with
  | .bl k => .ok k s1
  | _ => .stuck
def qAnd (a b : TM) : TM := fun σ s => (a σ s).bind fun k s1 => if k = true then b σ s1 else .ok false s1
def qOr (a b : TM) : TM := fun σ s => (a σ s).bind fun k s1 => if k = true then .ok true s1 else b σ s1
def qNot (a : TM) : TM := fun σ s => (a σ s).bind fun k s1 => .ok (!k) s1
/-- a ? b ? c, two comparisons, b asked once -/
def eChain (f g : O2) (a b c : EM) : EM := fun σ s => (a σ s).bind fun x s1 => (b σ s1).bind fun y s2 => (noX (f x y s2)).bind fun z s3 => match z with
  | .bl true => (c σ s3).bind fun u s4 => noX (g y u s4)
  | .bl false => .ok (.bl false) s3
  | _ => .stuck

/-! ### iteration: the items, and what must hold of the store at each turn -/
structure Walk where
  items : List PV
  /-- the place that is walked, if there is one, with its content -/
  at_ : Option (Nat × PV)
def Walk.ok (w : Walk) (s : Store) : Prop := match w.at_ with
  | none => True
  | some (n, c) => s[n]? = some c
abbrev IM := Env → Store → Res Walk
/-- a target: stores a value in the slots -/
abbrev GM := PV → Env → Store → Res Env
def gName (i : Nat) : GM := fun v σ s => .ok (σ.set i (some v)) s
def gNames (is : List Nat) : List PV → Env → Store → Res Env := fun vs σ s => match is, vs with
  | [], [] => .ok σ s
  | i :: is, v :: vs => gNames is vs (σ.set i (some v)) s
  | _, _ => .stuck
def gTup (is : List Nat) : GM := fun v σ s => match v with
  | .tup xs => gNames is xs σ s
  | _ => .stuck
def wipe (σ : Env) : List Nat → Env
  | [] => σ
  | v :: vs => (wipe σ vs).set v none
open Classical in
/-- the items one by one -/
noncomputable def compGo (w : Walk) (g : GM) (t : TM) (e : EM) (σ : Env) : List PV → List PV → Store → Res (List PV)
  | [], acc, s => if w.ok s then .ok acc s else .stuck
  | x :: xs, acc, s => if w.ok s then (noX (g x σ s)).bind fun σ1 s1 => (noX (t σ1 s1)).bind fun k s2 => if k = true then (noX (e σ1 s2)).bind fun y s3 => compGo w g t e σ xs (acc ++ [y]) s3 else compGo w g t e σ xs acc s2 else .stuck
noncomputable def aComp (it : IM) (g : GM) (t : TM) (e : EM) (own : List Nat) : AM := fun σ s => (it σ s).bind fun w s1 => compGo w g t e (wipe σ own) w.items [] s1
def qYes : TM := fun _ s => .ok true s
open Classical in
noncomputable def forGo (w : Walk) (g : GM) (b : SM) (keep : Env → Env) : List PV → Env → Store → Res (Env × Fl)
  | [], σ, s => if w.ok s then .ok (σ, .next) s else .stuck
  | x :: xs, σ, s => if w.ok s then (g x σ s).bind fun σ1 s1 => (b σ1 s1).bind fun r s2 => match r.2 with
      | .next => forGo w g b keep xs (keep r.1) s2
      | .cont => forGo w g b keep xs (keep r.1) s2
      | .brk => .ok (keep r.1, .next) s2
      | .ret v => .ok (r.1, .ret v) s2 else .stuck
/-- slots that held nothing ahead of a loop are forgotten behind each turn -/
def keepAs : Env → Env → Env
  | none :: r, _ :: q => none :: keepAs r q
  | some _ :: r, x :: q => x :: keepAs r q
  | _, q => q
noncomputable def sFor (it : IM) (g : GM) (b : SM) : SM := fun σ s => (it σ s).bind fun w s1 => forGo w g b (keepAs σ) w.items σ s1

/-! ### statements -/
def sNext : SM := fun σ s => .ok (σ, .next) s
def sBrk : SM := fun σ s => .ok (σ, .brk) s
def sCont : SM := fun σ s => .ok (σ, .cont) s
def sSeq (a b : SM) : SM := fun σ s => (a σ s).bind fun r s1 => match r.2 with
  | .next => b r.1 s1
  | f => .ok (r.1, f) s1
def sAsg (e : EM) (g : GM) : SM := fun σ s => (e σ s).bind fun v s1 => (g v σ s1).bind fun σ1 s2 => .ok (σ1, .next) s2
/-- a list of one's own, at a new place -/
def ePl (e : AM) : EM := fun σ s => (e σ s).bind fun xs s1 => .ok (.loc s1.length) (s1 ++ [.lst xs])
/-- x = a list of one's own: it goes to a new place -/
def sNew (e : AM) (i : Nat) : SM := fun σ s => (e σ s).bind fun xs s1 => .ok (σ.set i (some (.loc s1.length)), .next) (s1 ++ [.lst xs])
def sExp (e : EM) : SM := fun σ s => (e σ s).bind fun _ s1 => .ok (σ, .next) s1
def sRet (e : EM) : SM := fun σ s => (e σ s).bind fun v s1 => .ok (σ, .ret v) s1
/-- return a list of one's own, as a place -/
def sRetL (e : AM) : SM := fun σ s => (e σ s).bind fun xs s1 => .ok (σ, .ret (.loc s1.length)) (s1 ++ [.lst xs])
def sRetN : SM := fun σ s => .ok (σ, .ret .non) s
def sIf (t : TM) (a b : SM) : SM := fun σ s => (t σ s).bind fun k s1 => if k = true then a σ s1 else b σ s1
def sStuck : SM := fun _ _ => .stuck
/-- two names at once: a, b = e1, e2 -/
def sPar (a : AM) (i j : Nat) : SM := fun σ s => (a σ s).bind fun xs s1 => match xs with
  | [x, y] => .ok ((σ.set i (some x)).set j (some y), .next) s1
  | _ => .stuck

/-! ### what a def does -/
/-- what stood before the call stands as it was, or names none of the call's own places -/
def Kept (base : Nat) (old new : Store) : Prop := ∀ i, i < base → new[i]? = old[i]? ∨ ∃ c, new[i]? = some c ∧ lb base c = true
open Classical in
/-- a call's end: its own places are dropped; what it hands back, if it lies there, becomes a tree -/
noncomputable def finV (old : Store) (v : PV) (s : Store) : Res PV :=
  if Kept old.length old s ∧ old.length ≤ s.length then
    match v with
    | .loc n => if n < old.length then .ok v (s.take old.length) else match s[n]? with
      | some c => if lb old.length c = true then .ok c (s.take old.length) else .stuck
      | none => .stuck
    | v => if lb old.length v = true then .ok v (s.take old.length) else .stuck
  else .stuck
open Classical in
/-- .. a list of its own is handed on as a place -/
noncomputable def finL (old : Store) (v : PV) (s : Store) : Res PV :=
  if Kept old.length old s ∧ old.length ≤ s.length then
    match v with
    | .loc n => if n < old.length then .stuck else match s[n]? with
      | some (.lst xs) => if lbs old.length xs = true then .ok (.loc old.length) (s.take old.length ++ [.lst xs]) else .stuck
      | _ => .stuck
    | _ => .stuck
  else .stuck
open Classical in
noncomputable def finX (old : Store) (e : PV) (s : Store) : Res PV :=
  if Kept old.length old s ∧ old.length ≤ s.length ∧ lb old.length e = true then .exc e (s.take old.length) else .stuck
noncomputable def runDef (fin : Store → PV → Store → Res PV) (n : Nat) (b : SM) : ON := fun vs s => match b (vs.map some ++ List.replicate (n - vs.length) none) s with
  | .ok (_, .ret v) s1 => fin s v s1
  | .ok (_, .next) s1 => fin s .non s1
  | .ok _ _ => .stuck
  | .exc e s1 => finX s e s1
  | .stuck => .stuck

/-! ### operations by values -/
def eqL (f : PV → PV → Bool) : List PV → List PV → Bool
  | [], [] => true
  | x :: xs, y :: ys => f x y && eqL f xs ys
  | _, _ => false
/-- == of data, to a depth -/
def eqF : Nat → PV → PV → Bool
  | _, .non, .non => true
  | _, .bl a, .bl b => a == b
  | _, .bl a, .int j => (if a then 1 else 0) == j
  | _, .int i, .bl b => i == (if b then 1 else 0)
  | _, .int i, .int j => i == j
  | _, .str a, .str b => a == b
  | n + 1, .tup xs, .tup ys => eqL (eqF n) xs ys
  | n + 1, .lst xs, .lst ys => eqL (eqF n) xs ys
  | n + 1, .lst xs, .ro ys => eqL (eqF n) xs ys
  | n + 1, .ro xs, .lst ys => eqL (eqF n) xs ys
  | n + 1, .ro xs, .ro ys => eqL (eqF n) xs ys
  | _, _, _ => false
/-- data of a depth -/
def isD : Nat → PV → Bool
  | _, .non => true
  | _, .bl _ => true
  | _, .int _ => true
  | _, .str _ => true
  | n + 1, .tup xs => xs.all (isD n)
  | n + 1, .lst xs => xs.all (isD n)
  | n + 1, .ro xs => xs.all (isD n)
  | _, _ => false
abbrev dp : Nat := 12
def pyAdd : O2 := fun x y s => match x, y with
  | .int i, .int j => .ok (.int (i + j)) s
  | .str a, .str b => if a.length + b.length ≤ sz then .ok (.str (a ++ b)) s else .stuck
  | .tup a, .tup b => if a.length + b.length ≤ sz then .ok (.tup (a ++ b)) s else .stuck
  | x, y => match deref s x, deref s y with
    | .lst a, .lst b => if a.length + b.length ≤ sz then .ok (.lst (a ++ b)) s else .stuck
    | _, _ => .stuck
def pySub : O2 := fun x y s => match x, y with
  | .int i, .int j => .ok (.int (i - j)) s
  | _, _ => .stuck
def pyMul : O2 := fun x y s => match x, y with
  | .int i, .int j => if (-(2 ^ 64) < i ∧ i < 2 ^ 64) ∨ (-(2 ^ 64) < j ∧ j < 2 ^ 64) then .ok (.int (i * j)) s else .stuck
  | _, _ => .stuck
def pyMod : O2 := fun x y s => match x, y with
  | .int i, .int j => if 0 < j then .ok (.int (i % j)) s else .stuck
  | _, _ => .stuck
def pyFdiv : O2 := fun x y s => match x, y with
  | .int i, .int j => if 0 < j ∧ j < 2 ^ 128 then .ok (.int (i / j)) s else .stuck
  | _, _ => .stuck
def pyPow : O2 := fun x y s => match x, y with
  | .int i, .int j => if 0 ≤ j ∧ j ≤ 1000000 ∧ i.natAbs < 2 ^ 64 then .ok (.int (i ^ j.toNat)) s else .stuck
  | _, _ => .stuck
def pyNeg : O1 := fun x s => match x with
  | .int i => .ok (.int (-i)) s
  | _ => .stuck
def pyLt : O2 := fun x y s => match x, y with
  | .int i, .int j => .ok (.bl (decide (i < j))) s
  | .str a, .str b => .ok (.bl (decide (a < b))) s
  | _, _ => .stuck
def pyLe : O2 := fun x y s => match x, y with
  | .int i, .int j => .ok (.bl (decide (i ≤ j))) s
  | _, _ => .stuck
def pyGt : O2 := fun x y s => match x, y with
  | .int i, .int j => .ok (.bl (decide (j < i))) s
  | _, _ => .stuck
def pyGe : O2 := fun x y s => match x, y with
  | .int i, .int j => .ok (.bl (decide (j ≤ i))) s
  | _, _ => .stuck
/-- == and != of data -/
def pyEq : O2 := fun x y s => if isD dp (deref s x) && isD dp (deref s y) then .ok (.bl (eqF dp (deref s x) (deref s y))) s else .stuck
def pyNe : O2 := fun x y s => if isD dp (deref s x) && isD dp (deref s y) then .ok (.bl (!eqF dp (deref s x) (deref s y))) s else .stuck
/-- x in y -/
def inP (s : Store) (x y : PV) : Option Bool := match x, y with
  | .str [c], .str l => some (decide (c ∈ l))
  | x, y => match itemsOf s y with
    | some xs => if isD dp x && xs.all (isD dp) then some (xs.any fun z => eqF dp z x) else none
    | none => none
def pyIn : O2 := fun x y s => (ofO (inP s x y) s).bind fun k s => .ok (.bl k) s
def pyNotIn : O2 := fun x y s => (ofO (inP s x y) s).bind fun k s => .ok (.bl !k) s
/-- is None, is True, is False -/
def pyIs (c : PV) : O1 := fun x s => match c, x with
  | .non, .non => .ok (.bl true) s
  | .bl a, .bl b => .ok (.bl (a == b)) s
  | .non, _ => .ok (.bl false) s
  | .bl _, _ => .stuck
  | _, _ => .stuck
/-- the place of an index -/
def ixP (n : Nat) (i : Int) : Option Nat := if 0 ≤ i then (if i < n then some i.toNat else none) else if -(n : Int) ≤ i then some (i + n).toNat else none
def atP {α : Type} (xs : List α) (i : Int) : Option α := (ixP xs.length i).bind fun j => xs[j]?
def pyIdx : O2 := fun x y s => match y with
  | .int i => (match x with
    | .str l => if l.length ≤ sz then (ofO (atP l i) s).bind fun c s => .ok (.str [c]) s else .stuck
    | x => match itemsOf s x with
      | some xs => ofO (atP xs i) s
      | none => .stuck)
  | _ => .stuck
/-- len of what can be told -/
def lenP (s : Store) (x : PV) : Option Nat := match x with
  | .str l => if l.length ≤ sz then some l.length else none
  | x => (itemsOf s x).map (·.length)
def bLen : ON := fun vs s => match vs with
  | [x] => (ofO (lenP s x) s).bind fun n s => .ok (.int (n : Nat)) s
  | _ => .stuck
/-- slices -/
def sIxP (n d : Nat) : Option Int → Nat
  | none => d
  | some v => if v < 0 then (v + (n : Int)).toNat else min v.toNat n
def cutP {α : Type} (xs : List α) (lo hi : Option Int) : List α := (xs.drop (sIxP xs.length 0 lo)).take (sIxP xs.length xs.length hi - sIxP xs.length 0 lo)
abbrev OM := Env → Store → Res (Option Int)
def oNone : OM := fun _ s => .ok none s
def oSome (a : EM) : OM := fun σ s => (a σ s).bind fun x s1 => match x with
  | .int i => .ok (some i) s1
  | _ => .stuck
/-- a slice's value: of a text, a tuple, a list -/
def sliceV (s : Store) (x : PV) (lo hi : Option Int) : Option PV := match x with
  | .str l => if l.length ≤ sz then some (.str (cutP l lo hi)) else none
  | .tup xs => some (.tup (cutP xs lo hi))
  | x => match deref s x with
    | .lst xs => some (.lst (cutP xs lo hi))
    | .ro xs => some (.lst (cutP xs lo hi))
    | _ => none
def eSlice (a : EM) (lo hi : OM) : EM := fun σ s => (a σ s).bind fun x s1 => (lo σ s1).bind fun l s2 => (hi σ s2).bind fun u s3 => ofO (sliceV s3 x l u) s3
/-! ### built-ins -/
def bAbs : ON := fun vs s => match vs with
  | [.int i] => .ok (.int (if i < 0 then -i else i)) s
  | _ => .stuck
def bMax : ON := fun vs s => match vs with
  | [.int i, .int j] => .ok (.int (if j > i then j else i)) s
  | _ => .stuck
def bMin : ON := fun vs s => match vs with
  | [.int i, .int j] => .ok (.int (if j < i then j else i)) s
  | _ => .stuck
def bInt : ON := fun vs s => match vs with
  | [.int i] => .ok (.int i) s
  | [.bl k] => .ok (.int (if k then 1 else 0)) s
  | _ => .stuck
def blsOf : List PV → Option (List Bool)
  | [] => some []
  | .bl k :: r => (blsOf r).map (k :: ·)
  | _ => none
def bAll : ON := fun vs s => match vs with
  | [x] => (ofO ((itemsL s x).bind blsOf) s).bind fun ks s => .ok (.bl (ks.all id)) s
  | _ => .stuck
where itemsL (s : Store) (x : PV) : Option (List PV) := match deref s x with
  | .lst xs => some xs
  | .ro xs => some xs
  | _ => none
def bAny : ON := fun vs s => match vs with
  | [x] => (ofO ((bAll.itemsL s x).bind blsOf) s).bind fun ks s => .ok (.bl (ks.any id)) s
  | _ => .stuck
def bTuple : ON := fun vs s => match vs with
  | [x] => (ofO (itemsOf s x) s).bind fun xs s => .ok (.tup xs) s
  | _ => .stuck
/-- a list of one's own, as a new tree -/
def bList : ON := fun vs s => match vs with
  | [x] => (ofO (itemsOf s x) s).bind fun xs s => .ok (.lst xs) s
  | _ => .stuck
def strsOf : List PV → Option (List (List Nat))
  | [] => some []
  | .str k :: r => (strsOf r).map (k :: ·)
  | _ => none
def insS (x : List Nat) : List (List Nat) → List (List Nat)
  | [] => [x]
  | y :: r => if y < x then y :: insS x r else x :: y :: r
def sortS : List (List Nat) → List (List Nat)
  | [] => []
  | x :: r => insS x (sortS r)
def bSorted : ON := fun vs s => match vs with
  | [x] => (ofO ((bAll.itemsL s x).bind strsOf) s).bind fun ks s => if ks.length < 64 then .ok (.lst ((sortS ks).map .str)) s else .stuck
  | _ => .stuck
/-- the class of a value, a class asked for: a built-in one, an own one -/
inductive Tg where
  | t (n : String) | c (n : Nat)
  deriving DecidableEq
def tgOf (s : Store) (x : PV) : Option Tg := match deref s x with
  | .non => some (.t "NoneType")
  | .bl _ => some (.t "bool")
  | .int _ => some (.t "int")
  | .str _ => some (.t "str")
  | .tup _ => some (.t "tuple")
  | .lst _ => some (.t "list")
  | .dic _ _ => some (.t "dict")
  | .ins c _ => some (.c c)
  | _ => none
/-- isinstance: tab tells the answers -/
def bIsi (tab : List ((Tg × Tg) × Bool)) : ON := fun vs s => match vs with
  | [x, .ty n] => (ofO ((tgOf s x).bind fun g => tab.lookup (g, .t n)) s).bind fun k s => .ok (.bl k) s
  | [x, .cls c] => (ofO ((tgOf s x).bind fun g => tab.lookup (g, .c c)) s).bind fun k s => .ok (.bl k) s
  | _ => .stuck
/-- attributes: an instance of the class c holds the first of its fields, in their order; tab tells where a name stands -/
def eFld (tab : List (Nat × Nat)) (o : EM) : EM := fun σ s => (o σ s).bind fun x s1 => match deref s1 x with
  | .ins c vs => (match tab.lookup c with
    | some i => ofO vs[i]? s1
    | none => .stuck)
  | _ => .stuck
def putF (i : Nat) (v : PV) (vs : List PV) : Option (List PV) := if i < vs.length then some (vs.set i v) else if i = vs.length then some (vs ++ [v]) else none
def sSetF (tab : List (Nat × Nat)) (o e : EM) : SM := fun σ s => (e σ s).bind fun v s1 => (o σ s1).bind fun x s2 => match x with
  | .loc n => (match s2[n]? with
    | some (.ins c vs) => (match tab.lookup c with
      | some i => (match putF i v vs with
        | some vs' => .ok (σ, .next) (s2.set n (.ins c vs'))
        | none => .stuck)
      | none => .stuck)
    | _ => .stuck)
  | _ => .stuck
/-- xs[i] = e -/
def sSetI (o i e : EM) : SM := fun σ s => (e σ s).bind fun v s1 => (o σ s1).bind fun x s2 => (i σ s2).bind fun k s3 => match x, k with
  | .loc n, .int j => (match s3[n]? with
    | some (.lst xs) => (match ixP xs.length j with
      | some m => .ok (σ, .next) (s3.set n (.lst (xs.set m v)))
      | none => .stuck)
    | _ => .stuck)
  | _, _ => .stuck
/-- methods of a list that changes -/
abbrev OMt := PV → List PV → Store → Res PV
def mAppend : OMt := fun x vs s => match x, vs with
  | .loc n, [v] => (match s[n]? with
    | some (.lst xs) => if xs.length < sz then .ok .non (s.set n (.lst (xs ++ [v]))) else .stuck
    | _ => .stuck)
  | _, _ => .stuck
def mExtend : OMt := fun x vs s => match x, vs with
  | .loc n, [v] => (match s[n]?, deref s v with
    | some (.lst xs), .lst ys => if xs.length + ys.length ≤ sz then .ok .non (s.set n (.lst (xs ++ ys))) else .stuck
    | _, _ => .stuck)
  | _, _ => .stuck
def mPop : OMt := fun x vs s => match x, vs with
  | .loc n, [.int i] => (match s[n]? with
    | some (.lst xs) => if 0 ≤ i ∧ i < 2 ^ 62 then (ofO xs[i.toNat]? s).bind fun v s => .ok v (s.set n (.lst (xs.eraseIdx i.toNat))) else .stuck
    | _ => .stuck)
  | _, _ => .stuck
def isL (s : Store) (x : PV) : Bool := match deref s x with
  | .lst _ => true
  | _ => false
def eMt (f : OMt) (o : EM) (a : AM) : EM := fun σ s => (o σ s).bind fun x s1 => if isL s1 x = true then (a σ s1).bind fun vs s2 => noX (f x vs s2) else .stuck
/-- x op= e of a name -/
def sAug (f : O2) (i : Nat) (e : EM) : SM := fun σ s => match σ[i]? with
  | some (some x) => (e σ s).bind fun y s1 => (noX (f x y s1)).bind fun z s2 => .ok (σ.set i (some z), .next) s2
  | _ => .stuck

/-! ### calls of defs, classes, methods -/
/-- f(.., k = ..): what is written by position, then by name -/
def eCallK (f : List PV → List PV → Store → Res PV) (a kw : AM) : EM := fun σ s => (a σ s).bind fun vs s1 => (kw σ s1).bind fun zs s2 => f vs zs s2
/-- a new instance at a place of its own, then __init__ -/
noncomputable def newOf (c : Nat) (fin : Store → PV → Store → Res PV) (f : List PV → List PV → Store → Res PV) : List PV → List PV → Store → Res PV := fun vs zs s =>
  match f (.loc s.length :: vs) zs (s ++ [.ins c []]) with
  | .ok .non s1 => fin s (.loc s.length) s1
  | .ok _ _ => .stuck
  | .exc e s1 => finX s e s1
  | .stuck => .stuck
/-- nothing is dropped -/
def finN (_ : Store) (v : PV) (s : Store) : Res PV := .ok v s
/-- the class of an instance -/
def clsOf (s : Store) (x : PV) : Option Nat := match deref s x with
  | .ins c _ => some c
  | _ => none
/-- o.m(..) -/
def eMeth (tab : List (Nat × (List PV → List PV → Store → Res PV))) (o : EM) (a kw : AM) : EM := fun σ s => (o σ s).bind fun x s1 => match (clsOf s1 x).bind fun c => tab.lookup c with
  | some f => (a σ s1).bind fun vs s2 => (kw σ s2).bind fun zs s3 => f (x :: vs) zs s3
  | none => .stuck
end Mir
/-! Mir, part B: how the plain side lies in the layer's heap: F holds what cannot change any more, io the places of the store. -/
namespace Mir
open PySem PySem.Spec PyProof.Rows L2

/-- where the classes and defs stand; the fields of a class, in the order of their making -/
structure Le (F : Hp) (io : List Addr) (F' : Hp) (io' : List Addr) : Prop where
  fm : ∀ a u, F a = some u → F' a = some u
  im : ∃ m, io' = io ++ m
structure Tb where
  ca : Nat → Addr
  fa : Nat → Addr
  fl : Nat → List Str
  /-- what else is known of the slots (an exception that is held), and stays so -/
  gh : Hp → List Addr → L2.St → Prop
  ghm : ∀ F io F' io' σ, Le F io F' io' → gh F io σ → gh F' io' σ
/-- nothing else -/
class NoGh (T : Tb) : Prop where
  free : ∀ F io σ, T.gh F io σ
/-- the slot i may be stored in -/
class GhSet (T : Tb) (i : Nat) : Prop where
  st : ∀ F io σ v, T.gh F io σ → T.gh F io (σ.set i v)
instance {T : Tb} {i : Nat} [NoGh T] : GhSet T i := ⟨fun _ _ _ _ _ => NoGh.free _ _ _⟩

abbrev St8 (l : List Nat) : Str := ⟨l.toArray⟩
mutual
inductive R (K : PySem.W.Frag) (T : Tb) (F : Hp) (io : List Addr) : PV → V → Prop
  | non : R K T F io .non .non
  | bl (b : Bool) : R K T F io (.bl b) (.bl b)
  | int (i : Int) : R K T F io (.int i) (.int i)
  | str (l : List Nat) : R K T F io (.str l) (.str (St8 l))
  | tup {a : Addr} {xs : List PV} {vs : List V} : SqT K F a vs → Rs K T F io xs vs → R K T F io (.tup xs) (.ref a)
  | lst {a : Addr} {xs : List PV} {vs : List V} : F a = some (.lst vs) → Rs K T F io xs vs → R K T F io (.lst xs) (.ref a)
  | ro {a : Addr} {xs : List PV} {vs : List V} : SqL K F a vs → Rs K T F io xs vs → R K T F io (.ro xs) (.ref a)
  | dic {a : Addr} {ks vs : List PV} {kvs : List (Key × V)} : F a = some (.dK kvs) → Rs K T F io ks (kvs.map fun p => kV p.1) → Rs K T F io vs (kvs.map (·.2)) → R K T F io (.dic ks vs) (.ref a)
  | ins {a dx : Addr} {c : Nat} {vs : List PV} {fv : List (Str × V)} : F a = some (.ins (T.ca c) dx fv) → fv.map (·.1) = (T.fl c).take vs.length → Rs K T F io vs (fv.map (·.2)) → R K T F io (.ins c vs) (.ref a)
  | loc {a : Addr} {n : Nat} : io[n]? = some a → R K T F io (.loc n) (.ref a)
  | fn (i : Nat) : R K T F io (.fn i) (.ref (T.fa i))
  | cls (c : Nat) : R K T F io (.cls c) (.ref (T.ca c))
  | ty (n : String) : R K T F io (.ty n) (.ty n)
inductive Rs (K : PySem.W.Frag) (T : Tb) (F : Hp) (io : List Addr) : List PV → List V → Prop
  | nil : Rs K T F io [] []
  | cons {x : PV} {v : V} {xs : List PV} {vs : List V} : R K T F io x v → Rs K T F io xs vs → Rs K T F io (x :: xs) (v :: vs)
end
section
variable {K : PySem.W.Frag} {T : Tb} {F F' F'' : Hp} {io io' io'' : List Addr}
theorem Le.refl : Le F io F io := ⟨fun _ _ h => h, [], by simp⟩
theorem Le.trans (a : Le F io F' io') (b : Le F' io' F'' io'') : Le F io F'' io'' := by
  obtain ⟨m, rfl⟩ := a.im
  obtain ⟨m', rfl⟩ := b.im
  exact ⟨fun x u h => b.fm x u (a.fm x u h), m ++ m', by simp⟩
theorem rd_mono (h : ∀ a u, F a = some u → F' a = some u) {a : Addr} {u : HO} (r : Rd F a u) : Rd F' a u := by
  rcases r with r | ⟨o, r⟩
  · exact .inl (h _ _ r)
  · exact .inr ⟨o, h _ _ r⟩
theorem sqL_mono (h : ∀ a u, F a = some u → F' a = some u) {a : Addr} {xs : List V} (r : SqL K F a xs) : SqL K F' a xs := by
  rcases r with r | r
  · exact .inl (rd_mono h r)
  · exact .inr r
theorem sqT_mono (h : ∀ a u, F a = some u → F' a = some u) {a : Addr} {xs : List V} (r : SqT K F a xs) : SqT K F' a xs := by
  rcases r with r | r
  · exact .inl (rd_mono h r)
  · exact .inr r
mutual
theorem R.monoG (h : ∀ a u, F a = some u → F' a = some u) (hi : ∀ (n : Nat) (a : Addr), io[n]? = some a → io'[n]? = some a) : ∀ (x : PV) (v : V), R K T F io x v → R K T F' io' x v
  | .non, _, r => by cases r; exact .non
  | .bl _, _, r => by cases r; exact .bl _
  | .int _, _, r => by cases r; exact .int _
  | .str _, _, r => by cases r; exact .str _
  | .fn _, _, r => by cases r; exact .fn _
  | .cls _, _, r => by cases r; exact .cls _
  | .ty _, _, r => by cases r; exact .ty _
  | .loc _, _, r => by cases r with | loc e => exact .loc (hi _ _ e)
  | .tup xs, _, r => by cases r with | tup e q => exact .tup (sqT_mono h e) (Rs.monoG h hi xs _ q)
  | .lst xs, _, r => by cases r with | lst e q => exact .lst (h _ _ e) (Rs.monoG h hi xs _ q)
  | .ro xs, _, r => by cases r with | ro e q => exact .ro (sqL_mono h e) (Rs.monoG h hi xs _ q)
  | .dic ks vs, _, r => by cases r with | dic e q1 q2 => exact .dic (h _ _ e) (Rs.monoG h hi ks _ q1) (Rs.monoG h hi vs _ q2)
  | .ins _ vs, _, r => by cases r with | ins e e2 q => exact .ins (h _ _ e) e2 (Rs.monoG h hi vs _ q)
theorem Rs.monoG (h : ∀ a u, F a = some u → F' a = some u) (hi : ∀ (n : Nat) (a : Addr), io[n]? = some a → io'[n]? = some a) : ∀ (xs : List PV) (vs : List V), Rs K T F io xs vs → Rs K T F' io' xs vs
  | [], _, r => by cases r; exact .nil
  | x :: xs, _, r => by cases r with | cons a b => exact .cons (R.monoG h hi x _ a) (Rs.monoG h hi xs _ b)
end
theorem Le.ix (l : Le F io F' io') : ∀ (n : Nat) (a : Addr), io[n]? = some a → io'[n]? = some a := fun n a e => by
  obtain ⟨m, rfl⟩ := l.im
  rw [List.getElem?_append_left (List.getElem?_eq_some_iff.mp e).1]
  exact e
theorem R.mono (l : Le F io F' io') {x : PV} {v : V} (r : R K T F io x v) : R K T F' io' x v := R.monoG l.fm l.ix _ _ r
theorem Rs.mono (l : Le F io F' io') {xs : List PV} {vs : List V} (r : Rs K T F io xs vs) : Rs K T F' io' xs vs := Rs.monoG l.fm l.ix _ _ r
mutual
theorem R.cut {b : Nat} (hi : ∀ (n : Nat) (a : Addr), n < b → io[n]? = some a → io'[n]? = some a) : ∀ (x : PV) (v : V), lb b x = true → R K T F io x v → R K T F io' x v
  | .non, _, _, r => by cases r; exact .non
  | .bl _, _, _, r => by cases r; exact .bl _
  | .int _, _, _, r => by cases r; exact .int _
  | .str _, _, _, r => by cases r; exact .str _
  | .fn _, _, _, r => by cases r; exact .fn _
  | .cls _, _, _, r => by cases r; exact .cls _
  | .ty _, _, _, r => by cases r; exact .ty _
  | .loc n, _, z, r => by cases r with | loc e => exact .loc (hi _ _ (by simpa using z) e)
  | .tup xs, _, z, r => by cases r with | tup e q => exact .tup e (Rs.cut hi xs _ (by simpa using z) q)
  | .lst xs, _, z, r => by cases r with | lst e q => exact .lst e (Rs.cut hi xs _ (by simpa using z) q)
  | .ro xs, _, z, r => by cases r with | ro e q => exact .ro e (Rs.cut hi xs _ (by simpa using z) q)
  | .dic ks vs, _, z, r => by
    have z' : lbs b ks = true ∧ lbs b vs = true := by simpa using z
    cases r with | dic e q1 q2 => exact .dic e (Rs.cut hi ks _ z'.1 q1) (Rs.cut hi vs _ z'.2 q2)
  | .ins _ vs, _, z, r => by cases r with | ins e e2 q => exact .ins e e2 (Rs.cut hi vs _ (by simpa using z) q)
theorem Rs.cut {b : Nat} (hi : ∀ (n : Nat) (a : Addr), n < b → io[n]? = some a → io'[n]? = some a) : ∀ (xs : List PV) (vs : List V), lbs b xs = true → Rs K T F io xs vs → Rs K T F io' xs vs
  | [], _, _, r => by cases r; exact .nil
  | x :: xs, _, z, r => by
    have z' : lb b x = true ∧ lbs b xs = true := by simpa using z
    cases r with | cons a b => exact .cons (R.cut hi x _ z'.1 a) (Rs.cut hi xs _ z'.2 b)
end
mutual
theorem R.lb : ∀ (x : PV) (v : V), R K T F io x v → Mir.lb io.length x = true
  | .non, _, _ => by simp
  | .bl _, _, _ => by simp
  | .int _, _, _ => by simp
  | .str _, _, _ => by simp
  | .fn _, _, _ => by simp
  | .cls _, _, _ => by simp
  | .ty _, _, _ => by simp
  | .loc n, _, r => by cases r with | loc e => simpa using (List.getElem?_eq_some_iff.mp e).1
  | .tup xs, _, r => by cases r with | tup e q => simpa using Rs.lb xs _ q
  | .lst xs, _, r => by cases r with | lst e q => simpa using Rs.lb xs _ q
  | .ro xs, _, r => by cases r with | ro e q => simpa using Rs.lb xs _ q
  | .dic ks vs, _, r => by cases r with | dic e q1 q2 => simpa using ⟨Rs.lb ks _ q1, Rs.lb vs _ q2⟩
  | .ins _ vs, _, r => by cases r with | ins e e2 q => simpa using Rs.lb vs _ q
theorem Rs.lb : ∀ (xs : List PV) (vs : List V), Rs K T F io xs vs → lbs io.length xs = true
  | [], _, _ => by simp
  | x :: xs, _, r => by cases r with | cons a b => simpa using ⟨R.lb x _ a, Rs.lb xs _ b⟩
end
theorem Rs.length : ∀ {xs : List PV} {vs : List V}, Rs K T F io xs vs → xs.length = vs.length
  | [], _, r => by cases r; rfl
  | _ :: _, _, r => by cases r with | cons a b => simp [Rs.length b]
theorem Rs.get : ∀ {xs : List PV} {vs : List V} {i : Nat} {x : PV}, Rs K T F io xs vs → xs[i]? = some x → ∃ v, vs[i]? = some v ∧ R K T F io x v
  | [], _, i, x, r, e => by simp at e
  | y :: ys, _, 0, x, r, e => by
    cases r with | cons a b =>
    simp at e; subst e
    exact ⟨_, rfl, a⟩
  | y :: ys, _, i + 1, x, r, e => by
    cases r with | cons a b =>
    obtain ⟨v, e1, e2⟩ := Rs.get (i := i) (x := x) b (by simpa using e)
    exact ⟨v, by simpa using e1, e2⟩
theorem Rs.get' {xs : List PV} {vs : List V} {i : Nat} {v : V} (r : Rs K T F io xs vs) (e : vs[i]? = some v) : ∃ x, xs[i]? = some x ∧ R K T F io x v := by
  have hl : i < xs.length := by rw [r.length]; exact (List.getElem?_eq_some_iff.mp e).1
  obtain ⟨v', e1, e2⟩ := r.get (x := xs[i]) (List.getElem?_eq_getElem hl)
  rw [e] at e1; cases e1
  exact ⟨_, List.getElem?_eq_getElem hl, e2⟩
theorem Rs.append : ∀ {xs ys : List PV} {vs ws : List V}, Rs K T F io xs vs → Rs K T F io ys ws → Rs K T F io (xs ++ ys) (vs ++ ws)
  | [], _, _, _, r, q => by cases r; exact q
  | _ :: _, _, _, _, r, q => by cases r with | cons a b => exact .cons a (Rs.append b q)
theorem Rs.take : ∀ {xs : List PV} {vs : List V} (n : Nat), Rs K T F io xs vs → Rs K T F io (xs.take n) (vs.take n)
  | _, _, 0, _ => .nil
  | [], _, _ + 1, r => by cases r; exact .nil
  | _ :: _, _, n + 1, r => by cases r with | cons a b => exact .cons a (Rs.take n b)
theorem Rs.drop : ∀ {xs : List PV} {vs : List V} (n : Nat), Rs K T F io xs vs → Rs K T F io (xs.drop n) (vs.drop n)
  | _, _, 0, r => r
  | [], _, _ + 1, r => by cases r; exact .nil
  | _ :: _, _, n + 1, r => by cases r with | cons a b => exact Rs.drop n b
theorem Rs.set {x : PV} {v : V} (q : R K T F io x v) : ∀ {xs : List PV} {vs : List V} (n : Nat), Rs K T F io xs vs → Rs K T F io (xs.set n x) (vs.set n v)
  | [], _, _, r => by cases r; exact .nil
  | _ :: _, _, 0, r => by cases r with | cons a b => exact .cons q b
  | _ :: _, _, n + 1, r => by cases r with | cons a b => exact .cons a (Rs.set q n b)
theorem Rs.eraseIdx : ∀ {xs : List PV} {vs : List V} (n : Nat), Rs K T F io xs vs → Rs K T F io (xs.eraseIdx n) (vs.eraseIdx n)
  | [], _, _, r => by cases r; exact .nil
  | _ :: _, _, 0, r => by cases r with | cons a b => exact b
  | _ :: _, _, n + 1, r => by cases r with | cons a b => exact .cons a (Rs.eraseIdx n b)
theorem Rs.ints : ∀ {ns : List Int} {vs : List V}, Rs K T F io (ns.map PV.int) vs → vs = ns.map V.int
  | [], _, r => by cases r; rfl
  | _ :: _, _, r => by cases r with | cons a b => cases a; rw [Rs.ints b]; rfl
theorem Rs.of_ints : ∀ (ns : List Int), Rs K T F io (ns.map PV.int) (ns.map V.int)
  | [] => .nil
  | _ :: ns => .cons (.int _) (Rs.of_ints ns)

/-! ### the store in the heap -/
inductive RO (K : PySem.W.Frag) (T : Tb) (F : Hp) (io : List Addr) : PV → HO → Prop
  | lst {xs : List PV} {vs : List V} : Rs K T F io xs vs → RO K T F io (.lst xs) (.lst vs)
  | dic {ks vs : List PV} {kvs : List (Key × V)} : Rs K T F io ks (kvs.map fun p => kV p.1) → Rs K T F io vs (kvs.map (·.2)) → RO K T F io (.dic ks vs) (.dK kvs)
  | ins {dx : Addr} {c : Nat} {vs : List PV} {fv : List (Str × V)} : fv.map (·.1) = (T.fl c).take vs.length → Rs K T F io vs (fv.map (·.2)) → RO K T F io (.ins c vs) (.ins (T.ca c) dx fv)
theorem RO.mono (l : Le F io F' io') {c : PV} {o : HO} (r : RO K T F io c o) : RO K T F' io' c o := by
  cases r with
  | lst q => exact .lst (q.mono l)
  | dic q1 q2 => exact .dic (q1.mono l) (q2.mono l)
  | ins e q => exact .ins e (q.mono l)
theorem RO.cut {b : Nat} (hi : ∀ (n : Nat) (a : Addr), n < b → io[n]? = some a → io'[n]? = some a) {c : PV} {o : HO} (z : Mir.lb b c = true) (r : RO K T F io c o) : RO K T F io' c o := by
  cases r with
  | lst q => exact .lst (Rs.cut hi _ _ (by simpa using z) q)
  | dic q1 q2 =>
    rw [lb_dic, Bool.and_eq_true] at z
    exact .dic (Rs.cut hi _ _ z.1 q1) (Rs.cut hi _ _ z.2 q2)
  | ins e q => exact .ins e (Rs.cut hi _ _ (by simpa using z) q)
theorem RO.lb {c : PV} {o : HO} (r : RO K T F io c o) : Mir.lb io.length c = true := by
  cases r with
  | lst q => simpa using Rs.lb _ _ q
  | dic q1 q2 => simpa using ⟨Rs.lb _ _ q1, Rs.lb _ _ q2⟩
  | ins e q => simpa using Rs.lb _ _ q
/-- a thing of the store, as a tree at its address -/
theorem RO.tree {c : PV} {o : HO} {a : Addr} (r : RO K T F io c o) (h : F a = some o) : R K T F io c (.ref a) := by
  cases r with
  | lst q => exact .lst h q
  | dic q1 q2 => exact .dic h q1 q2
  | ins e q => exact .ins h e q

structure RS (K : PySem.W.Frag) (T : Tb) (P : Hp) (F : Hp) (io : List Addr) (s : Store) (H : Hp) : Prop where
  len : s.length = io.length
  nd : io.Nodup
  sub : ∀ a u, F a = some u → H a = some u
  dis : ∀ a ∈ io, F a = none
  cell : ∀ (n : Nat) (c : PV), s[n]? = some c → ∃ a o, io[n]? = some a ∧ H a = some o ∧ RO K T F io c o
  /-- what others hold is kept -/
  kept : ∀ a o, P a = some o → H a = some o ∧ F a = none ∧ a ∉ io
structure RE (K : PySem.W.Frag) (T : Tb) (F : Hp) (io : List Addr) (e : Env) (σ : L2.St) : Prop where
  len : e.length = σ.length
  at_ : ∀ (i : Nat) (x : PV), e[i]? = some (some x) → ∃ v, σ[i]? = some (some v) ∧ R K T F io x v
  gh : T.gh F io σ
theorem RE.mono (l : Le F io F' io') {e : Env} {σ : L2.St} (r : RE K T F io e σ) : RE K T F' io' e σ :=
  ⟨r.len, fun i x h => let ⟨v, h1, h2⟩ := r.at_ i x h; ⟨v, h1, h2.mono l⟩, T.ghm _ _ _ _ _ l r.gh⟩
theorem RE.set {e : Env} {σ : L2.St} {x : PV} {v : V} (r : RE K T F io e σ) (q : R K T F io x v) (i : Nat) [GhSet T i] : RE K T F io (e.set i (some x)) (σ.set i (some v)) := by
  refine ⟨by simp [r.len], fun j y h => ?_, GhSet.st _ _ _ _ r.gh⟩
  by_cases hj : j = i
  · subst hj
    have hl : j < e.length := by simpa using (List.getElem?_eq_some_iff.mp h).1
    rw [List.getElem?_set_self hl] at h
    cases h
    exact ⟨v, by rw [List.getElem?_set_self (r.len ▸ hl)], q⟩
  · rw [List.getElem?_set_ne (Ne.symm hj)] at h ⊢
    exact r.at_ j y h
/-- slots may be forgotten -/
theorem RE.weak {e e' : Env} {σ : L2.St} (r : RE K T F io e σ) (hl : e'.length = e.length) (h : ∀ (i : Nat) (x : PV), e'[i]? = some (some x) → e[i]? = some (some x)) : RE K T F io e' σ :=
  ⟨hl.trans r.len, fun i x q => r.at_ i x (h i x q), r.gh⟩
section
variable {s : Store} {P H H' : Hp}
/-- new things that no place holds -/
theorem RS.grow (r : RS K T P F io s H) {p : Addr} {o : HO} (hp : H p = none) : Le F io (upd F p o) io ∧ RS K T P (upd F p o) io s (upd H p o) := by
  have fp : F p = none := by
    cases e : F p with
    | none => rfl
    | some u => rw [r.sub _ _ e] at hp; cases hp
  have l : Le F io (upd F p o) io := ⟨fun a u h => by rw [upd_ne (ne_of_none h fp)]; exact h, [], by simp⟩
  have np : ∀ a ∈ io, a ≠ p := fun a ha => by
    obtain ⟨n, hn, e⟩ := List.getElem_of_mem ha
    obtain ⟨a', o', e1, e2, _⟩ := r.cell n (s[n]'(by rw [r.len]; exact hn)) (List.getElem?_eq_getElem _)
    rw [List.getElem?_eq_getElem hn, e] at e1
    cases e1
    exact ne_of_none e2 hp
  refine ⟨l, r.len, r.nd, fun a u h => ?_, fun a ha => ?_, fun n c h => ?_, fun a u h => ?_⟩
  · by_cases ha : a = p
    · subst ha; rw [upd_same] at h ⊢; exact h
    · rw [upd_ne ha] at h ⊢; exact r.sub a u h
  · rw [upd_ne (np a ha)]; exact r.dis a ha
  · obtain ⟨a, o', e1, e2, e3⟩ := r.cell n c h
    exact ⟨a, o', e1, by rw [upd_ne (ne_of_none e2 hp)]; exact e2, e3.mono l⟩
  · obtain ⟨h1, h2, h3⟩ := r.kept a u h
    have hap := ne_of_none h1 hp
    exact ⟨by rw [upd_ne hap]; exact h1, by rw [upd_ne hap]; exact h2, h3⟩
theorem RS.free (r : RS K T P F io s H) {p : Addr} (hp : H p = none) : F p = none ∧ p ∉ io := by
  refine ⟨?_, fun hm => ?_⟩
  · cases e : F p with
    | none => rfl
    | some u => rw [r.sub _ _ e] at hp; cases hp
  · obtain ⟨n, hn, e⟩ := List.getElem_of_mem hm
    obtain ⟨a', o', e1, e2, _⟩ := r.cell n (s[n]'(by rw [r.len]; exact hn)) (List.getElem?_eq_getElem _)
    rw [List.getElem?_eq_getElem hn, e] at e1
    cases e1
    rw [hp] at e2; cases e2
/-- a new place -/
theorem RS.push (r : RS K T P F io s H) {p : Addr} {o : HO} {c : PV} (hp : H p = none) (q : RO K T F io c o) : Le F io F (io ++ [p]) ∧ RS K T P F (io ++ [p]) (s ++ [c]) (upd H p o) := by
  obtain ⟨fp, np⟩ := r.free hp
  have l : Le F io F (io ++ [p]) := ⟨fun _ _ h => h, [p], rfl⟩
  refine ⟨l, by simp [r.len], ?_, fun a u h => ?_, fun a ha => ?_, fun n c' h => ?_, fun a u h => ?_⟩
  · rw [List.nodup_append]
    exact ⟨r.nd, by simp, fun a ha b hb e => by simp at hb; subst hb; subst e; exact np ha⟩
  · rw [upd_ne (ne_of_none h fp)]; exact r.sub a u h
  · rcases List.mem_append.mp ha with ha | ha
    · exact r.dis a ha
    · simp at ha; subst ha; exact fp
  · by_cases hn : n < s.length
    · rw [List.getElem?_append_left hn] at h
      obtain ⟨a, o', e1, e2, e3⟩ := r.cell n c' h
      exact ⟨a, o', l.ix _ _ e1, by rw [upd_ne (ne_of_none e2 hp)]; exact e2, e3.mono l⟩
    · have hl := (List.getElem?_eq_some_iff.mp h).1
      have e : n = s.length := by simp at hl; omega
      subst e
      simp at h; subst h
      exact ⟨p, o, by rw [r.len]; simp, upd_same, q.mono l⟩
  · obtain ⟨h1, h2, h3⟩ := r.kept a u h
    have hap := ne_of_none h1 hp
    refine ⟨by rw [upd_ne hap]; exact h1, h2, fun hm => ?_⟩
    rcases List.mem_append.mp hm with hm | hm
    · exact h3 hm
    · exact hap (by simpa using hm)
/-- a place is written -/
theorem RS.put (r : RS K T P F io s H) {n : Nat} {a : Addr} {o : HO} {c : PV} (ha : io[n]? = some a) (q : RO K T F io c o) : RS K T P F io (s.set n c) (upd H a o) := by
  have hm : a ∈ io := List.mem_of_getElem? ha
  refine ⟨by simp [r.len], r.nd, fun b u h => ?_, r.dis, fun m c' h => ?_, fun b u h => ?_⟩
  · have hb : b ≠ a := fun e => by subst e; rw [r.dis _ hm] at h; cases h
    rw [upd_ne hb]; exact r.sub b u h
  · by_cases hmn : m = n
    · subst hmn
      have hl : m < s.length := by simpa using (List.getElem?_eq_some_iff.mp h).1
      rw [List.getElem?_set_self hl] at h
      cases h
      exact ⟨a, o, ha, upd_same, q⟩
    · rw [List.getElem?_set_ne (Ne.symm hmn)] at h
      obtain ⟨b, o', e1, e2, e3⟩ := r.cell m c' h
      have hb : b ≠ a := fun e => by
        subst e
        obtain ⟨h1, h2⟩ := List.getElem?_eq_some_iff.mp e1
        obtain ⟨h3, h4⟩ := List.getElem?_eq_some_iff.mp ha
        exact hmn ((List.getElem_inj r.nd).mp (h2.trans h4.symm))
      exact ⟨b, o', e1, by rw [upd_ne hb]; exact e2, e3⟩
  · obtain ⟨h1, h2, h3⟩ := r.kept b u h
    have hb : b ≠ a := fun e => by subst e; exact h3 hm
    exact ⟨by rw [upd_ne hb]; exact h1, h2, h3⟩
theorem RS.loc (r : RS K T P F io s H) {n : Nat} {a : Addr} {c : PV} (ha : io[n]? = some a) (hc : s[n]? = some c) : ∃ o, H a = some o ∧ RO K T F io c o := by
  obtain ⟨b, o, e1, e2, e3⟩ := r.cell n c hc
  rw [ha] at e1; cases e1
  exact ⟨o, e2, e3⟩
theorem RS.tup (r : RS K T P F io s H) {a : Addr} {vs : List V} (q : SqT K F a vs) : SqT K H a vs := sqT_mono r.sub q
theorem RS.lst (r : RS K T P F io s H) {a : Addr} {vs : List V} (q : SqL K F a vs) : SqL K H a vs := sqL_mono r.sub q
theorem RS.seq {x : PV} {v : V} {xs : List PV} (r : RS K T P F io s H) (q : R K T F io x v) (e : itemsOf s x = some xs) : ∃ a vs, v = .ref a ∧ (SqL K H a vs ∨ SqT K H a vs) ∧ Rs K T F io xs vs := by
  cases q with
  | tup h1 h2 => simp [itemsOf, deref] at e; subst e; exact ⟨_, _, rfl, .inr (r.tup h1), h2⟩
  | lst h1 h2 => simp [itemsOf, deref] at e; subst e; exact ⟨_, _, rfl, .inl (.of (r.sub _ _ h1)), h2⟩
  | ro h1 h2 => simp [itemsOf, deref] at e; subst e; exact ⟨_, _, rfl, .inl (r.lst h1), h2⟩
  | @loc a n h1 =>
    have hn : n < s.length := by rw [r.len]; exact (List.getElem?_eq_some_iff.mp h1).1
    obtain ⟨o, e2, e3⟩ := r.loc h1 (List.getElem?_eq_getElem hn)
    have ed : deref s (.loc n) = s[n] := by simp [deref, List.getD, List.getElem?_eq_getElem hn]
    simp only [itemsOf, ed] at e
    generalize s[n] = c at e e3
    cases e3 with
    | lst q3 => simp at e; subst e; exact ⟨_, _, rfl, .inl (.of e2), q3⟩
    | _ => simp at e
  | _ => simp [itemsOf, deref] at e
end
end
end Mir
/-! Mir, part C: what it means that an expression does what its plain function does; the rules of structure. -/
namespace Mir
open PySem PySem.Spec PyProof.Rows L2

/-- an exception, and the plain value that tells it -/
def RX (K : PySem.W.Frag) (T : Tb) (F : Hp) (io : List Addr) (e : PV) (cls : Value) (d : Option Addr) : Prop :=
  ∃ c vs, e = .ins c vs ∧ cls = .ref (T.ca c) ∧ (vs ≠ [] → ∃ dd fv, d = some dd ∧ F dd = some (.xd fv) ∧ fv.map (·.1) = (T.fl c).take vs.length ∧ Rs K T F io vs (fv.map (·.2)))
section
variable {K : PySem.W.Frag} {T : Tb} {P F F' : Hp} {io io' : List Addr}
theorem RX.mono (l : Le F io F' io') {e : PV} {cls : Value} {d : Option Addr} (r : RX K T F io e cls d) : RX K T F' io' e cls d := by
  obtain ⟨c, vs, e1, e2, h⟩ := r
  refine ⟨c, vs, e1, e2, fun hn => ?_⟩
  obtain ⟨dd, fv, h1, h2, h3, h4⟩ := h hn
  exact ⟨dd, fv, h1, l.fm _ _ h2, h3, h4.mono l⟩
end

/-- what is wanted behind a computation of the plain side -/
def Post {α β : Type} (K : PySem.W.Frag) (T : Tb) (P : Hp) (rel : Hp → List Addr → α → β → Prop) (W : Value → Option Addr → Hp → Prop) (F : Hp) (io : List Addr) (r : Res α) (Q : β → Hp → Prop) : Prop := match r with
  | .ok x s => ∀ F' io' y H', Le F io F' io' → rel F' io' x y → RS K T P F' io' s H' → Q y H'
  | .exc e s => ∀ F' io' cls d H', Le F io F' io' → RX K T F' io' e cls d → RS K T P F' io' s H' → W cls d H'
  | .stuck => False
section
variable {K : PySem.W.Frag} {T : Tb} {α β γ δ : Type} {rel : Hp → List Addr → α → β → Prop} {rel' : Hp → List Addr → γ → δ → Prop} {W : Value → Option Addr → Hp → Prop} {P F F' : Hp} {io io' : List Addr}
theorem Post.le (l : Le F io F' io') {r : Res α} {Q : β → Hp → Prop} (h : Post K T P rel W F io r Q) : Post K T P rel W F' io' r Q := by
  cases r with
  | ok x s => exact fun F2 io2 y H' l2 hr hs => h F2 io2 y H' (l.trans l2) hr hs
  | exc e s => exact fun F2 io2 cls d H' l2 hr hs => h F2 io2 cls d H' (l.trans l2) hr hs
  | stuck => exact h
theorem Post.mono {r : Res α} {Q Q' : β → Hp → Prop} (h : Post K T P rel W F io r Q) (hq : ∀ y H, Q y H → Q' y H) : Post K T P rel W F io r Q' := by
  cases r with
  | ok x s => exact fun F2 io2 y H' l2 hr hs => hq _ _ (h F2 io2 y H' l2 hr hs)
  | exc e s => exact h
  | stuck => exact h
/-- what stands behind the first of two -/
def Mid (K : PySem.W.Frag) (T : Tb) (P : Hp) (rel : Hp → List Addr → α → β → Prop) (F : Hp) (io : List Addr) (y : β) (H : Hp) (Z : Hp → List Addr → α → Store → Prop) : Prop :=
  ∃ F1 io1 x s1, Le F io F1 io1 ∧ rel F1 io1 x y ∧ RS K T P F1 io1 s1 H ∧ Z F1 io1 x s1
theorem Post.bind {r : Res α} {k : α → Store → Res γ} {Q : δ → Hp → Prop} (h : Post K T P rel' W F io (r.bind k) Q) :
    Post K T P rel W F io r fun y H1 => Mid K T P rel F io y H1 fun F1 io1 x s1 => Post K T P rel' W F1 io1 (k x s1) Q := by
  cases r with
  | ok x s => exact fun F1 io1 y H1 l hr hs => ⟨F1, io1, x, s, l, hr, hs, Post.le l h⟩
  | exc e s => exact h
  | stuck => exact h
theorem Post.ok_of {x : α} {s : Store} {Q : β → Hp → Prop} (h : Post K T P rel W F io (.ok x s) Q) {y : β} {H : Hp} {F' : Hp} {io' : List Addr} (l : Le F io F' io') (hr : rel F' io' x y) (hs : RS K T P F' io' s H) : Q y H := h F' io' y H l hr hs
end

/-- the relations in use -/
abbrev rV (K : PySem.W.Frag) (T : Tb) : Hp → List Addr → PV → V → Prop := fun F io x v => R K T F io x v
abbrev rL (K : PySem.W.Frag) (T : Tb) : Hp → List Addr → List PV → List V → Prop := fun F io x v => Rs K T F io x v
abbrev rB : Hp → List Addr → Bool → Bool → Prop := fun _ _ a b => a = b
abbrev rU : Hp → List Addr → PV → Unit → Prop := fun _ _ _ _ => True

/-- the readings -/
def tE (K : PySem.W.Frag) (T : Tb) (W : WX) (m : EM) : TE := fun σ H Q => ∃ P F io e s, RE K T F io e σ ∧ RS K T P F io s H ∧ Post K T P (rV K T) (fun c d H' => W c d σ H') F io (m e s) Q
def tL (K : PySem.W.Frag) (T : Tb) (W : WX) (m : AM) : TA := fun σ H Q => ∃ P F io e s, RE K T F io e σ ∧ RS K T P F io s H ∧ Post K T P (rL K T) (fun c d H' => W c d σ H') F io (m e s) Q
def tQ (K : PySem.W.Frag) (T : Tb) (W : WX) (m : TM) : TT := fun σ H Q => ∃ P F io e s, RE K T F io e σ ∧ RS K T P F io s H ∧ Post K T P rB (fun c d H' => W c d σ H') F io (m e s) Q
/-- a new list: it lies at an address that nothing names yet -/
def NewL (K : PySem.W.Frag) (T : Tb) (P : Hp) (W : Value → Option Addr → Hp → Prop) (F : Hp) (io : List Addr) (r : Res (List PV)) (Q : VK) : Prop := match r with
  | .ok xs s => ∀ F' io' a vs H', Le F io F' io' → Rs K T F' io' xs vs → RS K T P F' io' s H' → H' a = none → Q (.ref a) (upd H' a (.lst vs))
  | .exc e s => ∀ F' io' cls d H', Le F io F' io' → RX K T F' io' e cls d → RS K T P F' io' s H' → W cls d H'
  | .stuck => False
def tF (K : PySem.W.Frag) (T : Tb) (W : WX) (m : AM) : TE := fun σ H Q => ∃ P F io e s, RE K T F io e σ ∧ RS K T P F io s H ∧ NewL K T P (fun c d H' => W c d σ H') F io (m e s) Q
/-- statements -/
def PostS (K : PySem.W.Frag) (T : Tb) (P : Hp) (W : WX) (F : Hp) (io : List Addr) (r : Res (Env × Fl)) (D : Ends) : Prop := match r with
  | .ok (e, .next) s => ∀ F' io' σ H', Le F io F' io' → RE K T F' io' e σ → RS K T P F' io' s H' → D.nx σ H'
  | .ok (e, .brk) s => ∀ F' io' σ H', Le F io F' io' → RE K T F' io' e σ → RS K T P F' io' s H' → D.bk σ H'
  | .ok (e, .cont) s => ∀ F' io' σ H', Le F io F' io' → RE K T F' io' e σ → RS K T P F' io' s H' → D.ct σ H'
  | .ok (_, .ret x) s => ∀ F' io' v H', Le F io F' io' → R K T F' io' x v → RS K T P F' io' s H' → D.rt v H'
  | .exc e s => ∀ F' io' cls d σ H', Le F io F' io' → RX K T F' io' e cls d → RS K T P F' io' s H' → W cls d σ H'
  | .stuck => False
def tS (K : PySem.W.Frag) (T : Tb) (W : WX) (m : SM) : TS := fun D σ H => ∃ P F io e s, RE K T F io e σ ∧ RS K T P F io s H ∧ PostS K T P W F io (m e s) D
section
variable {K : PySem.W.Frag} {T : Tb} {W : WX} {P F F' : Hp} {io io' : List Addr}
theorem PostS.le (l : Le F io F' io') {r : Res (Env × Fl)} {D : Ends} (h : PostS K T P W F io r D) : PostS K T P W F' io' r D := by
  cases r with
  | ok x s =>
    obtain ⟨e, f⟩ := x
    cases f <;> exact fun F2 io2 y H' l2 hr hs => h F2 io2 y H' (l.trans l2) hr hs
  | exc e s => exact fun F2 io2 cls d σ H' l2 hr hs => h F2 io2 cls d σ H' (l.trans l2) hr hs
  | stuck => exact h
theorem NewL.le {W : Value → Option Addr → Hp → Prop} (l : Le F io F' io') {r : Res (List PV)} {Q : VK} (h : NewL K T P W F io r Q) : NewL K T P W F' io' r Q := by
  cases r with
  | ok x s => exact fun F2 io2 a vs H' l2 hr hs ha => h F2 io2 a vs H' (l.trans l2) hr hs ha
  | exc e s => exact fun F2 io2 cls d H' l2 hr hs => h F2 io2 cls d H' (l.trans l2) hr hs
  | stuck => exact h
/-- an expression ahead of what a statement does with it -/
theorem PostS.bind {α β : Type} {rel : Hp → List Addr → α → β → Prop} {r : Res α} {k : α → Store → Res (Env × Fl)} {D : Ends} {σ : L2.St} (h : PostS K T P W F io (r.bind k) D) :
    Post K T P rel (fun c d H' => W c d σ H') F io r fun y H1 => Mid K T P rel F io y H1 fun F1 io1 x s1 => PostS K T P W F1 io1 (k x s1) D := by
  cases r with
  | ok x s => exact fun F1 io1 y H1 l hr hs => ⟨F1, io1, x, s, l, hr, hs, PostS.le l h⟩
  | exc e s => exact fun F' io' cls d H' l hr hs => h F' io' cls d σ H' l hr hs
  | stuck => exact h
theorem NewL.bind {α β : Type} {W : Value → Option Addr → Hp → Prop} {rel : Hp → List Addr → α → β → Prop} {r : Res α} {k : α → Store → Res (List PV)} {Q : VK} (h : NewL K T P W F io (r.bind k) Q) :
    Post K T P rel W F io r fun y H1 => Mid K T P rel F io y H1 fun F1 io1 x s1 => NewL K T P W F1 io1 (k x s1) Q := by
  cases r with
  | ok x s => exact fun F1 io1 y H1 l hr hs => ⟨F1, io1, x, s, l, hr, hs, NewL.le l h⟩
  | exc e s => exact h
  | stuck => exact h
end

section
variable {X : Cx} {T : Tb} {W : WX} {a b c e : Expr} {ma mb mc me : EM} {es : List Expr} {mr ms : AM} {pos : Pos}
local macro_rules | `(tactic| decreasing_tactic) => `(tactic| assumption)
theorem PE.weak {t t' : TE} (h : PE X e t) (w : ∀ σ H Q, t' σ H Q → t σ H Q) : PE X e t' := ⟨fun pins s σ H Q I q => h.run pins s σ H Q I (w σ H Q q)⟩
theorem PT.weak {t t' : TT} (h : PT X e t) (w : ∀ σ H Q, t' σ H Q → t σ H Q) : PT X e t' := ⟨fun pins s σ H Q I q => h.run pins s σ H Q I (w σ H Q q)⟩
theorem PW.weak {t t' : TT} (h : PW X e t) (w : ∀ σ H Q, t' σ H Q → t σ H Q) : PW X e t' := ⟨fun wh pins s σ H Q I q => h.run wh pins s σ H Q I (w σ H Q q)⟩
theorem PA.weak {t t' : TA} (h : PA X es t) (w : ∀ σ H Q, t' σ H Q → t σ H Q) : PA X es t' := ⟨fun pos pins s σ H Q I q => h.run pos pins s σ H Q I (w σ H Q q)⟩
theorem PS.weak {st : Stmt} {t t' : TS} (h : PS X st t) (w : ∀ D σ H, t' D σ H → t D σ H) : PS X st t' := ⟨fun pins s σ H D I q => h.run pins s σ H D I (w D σ H q)⟩
theorem PSs.weak {st : List Stmt} {t t' : TS} (h : PSs X st t) (w : ∀ D σ H, t' D σ H → t D σ H) : PSs X st t' := ⟨fun pins s σ H D I q => h.run pins s σ H D I (w D σ H q)⟩
/-- one expression's reading, then what is done with its value -/
theorem tE_use {K : PySem.W.Frag} {m : EM} {γ δ : Type} {rel' : Hp → List Addr → γ → δ → Prop} {k : PV → Store → Res γ} {Q : δ → Hp → Prop} {P F : Hp} {io : List Addr} {en : Env} {s : Store} {σ : L2.St} {H : Hp}
    (hE : RE K T F io en σ) (hS : RS K T P F io s H) (h : Post K T P rel' (fun c d H' => W c d σ H') F io ((m en s).bind k) Q) {Q' : VK}
    (hq : ∀ v H1 F1 io1 x s1, RE K T F1 io1 en σ → R K T F1 io1 x v → RS K T P F1 io1 s1 H1 → Le F io F1 io1 → Post K T P rel' (fun c d H' => W c d σ H') F1 io1 (k x s1) Q → Q' v H1) : tE K T W m σ H Q' :=
  ⟨P, F, io, en, s, hE, hS, h.bind.mono fun v H1 ⟨F1, io1, x, s1, l, hr, hs, hp⟩ => hq v H1 F1 io1 x s1 (hE.mono l) hr hs l hp⟩
theorem tL_use {K : PySem.W.Frag} {m : AM} {γ δ : Type} {rel' : Hp → List Addr → γ → δ → Prop} {k : List PV → Store → Res γ} {Q : δ → Hp → Prop} {P F : Hp} {io : List Addr} {en : Env} {s : Store} {σ : L2.St} {H : Hp}
    (hE : RE K T F io en σ) (hS : RS K T P F io s H) (h : Post K T P rel' (fun c d H' => W c d σ H') F io ((m en s).bind k) Q) {Q' : List V → Hp → Prop}
    (hq : ∀ v H1 F1 io1 x s1, RE K T F1 io1 en σ → Rs K T F1 io1 x v → RS K T P F1 io1 s1 H1 → Le F io F1 io1 → Post K T P rel' (fun c d H' => W c d σ H') F1 io1 (k x s1) Q → Q' v H1) : tL K T W m σ H Q' :=
  ⟨P, F, io, en, s, hE, hS, h.bind.mono fun v H1 ⟨F1, io1, x, s1, l, hr, hs, hp⟩ => hq v H1 F1 io1 x s1 (hE.mono l) hr hs l hp⟩
theorem tQ_use {K : PySem.W.Frag} {m : TM} {γ δ : Type} {rel' : Hp → List Addr → γ → δ → Prop} {k : Bool → Store → Res γ} {Q : δ → Hp → Prop} {P F : Hp} {io : List Addr} {en : Env} {s : Store} {σ : L2.St} {H : Hp}
    (hE : RE K T F io en σ) (hS : RS K T P F io s H) (h : Post K T P rel' (fun c d H' => W c d σ H') F io ((m en s).bind k) Q) {Q' : Bool → Hp → Prop}
    (hq : ∀ v H1 F1 io1 s1, RE K T F1 io1 en σ → RS K T P F1 io1 s1 H1 → Le F io F1 io1 → Post K T P rel' (fun c d H' => W c d σ H') F1 io1 (k v s1) Q → Q' v H1) : tQ K T W m σ H Q' :=
  ⟨P, F, io, en, s, hE, hS, h.bind.mono fun v H1 ⟨F1, io1, x, s1, l, (hr : x = v), hs, hp⟩ => by subst hr; exact hq x H1 F1 io1 s1 (hE.mono l) hs l hp⟩

/-! ### names, constants -/
theorem me_var (i : Nat) {x : Str} (h : PE X (.Name x pos) (tVar i)) : PE X (.Name x pos) (tE X.K T W (eVar i)) := by
  refine PE.weak h fun σ H Q ⟨P, F, io, en, s, hE, hS, hp⟩ => ?_
  unfold eVar at hp
  split at hp
  · rename_i v hv
    obtain ⟨u, h1, h2⟩ := hE.at_ i v hv
    exact ⟨u, h1, hp.ok_of Le.refl h2 hS⟩
  · exact hp.elim
/-- a value that stands for itself -/
theorem me_val {x : PV} {v : V} (h : PE X e (tC v)) (hv : ∀ F io, R X.K T F io x v) : PE X e (tE X.K T W (eC x)) := by
  refine PE.weak h fun σ H Q ⟨P, F, io, en, s, hE, hS, hp⟩ => ?_
  exact hp.ok_of Le.refl (hv F io) hS
theorem me_int {i : Int} {j : Nat} : PE X (.Constant (.int i) j pos) (tE X.K T W (eC (.int i))) := me_val pe_int fun _ _ => .int i
theorem me_bl {k : Bool} {j : Nat} : PE X (.Constant (.bool k) j pos) (tE X.K T W (eC (.bl k))) := me_val pe_bl fun _ _ => .bl k
theorem me_non {j : Nat} : PE X (.Constant .none j pos) (tE X.K T W (eC .non)) := me_val pe_non fun _ _ => .non
theorem me_str {x : Str} {j : Nat} {l : List Nat} (h : x = St8 l) : PE X (.Constant (.str x) j pos) (tE X.K T W (eC (.str l))) := by
  subst h
  exact me_val pe_str fun _ _ => .str l

/-! ### arguments, displays -/
theorem ma_nil : PA X [] (tL X.K T W aNil) := PA.weak pa_nil fun σ H Q ⟨P, F, io, en, s, hE, hS, hp⟩ => hp.ok_of Le.refl .nil hS
theorem ma_cons (ha : PE X a (tE X.K T W ma)) (hr : PA X es (tL X.K T W mr)) (hs : starEach (a :: es) X.env = (false, eval a X.env) :: starEach es X.env := by rfl) : PA X (a :: es) (tL X.K T W (aCons ma mr)) := by
  refine PA.weak (pa_cons ha hr hs) fun σ H Q ⟨P, F, io, en, s, hE, hS, hp⟩ => ?_
  refine tE_use hE hS hp fun v H1 F1 io1 x s1 hE1 rx hS1 l1 hp1 => ?_
  refine tL_use hE1 hS1 hp1 fun vs H2 F2 io2 xs s2 hE2 rxs hS2 l2 hp2 => ?_
  exact hp2.ok_of Le.refl (.cons (rx.mono l2) rxs) hS2
/-- how many there are -/
def LenA (m : AM) (n : Nat) : Prop := ∀ σ s xs s', m σ s = .ok xs s' → xs.length = n
theorem len_nil : LenA aNil 0 := fun σ s xs s' h => by cases h; rfl
theorem len_cons {n : Nat} (h : LenA mr n) : LenA (aCons ma mr) (n + 1) := fun σ s xs s' e => by
  unfold aCons at e
  cases h1 : ma σ s with
  | ok x s1 =>
    rw [h1] at e
    cases h2 : mr σ s1 with
    | ok ys s2 =>
      simp only [Res.bind_ok, h2] at e
      cases e
      simp [h _ _ _ _ h2]
    | exc _ _ => simp only [Res.bind_ok, h2, Res.bind_exc] at e; cases e
    | stuck => simp only [Res.bind_ok, h2, Res.bind_stuck] at e; cases e
  | exc _ _ => rw [h1] at e; cases e
  | stuck => rw [h1] at e; cases e
theorem me_tup {j : Nat} {n : Nat} (h : PA X es (tL X.K T W ms)) (hl : LenA ms n) (hn : n ≤ sizeLine := by decide) : PE X (.Tuple es j pos) (tE X.K T W (eTup ms)) := by
  refine PE.weak (pe_tup h) fun σ H Q ⟨P, F, io, en, s, hE, hS, hp⟩ => ?_
  unfold eTup at hp
  cases hm : ms en s with
  | ok xs s1 =>
    rw [hm] at hp
    refine ⟨P, F, io, en, s, hE, hS, ?_⟩
    rw [hm]
    intro F1 io1 vs H1 l1 r1 hS1
    refine ⟨by rw [← r1.length, hl _ _ _ _ hm]; exact hn, fun p np => ?_⟩
    obtain ⟨l2, hS2⟩ := hS1.grow (o := .tup vs) np
    exact hp.ok_of (l1.trans l2) (.tup (.of upd_same) (r1.mono l2)) hS2
  | exc x s1 =>
    rw [hm] at hp
    refine ⟨P, F, io, en, s, hE, hS, ?_⟩
    rw [hm]
    exact hp
  | stuck => rw [hm] at hp; exact hp.elim
/-- a list display, new -/
theorem mf_lst {n : Nat} (h : PA X es (tL X.K T W ms)) (hl : LenA ms n) (hn : n ≤ sizeLine := by decide) : PE X (.List es pos) (tF X.K T W ms) := by
  refine PE.weak (pe_lst h) fun σ H Q ⟨P, F, io, en, s, hE, hS, hp⟩ => ?_
  refine ⟨P, F, io, en, s, hE, hS, ?_⟩
  cases hm : ms en s with
  | ok xs s1 =>
    rw [hm] at hp
    intro F1 io1 vs H1 l1 r1 hS1
    exact ⟨by rw [← r1.length, hl _ _ _ _ hm]; exact hn, fun p np => hp F1 io1 p vs H1 l1 r1 hS1 np⟩
  | exc x s1 => rw [hm] at hp; exact hp
  | stuck => rw [hm] at hp; exact hp
/-- a new list as a tree -/
theorem me_fresh {m : AM} (h : PE X e (tF X.K T W m)) : PE X e (tE X.K T W (eLst m)) := by
  refine PE.weak h fun σ H Q ⟨P, F, io, en, s, hE, hS, hp⟩ => ?_
  refine ⟨P, F, io, en, s, hE, hS, ?_⟩
  unfold eLst at hp
  cases hm : m en s with
  | ok xs s1 =>
    rw [hm] at hp
    intro F1 io1 p vs H1 l1 r1 hS1 np
    obtain ⟨l2, hS2⟩ := hS1.grow (o := .lst vs) np
    exact hp.ok_of (l1.trans l2) (.lst upd_same (r1.mono l2)) hS2
  | exc x s1 => rw [hm] at hp; exact hp
  | stuck => rw [hm] at hp; exact hp

/-! ### operations by values -/
def r1 (K : PySem.W.Frag) (T : Tb) (f : O1) : V → Hp → VK → Prop := fun v H Q => ∃ P F io s x, R K T F io x v ∧ RS K T P F io s H ∧ Post K T P (rV K T) (fun _ _ _ => False) F io (noX (f x s)) Q
def r2 (K : PySem.W.Frag) (T : Tb) (f : O2) : R2 := fun v u H Q => ∃ P F io s x y, R K T F io x v ∧ R K T F io y u ∧ RS K T P F io s H ∧ Post K T P (rV K T) (fun _ _ _ => False) F io (noX (f x y s)) Q
def rN (K : PySem.W.Frag) (T : Tb) (f : ON) : List V → Hp → VK → Prop := fun vs H Q => ∃ P F io s xs, Rs K T F io xs vs ∧ RS K T P F io s H ∧ Post K T P (rV K T) (fun _ _ _ => False) F io (noX (f xs s)) Q
theorem Post.noX {K : PySem.W.Frag} {α β : Type} {rel : Hp → List Addr → α → β → Prop} {W W' : Value → Option Addr → Hp → Prop} {P F : Hp} {io : List Addr} {r : Res α} {Q : β → Hp → Prop} (h : Post K T P rel W F io (Mir.noX r) Q) : Post K T P rel W' F io (Mir.noX r) Q := by
  cases r with
  | ok x s => exact h
  | exc e s => exact h.elim
  | stuck => exact h.elim
theorem me_op2 {op : Operator} {f : O2} (ho : OpR X (binaryOp op) (r2 X.K T f)) (ha : PE X a (tE X.K T W ma)) (hb : PE X b (tE X.K T W mb)) : PE X (.BinOp a op b pos) (tE X.K T W (eOp2 f ma mb)) := by
  refine PE.weak (pe_op ho ha hb) fun σ H Q ⟨P, F, io, en, s, hE, hS, hp⟩ => ?_
  refine tE_use hE hS hp fun v H1 F1 io1 x s1 hE1 rx hS1 l1 hp1 => ?_
  refine tE_use hE1 hS1 hp1 fun u H2 F2 io2 y s2 hE2 ry hS2 l2 hp2 => ?_
  exact ⟨P, F2, io2, s2, x, y, rx.mono l2, ry, hS2, hp2.noX⟩
theorem me_cmp {op : CmpOp} {f : O2} (ho : OpR X (compareOp op) (r2 X.K T f)) (ha : PE X a (tE X.K T W ma)) (hb : PE X b (tE X.K T W mb)) (hm : behindInMarks op b = false) : PE X (.Compare a [op] [b] pos) (tE X.K T W (eOp2 f ma mb)) := by
  refine PE.weak (pe_cmpR ho ha hb hm) fun σ H Q ⟨P, F, io, en, s, hE, hS, hp⟩ => ?_
  refine tE_use hE hS hp fun v H1 F1 io1 x s1 hE1 rx hS1 l1 hp1 => ?_
  refine tE_use hE1 hS1 hp1 fun u H2 F2 io2 y s2 hE2 ry hS2 l2 hp2 => ?_
  exact ⟨P, F2, io2, s2, x, y, rx.mono l2, ry, hS2, hp2.noX⟩
theorem me_un {op : UnaryOp} {f : O1} (ho : UnR X (unaryOp op) (r1 X.K T f)) (ha : PE X a (tE X.K T W ma)) : PE X (.UnaryOp op a pos) (tE X.K T W (eOp1 f ma)) := by
  refine PE.weak (pe_un ho ha) fun σ H Q ⟨P, F, io, en, s, hE, hS, hp⟩ => ?_
  refine tE_use hE hS hp fun v H1 F1 io1 x s1 hE1 rx hS1 l1 hp1 => ?_
  exact ⟨P, F1, io1, s1, x, rx, hS1, hp1.noX⟩
end
end Mir
/-! Mir, part D: truth, tests, statements, loops, comprehensions. -/
namespace Mir
open PySem PySem.Spec PyProof.Rows L2
theorem str8_len (l : List Nat) : (St8 l).length = l.length := by simp [Str.length]
section
variable {K : PySem.W.Frag} {T : Tb} {P F : Hp} {io : List Addr} {s : Store} {H : Hp}
theorem notEmpty_rs {xs : List PV} {vs : List V} (r : Rs K T F io xs vs) : (!vs.isEmpty) = !xs.isEmpty := by
  cases r <;> rfl
theorem notEmpty_kv {ks : List PV} {kvs : List (Key × V)} (r : Rs K T F io ks (kvs.map fun p => kV p.1)) : (!kvs.isEmpty) = !ks.isEmpty := by
  cases kvs with
  | nil => cases r; rfl
  | cons a b => cases r; rfl
theorem tru_of {x : PV} {v : V} {k : Bool} (hS : RS K T P F io s H) (r : R K T F io x v) (e : truthV s x = some k) : TruV K v H k := by
  cases r with
  | non => cases (show some false = some k from e); exact (rfl : false = false)
  | bl b => cases (show some b = some k from e); exact (rfl : k = k)
  | int i => cases (show some (i != 0) = some k from e); exact (rfl : (i != 0) = (i != 0))
  | str l =>
    simp only [truthV, deref] at e
    split at e
    · rename_i hl
      cases e
      show (St8 l).length ≤ sizeLine ∧ (!l.isEmpty) = (((St8 l).length : Int) != 0)
      rw [str8_len]
      refine ⟨hl, ?_⟩
      cases l with
      | nil => rfl
      | cons a b => simp; omega
    · cases e
  | tup h1 h2 => cases (show some (!List.isEmpty _) = some k from e); exact .inr (.inl ⟨_, hS.tup h1, (notEmpty_rs h2).symm⟩)
  | lst h1 h2 => cases (show some (!List.isEmpty _) = some k from e); exact .inl ⟨_, .of (hS.sub _ _ h1), (notEmpty_rs h2).symm⟩
  | ro h1 h2 => cases (show some (!List.isEmpty _) = some k from e); exact .inl ⟨_, hS.lst h1, (notEmpty_rs h2).symm⟩
  | dic h1 h2 h3 => cases (show some (!List.isEmpty _) = some k from e); exact .inr (.inr ⟨_, hS.sub _ _ h1, (notEmpty_kv h2).symm⟩)
  | ins h1 h2 h3 => simp [truthV, deref] at e
  | @loc a n h1 =>
    have hn : n < s.length := by rw [hS.len]; exact (List.getElem?_eq_some_iff.mp h1).1
    obtain ⟨o, e2, e3⟩ := hS.loc h1 (List.getElem?_eq_getElem hn)
    have ed : deref s (.loc n) = s[n] := by simp [deref, List.getD, List.getElem?_eq_getElem hn]
    simp only [truthV, ed] at e
    generalize s[n] = c at e e3
    cases e3 with
    | lst q => cases (show some (!List.isEmpty _) = some k from e); exact .inl ⟨_, .of e2, (notEmpty_rs q).symm⟩
    | dic q1 q2 => cases (show some (!List.isEmpty _) = some k from e); exact .inr (.inr ⟨_, e2, (notEmpty_kv q1).symm⟩)
    | ins _ _ => simp at e
  | fn i => simp [truthV, deref] at e
  | cls i => simp [truthV, deref] at e
  | ty i => simp [truthV, deref] at e
end
section
variable {X : Cx} {T : Tb} {W : WX} {a b c e : Expr} {ma mb mc me : EM} {qa qb qc : TM} {es rest : List Expr} {mr ms : AM} {pos : Pos}
theorem ofO_use {K : PySem.W.Frag} {γ δ : Type} {rel' : Hp → List Addr → γ → δ → Prop} {Wz : Value → Option Addr → Hp → Prop} {P F : Hp} {io : List Addr} {s : Store} {H : Hp} {α : Type} {o : Option α} {k : α → Store → Res γ} {Q : δ → Hp → Prop} (h : Post K T P rel' Wz F io ((ofO o s).bind k) Q) : ∃ x, o = some x ∧ Post K T P rel' Wz F io (k x s) Q := by
  cases o with
  | some x => exact ⟨x, rfl, h⟩
  | none => exact h.elim
theorem qe_of (ha : PE X a (tE X.K T W ma)) (he : ∀ whole, isTrue a X.env whole = (do let v ← whole; standAt a.pos; holding [v] (truthy v)) := by intro _; rfl) : PT X a (tQ X.K T W (qOf ma)) := by
  refine PT.weak (pt_truth ha he) fun σ H Q ⟨P, F, io, en, s, hE, hS, hp⟩ => ?_
  refine tE_use hE hS hp fun v H1 F1 io1 x s1 hE1 rx hS1 l1 hp1 => ?_
  cases h : truthV s1 x with
  | none => rw [h] at hp1; exact hp1.elim
  | some k =>
    rw [h] at hp1
    exact ⟨k, tru_of hS1 rx h, hp1.ok_of Le.refl rfl hS1⟩
theorem qe_not (ha : PT X a (tQ X.K T W qa)) : PT X (.UnaryOp .Not a pos) (tQ X.K T W (qNot qa)) := by
  refine PT.weak (pt_not ha) fun σ H Q ⟨P, F, io, en, s, hE, hS, hp⟩ => ?_
  refine tQ_use hE hS hp fun k H1 F1 io1 s1 hE1 hS1 l1 hp1 => ?_
  exact hp1.ok_of Le.refl rfl hS1
theorem qw_and1 (ha : PT X a (tQ X.K T W qa)) : PW X (.BoolOp .And [a] pos) (tQ X.K T W qa) := pw_and1 ha
theorem qw_or1 (ha : PT X a (tQ X.K T W qa)) : PW X (.BoolOp .Or [a] pos) (tQ X.K T W qa) := pw_or1 ha
theorem qw_and (ha : PT X a (tQ X.K T W qa)) (hb : PW X (.BoolOp .And (b :: rest) pos) (tQ X.K T W qb)) : PW X (.BoolOp .And (a :: b :: rest) pos) (tQ X.K T W (qAnd qa qb)) := by
  refine PW.weak (pw_and ha hb) fun σ H Q ⟨P, F, io, en, s, hE, hS, hp⟩ => ?_
  refine tQ_use hE hS hp fun k H1 F1 io1 s1 hE1 hS1 l1 hp1 => ?_
  cases k with
  | true => simp only [if_true] at hp1 ⊢; exact ⟨P, F1, io1, en, s1, hE1, hS1, hp1⟩
  | false => simp only [Bool.false_eq_true, if_false] at hp1 ⊢; exact hp1.ok_of Le.refl rfl hS1
theorem qw_or (ha : PT X a (tQ X.K T W qa)) (hb : PW X (.BoolOp .Or (b :: rest) pos) (tQ X.K T W qb)) : PW X (.BoolOp .Or (a :: b :: rest) pos) (tQ X.K T W (qOr qa qb)) := by
  refine PW.weak (pw_or ha hb) fun σ H Q ⟨P, F, io, en, s, hE, hS, hp⟩ => ?_
  refine tQ_use hE hS hp fun k H1 F1 io1 s1 hE1 hS1 l1 hp1 => ?_
  cases k with
  | true => simp only [if_true] at hp1 ⊢; exact hp1.ok_of Le.refl rfl hS1
  | false => simp only [Bool.false_eq_true, if_false] at hp1 ⊢; exact ⟨P, F1, io1, en, s1, hE1, hS1, hp1⟩
/-- .. as values -/
theorem me_and (ha : PE X a (tE X.K T W ma)) (hb : PE X (.BoolOp .And (b :: rest) pos) (tE X.K T W mb)) : PE X (.BoolOp .And (a :: b :: rest) pos) (tE X.K T W (eAnd ma mb)) := by
  refine PE.weak (pe_andT ha hb) fun σ H Q ⟨P, F, io, en, s, hE, hS, hp⟩ => ?_
  refine tE_use hE hS hp fun v H1 F1 io1 x s1 hE1 rx hS1 l1 hp1 => ?_
  cases h : truthV s1 x with
  | none => rw [h] at hp1; exact hp1.elim
  | some k =>
    rw [h] at hp1
    refine ⟨k, tru_of hS1 rx h, ?_⟩
    cases k with
    | true => exact ⟨P, F1, io1, en, s1, hE1, hS1, hp1⟩
    | false => exact hp1.ok_of Le.refl rx hS1
theorem me_or (ha : PE X a (tE X.K T W ma)) (hb : PE X (.BoolOp .Or (b :: rest) pos) (tE X.K T W mb)) : PE X (.BoolOp .Or (a :: b :: rest) pos) (tE X.K T W (eOr ma mb)) := by
  refine PE.weak (pe_orT ha hb) fun σ H Q ⟨P, F, io, en, s, hE, hS, hp⟩ => ?_
  refine tE_use hE hS hp fun v H1 F1 io1 x s1 hE1 rx hS1 l1 hp1 => ?_
  cases h : truthV s1 x with
  | none => rw [h] at hp1; exact hp1.elim
  | some k =>
    rw [h] at hp1
    refine ⟨k, tru_of hS1 rx h, ?_⟩
    cases k with
    | true => exact hp1.ok_of Le.refl rx hS1
    | false => exact ⟨P, F1, io1, en, s1, hE1, hS1, hp1⟩
theorem me_not (ha : PE X a (tE X.K T W ma)) : PE X (.UnaryOp .Not a pos) (tE X.K T W (eNot ma)) := by
  refine PE.weak (pe_notT ha) fun σ H Q ⟨P, F, io, en, s, hE, hS, hp⟩ => ?_
  refine tE_use hE hS hp fun v H1 F1 io1 x s1 hE1 rx hS1 l1 hp1 => ?_
  cases h : truthV s1 x with
  | none => rw [h] at hp1; exact hp1.elim
  | some k =>
    rw [h] at hp1
    exact ⟨k, tru_of hS1 rx h, hp1.ok_of Le.refl (.bl _) hS1⟩
theorem me_if (hc : PT X c (tQ X.K T W qc)) (ha : PE X a (tE X.K T W ma)) (hb : PE X b (tE X.K T W mb)) : PE X (.IfExp c a b pos) (tE X.K T W (eIf qc ma mb)) := by
  refine PE.weak (pe_ifExp hc ha hb) fun σ H Q ⟨P, F, io, en, s, hE, hS, hp⟩ => ?_
  refine tQ_use hE hS hp fun k H1 F1 io1 s1 hE1 hS1 l1 hp1 => ?_
  cases k with
  | true => exact ⟨P, F1, io1, en, s1, hE1, hS1, hp1⟩
  | false => exact ⟨P, F1, io1, en, s1, hE1, hS1, hp1⟩
/-- a test that is a comparison -/
theorem qe_cmp {op : CmpOp} {f : O2} (ho : OpR X (compareOp op) (r2 X.K T f)) (ha : PE X a (tE X.K T W ma)) (hb : PE X b (tE X.K T W mb)) (hm : behindInMarks op b = false) : PT X (.Compare a [op] [b] pos) (tQ X.K T W (qBl (eOp2 f ma mb))) := by
  refine PT.weak (pt_cmpR ho ha hb hm) fun σ H Q ⟨P, F, io, en, s, hE, hS, hp⟩ => ?_
  unfold qBl eOp2 at hp
  simp only [Res.bind_assoc] at hp
  refine tE_use hE hS hp fun v H1 F1 io1 x s1 hE1 rx hS1 l1 hp1 => ?_
  refine tE_use hE1 hS1 hp1 fun u H2 F2 io2 y s2 hE2 ry hS2 l2 hp2 => ?_
  refine ⟨P, F2, io2, s2, x, y, rx.mono l2, ry, hS2, ?_⟩
  cases h : f x y s2 with
  | ok z s3 =>
    rw [h] at hp2
    intro F3 io3 z' H3 l3 rz hS3
    cases z with
    | bl k => cases rz; exact ⟨k, rfl, hp2.ok_of l3 rfl hS3⟩
    | _ => exact hp2.elim
  | exc _ _ => rw [h] at hp2; exact hp2.elim
  | stuck => rw [h] at hp2; exact hp2.elim
theorem me_chain {op op' : CmpOp} {f g : O2} (ho : OpR X (compareOp op) (r2 X.K T f)) (ho' : OpR X (compareOp op') (r2 X.K T g)) (ha : PE X a (tE X.K T W ma)) (hb : PE X b (tE X.K T W mb)) (hc : PE X c (tE X.K T W mc))
    (hm : lastMarks [op, op'] [b, c] = false := by with_unfolding_all rfl) : PE X (.Compare a [op, op'] [b, c] pos) (tE X.K T W (eChain f g ma mb mc)) := by
  refine PE.weak (pe_chain ho ho' ha hb hc hm) fun σ H Q ⟨P, F, io, en, s, hE, hS, hp⟩ => ?_
  refine tE_use hE hS hp fun v H1 F1 io1 x s1 hE1 rx hS1 l1 hp1 => ?_
  refine tE_use hE1 hS1 hp1 fun u H2 F2 io2 y s2 hE2 ry hS2 l2 hp2 => ?_
  refine ⟨P, F2, io2, s2, x, y, rx.mono l2, ry, hS2, ?_⟩
  cases h : f x y s2 with
  | ok z s3 =>
    rw [h] at hp2
    intro F3 io3 z' H3 l3 rz hS3
    cases z with
    | bl k =>
      cases rz
      refine ⟨k, rfl, ?_⟩
      cases k with
      | true =>
        refine tE_use (hE2.mono l3) hS3 (Post.le l3 hp2) fun w H4 F4 io4 z4 s4 hE4 rz4 hS4 l4 hp4 => ?_
        exact ⟨P, F4, io4, s4, y, z4, ry.mono (l3.trans l4), rz4, hS4, hp4.noX⟩
      | false => exact hp2.ok_of l3 (.bl _) hS3
    | _ => exact hp2.elim
  | exc _ _ => rw [h] at hp2; exact hp2.elim
  | stuck => rw [h] at hp2; exact hp2.elim
theorem qe_chain {op op' : CmpOp} {f g : O2} (ho : OpR X (compareOp op) (r2 X.K T f)) (ho' : OpR X (compareOp op') (r2 X.K T g)) (ha : PE X a (tE X.K T W ma)) (hb : PE X b (tE X.K T W mb)) (hc : PE X c (tE X.K T W mc))
    (hm : lastMarks [op, op'] [b, c] = false := by with_unfolding_all rfl) : PT X (.Compare a [op, op'] [b, c] pos) (tQ X.K T W (qBl (eChain f g ma mb mc))) := by
  refine PT.weak (pt_chain ho ho' ha hb hc hm) fun σ H Q ⟨P, F, io, en, s, hE, hS, hp⟩ => ?_
  unfold qBl eChain at hp
  simp only [Res.bind_assoc] at hp
  refine tE_use hE hS hp fun v H1 F1 io1 x s1 hE1 rx hS1 l1 hp1 => ?_
  refine tE_use hE1 hS1 hp1 fun u H2 F2 io2 y s2 hE2 ry hS2 l2 hp2 => ?_
  refine ⟨P, F2, io2, s2, x, y, rx.mono l2, ry, hS2, ?_⟩
  cases h : f x y s2 with
  | ok z s3 =>
    rw [h] at hp2
    intro F3 io3 z' H3 l3 rz hS3
    cases z with
    | bl k =>
      cases rz
      refine ⟨k, rfl, ?_⟩
      cases k with
      | true =>
        simp only [noX_ok, Res.bind_ok, Res.bind_assoc] at hp2
        refine tE_use (hE2.mono l3) hS3 (Post.le l3 hp2) fun w H4 F4 io4 z4 s4 hE4 rz4 hS4 l4 hp4 => ?_
        refine ⟨P, F4, io4, s4, y, z4, ry.mono (l3.trans l4), rz4, hS4, ?_⟩
        cases h5 : g y z4 s4 with
        | ok z5 s5 =>
          rw [h5] at hp4
          intro F5 io5 z5' H5 l5 rz5 hS5
          cases z5 with
          | bl k5 => cases rz5; exact ⟨k5, rfl, hp4.ok_of l5 rfl hS5⟩
          | _ => exact hp4.elim
        | exc _ _ => rw [h5] at hp4; exact hp4.elim
        | stuck => rw [h5] at hp4; exact hp4.elim
      | false => exact ⟨false, rfl, hp2.ok_of l3 rfl hS3⟩
    | _ => exact hp2.elim
  | exc _ _ => rw [h] at hp2; exact hp2.elim
  | stuck => rw [h] at hp2; exact hp2.elim
end

/-! ### statements -/
section
variable {X : Cx} {T : Tb} {W : WX} {e : Expr} {me : EM} {qc : TM} {st : Stmt} {sts sts' : List Stmt} {m m' : SM} {pos : Pos}
theorem PostS.use {K : PySem.W.Frag} {γ : Type} {mm : Env → Store → Res γ} {k : γ → Store → Res (Env × Fl)} {D : Ends} {P F : Hp} {io : List Addr} {en : Env} {s : Store} {σ : L2.St} {H : Hp}
    (hE : RE K T F io en σ) (hS : RS K T P F io s H) (h : PostS K T P W F io ((mm en s).bind k) D) {δ : Type} {rel : Hp → List Addr → γ → δ → Prop} {Q' : δ → Hp → Prop}
    (hq : ∀ v H1 F1 io1 x s1, RE K T F1 io1 en σ → rel F1 io1 x v → RS K T P F1 io1 s1 H1 → Le F io F1 io1 → PostS K T P W F1 io1 (k x s1) D → Q' v H1) : ∃ P F io e s, RE K T F io e σ ∧ RS K T P F io s H ∧ Post K T P rel (fun c d H' => W c d σ H') F io (mm e s) Q' :=
  ⟨P, F, io, en, s, hE, hS, (PostS.bind (rel := rel) h).mono fun v H1 ⟨F1, io1, x, s1, l, hr, hs, hp⟩ => hq v H1 F1 io1 x s1 (hE.mono l) hr hs l hp⟩
theorem ms_nil : PSs X [] (tS X.K T W sNext) := PSs.weak pss_nil fun D σ H ⟨P, F, io, en, s, hE, hS, hp⟩ => hp F io σ H Le.refl hE hS
theorem ms_cons (h1 : PS X st (tS X.K T W m)) (h2 : PSs X sts (tS X.K T W m')) : PSs X (st :: sts) (tS X.K T W (sSeq m m')) := by
  refine PSs.weak (pss_cons h1 h2) fun D σ H ⟨P, F, io, en, s, hE, hS, hp⟩ => ?_
  refine ⟨P, F, io, en, s, hE, hS, ?_⟩
  unfold sSeq at hp
  cases hm : m en s with
  | ok r s1 =>
    obtain ⟨e1, f⟩ := r
    rw [hm] at hp
    cases f with
    | next => exact fun F1 io1 σ1 H1 l hE1 hS1 => ⟨P, F1, io1, e1, s1, hE1, hS1, PostS.le l hp⟩
    | ret v => exact hp
    | brk => exact hp
    | cont => exact hp
  | exc x s1 => rw [hm] at hp; exact hp
  | stuck => rw [hm] at hp; exact hp
theorem ms_one (h1 : PS X st (tS X.K T W m)) : PSs X [st] (tS X.K T W m) := pss_one h1
theorem ms_expr (he : PE X e (tE X.K T W me)) (hsw : swapsWith e none pos.line X.env = pure false := by rfl) : PS X (.Expr e pos) (tS X.K T W (sExp me)) := by
  refine PS.weak (ps_expr he hsw) fun D σ H ⟨P, F, io, en, s, hE, hS, hp⟩ => ?_
  exact PostS.use hE hS hp fun v H1 F1 io1 x s1 hE1 rx hS1 l1 hp1 => hp1 F1 io1 σ H1 Le.refl hE1 hS1
theorem ms_ret (he : PE X e (tE X.K T W me)) : PS X (.Return (some e) pos) (tS X.K T W (sRet me)) := by
  refine PS.weak (ps_ret he) fun D σ H ⟨P, F, io, en, s, hE, hS, hp⟩ => ?_
  exact PostS.use hE hS hp fun v H1 F1 io1 x s1 hE1 rx hS1 l1 hp1 => hp1 F1 io1 v H1 Le.refl rx hS1
theorem ms_retN : PS X (.Return none pos) (tS X.K T W sRetN) :=
  PS.weak ps_retN fun D σ H ⟨P, F, io, en, s, hE, hS, hp⟩ => hp F io .non H Le.refl .non hS
theorem ms_pass : PS X (.Pass pos) (tS X.K T W sNext) := PS.weak ps_pass fun D σ H ⟨P, F, io, en, s, hE, hS, hp⟩ => hp F io σ H Le.refl hE hS
theorem ms_break : PS X (.Break pos) (tS X.K T W sBrk) := PS.weak ps_break fun D σ H ⟨P, F, io, en, s, hE, hS, hp⟩ => hp F io σ H Le.refl hE hS
theorem ms_continue : PS X (.Continue pos) (tS X.K T W sCont) := PS.weak ps_continue fun D σ H ⟨P, F, io, en, s, hE, hS, hp⟩ => hp F io σ H Le.refl hE hS
theorem ms_if {c : Expr} {a b : List Stmt} {mA mB : SM} (hc : PT X c (tQ X.K T W qc)) (ha : PSs X a (tS X.K T W mA)) (hb : PSs X b (tS X.K T W mB)) : PS X (.If c a b pos) (tS X.K T W (sIf qc mA mB)) := by
  refine PS.weak (ps_if hc ha hb) fun D σ H ⟨P, F, io, en, s, hE, hS, hp⟩ => ?_
  refine PostS.use hE hS hp fun k H1 F1 io1 x s1 hE1 (rx : x = k) hS1 l1 hp1 => ?_
  subst rx
  cases x with
  | true => exact ⟨P, F1, io1, en, s1, hE1, hS1, hp1⟩
  | false => exact ⟨P, F1, io1, en, s1, hE1, hS1, hp1⟩
/-- what is never reached -/
theorem ms_stuck : PS X st (tS X.K T W sStuck) := ⟨fun pins s σ H D I ⟨P, F, io, en, s0, hE, hS, hp⟩ => hp.elim⟩
/-- a list of one's own: x = [..] -/
theorem ms_new [NoGh T] {x : Str} {i : Nat} {p : Pos} {ml : AM} (he : PE X e (tF X.K T W ml)) (hg : PG X (.Name x p) (L2.gName i)) (hs : swapsWithSole [.Name x p] e pos.line X.env = pure false := by rfl) (hw : swappedStores [.Name x p] e X.env = pure none := by rfl) :
    PS X (.Assign [.Name x p] e pos) (tS X.K T W (sNew ml i)) := by
  refine PS.weak (ps_asg he hg hs hw rfl) fun D σ H ⟨P, F, io, en, s, hE, hS, hp⟩ => ?_
  refine ⟨P, F, io, en, s, hE, hS, ?_⟩
  unfold sNew at hp
  cases hm : ml en s with
  | ok xs s1 =>
    rw [hm] at hp
    intro F1 io1 a vs H1 l1 r1 hS1 ha
    obtain ⟨l2, hS2⟩ := hS1.push (o := .lst vs) ha (.lst r1)
    refine hp F1 (io1 ++ [a]) _ _ (l1.trans l2) ?_ hS2
    exact (hE.mono (l1.trans l2)).set (.loc (by rw [hS1.len]; simp)) i
  | exc x s1 => rw [hm] at hp; exact fun F' io' cls d H' l hr hs => hp F' io' cls d σ H' l hr hs
  | stuck => rw [hm] at hp; exact hp
theorem ms_retL {ml : AM} (he : PE X e (tF X.K T W ml)) : PS X (.Return (some e) pos) (tS X.K T W (sRetL ml)) := by
  refine PS.weak (ps_ret he) fun D σ H ⟨P, F, io, en, s, hE, hS, hp⟩ => ?_
  refine ⟨P, F, io, en, s, hE, hS, ?_⟩
  unfold sRetL at hp
  cases hm : ml en s with
  | ok xs s1 =>
    rw [hm] at hp
    intro F1 io1 a vs H1 l1 r1 hS1 ha
    obtain ⟨l2, hS2⟩ := hS1.push (o := .lst vs) ha (.lst r1)
    exact hp F1 (io1 ++ [a]) _ _ (l1.trans l2) (.loc (by rw [hS1.len]; simp)) hS2
  | exc x s1 => rw [hm] at hp; exact fun F' io' cls d H' l hr hs => hp F' io' cls d σ H' l hr hs
  | stuck => rw [hm] at hp; exact hp
end
end Mir
/-! Mir, part E: targets, walks, for, comprehensions. -/
namespace Mir
open PySem PySem.Spec PyProof.Rows L2

/-! ### targets -/
def PostG (K : PySem.W.Frag) (T : Tb) (P F : Hp) (io : List Addr) (r : Res Env) (Q : L2.St → Hp → Prop) : Prop := match r with
  | .ok e s => ∀ F' io' σ H', Le F io F' io' → RE K T F' io' e σ → RS K T P F' io' s H' → Q σ H'
  | _ => False
def tG (K : PySem.W.Frag) (T : Tb) (g : GM) : TG := fun v σ H Q => ∃ P F io e s x, RE K T F io e σ ∧ RS K T P F io s H ∧ R K T F io x v ∧ PostG K T P F io (g x e s) Q
def tGs (K : PySem.W.Frag) (T : Tb) (g : List PV → Env → Store → Res Env) : TGs := fun vs σ H Q => ∃ P F io e s xs, RE K T F io e σ ∧ RS K T P F io s H ∧ Rs K T F io xs vs ∧ PostG K T P F io (g xs e s) Q
section
variable {X : Cx} {T : Tb} {W : WX} {e : Expr} {me : EM} {g : GM} {pos p : Pos}
theorem PG.weak {tg : Expr} {t t' : TG} (h : PG X tg t) (w : ∀ v σ H Q, t' v σ H Q → t v σ H Q) : PG X tg t' := ⟨fun pins s σ H v u Q I r q => h.run pins s σ H v u Q I r (w v σ H Q q)⟩
theorem PGs.weak {tg : List Expr} {t t' : TGs} (h : PGs X tg t) (w : ∀ v σ H Q, t' v σ H Q → t v σ H Q) : PGs X tg t' := ⟨fun pins s σ H v u Q I r q => h.run pins s σ H v u Q I r (w v σ H Q q)⟩
theorem mg_name {x : Str} {i : Nat} [GhSet T i] (h : PG X (.Name x p) (L2.gName i)) : PG X (.Name x p) (tG X.K T (Mir.gName i)) :=
  PG.weak h fun v σ H Q ⟨P, F, io, en, s, x, hE, hS, rx, hp⟩ => hp F io _ H Le.refl (hE.set rx i) hS
theorem mgs_nil : PGs X [] (tGs X.K T (gNames [])) := by
  refine PGs.weak pgs_nil fun vs σ H Q ⟨P, F, io, en, s, xs, hE, hS, rx, hp⟩ => ?_
  cases rx with
  | nil => exact ⟨rfl, hp F io σ H Le.refl hE hS⟩
  | cons _ _ => exact hp.elim
theorem mgs_cons [NoGh T] {x : Str} {i : Nat} {is : List Nat} {es : List Expr} (h : PG X (.Name x p) (L2.gName i)) (h2 : PGs X es (tGs X.K T (gNames is)))
    (hs : (assignEach (.Name x p :: es) X.env).map (·.2) = assign (.Name x p) X.env :: (assignEach es X.env).map (·.2) := by rfl) : PGs X (.Name x p :: es) (tGs X.K T (gNames (i :: is))) := by
  refine PGs.weak (pgs_cons h h2 hs) fun vs σ H Q ⟨P, F, io, en, s, xs, hE, hS, rx, hp⟩ => ?_
  cases rx with
  | nil => exact hp.elim
  | cons r1 rr => exact ⟨_, _, rfl, P, F, io, _, s, _, hE.set r1 i, hS, rr, hp⟩
theorem gNames_len {P : Hp} {K : PySem.W.Frag} {F : Hp} {io : List Addr} {Q : L2.St → Hp → Prop} : ∀ {is : List Nat} {xs : List PV} {en : Env} {s : Store}, PostG K T P F io (gNames is xs en s) Q → xs.length = is.length
  | [], [], _, _, _ => rfl
  | [], _ :: _, _, _, h => h.elim
  | _ :: _, [], _, _, h => h.elim
  | _ :: is, _ :: xs, _, _, h => by simp [gNames_len (is := is) (xs := xs) h]
theorem mg_tup {es : List Expr} {is : List Nat} {k n : Nat} (hc : X.calm = true) (h : PGs X es (tGs X.K T (gNames is))) (hl : is.length = n := by rfl)
    (hn : (assignEach es X.env).length = n := by rfl) (hst : (assignEach es X.env).findIdx? (·.1) = none := by rfl) : PG X (.Tuple es k pos) (tG X.K T (Mir.gTup is)) := by
  refine PG.weak (pg_tup hc h hn hst) fun v σ H Q ⟨P, F, io, en, s, x, hE, hS, rx, hp⟩ => ?_
  cases rx with
  | tup h1 h2 =>
    have hp' : PostG X.K T P F io (gNames is _ en s) Q := hp
    exact ⟨_, _, rfl, hS.tup h1, by rw [← h2.length, gNames_len hp', hl], P, F, io, en, s, _, hE, hS, h2, hp'⟩
  | _ => exact hp.elim
theorem PostS.toG {K : PySem.W.Frag} {P F : Hp} {io : List Addr} {r : Res Env} {k : Env → Store → Res (Env × Fl)} {D : Ends} (h : PostS K T P W F io (r.bind k) D) (hr : ∀ e s, r ≠ .exc e s) :
    PostG K T P F io r fun σ H1 => ∃ F1 io1 e1 s1, Le F io F1 io1 ∧ RE K T F1 io1 e1 σ ∧ RS K T P F1 io1 s1 H1 ∧ PostS K T P W F1 io1 (k e1 s1) D := by
  cases r with
  | ok x s => exact fun F1 io1 σ H1 l hE hS => ⟨F1, io1, x, s, l, hE, hS, PostS.le l h⟩
  | exc e s => exact absurd rfl (hr e s)
  | stuck => exact h
/-- targets raise nothing -/
structure GOk (g : GM) : Prop where
  nx : ∀ x en s e s', g x en s ≠ .exc e s'
theorem gok_name (i : Nat) : GOk (Mir.gName i) := ⟨fun _ _ _ _ _ h => by cases h⟩
theorem gNames_nx : ∀ {is : List Nat} {xs : List PV} {en : Env} {s : Store} {e : PV} {s' : Store}, gNames is xs en s ≠ .exc e s'
  | [], [], _, _, _, _, h => by cases h
  | [], _ :: _, _, _, _, _, h => by cases h
  | _ :: _, [], _, _, _, _, h => by cases h
  | _ :: is, _ :: xs, _, _, _, _, h => gNames_nx (is := is) (xs := xs) h
theorem gok_tup (is : List Nat) : GOk (Mir.gTup is) := ⟨fun x en s e s' h => by
  cases x with
  | tup xs => exact gNames_nx (show gNames is xs en s = .exc e s' from h)
  | _ => cases h⟩
theorem ms_asg {tg : Expr} (he : PE X e (tE X.K T W me)) (hg : PG X tg (tG X.K T g)) (ok : GOk g) (hs : swapsWithSole [tg] e pos.line X.env = pure false := by rfl) (hw : swappedStores [tg] e X.env = pure none := by rfl)
    (h1 : (assignEach [tg] X.env).map (·.2) = [assign tg X.env] := by rfl) : PS X (.Assign [tg] e pos) (tS X.K T W (sAsg me g)) := by
  refine PS.weak (ps_asg he hg hs hw h1) fun D σ H ⟨P, F, io, en, s, hE, hS, hp⟩ => ?_
  refine PostS.use hE hS hp fun v H1 F1 io1 x s1 hE1 rx hS1 l1 hp1 => ?_
  refine ⟨P, F1, io1, en, s1, x, hE1, hS1, rx, ?_⟩
  have z := PostS.toG hp1 (ok.nx x en s1)
  cases hg : g x en s1 with
  | ok e1 s2 =>
    rw [hg] at z
    intro F2 io2 σ2 H2 l2 hE2 hS2
    obtain ⟨F3, io3, e3, s3, l3, hE3, hS3, hp3⟩ := z F2 io2 σ2 H2 l2 hE2 hS2
    exact hp3 F3 io3 σ2 H2 Le.refl hE3 hS3
  | exc _ _ => rw [hg] at z; exact z
  | stuck => rw [hg] at z; exact z
/-- a, b = e1, e2 -/
theorem ms_par [NoGh T] {i j : Nat} {x y : Str} {a b : Expr} {ma mb : EM} {px py pt : Pos} {kt k2 : Nat} {pt2 : Pos} (hc : X.calm = true) (hN : X.N.Nodup) (hi : X.N[i]? = some x) (hj : X.N[j]? = some y) (hij : i ≠ j)
    (hx : X.env.scope.names.lookup x = some .local) (hy : X.env.scope.names.lookup y = some .local) (ha : PA X [a, b] (tL X.K T W (aCons ma (aCons mb aNil))))
    (hw : swappedStores [.Tuple [.Name x px, .Name y py] kt pt] (.Tuple [a, b] k2 pt2) X.env = pure (some [x, y]))
    (hs : swapsWithSole [.Tuple [.Name x px, .Name y py] kt pt] (.Tuple [a, b] k2 pt2) pos.line X.env = pure false := by rfl) :
    PS X (.Assign [.Tuple [.Name x px, .Name y py] kt pt] (.Tuple [a, b] k2 pt2) pos) (tS X.K T W (sPar (aCons ma (aCons mb aNil)) i j)) := by
  refine PS.weak (ps_par hc hN hi hj hij hx hy ha hw hs) fun D σ H ⟨P, F, io, en, s, hE, hS, hp⟩ => ?_
  refine PostS.use hE hS hp fun vs H1 F1 io1 xs s1 hE1 rx hS1 l1 hp1 => ?_
  have hlen : LenA (aCons ma (aCons mb aNil)) 2 := len_cons (len_cons len_nil)
  match xs, hp1 with
  | [x1, x2], hp1 =>
    cases rx with
    | cons r1 rr =>
      cases rr with
      | cons r2 rn =>
        cases rn
        exact ⟨_, _, rfl, hp1 F1 io1 _ H1 Le.refl ((hE1.set r1 i).set r2 j) hS1⟩
end

/-! ### walks -/
/-- the iterator J tells the items of w -/
def Walks (K : PySem.W.Frag) (T : Tb) (F : Hp) (io : List Addr) (w : Walk) (J : It) : Prop :=
  ∀ P i F1 io1 s1 H1, Le F io F1 io1 → RS K T P F1 io1 s1 H1 → w.ok s1 → (w.items.length ≤ i → J.stop i H1) ∧
    ∀ x, w.items[i]? = some x → J.go i H1 ∧ ∀ v H', J.yld i H1 v H' → ∃ F2, Le F1 io1 F2 io1 ∧ RS K T P F2 io1 s1 H' ∧ R K T F2 io1 x v
def PostI (K : PySem.W.Frag) (T : Tb) (P : Hp) (W : Value → Option Addr → Hp → Prop) (F : Hp) (io : List Addr) (r : Res Walk) (Z : It → Hp → Prop) : Prop := match r with
  | .ok w s => ∀ F' io' J H', Le F io F' io' → RS K T P F' io' s H' → Walks K T F' io' w J → w.items.length ≤ sizeLine → Z J H'
  | .exc e s => ∀ F' io' cls d H', Le F io F' io' → RX K T F' io' e cls d → RS K T P F' io' s H' → W cls d H'
  | .stuck => False
def tI (K : PySem.W.Frag) (T : Tb) (W : WX) (m : IM) : TI := fun σ H Z => ∃ P F io e s, RE K T F io e σ ∧ RS K T P F io s H ∧ PostI K T P (fun c d H' => W c d σ H') F io (m e s) Z
/-- walked by value: a list, a tuple, a text, a place that holds a list -/
def iSeq (a : EM) : IM := fun σ s => (a σ s).bind fun x s1 => match x with
  | .tup xs => .ok ⟨xs, none⟩ s1
  | .lst xs => .ok ⟨xs, none⟩ s1
  | .ro xs => .ok ⟨xs, none⟩ s1
  | .str l => if l.length ≤ sz then .ok ⟨l.map fun c => .str [c], none⟩ s1 else .stuck
  | .loc n => match s1[n]? with
    | some (.lst xs) => .ok ⟨xs, some (n, .lst xs)⟩ s1
    | _ => .stuck
  | _ => .stuck
def iRange1 (a : EM) : IM := fun σ s => (aCons a aNil σ s).bind fun xs s1 => match xs with
  | [.int j] => if -(2 ^ 62) ≤ j ∧ j ≤ sz then .ok ⟨(List.range j.toNat).map fun k => .int (k : Nat), none⟩ s1 else .stuck
  | _ => .stuck
def iRange2 (a b : EM) : IM := fun σ s => (aCons a (aCons b aNil) σ s).bind fun xs s1 => match xs with
  | [.int i, .int j] => if -(2 ^ 62) ≤ i ∧ i < 2 ^ 62 ∧ -(2 ^ 62) ≤ j ∧ j < 2 ^ 62 ∧ (j - i).toNat ≤ sz then .ok ⟨(List.range (j - i).toNat).map fun k => .int (i + (k : Nat)), none⟩ s1 else .stuck
  | _ => .stuck
section
variable {K : PySem.W.Frag} {T : Tb} {P F : Hp} {io : List Addr}
theorem walks_list {xs : List PV} {a : Addr} {vs : List V} (h : SqL K F a vs) (r : Rs K T F io xs vs) : Walks K T F io ⟨xs, none⟩ (Itl K a) := fun P i F1 io1 s1 H1 l hS _ => by
  have q : SqL K H1 a vs := hS.lst (sqL_mono l.fm h)
  refine ⟨fun hi => ⟨vs, q, by rw [← r.length]; exact hi⟩, fun x hx => ?_⟩
  obtain ⟨v, h1, h2⟩ := r.get hx
  refine ⟨⟨vs, v, q, h1⟩, fun u H' ⟨e, hy⟩ => ?_⟩
  subst e
  have := hy vs q
  rw [h1] at this; cases this
  exact ⟨F1, Le.refl, hS, h2.mono l⟩
theorem walks_tup {xs : List PV} {a : Addr} {vs : List V} (h : SqT K F a vs) (r : Rs K T F io xs vs) : Walks K T F io ⟨xs, none⟩ (Itt K a) := fun P i F1 io1 s1 H1 l hS _ => by
  have q : SqT K H1 a vs := hS.tup (sqT_mono l.fm h)
  refine ⟨fun hi => ⟨vs, q, by rw [← r.length]; exact hi⟩, fun x hx => ?_⟩
  obtain ⟨v, h1, h2⟩ := r.get hx
  refine ⟨⟨vs, v, q, h1⟩, fun u H' ⟨e, hy⟩ => ?_⟩
  subst e
  have := hy vs q
  rw [h1] at this; cases this
  exact ⟨F1, Le.refl, hS, h2.mono l⟩
theorem walks_loc {xs : List PV} {a : Addr} {n : Nat} (h : io[n]? = some a) : Walks K T F io ⟨xs, some (n, .lst xs)⟩ (Itl K a) := fun P i F1 io1 s1 H1 l hS (ok : s1[n]? = some (.lst xs)) => by
  obtain ⟨o, e2, e3⟩ := hS.loc (l.ix _ _ h) ok
  cases e3 with
  | @lst _ vs r =>
    have q : SqL K H1 a vs := .of e2
    refine ⟨fun hi => ⟨vs, q, by rw [← r.length]; exact hi⟩, fun x hx => ?_⟩
    obtain ⟨v, h1, h2⟩ := r.get hx
    refine ⟨⟨vs, v, q, h1⟩, fun u H' ⟨e, hy⟩ => ?_⟩
    subst e
    have := hy vs q
    rw [h1] at this; cases this
    exact ⟨F1, Le.refl, hS, h2⟩
theorem walks_str (l : List Nat) : Walks K T F io ⟨l.map fun c => .str [c], none⟩ (Its (St8 l)) := fun P i F1 io1 s1 H1 _ hS _ => by
  refine ⟨fun hi => by simpa [Its] using hi, fun x hx => ?_⟩
  rw [List.getElem?_map] at hx
  cases e : l[i]? with
  | none => rw [e] at hx; cases hx
  | some c =>
    rw [e] at hx; cases hx
    have hl := (List.getElem?_eq_some_iff.mp e).1
    refine ⟨by simpa [Its] using hl, fun u H' ⟨e1, d, hd, eu⟩ => ?_⟩
    subst e1 eu
    have hd' : l[i]? = some d := by simpa using hd
    rw [e] at hd'; cases hd'
    exact ⟨F1, Le.refl, hS, .str [c]⟩
theorem walks_rng (lo : Int) (n : Nat) : Walks K T F io ⟨(List.range n).map fun k => .int (lo + (k : Nat)), none⟩ (Itr lo n) := fun P i F1 io1 s1 H1 _ hS _ => by
  refine ⟨fun hi => by simpa [Itr] using hi, fun x hx => ?_⟩
  rw [List.getElem?_map] at hx
  by_cases hi : i < n
  · rw [List.getElem?_range hi] at hx; cases hx
    refine ⟨hi, fun u H' ⟨e1, eu⟩ => ?_⟩
    subst e1 eu
    exact ⟨F1, Le.refl, hS, .int _⟩
  · rw [List.getElem?_eq_none (by simpa using hi)] at hx; cases hx
theorem PostI.le {W : Value → Option Addr → Hp → Prop} {F' : Hp} {io' : List Addr} (l : Le F io F' io') {r : Res Walk} {Z : It → Hp → Prop} (h : PostI K T P W F io r Z) : PostI K T P W F' io' r Z := by
  cases r with
  | ok w s => exact fun F2 io2 J H' l2 => h F2 io2 J H' (l.trans l2)
  | exc e s => exact fun F2 io2 c d H' l2 => h F2 io2 c d H' (l.trans l2)
  | stuck => exact h
theorem PostI.bind {α β : Type} {rel : Hp → List Addr → α → β → Prop} {W : Value → Option Addr → Hp → Prop} {r : Res α} {k : α → Store → Res Walk} {Z : It → Hp → Prop} (h : PostI K T P W F io (r.bind k) Z) :
    Post K T P rel W F io r fun y H1 => Mid K T P rel F io y H1 fun F1 io1 x s1 => PostI K T P W F1 io1 (k x s1) Z := by
  cases r with
  | ok x s =>
    refine fun F1 io1 y H1 l hr hs => ⟨F1, io1, x, s, l, hr, hs, ?_⟩
    exact PostI.le l h
  | exc e s => exact h
  | stuck => exact h
end
section
variable {X : Cx} {T : Tb} {W : WX} {tg e : Expr} {me : EM} {ms : AM} {pos p : Pos}
theorem PI.weak {iter : Expr} {t t' : TI} (h : PI X tg iter t) (w : ∀ σ H Q, t' σ H Q → t σ H Q) : PI X tg iter t' := ⟨fun pins s σ H Q I q => h.run pins s σ H Q I (w σ H Q q)⟩
/-- walked by value, of any kind -/
theorem pi_any {l : Expr} {tl : TE} (hl : PE X l tl) : PI X tg l (fun σ H Z => tl σ H fun x H1 => (∃ a xs, x = .ref a ∧ SqL X.K H1 a xs ∧ (xs.length ≤ sizeLine → Z (Itl X.K a) H1)) ∨ (∃ a xs, x = .ref a ∧ SqT X.K H1 a xs ∧ (xs.length ≤ sizeLine → Z (Itt X.K a) H1)) ∨ ∃ z, x = .str z ∧ Z (Its z) H1) := by
  refine ⟨fun pins s σ H Z I h => ?_⟩
  refine thn (hl.run pins s σ H _ I h) fun v s1 ⟨x, H1, I1, r1, q1⟩ => ?_
  rcases q1 with ⟨a, xs, e, hq, q⟩ | ⟨a, xs, e, hq, q⟩ | ⟨z, e, q⟩
  · subst e
    cases r1
    obtain ⟨its, rv, p, hz⟩ := I1.list hq
    exact wpAny_pyIter_list p.isList (pi_one (tk := s1.toks) I1 _ (turn_list a _) ⟨_, Heap.get?_push_size _ rfl, rfl, rfl⟩ (q hz))
  · subst e
    cases r1
    obtain ⟨its, rv, p, hz⟩ := I1.tuple hq
    exact wpAny_pyIter_tuple (show s1.heap.IsTuple a its.toArray from p) (pi_one (tk := s1.toks) I1 _ (turn_tuple a _) ⟨_, Heap.get?_push_size _ rfl, rfl, rfl⟩ (q hz))
  · subst e
    obtain ⟨t, rfl⟩ := r1
    cases ha : z.cps.all (· < 128)
    · exact wpAny_pyIter_wide ha (pi_one (tk := s1.toks) I1 _ (turn_str _ z t "str_iterator" (.inr rfl)) ⟨_, Heap.get?_push_size _ rfl, rfl, rfl⟩ q)
    · exact wpAny_pyIter_ascii ha (pi_one (tk := s1.toks) I1 _ (turn_str _ z t "str_ascii_iterator" (.inl rfl)) ⟨_, Heap.get?_push_size _ rfl, rfl, rfl⟩ q)
theorem mi_seq (he : PE X e (tE X.K T W me)) : PI X tg e (tI X.K T W (iSeq me)) := by
  refine PI.weak (pi_any he) fun σ H Z ⟨P, F, io, en, s, hE, hS, hp⟩ => ?_
  refine ⟨P, F, io, en, s, hE, hS, (PostI.bind (rel := rV X.K T) hp).mono fun v H1 ⟨F1, io1, x, s1, l, hr, hs, hp1⟩ => ?_⟩
  cases hr with
  | tup h1 h2 => exact .inr (.inl ⟨_, _, rfl, hs.tup h1, fun hz => hp1 F1 io1 _ H1 Le.refl hs (walks_tup h1 h2) (by rw [← h2.length] at hz; exact hz)⟩)
  | lst h1 h2 => exact .inl ⟨_, _, rfl, .of (hs.sub _ _ h1), fun hz => hp1 F1 io1 _ H1 Le.refl hs (walks_list (.of h1) h2) (by rw [← h2.length] at hz; exact hz)⟩
  | ro h1 h2 => exact .inl ⟨_, _, rfl, hs.lst h1, fun hz => hp1 F1 io1 _ H1 Le.refl hs (walks_list h1 h2) (by rw [← h2.length] at hz; exact hz)⟩
  | str l =>
    simp only at hp1
    split at hp1
    · rename_i hl
      exact .inr (.inr ⟨_, rfl, hp1 F1 io1 _ H1 Le.refl hs (walks_str l) (by rw [List.length_map]; exact hl)⟩)
    · exact hp1.elim
  | @loc a n h1 =>
    simp only at hp1
    split at hp1
    · rename_i xs hx
      obtain ⟨o, e2, e3⟩ := hs.loc h1 hx
      cases e3 with
      | lst q => exact .inl ⟨_, _, rfl, .of e2, fun hz => hp1 F1 io1 _ H1 Le.refl hs (walks_loc h1) (by rw [← q.length] at hz; exact hz)⟩
    · exact hp1.elim
  | _ => exact hp1.elim
theorem mi_range1 {a : Expr} (hg : Gl X "range") (hm : X.mg "range" = none) (ha : PE X a (tE X.K T W me)) (hs : starEach [a] X.env = [(false, eval a X.env)] := by rfl) : PI X tg (.Call (.Name "range" p) [a] [] pos) (tI X.K T W (iRange1 me)) := by
  refine PI.weak (pi_range1 hg hm (ma_cons ha ma_nil hs) hs) fun σ H Z ⟨P, F, io, en, s, hE, hS, hp⟩ => ?_
  refine ⟨P, F, io, en, s, hE, hS, (PostI.bind (rel := rL X.K T) hp).mono fun vs H1 ⟨F1, io1, xs, s1, l, hr, hs, hp1⟩ => ?_⟩
  match xs, hr, hp1 with
  | [.int j], hr, hp1 =>
    cases hr with
    | cons r1 rn =>
      cases r1; cases rn
      simp only at hp1
      split at hp1
      · rename_i hj
        refine ⟨j, rfl, hj.1, by have := hj.2; simp only [sz] at this; omega, hp1 F1 io1 _ H1 Le.refl hs ?_ (by have := hj.2; simp only [List.length_map, List.length_range]; rw [sizeLine_eq]; simp only [sz] at this; omega)⟩
        have e := walks_rng (K := X.K) (T := T) (F := F1) (io := io1) 0 j.toNat
        simpa using e
      · exact hp1.elim
theorem mi_range2 {a b : Expr} {mb : EM} (hg : Gl X "range") (hm : X.mg "range" = none) (ha : PE X a (tE X.K T W me)) (hb : PE X b (tE X.K T W mb)) (hs : starEach [a, b] X.env = [(false, eval a X.env), (false, eval b X.env)] := by rfl) (hs2 : starEach [b] X.env = [(false, eval b X.env)] := by rfl) :
    PI X tg (.Call (.Name "range" p) [a, b] [] pos) (tI X.K T W (iRange2 me mb)) := by
  refine PI.weak (pi_range2 hg hm (ma_cons ha (ma_cons hb ma_nil hs2) (by rw [hs, hs2])) hs hs2) fun σ H Z ⟨P, F, io, en, s, hE, hS, hp⟩ => ?_
  refine ⟨P, F, io, en, s, hE, hS, (PostI.bind (rel := rL X.K T) hp).mono fun vs H1 ⟨F1, io1, xs, s1, l, hr, hs, hp1⟩ => ?_⟩
  match xs, hr, hp1 with
  | [.int i, .int j], hr, hp1 =>
    cases hr with
    | cons r1 rr =>
      cases rr with
      | cons r2 rn =>
        cases r1; cases r2; cases rn
        simp only at hp1
        split at hp1
        · rename_i hj
          exact ⟨i, j, rfl, ⟨hj.1, hj.2.1, hj.2.2.1, hj.2.2.2.1⟩, hp1 F1 io1 _ H1 Le.refl hs (walks_rng i (j - i).toNat) (by rw [List.length_map, List.length_range]; exact hj.2.2.2.2)⟩
        · exact hp1.elim

/-! ### for -/
theorem keepAs_len : ∀ (a b : Env), (keepAs a b).length = b.length
  | [], b => by simp [keepAs]
  | none :: r, [] => by simp [keepAs]
  | some _ :: r, [] => by simp [keepAs]
  | none :: r, _ :: q => by simp [keepAs, keepAs_len r q]
  | some _ :: r, _ :: q => by simp [keepAs, keepAs_len r q]
theorem keepAs_some : ∀ (a b : Env) (i : Nat) (x : PV), (keepAs a b)[i]? = some (some x) → b[i]? = some (some x)
  | [], b, i, x, h => by simpa [keepAs] using h
  | none :: r, [], i, x, h => by simp [keepAs] at h
  | some _ :: r, [], i, x, h => by simp [keepAs] at h
  | none :: r, y :: q, 0, x, h => by simp [keepAs] at h
  | some _ :: r, y :: q, 0, x, h => by simpa [keepAs] using h
  | none :: r, y :: q, i + 1, x, h => by simpa using keepAs_some r q i x (by simpa [keepAs] using h)
  | some _ :: r, y :: q, i + 1, x, h => by simpa using keepAs_some r q i x (by simpa [keepAs] using h)
theorem RE.keep {K : PySem.W.Frag} {F : Hp} {io : List Addr} {e : Env} {σ : L2.St} (r : RE K T F io e σ) (a : Env) : RE K T F io (keepAs a e) σ := r.weak (keepAs_len a e) (keepAs_some a e)
theorem drop_at {α : Type} {xs : List α} {i : Nat} (h : i < xs.length) : xs.drop i = xs[i] :: xs.drop (i + 1) := by
  rw [List.drop_eq_getElem_cons h]
theorem ms_for {iter : Expr} {body : List Stmt} {im : IM} {g : GM} {mb : SM} (hp : PassesOwn (model X.prog X.w) X.A X.env X.xe) (hc : X.calm = true) (hi : PI X tg iter (tI X.K T W im)) (hg : PG X tg (tG X.K T g)) (ok : GOk g) (hb : PSs X body (tS X.K T W mb))
    (hs : ∀ x, foldedSetIterable iter X.env x = pure x := by intro _; rfl) : PS X (.For tg iter body [] pos) (tS X.K T W (sFor im g mb)) := by
  refine PS.weak (ps_for hp hc hi hg hb hs) fun D σ H ⟨P, F, io, en, s, hE, hS, hp⟩ => ?_
  refine ⟨P, F, io, en, s, hE, hS, ?_⟩
  unfold sFor at hp
  cases hm : im en s with
  | ok w s1 =>
    rw [hm] at hp
    intro F1 io1 J H1 l1 hS1 hw hz
    refine ⟨fun i m σ' H' => ∃ F2 io2 e2 s2, Le F1 io1 F2 io2 ∧ RE X.K T F2 io2 e2 σ' ∧ RS X.K T P F2 io2 s2 H' ∧ m = w.items.length - i ∧ PostS X.K T P W F2 io2 (forGo w g mb (keepAs en) (w.items.drop i) e2 s2) D,
      ⟨_, F1, io1, en, s1, Le.refl, hE.mono l1, hS1, rfl, PostS.le l1 (by simpa using hp)⟩, ?_⟩
    rintro i m σ2 H2 ⟨F2, io2, e2, s2, l2, hE2, hS2, rfl, hp2⟩
    by_cases hok : w.ok s2
    · obtain ⟨w1, w2⟩ := hw P i F2 io2 s2 H2 l2 hS2 hok
      by_cases hi : i < w.items.length
      · right
        rw [drop_at hi] at hp2
        unfold forGo at hp2
        rw [if_pos hok] at hp2
        obtain ⟨g1, g2⟩ := w2 _ (List.getElem?_eq_getElem hi)
        refine ⟨g1, fun σ' H' => ∃ F2 io2 e2 s2, Le F1 io1 F2 io2 ∧ RE X.K T F2 io2 e2 σ' ∧ RS X.K T P F2 io2 s2 H' ∧ PostS X.K T P W F2 io2 (forGo w g mb (keepAs en) (w.items.drop (i + 1)) e2 s2) D,
          fun σ' H' ⟨F3, io3, e3, s3, l3, hE3, hS3, hp3⟩ => ⟨_, by omega, F3, io3, e3, s3, l3, hE3, hS3, rfl, hp3⟩, fun v H' hy => ?_⟩
        obtain ⟨F3, l3, hS3, rx⟩ := g2 v H' hy
        refine ⟨P, F3, io2, e2, s2, _, hE2.mono l3, hS3, rx, ?_⟩
        have z := PostS.toG (PostS.le l3 hp2) (ok.nx _ e2 s2)
        cases hgx : g w.items[i] e2 s2 with
        | exc _ _ => rw [hgx] at z; exact z
        | stuck => rw [hgx] at z; exact z
        | ok e3 s3 =>
          rw [hgx] at z
          intro F4 io4 σ4 H4 l4 hE4 hS4
          obtain ⟨F5, io5, e5, s5, l5, hE5, hS5, hp5⟩ := z F4 io4 σ4 H4 l4 hE4 hS4
          have l15 : Le F1 io1 F5 io5 := l2.trans (l3.trans l5)
          refine ⟨P, F5, io5, e5, s5, hE5, hS5, ?_⟩
          cases hb5 : mb e5 s5 with
          | exc _ _ => rw [hb5] at hp5; exact hp5
          | stuck => rw [hb5] at hp5; exact hp5
          | ok r s6 =>
            obtain ⟨e6, f6⟩ := r
            rw [hb5] at hp5
            cases f6 with
            | next => exact fun F6 io6 σ6 H6 l6 hE6 hS6 => ⟨F6, io6, _, s6, l15.trans l6, hE6.keep en, hS6, PostS.le l6 hp5⟩
            | cont => exact fun F6 io6 σ6 H6 l6 hE6 hS6 => ⟨F6, io6, _, s6, l15.trans l6, hE6.keep en, hS6, PostS.le l6 hp5⟩
            | brk => exact fun F6 io6 σ6 H6 l6 hE6 hS6 => hp5 F6 io6 σ6 H6 l6 (hE6.keep en) hS6
            | ret x => exact hp5
      · left
        have hd : w.items.drop i = [] := List.drop_eq_nil_iff.mpr (by omega)
        rw [hd] at hp2
        unfold forGo at hp2
        rw [if_pos hok] at hp2
        exact ⟨w1 (by omega), hp2 F2 io2 σ2 H2 Le.refl hE2 hS2⟩
    · exfalso
      cases hd : w.items.drop i with
      | nil => rw [hd] at hp2; unfold forGo at hp2; rw [if_neg hok] at hp2; exact hp2
      | cons a b => rw [hd] at hp2; unfold forGo at hp2; rw [if_neg hok] at hp2; exact hp2
  | exc x s1 => rw [hm] at hp; exact fun F' io' cls d H' l hr hs => hp F' io' cls d σ H' l hr hs
  | stuck => rw [hm] at hp; exact hp

/-! ### comprehensions -/
theorem wipe_len : ∀ (e : Env) (is : List Nat), (Mir.wipe e is).length = e.length
  | _, [] => rfl
  | e, _ :: r => by simp [Mir.wipe, wipe_len e r]
theorem RE.wipe [NoGh T] {K : PySem.W.Frag} {F : Hp} {io : List Addr} {e : Env} {σ : L2.St} (r : RE K T F io e σ) : ∀ is : List Nat, RE K T F io (Mir.wipe e is) (L2.wipe σ is)
  | [] => r
  | i :: is => by
    have q := RE.wipe r is
    refine ⟨by simp [Mir.wipe, L2.wipe, q.len], fun j x h => ?_, NoGh.free _ _ _⟩
    by_cases hj : j = i
    · subst hj
      simp only [Mir.wipe] at h
      rw [List.getElem?_set_self (by have := (List.getElem?_eq_some_iff.mp h).1; simpa using this)] at h
      cases h
    · simp only [Mir.wipe, L2.wipe] at h ⊢
      rw [List.getElem?_set_ne (Ne.symm hj)] at h ⊢
      exact q.at_ j x h
theorem wipe2_at (σ : L2.St) : ∀ (is : List Nat) (j : Nat), (L2.wipe σ is)[j]? = if j ∈ is then (if j < σ.length then some none else none) else σ[j]?
  | [], j => by simp [L2.wipe]
  | i :: is, j => by
    have hl := L2.wipe_length σ is
    simp only [L2.wipe, List.mem_cons]
    by_cases hj : j = i
    · subst hj
      rw [if_pos (.inl rfl)]
      by_cases h : j < σ.length
      · rw [if_pos h, List.getElem?_set_self (by rw [hl]; exact h)]
      · rw [if_neg h, List.getElem?_eq_none (by simp [hl]; omega)]
    · rw [List.getElem?_set_ne (Ne.symm hj), wipe2_at σ is j]
      by_cases hm : j ∈ is
      · rw [if_pos hm, if_pos (Or.inr hm : j = i ∨ j ∈ is)]
      · rw [if_neg hm, if_neg (by simp [hj, hm])]
theorem wipe_set {σ : L2.St} {is : List Nat} {i : Nat} {x : Option V} (h : i ∈ is) : L2.wipe (σ.set i x) is = L2.wipe σ is := by
  apply List.ext_getElem?
  intro j
  rw [wipe2_at, wipe2_at, List.length_set]
  by_cases hm : j ∈ is
  · rw [if_pos hm, if_pos hm]
  · rw [if_neg hm, if_neg hm, List.getElem?_set_ne (fun e : i = j => hm (e ▸ h))]
theorem wipe_wipe {σ : L2.St} {is : List Nat} : L2.wipe (L2.wipe σ is) is = L2.wipe σ is := by
  apply List.ext_getElem?
  intro j
  rw [wipe2_at, L2.wipe_length]
  by_cases hm : j ∈ is
  · rw [if_pos hm, wipe2_at, if_pos hm]
  · rw [if_neg hm]
/-- a target that stores in these slots alone -/
def GIn (K : PySem.W.Frag) (T : Tb) (g' : TG) (g : GM) (is : List Nat) : Prop := ∀ (P F : Hp) (io : List Addr) (e : Env) (s : Store) (x : PV) (v : V) (σ : L2.St) (H : Hp) (Q : L2.St → Hp → Prop),
  RE K T F io e σ → RS K T P F io s H → R K T F io x v → PostG K T P F io (g x e s) Q → g' v σ H fun σ2 H2 => L2.wipe σ2 is = L2.wipe σ is ∧ Q σ2 H2
theorem gin_name [NoGh T] {K : PySem.W.Frag} {i : Nat} {is : List Nat} (h : i ∈ is) : GIn K T (L2.gName i) (Mir.gName i) is := fun P F io e s x v σ H Q hE hS rx hp =>
  ⟨wipe_set h, hp F io _ H Le.refl (hE.set rx i) hS⟩
/-- several names -/
def gCs : List Nat → TGs
  | [] => gNil
  | i :: is => gCons (L2.gName i) (gCs is)
theorem gin_names [NoGh T] {K : PySem.W.Frag} {is : List Nat} : ∀ {js : List Nat}, (∀ j ∈ js, j ∈ is) → ∀ (P F : Hp) (io : List Addr) (e : Env) (s : Store) (xs : List PV) (vs : List V) (σ : L2.St) (H : Hp) (Q : L2.St → Hp → Prop),
    RE K T F io e σ → RS K T P F io s H → Rs K T F io xs vs → PostG K T P F io (gNames js xs e s) Q → gCs js vs σ H fun σ2 H2 => L2.wipe σ2 is = L2.wipe σ is ∧ Q σ2 H2
  | [], _, P, F, io, e, s, xs, vs, σ, H, Q, hE, hS, rx, hp => by
    cases rx with
    | nil => exact ⟨rfl, rfl, hp F io σ H Le.refl hE hS⟩
    | cons _ _ => exact hp.elim
  | j :: js, hj, P, F, io, e, s, xs, vs, σ, H, Q, hE, hS, rx, hp => by
    cases rx with
    | nil => exact hp.elim
    | cons r1 rr =>
      refine ⟨_, _, rfl, ?_⟩
      have z := gin_names (js := js) (fun k hk => hj k (List.mem_cons_of_mem _ hk)) P F io _ s _ _ _ H Q (hE.set r1 j) hS rr hp
      rw [wipe_set (hj j (List.mem_cons_self ..))] at z
      exact z
theorem gin_tup [NoGh T] {K : PySem.W.Frag} {js is : List Nat} {n : Nat} (hn : js.length = n) (h : ∀ j ∈ js, j ∈ is) : GIn K T (L2.gTup K n (gCs js)) (Mir.gTup js) is := fun P F io e s x v σ H Q hE hS rx hp => by
  cases rx with
  | tup h1 h2 =>
    have hp' : PostG K T P F io (gNames js _ e s) Q := hp
    exact ⟨_, _, rfl, hS.tup h1, by rw [← h2.length, gNames_len hp', hn], gin_names h P F io e s _ _ σ H Q hE hS h2 hp'⟩
  | _ => exact hp.elim
section
variable {K : PySem.W.Frag} {P F : Hp} {io : List Addr} {s : Store} {H : Hp}
/-- one more thing that is held -/
theorem RS.hold (r : RS K T P F io s H) {p : Addr} {o : HO} (hp : H p = none) : RS K T (upd P p o) F io s (upd H p o) := by
  obtain ⟨fp, np⟩ := r.free hp
  refine ⟨r.len, r.nd, fun a u h => by rw [upd_ne (ne_of_none h fp)]; exact r.sub a u h, r.dis, fun n c h => ?_, fun a u h => ?_⟩
  · obtain ⟨a, o', e1, e2, e3⟩ := r.cell n c h
    exact ⟨a, o', e1, by rw [upd_ne (ne_of_none e2 hp)]; exact e2, e3⟩
  · by_cases ha : a = p
    · subst ha
      rw [upd_same] at h ⊢
      exact ⟨h, fp, np⟩
    · rw [upd_ne ha] at h ⊢
      exact r.kept a u h
/-- .. is changed by its holder -/
theorem RS.held {o o' : HO} {p : Addr} (r : RS K T (upd P p o) F io s H) : H p = some o ∧ RS K T (upd P p o') F io s (upd H p o') := by
  obtain ⟨h1, h2, h3⟩ := r.kept p o upd_same
  refine ⟨h1, r.len, r.nd, fun a u h => by rw [upd_ne (ne_of_none h h2)]; exact r.sub a u h, r.dis, fun n c h => ?_, fun a u h => ?_⟩
  · obtain ⟨a, o2, e1, e2, e3⟩ := r.cell n c h
    exact ⟨a, o2, e1, by rw [upd_ne (fun e : a = p => h3 (e ▸ List.mem_of_getElem? e1))]; exact e2, e3⟩
  · by_cases ha : a = p
    · subst ha
      rw [upd_same] at h ⊢
      exact ⟨h, h2, h3⟩
    · rw [upd_ne ha] at h ⊢
      exact r.kept a u (by rw [upd_ne ha]; exact h)
/-- .. is let go: the heap without it -/
theorem RS.let_go {o : HO} {p : Addr} (r : RS K T (upd P p o) F io s H) (hP : P p = none) : ∃ H0, H0 p = none ∧ upd H0 p o = H ∧ RS K T P F io s H0 := by
  obtain ⟨h1, h2, h3⟩ := r.kept p o upd_same
  refine ⟨fun b => if b = p then none else H b, by simp, ?_, r.len, r.nd, fun a u h => ?_, r.dis, fun n c h => ?_, fun a u h => ?_⟩
  · funext b
    unfold upd
    by_cases hb : b = p
    · subst hb; simp [h1]
    · simp [hb]
  · have := ne_of_none h h2
    simp only [this, if_false]
    exact r.sub a u h
  · obtain ⟨a, o2, e1, e2, e3⟩ := r.cell n c h
    have : a ≠ p := fun e : a = p => h3 (e ▸ List.mem_of_getElem? e1)
    exact ⟨a, o2, e1, by simp only [this, if_false]; exact e2, e3⟩
  · have ha : a ≠ p := fun e => by subst e; rw [hP] at h; cases h
    obtain ⟨k1, k2, k3⟩ := r.kept a u (by rw [upd_ne ha]; exact h)
    exact ⟨by simp only [ha, if_false]; exact k1, k2, k3⟩
end
abbrev W0 : WX := fun _ _ _ _ => False
theorem pts0 {X : Cx} {T : Tb} {W : WX} : PTs X [] (tQ X.K T W qYes) := ⟨fun pins s σ H Q I ⟨P, F, io, en, s0, hE, hS, hp⟩ => pts_nil.run pins s σ H Q I (hp.ok_of Le.refl rfl hS)⟩
theorem pts1 {X : Cx} {c : Expr} {T : Tb} {W : WX} {q : TM} (h : PT X c (tQ X.K T W q)) : PTs X [c] (tQ X.K T W q) := pts_one h
theorem post_noX {K : PySem.W.Frag} {P : Hp} {α β γ δ : Type} {rel : Hp → List Addr → α → β → Prop} {F : Hp} {io : List Addr} {r : Res α} {Q : β → Hp → Prop} (h : Post K T P rel (fun _ _ _ => False) F io (Mir.noX r) Q) : Post K T P rel (fun _ _ _ => False) F io r Q := by
  cases r with
  | ok x s => exact h
  | exc e s => exact h.elim
  | stuck => exact h
theorem mf_comp [NoGh T] {elt iter : Expr} {ifs : List Expr} {scope : Scope} {own : List (Str × Nat)} {im : IM} {g : GM} {g' : TG} {qt : TM} (hc : X.calm = true) (hN : X.N.Nodup) (hi : PI X tg iter (tI X.K T W im)) (ok : BlkOk X.N X.env.scope scope own)
    (hg : ∀ (s : Shared) (H : Hp) (C : Addr) (cl : List (Str × Addr)) (fp : List Addr), PG (X.blk s H scope (compEnvC scope cl C X.env) fp) tg g') (gi : GIn X.K T g' g (own.map (·.2)))
    (ht : ∀ (s : Shared) (H : Hp) (C : Addr) (cl : List (Str × Addr)) (fp : List Addr), PTs (X.blk s H scope (compEnvC scope cl C X.env) fp) ifs (tQ X.K T W0 qt))
    (he : ∀ (s : Shared) (H : Hp) (C : Addr) (cl : List (Str × Addr)) (fp : List Addr), PE (X.blk s H scope (compEnvC scope cl C X.env) fp) elt (tE X.K T W0 me)) (hs : ∀ x, foldedSetIterable iter X.env x = pure x := by intro _; rfl) :
    PE X (.ListComp elt [⟨tg, iter, ifs, 0⟩] scope pos) (tF X.K T W (aComp im g qt me (own.map (·.2)))) := by
  refine PE.weak (pe_lc hc hN hi ok hg ht he hs) fun σ H Q ⟨P, F, io, en, s, hE, hS, hp⟩ => ?_
  refine ⟨P, F, io, en, s, hE, hS, ?_⟩
  unfold aComp at hp
  cases hm : im en s with
  | exc x s1 => rw [hm] at hp; exact hp
  | stuck => rw [hm] at hp; exact hp
  | ok w s1 =>
    rw [hm] at hp
    intro F1 io1 J H1 l1 hS1 hw hz D nD
    have hPD : P D = none := by
      cases e : P D with
      | none => rfl
      | some u => have := (hS1.kept D u e).1; rw [nD] at this; cases this
    refine ⟨fun i m H' => ∃ F2 io2 s2 acc accv, Le F1 io1 F2 io2 ∧ RS X.K T (upd P D (.lst accv)) F2 io2 s2 H' ∧ Rs X.K T F2 io2 acc accv ∧ accv.length ≤ i ∧ m = w.items.length - i ∧
      NewL X.K T P (fun c d H' => W c d σ H') F2 io2 (compGo w g qt me (Mir.wipe en (own.map (·.2))) (w.items.drop i) acc s2) Q, ⟨_, F1, io1, s1, [], [], Le.refl, hS1.hold nD, .nil, Nat.le_refl _, rfl, NewL.le l1 (by simpa using hp)⟩, ?_⟩
    rintro i m H2 ⟨F2, io2, s2, acc, accv, l2, hS2, hacc, hlen, rfl, hp2⟩
    by_cases hok : w.ok s2
    · obtain ⟨w1, w2⟩ := hw _ i F2 io2 s2 H2 l2 hS2 hok
      by_cases hi' : i < w.items.length
      · right
        rw [drop_at hi'] at hp2
        unfold compGo at hp2
        rw [if_pos hok] at hp2
        obtain ⟨g1, g2⟩ := w2 _ (List.getElem?_eq_getElem hi')
        refine ⟨g1, fun H' => ∃ F2 io2 s2 acc accv, Le F1 io1 F2 io2 ∧ RS X.K T (upd P D (.lst accv)) F2 io2 s2 H' ∧ Rs X.K T F2 io2 acc accv ∧ accv.length ≤ i + 1 ∧
          NewL X.K T P (fun c d H' => W c d σ H') F2 io2 (compGo w g qt me (Mir.wipe en (own.map (·.2))) (w.items.drop (i + 1)) acc s2) Q,
          fun H' ⟨F3, io3, s3, acc3, accv3, l3, hS3, hacc3, hl3, hp3⟩ => ⟨_, by omega, F3, io3, s3, acc3, accv3, l3, hS3, hacc3, hl3, rfl, hp3⟩, fun v H' hy => ?_⟩
        obtain ⟨F3, l3, hS3, rx⟩ := g2 v H' hy
        have hEw : RE X.K T F3 io2 (Mir.wipe en (own.map (·.2))) (L2.wipe σ (own.map (·.2))) := (hE.mono (l1.trans (l2.trans l3))).wipe _
        cases hgx : g w.items[i] (Mir.wipe en (own.map (·.2))) s2 with
        | exc _ _ => rw [hgx] at hp2; exact hp2.elim
        | stuck => rw [hgx] at hp2; exact hp2.elim
        | ok e3 s3 =>
          rw [hgx] at hp2
          simp only [noX_ok, Res.bind_ok] at hp2
          have l12 : Le F1 io1 F3 io2 := l2.trans l3
          have hp3 := NewL.le l3 hp2
          have z := gi (upd P D (.lst accv)) F3 io2 (Mir.wipe en (own.map (·.2))) s2 w.items[i] v (L2.wipe σ (own.map (·.2))) H'
            (fun σ4 H4 => tQ X.K T W0 qt σ4 H4 fun b H3 => if b = true then tE X.K T W0 me σ4 H3 fun y H4 => ∃ acc, H4 D = some (.lst acc) ∧ acc.length < sizeLine ∧
              (∃ F2 io2 s2 acc' accv, Le F1 io1 F2 io2 ∧ RS X.K T (upd P D (.lst accv)) F2 io2 s2 (upd H4 D (.lst (acc ++ [y]))) ∧ Rs X.K T F2 io2 acc' accv ∧ accv.length ≤ i + 1 ∧
                NewL X.K T P (fun c d H' => W c d σ H') F2 io2 (compGo w g qt me (Mir.wipe en (own.map (·.2))) (w.items.drop (i + 1)) acc' s2) Q)
              else (∃ F2 io2 s2 acc' accv, Le F1 io1 F2 io2 ∧ RS X.K T (upd P D (.lst accv)) F2 io2 s2 H3 ∧ Rs X.K T F2 io2 acc' accv ∧ accv.length ≤ i + 1 ∧
                NewL X.K T P (fun c d H' => W c d σ H') F2 io2 (compGo w g qt me (Mir.wipe en (own.map (·.2))) (w.items.drop (i + 1)) acc' s2) Q)) hEw hS3 rx ?_
          · rw [wipe_wipe] at z
            exact z
          · rw [hgx]
            intro F4 io4 σ4 H4 l4 hE4 hS4
            refine ⟨_, F4, io4, e3, s3, hE4, hS4, ?_⟩
            cases hq : qt e3 s3 with
            | exc _ _ => rw [hq] at hp3; exact hp3.elim
            | stuck => rw [hq] at hp3; exact hp3.elim
            | ok k s4 =>
              rw [hq] at hp3
              intro F5 io5 k' H5 l5 (ek : k = k') hS5
              subst ek
              have l15 : Le F1 io1 F5 io5 := l12.trans (l4.trans l5)
              cases k with
              | false => exact ⟨F5, io5, s4, acc, accv, l15, hS5, hacc.mono (l3.trans (l4.trans l5)), by omega, NewL.le (l4.trans l5) hp3⟩
              | true =>
                simp only [if_true, noX_ok, Res.bind_ok] at hp3 ⊢
                refine ⟨_, F5, io5, e3, s4, hE4.mono l5, hS5, ?_⟩
                cases hme : me e3 s4 with
                | exc _ _ => rw [hme] at hp3; exact hp3.elim
                | stuck => rw [hme] at hp3; exact hp3.elim
                | ok y s5 =>
                  rw [hme] at hp3
                  intro F6 io6 yv H6 l6 ry hS6
                  obtain ⟨hd, hS7⟩ := hS6.held (o' := .lst (accv ++ [yv]))
                  exact ⟨accv, hd, by omega, F6, io6, s5, acc ++ [y], accv ++ [yv], l15.trans l6, hS7, (hacc.mono (l3.trans (l4.trans (l5.trans l6)))).append (.cons ry .nil), by simp; omega,
                    NewL.le (l4.trans (l5.trans l6)) hp3⟩
      · left
        have hd : w.items.drop i = [] := List.drop_eq_nil_iff.mpr (by omega)
        rw [hd] at hp2
        unfold compGo at hp2
        rw [if_pos hok] at hp2
        obtain ⟨H0, d0, hH, hS0⟩ := hS2.let_go hPD
        refine ⟨w1 (by omega), ?_⟩
        have := hp2 F2 io2 D accv H0 Le.refl hacc hS0 d0
        rw [hH] at this
        exact this
    · exfalso
      cases hd : w.items.drop i with
      | nil => rw [hd] at hp2; unfold compGo at hp2; rw [if_neg hok] at hp2; exact hp2
      | cons a b => rw [hd] at hp2; unfold compGo at hp2; rw [if_neg hok] at hp2; exact hp2
end
end Mir
/-! Mir, part F: the operations by values. -/
namespace Mir
open PySem PySem.Spec PyProof.Rows L2
section
variable {X : Cx} {T : Tb}
/-- how an operator's rule is shown -/
theorem opr {f : Value → Value → Sem Value} {g : O2} {r : R2} (ho : OpR X f r) (h : ∀ (P F : Hp) (io : List Addr) (s : Store) (x y : PV) (v u : V) (H : Hp) (Q : VK), R X.K T F io x v → R X.K T F io y u → RS X.K T P F io s H → Post X.K T P (rV X.K T) (fun _ _ _ => False) F io (noX (g x y s)) Q → r v u H Q) : OpR X f (r2 X.K T g) := by
  intro pins s σ H x y v u Q I rx ry hq
  obtain ⟨P, F, io, st, a, b, ra, rb, hS, hp⟩ := hq
  exact ho pins s σ H x y v u Q I rx ry (h P F io st a b x y H Q ra rb hS hp)
theorem opr_or {f : Value → Value → Sem Value} {r r' r'' : R2} (h : OpR X f r) (h' : OpR X f r') : OpR X f (fun x y H Q => r x y H Q ∨ r' x y H Q) := OpR.or h h'
theorem sop_sub : OpR X (binaryOp .Sub) (r2 X.K T pySub) := opr op_sub fun P F io s x y v u H Q rx ry hS hp => by
  cases rx <;> (try exact hp.elim) <;> cases ry <;> (try exact hp.elim)
  exact ⟨_, _, rfl, rfl, hp.ok_of Le.refl (.int _) hS⟩
theorem sop_mul : OpR X (binaryOp .Mult) (r2 X.K T pyMul) := opr op_mul fun P F io s x y v u H Q rx ry hS hp => by
  cases rx <;> (try exact hp.elim) <;> cases ry <;> (try exact hp.elim)
  rename_i i j
  simp only [pyMul] at hp
  split at hp
  · rename_i hc
    exact ⟨_, _, rfl, rfl, hc, hp.ok_of Le.refl (.int _) hS⟩
  · exact hp.elim
theorem sop_mod : OpR X (binaryOp .Mod) (r2 X.K T pyMod) := opr op_mod fun P F io s x y v u H Q rx ry hS hp => by
  cases rx <;> (try exact hp.elim) <;> cases ry <;> (try exact hp.elim)
  rename_i i j
  simp only [pyMod] at hp
  split at hp
  · rename_i hc
    exact ⟨_, _, rfl, rfl, hc, hp.ok_of Le.refl (.int _) hS⟩
  · exact hp.elim
theorem sop_fdiv : OpR X (binaryOp .FloorDiv) (r2 X.K T pyFdiv) := opr op_fdivW fun P F io s x y v u H Q rx ry hS hp => by
  cases rx <;> (try exact hp.elim) <;> cases ry <;> (try exact hp.elim)
  rename_i i j
  simp only [pyFdiv] at hp
  split at hp
  · rename_i hc
    refine ⟨_, _, rfl, rfl, wide_div (b := 128) hc.1 ?_ (by decide) (by decide), hp.ok_of Le.refl (.int _) hS⟩
    have := hc.2; omega
  · exact hp.elim
theorem sop_pow : OpR X (binaryOp .Pow) (r2 X.K T pyPow) := opr op_pow fun P F io s x y v u H Q rx ry hS hp => by
  cases rx <;> (try exact hp.elim) <;> cases ry <;> (try exact hp.elim)
  rename_i i j
  simp only [pyPow] at hp
  split at hp
  · rename_i hc
    exact ⟨_, _, rfl, rfl, hc, hp.ok_of Le.refl (.int _) hS⟩
  · exact hp.elim
theorem st8_cat (a b : List Nat) : St8 a ++ St8 b = St8 (a ++ b) := by
  show Str.append _ _ = _
  simp [Str.append]
/-- a place that holds a list, or a tree that is one -/
theorem RS.list {K : PySem.W.Frag} {P F : Hp} {io : List Addr} {s : Store} {H : Hp} {x : PV} {v : V} {xs : List PV} (hS : RS K T P F io s H) (r : R K T F io x v) (e : deref s x = .lst xs) : ∃ a vs, v = .ref a ∧ H a = some (.lst vs) ∧ Rs K T F io xs vs := by
  cases r with
  | lst h1 h2 => cases e; exact ⟨_, _, rfl, hS.sub _ _ h1, h2⟩
  | @loc a n h1 =>
    have hn : n < s.length := by rw [hS.len]; exact (List.getElem?_eq_some_iff.mp h1).1
    have ed : deref s (.loc n) = s[n] := by simp [deref, List.getD, List.getElem?_eq_getElem hn]
    rw [ed] at e
    obtain ⟨o, e2, e3⟩ := hS.loc h1 (by rw [List.getElem?_eq_getElem hn, e])
    cases e3 with
    | lst q => exact ⟨_, _, rfl, e2, q⟩
  | _ => cases e
theorem sop_add : OpR X (binaryOp .Add) (r2 X.K T pyAdd) := opr (OpR.or op_add (OpR.or op_add_str (OpR.or op_catA op_cat))) fun P F io s x y v u H Q rx ry hS hp => by
  have lists : ∀ {x y : PV} {v u : V}, R X.K T F io x v → R X.K T F io y u → Post X.K T P (rV X.K T) (fun _ _ _ => False) F io (noX (match deref s x, deref s y with
      | .lst a, .lst b => if a.length + b.length ≤ sz then .ok (.lst (a ++ b)) s else .stuck
      | _, _ => (.stuck : Res PV))) Q → rCat v u H Q := fun {x y v u} rx ry hp => by
    cases e1 : deref s x <;> rw [e1] at hp <;> (try exact hp.elim)
    cases e2 : deref s y <;> rw [e2] at hp <;> (try exact hp.elim)
    rename_i xs ys
    obtain ⟨a, vs, rfl, ha, r1⟩ := hS.list rx e1
    obtain ⟨b, ws, rfl, hb, r2⟩ := hS.list ry e2
    simp only at hp
    split at hp
    · rename_i hc
      refine ⟨a, b, vs, ws, rfl, rfl, ha, hb, by rw [← r1.length, ← r2.length]; exact hc, fun p np => ?_⟩
      obtain ⟨l2, hS2⟩ := hS.grow (o := .lst (vs ++ ws)) np
      exact hp.ok_of l2 (.lst upd_same ((r1.append r2).mono l2)) hS2
    · exact hp.elim
  cases rx with
  | int i => cases ry <;> first | exact .inl ⟨_, _, rfl, rfl, hp.ok_of Le.refl (.int _) hS⟩ | exact hp.elim
  | str a =>
    cases ry with
    | str b =>
      simp only [pyAdd] at hp
      split at hp
      · rename_i hc
        exact .inr (.inl ⟨_, _, rfl, rfl, by rw [str8_len, str8_len]; exact hc, by rw [st8_cat]; exact hp.ok_of Le.refl (.str _) hS⟩)
      · exact hp.elim
    | _ => exact hp.elim
  | tup h1 h2 =>
    cases ry with
    | tup k1 k2 =>
      simp only [pyAdd] at hp
      split at hp
      · rename_i hc
        refine .inr (.inr (.inl ⟨_, _, _, _, rfl, rfl, hS.tup h1, hS.tup k1, by rw [← h2.length, ← k2.length]; exact hc, fun e => ?_, fun _ e => ?_, fun _ _ p np => ?_⟩))
        · subst e
          cases h2
          exact hp.ok_of Le.refl (.tup k1 k2) hS
        · subst e
          cases k2
          exact hp.ok_of Le.refl (.tup h1 (by simpa using h2)) hS
        · obtain ⟨l2, hS2⟩ := hS.grow (o := .tup (_ ++ _)) np
          exact hp.ok_of l2 (.tup (.of upd_same) ((h2.append k2).mono l2)) hS2
      · exact hp.elim
    | _ => exact hp.elim
  | lst h1 h2 => exact .inr (.inr (.inr (lists (.lst h1 h2) ry (by cases ry <;> exact hp))))
  | loc h1 => exact .inr (.inr (.inr (lists (.loc h1) ry (by cases ry <;> exact hp))))
  | _ => cases ry <;> exact hp.elim
end
end Mir
/-! Mir, part G: == and in of data, comparisons, items, slices. -/
namespace Mir
open PySem PySem.Spec PyProof.Rows L2

def toD : Nat → PV → PyData
  | _, .non => .none
  | _, .bl b => .bool b
  | _, .int i => .int i
  | _, .str l => .str (St8 l)
  | n + 1, .tup xs => .tuple (xs.map (toD n))
  | n + 1, .lst xs => .list (xs.map (toD n))
  | n + 1, .ro xs => .list (xs.map (toD n))
  | _, _ => .none
theorem plain_map {n : Nat} (ih : ∀ x : PV, (toD n x).plain = true) : ∀ xs : List PV, PyData.plainAll (xs.map (toD n)) = true
  | [] => by simp [PyData.plainAll]
  | x :: xs => by simp [PyData.plainAll, ih x, plain_map ih xs]
theorem plain_toD : ∀ (n : Nat) (x : PV), (toD n x).plain = true
  | 0, x => by cases x <;> simp [toD, PyData.plain]
  | n + 1, x => by cases x <;> simp [toD, PyData.plain, plain_map (plain_toD n)]
theorem depth_map {n : Nat} (ih : ∀ x : PV, (toD n x).depth ≤ n) : ∀ xs : List PV, PyData.depthAll (xs.map (toD n)) ≤ n
  | [] => by simp [PyData.depthAll]
  | x :: xs => by simp [PyData.depthAll, Nat.max_le]; exact ⟨ih x, by simpa using depth_map ih xs⟩
theorem depth_toD : ∀ (n : Nat) (x : PV), (toD n x).depth ≤ n
  | 0, x => by cases x <;> simp [toD, PyData.depth]
  | n + 1, x => by
    have := depth_map (depth_toD n)
    cases x <;> simp [toD, PyData.depth] <;> (rename_i xs; exact this xs)
theorem st8_inj {a b : List Nat} : (St8 a == St8 b) = (a == b) := by
  by_cases h : a = b
  · subst h; simp
  · have : ¬ St8 a = St8 b := fun e => h (by have := congrArg (fun s : Str => s.cps.toList) e; simpa using this)
    rw [beq_eq_false_iff_ne.mpr this, beq_eq_false_iff_ne.mpr h]
theorem eqv_map {n : Nat} (ih : ∀ x y : PV, isD n x = true → isD n y = true → PyData.eqv (toD n x) (toD n y) = eqF n x y) : ∀ xs ys : List PV, xs.all (isD n) = true → ys.all (isD n) = true →
    PyData.eqvAll (xs.map (toD n)) (ys.map (toD n)) = eqL (eqF n) xs ys
  | [], [], _, _ => by simp [PyData.eqvAll, eqL]
  | [], _ :: _, _, _ => by simp [PyData.eqvAll, eqL]
  | _ :: _, [], _, _ => by simp [PyData.eqvAll, eqL]
  | x :: xs, y :: ys, hx, hy => by
    simp only [List.all_cons, Bool.and_eq_true] at hx hy
    simp [PyData.eqvAll, eqL, ih x y hx.1 hy.1, eqv_map ih xs ys hx.2 hy.2]
theorem eqv_toD : ∀ (n : Nat) (x y : PV), isD n x = true → isD n y = true → PyData.eqv (toD n x) (toD n y) = eqF n x y
  | 0, x, y, hx, hy => by
    cases x <;> (try (simp [isD] at hx; done)) <;> cases y <;> (try (simp [isD] at hy; done)) <;> simp [toD, PyData.eqv, eqF, st8_inj]
  | n + 1, x, y, hx, hy => by
    cases x <;> (try (simp [isD] at hx; done)) <;> cases y <;> (try (simp [isD] at hy; done)) <;> simp [toD, PyData.eqv, eqF, st8_inj] <;>
      exact eqv_map (eqv_toD n) _ _ (by simpa [isD] using hx) (by simpa [isD] using hy)
section
variable {K : PySem.W.Frag} {T : Tb} {P F : Hp} {io : List Addr} {s : Store} {H : Hp}
theorem dpAll_of {n : Nat} (ih : ∀ (x : PV) (v : V), R K T F io x v → isD n x = true → Dp K H v (toD n x)) : ∀ {xs : List PV} {vs : List V}, Rs K T F io xs vs → xs.all (isD n) = true → DpAll K H vs (xs.map (toD n))
  | [], _, r, _ => by cases r; exact .nil
  | x :: xs, _, r, h => by
    simp only [List.all_cons, Bool.and_eq_true] at h
    cases r with | cons a b => exact .cons (ih x _ a h.1) (dpAll_of ih b h.2)
theorem dp_of (hS : RS K T P F io s H) : ∀ (n : Nat) (x : PV) (v : V), R K T F io x v → isD n x = true → Dp K H v (toD n x)
  | 0, x, v, r, h => by
    cases r with
    | non => exact .non
    | bl b => exact .bl b
    | int i => exact .int i
    | str l => exact .str _
    | _ => simp [isD] at h
  | n + 1, x, v, r, h => by
    cases r with
    | non => exact .non
    | bl b => exact .bl b
    | int i => exact .int i
    | str l => exact .str _
    | tup h1 h2 => exact .tup (hS.tup h1) (dpAll_of (dp_of hS n) h2 (by simpa [isD] using h))
    | lst h1 h2 => exact .lst (.of (hS.sub _ _ h1)) (dpAll_of (dp_of hS n) h2 (by simpa [isD] using h))
    | ro h1 h2 => exact .lst (hS.lst h1) (dpAll_of (dp_of hS n) h2 (by simpa [isD] using h))
    | _ => simp [isD] at h
/-- of a place too -/
theorem dp_deref (hS : RS K T P F io s H) {x : PV} {v : V} (r : R K T F io x v) (h : isD (n + 1) (deref s x) = true) : Dp K H v (toD (n + 1) (deref s x)) := by
  cases r with
  | @loc a m h1 =>
    have hn : m < s.length := by rw [hS.len]; exact (List.getElem?_eq_some_iff.mp h1).1
    have ed : deref s (.loc m) = s[m] := by simp [deref, List.getD, List.getElem?_eq_getElem hn]
    rw [ed] at h ⊢
    obtain ⟨o, e2, e3⟩ := hS.loc h1 (List.getElem?_eq_getElem hn)
    generalize s[m] = c at h e3 ⊢
    cases e3 with
    | lst q => exact .lst (.of e2) (dpAll_of (dp_of hS n) q (by simpa [isD] using h))
    | dic _ _ => simp [isD] at h
    | ins _ _ => simp [isD] at h
  | non => exact dp_of hS _ _ _ .non h
  | bl b => exact dp_of hS _ _ _ (.bl b) h
  | int i => exact dp_of hS _ _ _ (.int i) h
  | str l => exact dp_of hS _ _ _ (.str l) h
  | tup h1 h2 => exact dp_of hS _ _ _ (.tup h1 h2) h
  | lst h1 h2 => exact dp_of hS _ _ _ (.lst h1 h2) h
  | ro h1 h2 => exact dp_of hS _ _ _ (.ro h1 h2) h
  | dic _ _ _ => simp [isD, deref] at h
  | ins _ _ _ => simp [isD, deref] at h
  | fn _ => simp [isD, deref] at h
  | cls _ => simp [isD, deref] at h
  | ty _ => simp [isD, deref] at h
end
section
variable {X : Cx} {T : Tb}
/-- data on both sides -/
def rD2 (K : PySem.W.Frag) (g : PyData → PyData → Bool) : R2 := fun x y H Q => ∃ d e, Dp K H x d ∧ Dp K H y e ∧ d.plain = true ∧ e.plain = true ∧ d.depth ≤ 60 ∧ Q (.bl (g d e)) H
theorem room_plain {A : Around} {d e : PyData} (hd : d.depth ≤ 60) (hu : A.units + 64 < cLine) : A.units + min d.depth e.depth < cLine := by
  have := Nat.min_le_left d.depth e.depth
  omega
theorem op_eqP (hu : X.A.units + 64 < cLine) : OpR X (compareOp .Eq) (rD2 X.K PyData.eqv) := by
  intro pins s σ H x y v u Q I rx ry ⟨d, e, hd, he, pd, pe, dd, q⟩
  obtain ⟨as, r1⟩ := Dp.reads I d x v hd rx
  obtain ⟨bs, r2⟩ := Dp.reads I e y u he ry
  exact SeqAt.eq_plain r1 r2 pd pe (room_plain dd hu) ⟨.bl _, H, I, rfl, q⟩
theorem op_neP (hu : X.A.units + 64 < cLine) : OpR X (compareOp .NotEq) (rD2 X.K fun d e => !PyData.eqv d e) := by
  intro pins s σ H x y v u Q I rx ry ⟨d, e, hd, he, pd, pe, dd, q⟩
  obtain ⟨as, r1⟩ := Dp.reads I d x v hd rx
  obtain ⟨bs, r2⟩ := Dp.reads I e y u he ry
  exact SeqAt.ne_plain r1 r2 pd pe (room_plain dd hu) ⟨.bl _, H, I, rfl, q⟩
theorem sop_eq (hu : X.A.units + 64 < cLine) : OpR X (compareOp .Eq) (r2 X.K T pyEq) := opr (op_eqP hu) fun P F io s x y v u H Q rx ry hS hp => by
  simp only [pyEq] at hp
  split at hp
  · rename_i h
    simp only [Bool.and_eq_true] at h
    refine ⟨_, _, dp_deref hS rx h.1, dp_deref hS ry h.2, plain_toD _ _, plain_toD _ _, Nat.le_trans (depth_toD _ _) (by decide), ?_⟩
    rw [eqv_toD _ _ _ h.1 h.2]
    exact hp.ok_of Le.refl (.bl _) hS
  · exact hp.elim
theorem sop_ne (hu : X.A.units + 64 < cLine) : OpR X (compareOp .NotEq) (r2 X.K T pyNe) := opr (op_neP hu) fun P F io s x y v u H Q rx ry hS hp => by
  simp only [pyNe] at hp
  split at hp
  · rename_i h
    simp only [Bool.and_eq_true] at h
    refine ⟨_, _, dp_deref hS rx h.1, dp_deref hS ry h.2, plain_toD _ _, plain_toD _ _, Nat.le_trans (depth_toD _ _) (by decide), ?_⟩
    show Q (.bl (!PyData.eqv (toD dp (deref s x)) (toD dp (deref s y)))) H
    rw [eqv_toD _ _ _ h.1 h.2]
    exact hp.ok_of Le.refl (.bl _) hS
  · exact hp.elim
/-- in -/
def rIn2 (K : PySem.W.Frag) (neg : Bool) : R2 := fun x y H Q => (∃ c z, x = .str ⟨#[c]⟩ ∧ y = .str z ∧ Q (.bl (xor neg (decide (c ∈ z.cps.toList)))) H) ∨
  ∃ d ds, Dp K H x d ∧ (Dp K H y (.list ds) ∨ Dp K H y (.tuple ds)) ∧ d.plain = true ∧ PyData.plainAll ds = true ∧ d.depth ≤ 60 ∧ Q (.bl (xor neg (ds.any fun z => PyData.eqv z d))) H
theorem room_in {A : Around} {ds : List PyData} {d : PyData} (hd : d.depth ≤ 60) (hu : A.units + 64 < cLine) : A.units + 1 + min (PyData.depthAll ds) d.depth < cLine := by
  have := Nat.min_le_right (PyData.depthAll ds) d.depth
  omega
theorem op_in2 (hu : X.A.units + 64 < cLine) : OpR X (compareOp .In) (rIn2 X.K false) := by
  intro pins s σ H x y v u Q I rx ry h
  rcases h with ⟨c, z, e1, e2, q⟩ | ⟨d, ds, hd, he, pd, pe, dd, q⟩
  · exact op_in_sign pins s σ H x y v u Q I rx ry ⟨c, z, e1, e2, by simpa using q⟩
  · obtain ⟨as, r1⟩ := Dp.reads I d x v hd rx
    rcases he with he | he
    · obtain ⟨bs, r2⟩ := Dp.reads I (.list ds) y u he ry
      exact SeqAt.in_list_data r2 r1 pe pd (room_in dd hu) ⟨.bl _, H, I, rfl, by simpa using q⟩
    · obtain ⟨bs, r2⟩ := Dp.reads I (.tuple ds) y u he ry
      exact SeqAt.in_tuple_data r2 r1 pe pd (room_in dd hu) ⟨.bl _, H, I, rfl, by simpa using q⟩
theorem op_notIn2 (hu : X.A.units + 64 < cLine) : OpR X (compareOp .NotIn) (rIn2 X.K true) := by
  intro pins s σ H x y v u Q I rx ry h
  rcases h with ⟨c, z, e1, e2, q⟩ | ⟨d, ds, hd, he, pd, pe, dd, q⟩
  · exact op_notIn_sign pins s σ H x y v u Q I rx ry ⟨c, z, e1, e2, by simpa using q⟩
  · obtain ⟨as, r1⟩ := Dp.reads I d x v hd rx
    rcases he with he | he
    · obtain ⟨bs, r2⟩ := Dp.reads I (.list ds) y u he ry
      exact SeqAt.notIn_list_data r2 r1 pe pd (room_in dd hu) ⟨.bl _, H, I, rfl, by simpa using q⟩
    · obtain ⟨bs, r2⟩ := Dp.reads I (.tuple ds) y u he ry
      exact SeqAt.notIn_tuple_data r2 r1 pe pd (room_in dd hu) ⟨.bl _, H, I, rfl, by simpa using q⟩

theorem any_key {x : PV} : ∀ {xs : List PV}, (∀ z ∈ xs, isD dp z = true) → isD dp x = true → (xs.map (toD dp)).any (fun z => PyData.eqv z (toD dp x)) = xs.any fun z => eqF dp z x
  | [], _, _ => rfl
  | a :: r, h, hx => by
    rw [List.map_cons, List.any_cons, List.any_cons, eqv_toD dp a x (h a (List.mem_cons_self ..)) hx, any_key (fun z hz => h z (List.mem_cons_of_mem _ hz)) hx]
theorem in_use {K : PySem.W.Frag} {P F : Hp} {io : List Addr} {s : Store} {x y : PV} {v u : V} {H : Hp} {neg : Bool} {Q : VK} (rx : R K T F io x v) (ry : R K T F io y u) (hS : RS K T P F io s H) {k : Bool} (e : inP s x y = some k) (q : Q (.bl (xor neg k)) H) : rIn2 K neg v u H Q := by
  have deep : (match itemsOf s y with | some xs => if isD dp x && xs.all (isD dp) then some (xs.any fun z => eqF dp z x) else none | none => none) = some k → rIn2 K neg v u H Q := fun e => by
    cases hi : itemsOf s y with
    | none => rw [hi] at e; cases e
    | some xs =>
      rw [hi] at e
      simp only at e
      split at e
      · rename_i h
        cases e
        simp only [Bool.and_eq_true] at h
        have hd : Dp K H v (toD dp x) := dp_of hS dp x v rx h.1
        have key : (xs.map (toD dp)).any (fun z => PyData.eqv z (toD dp x)) = xs.any fun z => eqF dp z x := by
          exact any_key (fun z hz => List.all_eq_true.mp h.2 z hz) h.1
        refine .inr ⟨_, xs.map (toD dp), hd, ?_, plain_toD _ _, plain_map (plain_toD _) _, Nat.le_trans (depth_toD _ _) (by decide), by rw [key]; exact q⟩
        obtain ⟨a, vs, rfl, hq, hr⟩ := hS.seq ry hi
        have ds := dpAll_of (fun x v r h => dp_of hS dp x v r h) hr h.2
        rcases hq with hq | hq
        · exact .inl (.lst hq ds)
        · exact .inr (.tup hq ds)
      · cases e
  unfold inP at e
  split at e
  · rename_i c l
    cases e
    cases rx
    cases ry
    exact .inl ⟨c, St8 l, rfl, rfl, by simpa using q⟩
  · exact deep e
theorem sop_in (hu : X.A.units + 64 < cLine) : OpR X (compareOp .In) (r2 X.K T pyIn) := opr (op_in2 hu) fun P F io s x y v u H Q rx ry hS hp => by
  simp only [pyIn] at hp
  cases e : inP s x y with
  | none => rw [e] at hp; exact hp.elim
  | some k =>
    rw [e] at hp
    exact in_use rx ry hS e (by have := hp.ok_of Le.refl (.bl _) hS; simpa using this)
theorem sop_notIn (hu : X.A.units + 64 < cLine) : OpR X (compareOp .NotIn) (r2 X.K T pyNotIn) := opr (op_notIn2 hu) fun P F io s x y v u H Q rx ry hS hp => by
  simp only [pyNotIn] at hp
  cases e : inP s x y with
  | none => rw [e] at hp; exact hp.elim
  | some k =>
    rw [e] at hp
    exact in_use rx ry hS e (by have := hp.ok_of Le.refl (.bl _) hS; simpa using this)
/-! ### order -/
theorem sop_lt : OpR X (compareOp .Lt) (r2 X.K T pyLt) := opr (OpR.or op_lt op_lt_str) fun P F io s x y v u H Q rx ry hS hp => by
  cases rx <;> (try exact hp.elim) <;> cases ry <;> (try exact hp.elim)
  · exact .inl ⟨_, _, rfl, rfl, hp.ok_of Le.refl (.bl _) hS⟩
  · exact .inr ⟨_, _, rfl, rfl, by simpa using hp.ok_of Le.refl (.bl _) hS⟩
theorem sop_le : OpR X (compareOp .LtE) (r2 X.K T pyLe) := opr op_le fun P F io s x y v u H Q rx ry hS hp => by
  cases rx <;> (try exact hp.elim) <;> cases ry <;> (try exact hp.elim)
  exact ⟨_, _, rfl, rfl, hp.ok_of Le.refl (.bl _) hS⟩
theorem sop_gt : OpR X (compareOp .Gt) (r2 X.K T pyGt) := opr op_gt fun P F io s x y v u H Q rx ry hS hp => by
  cases rx <;> (try exact hp.elim) <;> cases ry <;> (try exact hp.elim)
  exact ⟨_, _, rfl, rfl, hp.ok_of Le.refl (.bl _) hS⟩
theorem sop_ge : OpR X (compareOp .GtE) (r2 X.K T pyGe) := opr op_ge fun P F io s x y v u H Q rx ry hS hp => by
  cases rx <;> (try exact hp.elim) <;> cases ry <;> (try exact hp.elim)
  exact ⟨_, _, rfl, rfl, hp.ok_of Le.refl (.bl _) hS⟩
theorem sop_neg : UnR X (unaryOp .USub) (r1 X.K T pyNeg) := by
  intro pins s σ H x v Q I rx ⟨P, F, io, st, a, ra, hS, hp⟩
  cases ra <;> (try exact hp.elim)
  exact un_neg pins s σ H _ v Q I rx ⟨_, rfl, hp.ok_of Le.refl (.int _) hS⟩
/-! ### is None, is not None -/
variable {W : WX} {a b o e : Expr} {ma mb mo me : EM} {pos p2 : Pos}
theorem isN_use {K : PySem.W.Frag} {P F : Hp} {io : List Addr} {s : Store} {x : PV} {v : V} {H : Hp} {Wz : Value → Option Addr → Hp → Prop} {Q : VK} (rx : R K T F io x v) (hS : RS K T P F io s H) (hp : Post K T P (rV K T) Wz F io (noX (pyIs .non x s)) Q) : Q (.bl (decide (v = .non))) H := by
  cases rx <;> exact hp.ok_of Le.refl (.bl _) hS
theorem me_isN {q : Pos} {j : Nat} (ha : PE X a (tE X.K T W ma)) : PE X (.Compare a [.Is] [.Constant .none j q] pos) (tE X.K T W (eOp1 (pyIs .non) ma)) := by
  refine PE.weak (pe_cmpR op_isN ha pe_non (nomark _)) fun σ H Q ⟨P, F, io, en, s, hE, hS, hp⟩ => ?_
  refine tE_use hE hS hp fun v H1 F1 io1 x s1 hE1 rx hS1 l1 hp1 => ?_
  exact ⟨rfl, isN_use rx hS1 hp1⟩
theorem me_notN {q : Pos} {j : Nat} (ha : PE X a (tE X.K T W ma)) : PE X (.Compare a [.IsNot] [.Constant .none j q] pos) (tE X.K T W (eNotB (eOp1 (pyIs .non) ma))) := by
  refine PE.weak (pe_cmpR op_notN ha pe_non (nomark _)) fun σ H Q ⟨P, F, io, en, s, hE, hS, hp⟩ => ?_
  unfold eNotB eOp1 at hp
  simp only [Res.bind_assoc] at hp
  refine tE_use hE hS hp fun v H1 F1 io1 x s1 hE1 rx hS1 l1 hp1 => ?_
  refine ⟨rfl, ?_⟩
  cases rx <;> exact hp1.ok_of Le.refl (.bl _) hS1
theorem qe_isN {q : Pos} {j : Nat} (ha : PE X a (tE X.K T W ma)) : PT X (.Compare a [.Is] [.Constant .none j q] pos) (tQ X.K T W (qBl (eOp1 (pyIs .non) ma))) := by
  refine PT.weak (pt_cmpR op_isN ha pe_non (nomark _)) fun σ H Q ⟨P, F, io, en, s, hE, hS, hp⟩ => ?_
  unfold qBl eOp1 at hp
  simp only [Res.bind_assoc] at hp
  refine tE_use hE hS hp fun v H1 F1 io1 x s1 hE1 rx hS1 l1 hp1 => ?_
  refine ⟨rfl, ?_⟩
  cases rx <;> exact ⟨_, rfl, hp1.ok_of Le.refl rfl hS1⟩
theorem qe_notN {q : Pos} {j : Nat} (ha : PE X a (tE X.K T W ma)) : PT X (.Compare a [.IsNot] [.Constant .none j q] pos) (tQ X.K T W (qBl (eNotB (eOp1 (pyIs .non) ma)))) := by
  refine PT.weak (pt_cmpR op_notN ha pe_non (nomark _)) fun σ H Q ⟨P, F, io, en, s, hE, hS, hp⟩ => ?_
  unfold qBl eNotB eOp1 at hp
  simp only [Res.bind_assoc] at hp
  refine tE_use hE hS hp fun v H1 F1 io1 x s1 hE1 rx hS1 l1 hp1 => ?_
  refine ⟨rfl, ?_⟩
  cases rx <;> exact ⟨_, rfl, hp1.ok_of Le.refl rfl hS1⟩

/-! ### items -/
theorem ixP_eq (n : Nat) (i : Int) : ixP n i = ixN n i := rfl
theorem atP_get {K : PySem.W.Frag} {F : Hp} {io : List Addr} {xs : List PV} {vs : List V} {i : Int} {x : PV} (r : Rs K T F io xs vs) (e : atP xs i = some x) : ∃ v, atI vs i = some v ∧ R K T F io x v := by
  unfold atP at e
  unfold atI
  rw [← r.length, ← ixP_eq]
  cases h : ixP xs.length i with
  | none => rw [h] at e; cases e
  | some j =>
    rw [h] at e
    exact r.get e
theorem me_idx (ha : PE X a (tE X.K T W ma)) (hb : PE X b (tE X.K T W mb)) (hs : PlainIx b) : PE X (.Subscript a b pos) (tE X.K T W (eOp2 pyIdx ma mb)) := by
  refine PE.weak (pe_ix ix_seq ha hb hs) fun σ H Q ⟨P, F, io, en, s, hE, hS, hp⟩ => ?_
  refine tE_use hE hS hp fun v H1 F1 io1 x s1 hE1 rx hS1 l1 hp1 => ?_
  refine tE_use hE1 hS1 hp1 fun u H2 F2 io2 y s2 hE2 ry hS2 l2 hp2 => ?_
  cases ry with
  | int i =>
    have seq : ∀ xs, itemsOf s2 x = some xs → Post X.K T P (rV X.K T) (fun c d H' => W c d σ H') F2 io2 (noX (ofO (atP xs i) s2)) Q → rIxL X.K v (.int i) H2 Q ∨ rIxT X.K v (.int i) H2 Q ∨ rIxS v (.int i) H2 Q := fun xs hx hp2 => by
      obtain ⟨a, vs, rfl, hq, hr⟩ := hS2.seq (rx.mono l2) hx
      cases e : atP xs i with
      | none => rw [e] at hp2; exact hp2.elim
      | some z =>
        rw [e] at hp2
        obtain ⟨zv, e1, e2⟩ := atP_get hr e
        have q := hp2.ok_of Le.refl e2 hS2
        rcases hq with hq | hq
        · exact .inl ⟨a, vs, i, zv, rfl, rfl, hq, e1, q⟩
        · exact .inr (.inl ⟨a, vs, i, zv, rfl, rfl, hq, e1, q⟩)
    cases x with
    | str l =>
      cases rx with
      | str _ =>
        simp only [pyIdx] at hp2
        split at hp2
        · rename_i hl
          cases e : atP l i with
          | none => rw [e] at hp2; exact hp2.elim
          | some c =>
            rw [e] at hp2
            exact .inr (.inr ⟨_, i, c, rfl, rfl, by rw [str8_len]; exact hl, by simpa [atP, atI, ixP_eq] using e, hp2.ok_of Le.refl (.str [c]) hS2⟩)
        · exact hp2.elim
    | _ =>
      simp only [pyIdx] at hp2
      split at hp2
      · rename_i xs hx
        exact seq xs hx hp2
      · exact hp2.elim
  | _ => exact hp2.elim
/-! ### slices -/
def tO (K : PySem.W.Frag) (T : Tb) (W : WX) (m : OM) : TO := fun σ H Q => ∃ P F io e s, RE K T F io e σ ∧ RS K T P F io s H ∧ Post K T P (fun _ _ (a b : Option Int) => a = b) (fun c d H' => W c d σ H') F io (m e s) Q
theorem mo_none : PO X none (tO X.K T W oNone) := ⟨fun pins s σ H Q I ⟨P, F, io, en, st, hE, hS, hp⟩ => po_none.run pins s σ H Q I (hp.ok_of Le.refl rfl hS)⟩
theorem mo_some (he : PE X e (tE X.K T W me)) : PO X (some e) (tO X.K T W (oSome me)) := by
  refine ⟨fun pins s σ H Q I ⟨P, F, io, en, st, hE, hS, hp⟩ => (po_some he).run pins s σ H Q I ?_⟩
  refine tE_use hE hS hp fun v H1 F1 io1 x s1 hE1 rx hS1 l1 hp1 => ?_
  cases rx with
  | int i => exact ⟨i, rfl, hp1.ok_of Le.refl rfl hS1⟩
  | _ => exact hp1.elim
theorem cutP_rs {K : PySem.W.Frag} {F : Hp} {io : List Addr} {xs : List PV} {vs : List V} (r : Rs K T F io xs vs) (lo hi : Option Int) : Rs K T F io (cutP xs lo hi) (cutV vs lo hi) := by
  unfold cutP cutV
  rw [← r.length]
  exact (r.drop _).take _
theorem cutP_str (l : List Nat) (lo hi : Option Int) : cutS (St8 l) lo hi = St8 (cutP l lo hi) := by
  unfold cutS cutP
  rw [str8_len]
  rfl
theorem me_slice {lo hi : Option Expr} {ml mh : OM} (ha : PE X a (tE X.K T W ma)) (hl : PO X lo (tO X.K T W ml)) (hh : PO X hi (tO X.K T W mh)) : PE X (.Subscript a (.Slice lo hi none p2) pos) (tE X.K T W (eSlice ma ml mh)) := by
  refine PE.weak (pe_slice (SlR.or sl_str (SlR.or sl_tupA sl_list)) ha hl hh) fun σ H Q ⟨P, F, io, en, s, hE, hS, hp⟩ => ?_
  refine tE_use hE hS hp fun v H1 F1 io1 x s1 hE1 rx hS1 l1 hp1 => ?_
  refine ⟨P, F1, io1, en, s1, hE1, hS1, hp1.bind.mono fun o H2 ⟨F2, io2, o', s2, l2, eo, hS2, hp2⟩ => ?_⟩
  subst eo
  refine ⟨P, F2, io2, en, s2, hE1.mono l2, hS2, hp2.bind.mono fun q H3 ⟨F3, io3, q', s3, l3, eq, hS3, hp3⟩ => ?_⟩
  subst eq
  have rx3 := rx.mono (l2.trans l3)
  replace hp3 : Post X.K T P (rV X.K T) (fun c d H' => W c d σ H') F3 io3 (ofO (sliceV s3 x o' q') s3) Q := hp3
  cases e : sliceV s3 x o' q' with
  | none => rw [e] at hp3; exact hp3.elim
  | some z =>
    rw [e] at hp3
    have lists : ∀ xs, (∃ a vs, v = .ref a ∧ SqL X.K H3 a vs ∧ Rs X.K T F3 io3 xs vs) → z = .lst (cutP xs o' q') → rSlL X.K v o' q' H3 Q := fun xs ⟨a, vs, ev, hq, hr⟩ ez => by
      subst ev ez
      refine ⟨a, vs, rfl, hq, fun p np => ?_⟩
      obtain ⟨l4, hS4⟩ := hS3.grow (o := .lst (cutV vs o' q')) np
      exact hp3.ok_of l4 (.lst upd_same ((cutP_rs hr o' q').mono l4)) hS4
    cases rx3 with
    | str l =>
      simp only [sliceV] at e
      split at e
      · rename_i hl
        cases e
        exact .inl ⟨_, rfl, by rw [str8_len]; exact hl, by rw [cutP_str]; exact hp3.ok_of Le.refl (.str _) hS3⟩
      · cases e
    | @tup a xs vs h1 h2 =>
      cases e
      refine .inr (.inl ⟨_, _, rfl, hS3.tup h1, fun hw => ?_, fun hw p np => ?_⟩)
      · have : cutV vs o' q' = vs := by
          unfold cutV
          rw [hw.1, hw.2]
          simp
        exact hp3.ok_of Le.refl (.tup h1 (by have := cutP_rs h2 o' q'; rw [‹cutV vs o' q' = vs›] at this; exact this)) hS3
      · obtain ⟨l4, hS4⟩ := hS3.grow (o := .tup (cutV vs o' q')) np
        exact hp3.ok_of l4 (.tup (.of upd_same) ((cutP_rs h2 o' q').mono l4)) hS4
    | lst h1 h2 => exact .inr (.inr (lists _ ⟨_, _, rfl, .of (hS3.sub _ _ h1), h2⟩ (Option.some.inj e).symm))
    | ro h1 h2 => exact .inr (.inr (lists _ ⟨_, _, rfl, hS3.lst h1, h2⟩ (Option.some.inj e).symm))
    | @loc a n h1 =>
      cases hd : deref s3 (.loc n) with
      | lst xs =>
        simp only [sliceV, hd] at e
        obtain ⟨b, vs, e1, e2, e3⟩ := hS3.list (.loc h1) hd
        exact .inr (.inr (lists xs ⟨b, vs, e1, .of e2, e3⟩ (Option.some.inj e).symm))
      | ro xs =>
        have hn : n < s3.length := by rw [hS3.len]; exact (List.getElem?_eq_some_iff.mp h1).1
        obtain ⟨o2, e2, e3⟩ := hS3.loc h1 (List.getElem?_eq_getElem hn)
        have ed : deref s3 (.loc n) = s3[n] := by simp [deref, List.getD, List.getElem?_eq_getElem hn]
        rw [ed] at hd
        rw [hd] at e3
        cases e3
      | _ => simp only [sliceV, hd] at e; cases e
    | _ => cases e
end
end Mir
/-! Mir, part H: defs, calls, classes, methods. -/
namespace Mir
open PySem PySem.Spec PyProof.Rows L2

/-! ### the end of a call -/
section
variable {K : PySem.W.Frag} {T : Tb}
/-- what a way of ending a call must bear -/
def FinOk (K : PySem.W.Frag) (T : Tb) (fin : Store → PV → Store → Res PV) : Prop :=
  ∀ (P F F' : Hp) (io io' : List Addr) (s0 s1 : Store) (H0 H' : Hp) (x : PV) (v : V) (W : Value → Option Addr → Hp → Prop) (Q : VK), RS K T P F io s0 H0 → Le F io F' io' → RS K T P F' io' s1 H' → R K T F' io' x v → Post K T P (rV K T) W F io (fin s0 x s1) Q → Q v H'
theorem finN_ok : FinOk K T finN := fun P F F' io io' s0 s1 H0 H' x v W Q _ l hS r hp => hp.ok_of l r hS
theorem take_old {io m : List Addr} : ∀ (n : Nat) (a : Addr), n < io.length → (io ++ m)[n]? = some a → io[n]? = some a := fun n a h e => by
  rw [List.getElem?_append_left h] at e; exact e
/-- the places of the call are let go: they stand as trees -/
theorem RS.drop {P F F' : Hp} {io m : List Addr} {s0 s1 : Store} {H0 H' : Hp} (h0 : RS K T P F io s0 H0) (l : ∀ a u, F a = some u → F' a = some u) (h1 : RS K T P F' (io ++ m) s1 H') (k : Kept s0.length s0 s1) :
    ∃ F'', (∀ a u, F' a = some u → F'' a = some u) ∧ (∀ a, a ∈ m → F'' a = H' a) ∧ (∀ a, a ∉ m → F'' a = F' a) ∧ RS K T P F'' io (s1.take s0.length) H' := by
  classical
  have nd := h1.nd
  rw [List.nodup_append] at nd
  obtain ⟨nd1, nd2, nd3⟩ := nd
  refine ⟨fun a => if a ∈ m then H' a else F' a, fun a u e => ?_, fun a ha => by simp [ha], fun a ha => by simp [ha], ?_⟩
  · have : a ∉ m := fun hm => by rw [h1.dis a (List.mem_append_right _ hm)] at e; cases e
    simp [this, e]
  · have fm : ∀ a u, F' a = some u → (fun a => if a ∈ m then H' a else F' a) a = some u := fun a u e => by
      have : a ∉ m := fun hm => by rw [h1.dis a (List.mem_append_right _ hm)] at e; cases e
      simp [this, e]
    refine ⟨?_, nd1, fun a u e => ?_, fun a ha => ?_, fun n c e => ?_, fun a o e => ?_⟩
    · rw [List.length_take, h1.len, h0.len]; simp
    · by_cases hm : a ∈ m
      · simpa [hm] using e
      · simp [hm] at e; exact h1.sub a u e
    · have : a ∉ m := fun hm => nd3 a ha a hm rfl
      simp [this]
      exact h1.dis a (List.mem_append_left _ ha)
    · have hn : n < s0.length := by
        have := (List.getElem?_eq_some_iff.mp e).1
        rw [List.length_take] at this; omega
      rw [List.getElem?_take_of_lt hn] at e
      obtain ⟨a, o, e1, e2, e3⟩ := h1.cell n c e
      have hz : lb s0.length c = true := by
        rcases k n hn with q | ⟨c', q1, q2⟩
        · rw [q] at e
          obtain ⟨_, _, _, _, q3⟩ := h0.cell n c e
          rw [h0.len]; exact q3.lb
        · rw [e] at q1; cases q1; exact q2
      have hi : ∀ (n : Nat) (a : Addr), n < s0.length → (io ++ m)[n]? = some a → io[n]? = some a := fun n a h => take_old n a (by rw [← h0.len]; exact h)
      refine ⟨a, o, hi n a hn e1, e2, (RO.cut hi hz e3).mono ⟨fm, [], by simp⟩⟩
    · obtain ⟨k1, k2, k3⟩ := h1.kept a o e
      have : a ∉ m := fun hm => k3 (List.mem_append_right _ hm)
      exact ⟨k1, by simp [this, k2], fun ha => k3 (List.mem_append_left _ ha)⟩
theorem finV_ok : FinOk K T finV := fun P F F' io io' s0 s1 H0 H' x v W Q h0 l h1 r hp => by
  unfold finV at hp
  split at hp
  · rename_i hk
    obtain ⟨m, rfl⟩ := l.im
    obtain ⟨F'', fm, f1, f2, hS⟩ := h0.drop l.fm h1 hk.1
    have le : Le F io F'' io := ⟨fun a u e => fm a u (l.fm a u e), [], by simp⟩
    have hi : ∀ (n : Nat) (a : Addr), n < s0.length → (io ++ m)[n]? = some a → io[n]? = some a := fun n a h => take_old n a (by rw [← h0.len]; exact h)
    have lm : Le F' io F'' io := ⟨fm, [], by simp⟩
    have plain : ∀ {x : PV}, lb s0.length x = true → R K T F' (io ++ m) x v → R K T F'' io x v := fun hz r => (R.cut hi _ _ hz r).mono lm
    cases x with
    | loc n =>
      cases r with
      | @loc a _ e =>
        simp only at hp
        split at hp
        · rename_i hn
          exact hp.ok_of le (.loc (hi n _ hn e)) hS
        · rename_i hn
          split at hp
          · rename_i c hc
            split at hp
            · rename_i hz
              obtain ⟨o, e2, e3⟩ := h1.loc e hc
              have hm : a ∈ m := by
                have hnl : ¬ n < io.length := by rw [← h0.len]; exact hn
                rw [List.getElem?_append_right (by omega)] at e
                exact List.mem_of_getElem? e
              exact hp.ok_of le (((RO.cut hi hz e3).mono lm).tree (by rw [f1 _ hm]; exact e2)) hS
            · exact hp.elim
          · exact hp.elim
    | _ =>
      simp only at hp
      split at hp
      · rename_i hz
        exact hp.ok_of le (plain hz r) hS
      · exact hp.elim
  · exact hp.elim
theorem finL_ok : FinOk K T finL := fun P F F' io io' s0 s1 H0 H' x v W Q h0 l h1 r hp => by
  classical
  unfold finL at hp
  split at hp
  · rename_i hk
    obtain ⟨m, rfl⟩ := l.im
    cases x with
    | loc n =>
      cases r with
      | @loc a _ e =>
        simp only at hp
        split at hp
        · exact hp.elim
        · rename_i hn
          split at hp
          · rename_i xs hc
            split at hp
            · rename_i hz
              obtain ⟨F'', fm, f1, f2, hS⟩ := h0.drop l.fm h1 hk.1
              obtain ⟨o, e2, e3⟩ := h1.loc e hc
              have hi : ∀ (n : Nat) (a : Addr), n < s0.length → (io ++ m)[n]? = some a → io[n]? = some a := fun n a h => take_old n a (by rw [← h0.len]; exact h)
              have hm : a ∈ m := by
                have hnl : ¬ n < io.length := by rw [← h0.len]; exact hn
                rw [List.getElem?_append_right (by omega)] at e
                exact List.mem_of_getElem? e
              have nd := h1.nd
              rw [List.nodup_append] at nd
              obtain ⟨nd1, nd2, nd3⟩ := nd
              have nio : a ∉ io := fun h => nd3 a h a hm rfl
              have fa : F' a = none := h1.dis a (List.mem_append_right _ hm)
              -- the list's own place is kept; the others are trees
              have G : ∀ b u, F' b = some u → (fun b => if b = a then none else F'' b) b = some u := fun b u hb => by
                have : b ≠ a := fun e => by subst e; rw [fa] at hb; cases hb
                simp [this, fm b u hb]
              have lm : Le F' io (fun b => if b = a then none else F'' b) (io ++ [a]) := ⟨G, [a], rfl⟩
              have le : Le F io (fun b => if b = a then none else F'' b) (io ++ [a]) := ⟨fun b u hb => G b u (l.fm b u hb), [a], rfl⟩
              have i1 : (io ++ [a])[s0.length]? = some a := by rw [h0.len]; simp
              refine hp.ok_of le (.loc i1) ⟨?_, ?_, fun b u hb => ?_, fun b hb => ?_, fun k c hc' => ?_, fun b o' hb => ?_⟩
              · have := hS.len; simp only [List.length_append, List.length_cons, List.length_nil, this]
              · rw [List.nodup_append]; exact ⟨nd1, by simp, fun b hb c hcc eqq => by simp at hcc; subst hcc; subst eqq; exact nio hb⟩
              · by_cases hba : b = a
                · simp [hba] at hb
                · simp [hba] at hb; exact hS.sub b u hb
              · by_cases hba : b = a
                · simp [hba]
                · simp [hba]
                  have : b ∈ io := by simpa [hba] using hb
                  exact hS.dis b this
              · by_cases hk' : k < s0.length
                · have hkt : k < (s1.take s0.length).length := by rw [hS.len, ← h0.len]; exact hk'
                  rw [List.getElem?_append_left hkt] at hc'
                  obtain ⟨b, o', q1, q2, q3⟩ := hS.cell k c hc'
                  refine ⟨b, o', by rw [List.getElem?_append_left (by rw [← h0.len]; exact hk')]; exact q1, q2, ?_⟩
                  have hz' : lb s0.length c = true := by rw [h0.len]; exact q3.lb
                  have e1 : s1[k]? = some c := by rw [List.getElem?_take_of_lt hk'] at hc'; exact hc'
                  obtain ⟨b2, o2, q4, q5, q6⟩ := h1.cell k c e1
                  have : b2 = b := by have := hi k b2 hk' q4; rw [q1] at this; exact (Option.some.inj this).symm
                  subst this
                  rw [q2] at q5; cases q5
                  exact (RO.cut hi hz' q6).mono lm
                · have hlen : (s1.take s0.length).length = s0.length := by rw [hS.len, ← h0.len]
                  have hk2 := (List.getElem?_eq_some_iff.mp hc').1
                  have : k = s0.length := by
                    rw [List.length_append, hlen] at hk2
                    simp at hk2; omega
                  subst this
                  rw [List.getElem?_append_right (by omega), hlen] at hc'
                  simp at hc'
                  subst hc'
                  exact ⟨a, o, i1, e2, (RO.cut hi (by simpa using hz) e3).mono lm⟩
              · obtain ⟨k1, k2, k3⟩ := h1.kept b o' hb
                obtain ⟨j1, j2, j3⟩ := hS.kept b o' hb
                refine ⟨k1, by by_cases hba : b = a <;> simp [hba, j2], fun hb' => ?_⟩
                rcases List.mem_append.mp hb' with hb' | hb'
                · exact j3 hb'
                · simp at hb'; subst hb'; exact k3 (List.mem_append_right _ hm)
            · exact hp.elim
          · exact hp.elim
    | _ => exact hp.elim
  · exact hp.elim
theorem finX_ok {P F F' : Hp} {io io' : List Addr} {s0 s1 : Store} {H0 H' : Hp} {e : PV} {cls : Value} {d : Option Addr} {rel : Hp → List Addr → PV → V → Prop} {W : Value → Option Addr → Hp → Prop} {Q : VK}
    (h0 : RS K T P F io s0 H0) (l : Le F io F' io') (h1 : RS K T P F' io' s1 H') (r : RX K T F' io' e cls d) (hp : Post K T P (rV K T) W F io (finX s0 e s1) Q) : W cls d H' := by
  unfold finX at hp
  split at hp
  · rename_i hk
    obtain ⟨m, rfl⟩ := l.im
    obtain ⟨F'', fm, f1, f2, hS⟩ := h0.drop l.fm h1 hk.1
    have le : Le F io F'' io := ⟨fun a u e => fm a u (l.fm a u e), [], by simp⟩
    have hi : ∀ (n : Nat) (a : Addr), n < s0.length → (io ++ m)[n]? = some a → io[n]? = some a := fun n a h => take_old n a (by rw [← h0.len]; exact h)
    obtain ⟨c, vs, rfl, e2, h⟩ := r
    refine hp F'' io cls d H' le ⟨c, vs, rfl, e2, fun hn => ?_⟩ hS
    obtain ⟨dd, fv, h1, h2, h3, h4⟩ := h hn
    exact ⟨dd, fv, h1, fm _ _ h2, h3, (Rs.cut hi _ _ (by simpa using hk.2.2) h4).mono ⟨fm, [], by simp⟩⟩
  · exact hp.elim
end

/-! ### what a def promises -/
def spM (K : PySem.W.Frag) (T : Tb) (n : Nat) (m : ON) : Sp := fun vs H Q E => vs.length = n ∧ ∃ P F io xs s, Rs K T F io xs vs ∧ RS K T P F io s H ∧ Post K T P (rV K T) E F io (m xs s) Q
theorem RE.start {K : PySem.W.Frag} {T : Tb} [NoGh T] {F : Hp} {io : List Addr} {N : List Str} {xs : List PV} {vs : List V} (r : Rs K T F io xs vs) : RE K T F io (xs.map some ++ List.replicate (N.length - xs.length) none) (L2.start N vs) := by
  refine ⟨by simp [L2.start, r.length], fun i x h => ?_, NoGh.free _ _ _⟩
  by_cases hi : i < xs.length
  · rw [List.getElem?_append_left (by simpa using hi), List.getElem?_map] at h
    cases e : xs[i]? with
    | none => rw [e] at h; cases h
    | some y =>
      rw [e] at h
      cases h
      obtain ⟨v, h1, h2⟩ := r.get e
      refine ⟨v, ?_, h2⟩
      unfold L2.start
      rw [List.getElem?_append_left (by simpa using (List.getElem?_eq_some_iff.mp h1).1), List.getElem?_map, h1]
      rfl
  · rw [List.getElem?_append_right (by simpa using hi), List.getElem?_replicate] at h
    split at h <;> cases h
section
variable {P : Program} {w : World} {K : PySem.W.Frag} {mg : Str → Option Value} {base : Heap} {x qual : Str} {params : Arguments} {body : List Stmt} {scope : Scope} {dvs : List V} {kws : List (Str × V)} {f : Addr} {fd : FuncData} {T : Tb}
abbrev cxB (P : Program) (w : World) (K : PySem.W.Frag) (mg : Str → Option Value) (base : Heap) (N : List Str) (qual : Str) (scope : Scope) (f : Addr) (cdv : Value) (A : Around) (outer : List PySem.Env) (s : Shared) (H : Hp) (E : XK) : Cx :=
  cxOf (L2.CX P w) P w K mg base N qual scope f cdv A outer s H E
/-- a def keeps its promise: its body does what the plain body does -/
theorem fn_ok [NoGh T] {N ps : List Str} {k n : Nat} {fin : Store → PV → Store → Res PV} {mb : SM} (F : FunD K x qual params body scope dvs kws f fd) (S : FnScope N ps scope) (hf : FinOk K T fin) (hn : n = N.length)
    (hbody : ∀ (cdv : Value) (A : Around) (outer : List PySem.Env) (s : Shared) (H : Hp) (E : XK), Room k (A.deeper (envOfC qual scope s.heap.objs.size f cdv)) →
      PSs (cxB P w K mg base N qual scope f cdv A outer s H E) body (tS K T (fun c d _ H' => E c d H') mb)) : FnOk P w K mg base (L2.CX P w) (k + 1) f fd ps (spM K T ps.length (runDef fin n mb)) := by
  subst hn
  refine F.ok S (fun vs H Q E h => h.1) fun cdv A outer s H vs Q E hr ⟨hlen, P', F', io, xs, st, rxs, hS, hp⟩ => ⟨_, hbody cdv A outer s H E hr, ?_⟩
  refine ⟨P', F', io, _, st, RE.start (N := N) rxs, hS, ?_⟩
  unfold runDef at hp
  cases hb : mb (xs.map some ++ List.replicate (N.length - xs.length) none) st with
  | ok r s1 =>
    obtain ⟨e1, fl⟩ := r
    rw [hb] at hp
    cases fl with
    | ret v => exact fun F1 io1 u H1 l1 r1 hS1 => hf P' F' F1 io io1 st s1 H H1 v u E Q hS l1 hS1 r1 hp
    | next => exact fun F1 io1 σ H1 l1 hE1 hS1 => hf P' F' F1 io io1 st s1 H H1 .non .non E Q hS l1 hS1 .non hp
    | brk => exact hp.elim
    | cont => exact hp.elim
  | exc e s1 => rw [hb] at hp; exact fun F1 io1 cls d σ H1 l1 r1 hS1 => finX_ok (rel := rV K T) hS l1 hS1 r1 hp
  | stuck => rw [hb] at hp; exact hp.elim
end

/-! ### calls -/
/-- how a call of this form binds: n by position, ks by name -/
structure CallS (K : PySem.W.Frag) (T : Tb) (fd : FuncData) (ps : List Str) (n : Nat) (ks : List Str) (gP : List PV → List PV → List PV) : Prop where
  ex : ∃ g gV, KBn K fd ps n ks g gV ∧ ∀ (F : Hp) (io : List Addr) (vs zs : List PV) (us ws : List V), Rs K T F io vs us → Rs K T F io zs ws → us.length = n → ws.length = ks.length → Rs K T F io (gP vs zs) (gV us ws) ∧ (gV us ws).length = ps.length
/-- a function of the text, as it may be called: k deep at most -/
structure FnS (P : Program) (w : World) (K : PySem.W.Frag) (mg : Str → Option Value) (base : Heap) (T : Tb) (k : Nat) (f : Addr) (n : Nat) (ks : List Str) (h : List PV → List PV → Store → Res PV) : Prop where
  ex : ∃ fd ps m gP, FnOk P w K mg base (L2.CX P w) k f fd ps (spM K T ps.length m) ∧ CallS K T fd ps n ks gP ∧ h = fun vs zs s => m (gP vs zs) s
section
variable {X : Cx} {T : Tb} {W : WX} {k n : Nat} {f C : Addr} {ks : List Str} {h : List PV → List PV → Store → Res PV} {x m : Str} {p pos apos : Pos} {e o : Expr} {es : List Expr} {kws : List Keyword} {ma mk : AM} {mo : EM}
theorem run_fnS' {fd : FuncData} {ps : List Str} {sp : Sp} {g : List Value → List Value → List Value} {gV : List V → List V → List V} {pins : List (Addr × Obj)} {σ : L2.St} {H : Hp} {s : Shared} {Q : VK} {E : XK} {us ws : List Value} {vs zs : List V}
    (F : FnOk X.prog X.w X.K X.mg X.base (L2.CX X.prog X.w) k f fd ps sp) (hr : Room k X.A) (hb : KBn X.K fd ps n ks g gV) (hx : PassesAt (L2.CX X.prog X.w) X σ E)
    (I : Inv X pins σ H s) (r : Vals vs us) (rz : Vals zs ws) (l1 : vs.length = n) (l2 : zs.length = ks.length) (h : sp (gV vs zs) H Q E) : wpAny (model X.prog X.w) X.A (call (.ref f) us (ks.zip ws)) (EP X pins σ Q) X.xe s := by
  have r2 := hb.rel r rz
  refine wpAny_call (codeAny_mono (F.run X.A X.stack s H ⟨us, ks.zip ws⟩ (g us ws) (gV vs zs) Q E hr I.env0 (hb.to s us ws I.kIn (r.length.symm.trans l1) (rz.length.symm.trans l2)) r2 h) fun r s' hq => ?_)
  cases r with
  | error e => exact hx pins H s e s' I hq
  | ok fl =>
    cases fl with
    | ret u => exact I.after hq
    | next => exact False.elim hq
    | brk => exact False.elim hq
    | cont => exact False.elim hq
/-- a call by values -/
theorem call_val {pins : List (Addr × Obj)} {σ : L2.St} {H : Hp} {s : Shared} {Q : VK} {us ws : List Value} {vs zs : List V} {P F : Hp} {io : List Addr} {xs ys : List PV} {st : Store}
    (G : FnS X.prog X.w X.K X.mg X.base T k f n ks h) (hr : Room k X.A) (tk : Takes X W) (I : Inv X pins σ H s) (r : Vals vs us) (rz : Vals zs ws) (l1 : vs.length = n) (l2 : zs.length = ks.length)
    (rx : Rs X.K T F io xs vs) (ry : Rs X.K T F io ys zs) (hS : RS X.K T P F io st H) (hp : Post X.K T P (rV X.K T) (fun c d H' => W c d σ H') F io (h xs ys st) Q) : wpAny (model X.prog X.w) X.A (call (.ref f) us (ks.zip ws)) (EP X pins σ Q) X.xe s := by
  obtain ⟨fd, ps, m, gP, F1, ⟨g, gV, kb, rel⟩, rfl⟩ := G.ex
  have r3 := rel F io xs ys vs zs rx ry l1 l2
  exact run_fnS' F1 hr kb (E := fun c d H' => W c d σ H') (passAt tk σ) I r rz l1 l2 ⟨r3.2, P, F, io, _, st, r3.1, hS, hp⟩
/-- the values of the keywords -/
theorem mk_nil : PK X [] (tL X.K T W aNil) := ⟨fun pos pins s σ H Q I ⟨P, F, io, en, st, hE, hS, hp⟩ => pk_nil.run pos pins s σ H Q I (hp.ok_of Le.refl .nil hS)⟩
theorem mk_cons {nm : Option Str} {kpos : Pos} {ma : EM} {mr : AM} (ha : PE X e (tE X.K T W ma)) (hr : PK X kws (tL X.K T W mr)) : PK X (⟨nm, e, kpos⟩ :: kws) (tL X.K T W (aCons ma mr)) := by
  refine ⟨fun pos pins s σ H Q I ⟨P, F, io, en, st, hE, hS, hp⟩ => (pk_cons ha hr).run pos pins s σ H Q I ?_⟩
  refine tE_use hE hS hp fun v H1 F1 io1 x s1 hE1 rx hS1 l1 hp1 => ?_
  refine tL_use hE1 hS1 hp1 fun vs H2 F2 io2 xs s2 hE2 rxs hS2 l2 hp2 => ?_
  exact hp2.ok_of Le.refl (.cons (rx.mono l2) rxs) hS2
theorem Post.withLen {K : PySem.W.Frag} {P F : Hp} {io : List Addr} {Wz : Value → Option Addr → Hp → Prop} {m : AM} {σ : Env} {s : Store} {n : Nat} {Q : List V → Hp → Prop} (h : Post K T P (rL K T) Wz F io (m σ s) Q) (hl : LenA m n) : Post K T P (rL K T) Wz F io (m σ s) fun vs H => vs.length = n ∧ Q vs H := by
  cases e : m σ s with
  | ok xs s1 =>
    rw [e] at h
    exact fun F1 io1 vs H1 l1 r1 hS1 => ⟨by rw [← r1.length, hl _ _ _ _ e], h F1 io1 vs H1 l1 r1 hS1⟩
  | exc x s1 => rw [e] at h; exact h
  | stuck => rw [e] at h; exact h
/-- f(e, .., k = v, ..) -/
theorem me_call (G : FnS X.prog X.w X.K X.mg X.base T k f n ks h) (hr : Room k X.A) (tk : Takes X W) (hg : Gl X x) (hm : X.mg x = some (.ref f)) (hk : PySem.W.keepIn X.K (.ref f) = true)
    (ha : PA X (e :: es) (tL X.K T W ma)) (la : LenA ma n) (hkw : PK X kws (tL X.K T W mk)) (lk : LenA mk ks.length) (hall : (backToKw pos (keywordEach kws X.env)).all (·.1.isSome) = true := by rfl) (hks : (backToKw pos (keywordEach kws X.env)).filterMap (·.1) = ks := by rfl)
    (hdb : (x == ("__debug__" : Str)) = false := by decide) (he : starEach (e :: es) X.env = (false, eval e X.env) :: starEach es X.env := by rfl)
    (hpl : ((backTo pos (starEach (e :: es) X.env)).any (·.1) || (backToKw pos (keywordEach kws X.env)).any (·.1.isNone)) = false := by rfl) : PE X (.Call (.Name x p) (e :: es) kws pos) (tE X.K T W (eCallK h ma mk)) := by
  refine ⟨fun pins s σ H Q I ⟨P, F, io, en, st, hE, hS, hp⟩ => ?_⟩
  refine wpAny_Call_Name_kw (ld_glob I hg hm ?_ hdb)
  refine PySem.W.callWith_KW (h₀ := X.base) I.ok.mod.kin hk hall (thn (ha.run pos pins s σ H _ I ⟨P, F, io, en, st, hE, hS, (Post.bind (rel := rL X.K T) hp).withLen la⟩) fun us s1 ⟨vs, H1, I1, r, l1, F1, io1, xs, st1, le1, rx, hS1, hp1⟩ => ?_) hpl he
  refine thn (hkw.run pos pins s1 σ H1 _ I1 ⟨P, F1, io1, en, st1, hE.mono le1, hS1, (Post.bind (rel := rL X.K T) hp1).withLen lk⟩) fun ws s2 ⟨zs, H2, I2, rz, l2, F2, io2, ys, st2, le2, ry, hS2, hp2⟩ => ⟨I2.kIn, ?_⟩
  rw [hks]
  exact call_val G hr tk I2 r rz l1 l2 (rx.mono le2) ry hS2 hp2
/-- f(), f(k = v, ..) -/
theorem me_call0 (G : FnS X.prog X.w X.K X.mg X.base T k f 0 ks h) (hr : Room k X.A) (tk : Takes X W) (hg : Gl X x) (hm : X.mg x = some (.ref f)) (hk : PySem.W.keepIn X.K (.ref f) = true)
    (hkw : PK X kws (tL X.K T W mk)) (lk : LenA mk ks.length) (hall : (backToKw pos (keywordEach kws X.env)).all (·.1.isSome) = true := by rfl) (hks : (backToKw pos (keywordEach kws X.env)).filterMap (·.1) = ks := by rfl)
    (hdb : (x == ("__debug__" : Str)) = false := by decide)
    (hpl : ((backTo pos (starEach [] X.env)).any (·.1) || (backToKw pos (keywordEach kws X.env)).any (·.1.isNone)) = false := by rfl) : PE X (.Call (.Name x p) [] kws pos) (tE X.K T W (eCallK h aNil mk)) := by
  refine ⟨fun pins s σ H Q I ⟨P, F, io, en, st, hE, hS, hp⟩ => ?_⟩
  refine wpAny_Call_Name_kw (ld_glob I hg hm ?_ hdb)
  refine PySem.W.callWith_KW0 (h₀ := X.base) I.ok.mod.kin hk hall ?_ hpl
  replace hp : Post X.K T P (rV X.K T) (fun c d H' => W c d σ H') F io ((mk en st).bind fun zs s2 => h [] zs s2) Q := hp
  refine thn (hkw.run pos pins s σ H _ I ⟨P, F, io, en, st, hE, hS, (Post.bind (rel := rL X.K T) hp).withLen lk⟩) fun ws s2 ⟨zs, H2, I2, rz, l2, F2, io2, ys, st2, le2, ry, hS2, hp2⟩ => ⟨I2.kIn, ?_⟩
  rw [hks]
  exact call_val (us := []) (vs := []) G hr tk I2 .nil rz rfl l2 .nil ry hS2 hp2

/-! ### a new instance -/
theorem Post.eq {K : PySem.W.Frag} {P F : Hp} {io : List Addr} {α β : Type} {rel : Hp → List Addr → α → β → Prop} {Wz : Value → Option Addr → Hp → Prop} {r r' : Res α} {Q : β → Hp → Prop} (h : Post K T P rel Wz F io r Q) (e : r = r') : Post K T P rel Wz F io r' Q := e ▸ h
theorem RS.other {K : PySem.W.Frag} {P F : Hp} {io : List Addr} {s : Store} {H : Hp} (r : RS K T P F io s H) {p : Addr} {o : HO} (hp : H p = none) : RS K T P F io s (upd H p o) := by
  refine ⟨r.len, r.nd, fun a u h => ?_, r.dis, fun n c h => ?_, fun a u h => ?_⟩
  · have := r.sub a u h
    rw [upd_ne (ne_of_none this hp)]; exact this
  · obtain ⟨a, o', e1, e2, e3⟩ := r.cell n c h
    exact ⟨a, o', e1, by rw [upd_ne (ne_of_none e2 hp)]; exact e2, e3⟩
  · obtain ⟨h1, h2, h3⟩ := r.kept a u h
    exact ⟨by rw [upd_ne (ne_of_none h1 hp)]; exact h1, h2, h3⟩
theorem new_val {c : Nat} {fin : Store → PV → Store → Res PV} (hfin : FinOk X.K T fin) {pins : List (Addr × Obj)} {σ : L2.St} {H : Hp} {s : Shared} {Q : VK} {us ws : List Value} {vs zs : List V} {P F : Hp} {io : List Addr} {xs ys : List PV} {st : Store}
    (M : Mk X.K (T.ca c) f) (G : FnS X.prog X.w X.K X.mg X.base T k f (n + 1) ks h) (hr : Room (k + 1) X.A) (tk : Takes X W) (I : Inv X pins σ H s) (r : Vals vs us) (rz : Vals zs ws) (l1 : vs.length = n) (l2 : zs.length = ks.length)
    (rx : Rs X.K T F io xs vs) (ry : Rs X.K T F io ys zs) (hS : RS X.K T P F io st H) (hp : Post X.K T P (rV X.K T) (fun c d H' => W c d σ H') F io (newOf c fin h xs ys st) Q) : wpAny (model X.prog X.w) X.A (call (.ref (T.ca c)) us (ks.zip ws)) (EP X pins σ Q) X.xe s := by
  obtain ⟨fd, ps, m, gP, F1, ⟨g, gV, kb, rel⟩, rfl⟩ := G.ex
  have n1 : H s.heap.objs.size = none := I.hok.fresh (Nat.le_refl _)
  have n2 : H (s.heap.objs.size + 1) = none := I.hok.fresh (Nat.le_succ _)
  have ne : s.heap.objs.size ≠ s.heap.objs.size + 1 := Nat.ne_of_lt (Nat.lt_succ_self _)
  have I2 := Inv.made (C := T.ca c) I
  have hS1 : RS X.K T P F io st (upd H s.heap.objs.size (.own (s.heap.objs.size + 1))) := hS.other n1
  obtain ⟨le, hS2⟩ := hS1.push (p := s.heap.objs.size + 1) (o := .ins (T.ca c) s.heap.objs.size []) (c := .ins c []) (by rw [upd_ne (Ne.symm ne)]; exact n2) (.ins (by simp) .nil)
  have rloc : R X.K T F (io ++ [s.heap.objs.size + 1]) (.loc st.length) (.ref (s.heap.objs.size + 1)) := .loc (by rw [hS.len]; simp)
  have r1 : Vals (V.ref (s.heap.objs.size + 1) :: vs) (Value.ref (s.heap.objs.size + 1) :: us) := .cons rfl r
  have r2 := kb.rel r1 rz
  have r3 := rel F (io ++ [s.heap.objs.size + 1]) (.loc st.length :: xs) ys _ zs (.cons rloc (rx.mono le)) (ry.mono le) (by simp [l1]) l2
  have hin : Post X.K T P (rV X.K T) (fun c d H' => W c d σ H') F (io ++ [s.heap.objs.size + 1]) (m (gP (.loc st.length :: xs) ys) (st ++ [.ins c []])) fun v H2 => v = .non ∧ Q (.ref (s.heap.objs.size + 1)) H2 := by
    unfold newOf at hp
    cases hm : m (gP (.loc st.length :: xs) ys) (st ++ [.ins c []]) with
    | ok z s1 =>
      simp only [hm] at hp
      intro F2 io2 v H2 l2' rz2 hS2'
      cases z with
      | non =>
        cases rz2
        exact ⟨rfl, hfin P F F2 io io2 st s1 H H2 _ _ _ Q hS (le.trans l2') hS2' (rloc.mono l2') hp⟩
      | _ => exact hp.elim
    | exc e s1 =>
      simp only [hm] at hp
      intro F2 io2 cls d H2 l2' rx2 hS2'
      exact finX_ok (rel := rV X.K T) hS (le.trans l2') hS2' rx2 hp
    | stuck => simp only [hm] at hp; exact hp.elim
  refine wpAny_call (make_map (f := f) I.kIn M.makes M.init (beq_iff_eq.mp M.fn) (codeAny_mono (F1.run _ X.stack _ _ ⟨Value.ref (s.heap.objs.size + 1) :: us, ks.zip ws⟩ (g (Value.ref (s.heap.objs.size + 1) :: us) ws) _ _ (fun c d H' => W c d σ H') (hr.make (T.ca c) us (ks.zip ws))
    (I2.env0.make (T.ca c) us (ks.zip ws)) (kb.to _ (Value.ref (s.heap.objs.size + 1) :: us) ws I2.kIn (by rw [List.length_cons, ← r.length, l1]) (rz.length.symm.trans l2)) r2 ⟨r3.2, P, F, _, _, _, r3.1, hS2, hin⟩) fun r s' hq' => ?_))
  cases r with
  | error e => exact passAt tk σ pins _ _ e s' I2 hq'
  | ok fl =>
    cases fl with
    | ret u =>
      obtain ⟨v, H', I3, rv, ev, q3⟩ := I2.after hq'
      subst ev
      exact ⟨rv, ⟨V.ref (s.heap.objs.size + 1), H', I3, rfl, q3⟩⟩
    | next => exact False.elim hq'
    | brk => exact False.elim hq'
    | cont => exact False.elim hq'
theorem me_new {c : Nat} {fin : Store → PV → Store → Res PV} (hfin : FinOk X.K T fin) (M : Mk X.K (T.ca c) f) (G : FnS X.prog X.w X.K X.mg X.base T k f (n + 1) ks h) (hr : Room (k + 1) X.A) (tk : Takes X W) (hg : Gl X x) (hm : X.mg x = some (.ref (T.ca c)))
    (ha : PA X (e :: es) (tL X.K T W ma)) (la : LenA ma n) (hkw : PK X kws (tL X.K T W mk)) (lk : LenA mk ks.length) (hall : (backToKw pos (keywordEach kws X.env)).all (·.1.isSome) = true := by rfl) (hks : (backToKw pos (keywordEach kws X.env)).filterMap (·.1) = ks := by rfl)
    (hdb : (x == ("__debug__" : Str)) = false := by decide) (he : starEach (e :: es) X.env = (false, eval e X.env) :: starEach es X.env := by rfl)
    (hpl : ((backTo pos (starEach (e :: es) X.env)).any (·.1) || (backToKw pos (keywordEach kws X.env)).any (·.1.isNone)) = false := by rfl) : PE X (.Call (.Name x p) (e :: es) kws pos) (tE X.K T W (eCallK (newOf c fin h) ma mk)) := by
  refine ⟨fun pins s σ H Q I ⟨P, F, io, en, st, hE, hS, hp⟩ => ?_⟩
  refine wpAny_Call_Name_kw (ld_glob I hg hm ?_ hdb)
  refine PySem.W.callWith_KW (h₀ := X.base) I.ok.mod.kin M.kp hall (thn (ha.run pos pins s σ H _ I ⟨P, F, io, en, st, hE, hS, (Post.bind (rel := rL X.K T) hp).withLen la⟩) fun us s1 ⟨vs, H1, I1, r, l1, F1, io1, xs, st1, le1, rx, hS1, hp1⟩ => ?_) hpl he
  refine thn (hkw.run pos pins s1 σ H1 _ I1 ⟨P, F1, io1, en, st1, hE.mono le1, hS1, (Post.bind (rel := rL X.K T) hp1).withLen lk⟩) fun ws s2 ⟨zs, H2, I2, rz, l2, F2, io2, ys, st2, le2, ry, hS2, hp2⟩ => ⟨I2.kIn, ?_⟩
  rw [hks]
  exact new_val hfin M G hr tk I2 r rz l1 l2 (rx.mono le2) ry hS2 hp2
theorem me_new0 {c : Nat} {fin : Store → PV → Store → Res PV} (hfin : FinOk X.K T fin) (M : Mk X.K (T.ca c) f) (G : FnS X.prog X.w X.K X.mg X.base T k f 1 ks h) (hr : Room (k + 1) X.A) (tk : Takes X W) (hg : Gl X x) (hm : X.mg x = some (.ref (T.ca c)))
    (hkw : PK X kws (tL X.K T W mk)) (lk : LenA mk ks.length) (hall : (backToKw pos (keywordEach kws X.env)).all (·.1.isSome) = true := by rfl) (hks : (backToKw pos (keywordEach kws X.env)).filterMap (·.1) = ks := by rfl)
    (hdb : (x == ("__debug__" : Str)) = false := by decide)
    (hpl : ((backTo pos (starEach [] X.env)).any (·.1) || (backToKw pos (keywordEach kws X.env)).any (·.1.isNone)) = false := by rfl) : PE X (.Call (.Name x p) [] kws pos) (tE X.K T W (eCallK (newOf c fin h) aNil mk)) := by
  refine ⟨fun pins s σ H Q I ⟨P, F, io, en, st, hE, hS, hp⟩ => ?_⟩
  refine wpAny_Call_Name_kw (ld_glob I hg hm ?_ hdb)
  refine PySem.W.callWith_KW0 (h₀ := X.base) I.ok.mod.kin M.kp hall ?_ hpl
  replace hp : Post X.K T P (rV X.K T) (fun c d H' => W c d σ H') F io ((mk en st).bind fun zs s2 => newOf c fin h [] zs s2) Q := hp
  refine thn (hkw.run pos pins s σ H _ I ⟨P, F, io, en, st, hE, hS, (Post.bind (rel := rL X.K T) hp).withLen lk⟩) fun ws s2 ⟨zs, H2, I2, rz, l2, F2, io2, ys, st2, le2, ry, hS2, hp2⟩ => ⟨I2.kIn, ?_⟩
  rw [hks]
  exact new_val (us := []) (vs := []) hfin M G hr tk I2 .nil rz rfl l2 .nil ry hS2 hp2

/-! ### a method's call -/
/-- the instance behind a value -/
theorem RS.inst {K : PySem.W.Frag} {P F : Hp} {io : List Addr} {s : Store} {H : Hp} {x : PV} {v : V} {c : Nat} {vs : List PV} (hS : RS K T P F io s H) (r : R K T F io x v) (e : deref s x = .ins c vs) :
    ∃ a dx fv, v = .ref a ∧ H a = some (.ins (T.ca c) dx fv) ∧ fv.map (·.1) = (T.fl c).take vs.length ∧ Rs K T F io vs (fv.map (·.2)) := by
  cases r with
  | ins h1 h2 h3 => cases e; exact ⟨_, _, _, rfl, hS.sub _ _ h1, h2, h3⟩
  | @loc a n h1 =>
    have hn : n < s.length := by rw [hS.len]; exact (List.getElem?_eq_some_iff.mp h1).1
    have ed : deref s (.loc n) = s[n] := by simp [deref, List.getD, List.getElem?_eq_getElem hn]
    obtain ⟨o, e2, e3⟩ := hS.loc h1 (List.getElem?_eq_getElem hn)
    rw [ed] at e
    rw [e] at e3
    cases e3 with
    | ins q1 q2 => exact ⟨_, _, _, rfl, e2, q1, q2⟩
  | _ => cases e
theorem lookup_none {fv : List (Str × V)} {m : Str} (h : m ∉ fv.map (·.1)) : fv.lookup m = none := by
  induction fv with
  | nil => rfl
  | cons a r ih =>
    obtain ⟨b, v⟩ := a
    simp only [List.map_cons, List.mem_cons, not_or] at h
    rw [List.lookup_cons, beq_eq_false_iff_ne.mpr h.1]
    exact ih h.2
theorem lookup_at {m : Str} {v : V} : ∀ {fv : List (Str × V)} {i : Nat}, (fv.map (·.1)).Nodup → (fv.map (·.1))[i]? = some m → (fv.map (·.2))[i]? = some v → fv.lookup m = some v
  | [], _, _, h, _ => by simp at h
  | (b, u) :: r, 0, _, h1, h2 => by
    simp at h1 h2; subst h1; subst h2
    simp [List.lookup_cons]
  | (b, u) :: r, i + 1, nd, h1, h2 => by
    simp only [List.map_cons, List.nodup_cons] at nd
    have h1' : (r.map (·.1))[i]? = some m := by simpa using h1
    have hm : m ∈ r.map (·.1) := List.mem_of_getElem? h1'
    have hb : (m == b) = false := beq_eq_false_iff_ne.mpr fun e => nd.1 (e ▸ hm)
    rw [List.lookup_cons, hb]
    exact lookup_at nd.2 h1' (by simpa using h2)
/-- what a class must have for the call of its method m: no field has this name -/
structure MthS (P : Program) (w : World) (K : PySem.W.Frag) (mg : Str → Option Value) (base : Heap) (T : Tb) (k : Nat) (c : Nat) (m : Str) (n : Nat) (ks : List Str) (h : List PV → List PV → Store → Res PV) : Prop where
  ex : ∃ f, Cls K (T.ca c) ∧ Meth K (T.ca c) m f ∧ m ∉ T.fl c ∧ FnS P w K mg base T k f (n + 1) ks h
theorem lookup_mem {α : Type} {tab : List (Nat × α)} {c : Nat} {h : α} (e : tab.lookup c = some h) : (c, h) ∈ tab := by
  induction tab with
  | nil => cases e
  | cons a r ih =>
    obtain ⟨b, u⟩ := a
    rw [List.lookup_cons] at e
    cases hb : c == b with
    | true => rw [hb] at e; cases e; rw [beq_iff_eq.mp hb]; exact List.mem_cons_self ..
    | false => rw [hb] at e; exact List.mem_cons_of_mem _ (ih e)
theorem eMeth_use {K : PySem.W.Frag} {P F : Hp} {io : List Addr} {s : Store} {H : Hp} {x : PV} {v : V} {c : Nat} (hS : RS K T P F io s H) (r : R K T F io x v) (e : clsOf s x = some c) : ∃ a dx fv, v = .ref a ∧ H a = some (.ins (T.ca c) dx fv) ∧ ∀ m, m ∉ T.fl c → fv.lookup m = none := by
  unfold clsOf at e
  cases hd : deref s x with
  | ins d vs =>
    rw [hd] at e; cases e
    obtain ⟨a, dx, fv, e1, e2, e3, _⟩ := hS.inst r hd
    exact ⟨a, dx, fv, e1, e2, fun m hm => lookup_none (by rw [e3]; exact fun q => hm (List.mem_of_mem_take q))⟩
  | _ => rw [hd] at e; cases e
section
variable {tab : List (Nat × (List PV → List PV → Store → Res PV))} {pl : Sem Bool}
/-- o.m(e, .., k = v) -/
theorem me_meth (ho : PE X o (tE X.K T W mo)) (G : ∀ q ∈ tab, MthS X.prog X.w X.K X.mg X.base T k q.1 m n ks q.2) (hr : Room k X.A) (tk : Takes X W)
    (ha : PA X (e :: es) (tL X.K T W ma)) (la : LenA ma n) (hkw : PK X kws (tL X.K T W mk)) (lk : LenA mk ks.length) (hall : (backToKw pos (keywordEach kws X.env)).all (·.1.isSome) = true := by rfl) (hks : (backToKw pos (keywordEach kws X.env)).filterMap (·.1) = ks := by rfl)
    (he : starEach (e :: es) X.env = (false, eval e X.env) :: starEach es X.env := by rfl)
    (hpl : ((backTo pos (starEach (e :: es) X.env)).any (·.1) || (backToKw pos (keywordEach kws X.env)).any (·.1.isNone)) = false := by rfl)
    (ht : eval (.Call (.Attribute o m apos) (e :: es) kws pos) X.env = (do
      let ov ← eval o X.env
      standAt apos.atName
      let (f, first) ← holding [ov] (getMethod ov m pl)
      callWith pos f first (backTo pos (starEach (e :: es) X.env)) (backToKw pos (keywordEach kws X.env))) := by rfl) :
    PE X (.Call (.Attribute o m apos) (e :: es) kws pos) (tE X.K T W (eMeth tab mo ma mk)) := by
  refine ⟨fun pins s σ H Q I ⟨P, F, io, en, st, hE, hS, hp⟩ => ?_⟩
  refine PySem.W.methodCall_KW (pl := pl) (thn (ho.run pins s σ H _ I ⟨P, F, io, en, st, hE, hS, Post.bind (rel := rV X.K T) hp⟩) fun u s1 ⟨v, H1, I1, rv, F1, io1, x, st1, l1, rx, hS1, hp1⟩ => ?_) ht
  cases hc : (clsOf st1 x).bind fun c => tab.lookup c with
  | none => exfalso; simp only [hc] at hp1; exact hp1
  | some h =>
    simp only [hc] at hp1
    obtain ⟨c, hc1, hc2⟩ := Option.bind_eq_some_iff.mp hc
    obtain ⟨f, cl, mt, hm, hf⟩ := (G _ (lookup_mem hc2)).ex
    obtain ⟨a, dx, fv, rfl, e2, e3⟩ := eMeth_use hS1 rx hc1
    obtain rfl : u = Value.ref a := rv
    refine getmeth_ok I1 e2 cl mt (e3 m hm) ?_
    refine PySem.W.callWith_KW (first := [.ref a]) (h₀ := X.base) I1.ok.mod.kin mt.kp hall (thn (ha.run pos pins s1 σ H1 _ I1 ⟨P, F1, io1, en, st1, hE.mono l1, hS1, (Post.bind (rel := rL X.K T) hp1).withLen la⟩) fun us s2 ⟨vs, H2, I2, r, ln, F2, io2, xs, st2, l2, rx2, hS2, hp2⟩ => ?_) hpl he
    refine thn (hkw.run pos pins s2 σ H2 _ I2 ⟨P, F2, io2, en, st2, (hE.mono l1).mono l2, hS2, (Post.bind (rel := rL X.K T) hp2).withLen lk⟩) fun ws s3 ⟨zs, H3, I3, rz, lz, F3, io3, ys, st3, l3, ry, hS3, hp3⟩ => ⟨I3.kIn, ?_⟩
    rw [hks]
    exact call_val (us := .ref a :: us) (vs := .ref a :: vs) hf hr tk I3 (.cons rfl r) rz (by simp [ln]) lz (.cons ((rx.mono l2).mono l3) (rx2.mono l3)) ry hS3 hp3
/-- o.m(), o.m(k = v) -/
theorem me_meth0 (ho : PE X o (tE X.K T W mo)) (G : ∀ q ∈ tab, MthS X.prog X.w X.K X.mg X.base T k q.1 m 0 ks q.2) (hr : Room k X.A) (tk : Takes X W)
    (hkw : PK X kws (tL X.K T W mk)) (lk : LenA mk ks.length) (hall : (backToKw pos (keywordEach kws X.env)).all (·.1.isSome) = true := by rfl) (hks : (backToKw pos (keywordEach kws X.env)).filterMap (·.1) = ks := by rfl)
    (hpl : ((backTo pos (starEach [] X.env)).any (·.1) || (backToKw pos (keywordEach kws X.env)).any (·.1.isNone)) = false := by rfl)
    (ht : eval (.Call (.Attribute o m apos) [] kws pos) X.env = (do
      let ov ← eval o X.env
      standAt apos.atName
      let (f, first) ← holding [ov] (getMethod ov m pl)
      callWith pos f first (backTo pos (starEach [] X.env)) (backToKw pos (keywordEach kws X.env))) := by rfl) :
    PE X (.Call (.Attribute o m apos) [] kws pos) (tE X.K T W (eMeth tab mo aNil mk)) := by
  refine ⟨fun pins s σ H Q I ⟨P, F, io, en, st, hE, hS, hp⟩ => ?_⟩
  refine PySem.W.methodCall_KW (pl := pl) (thn (ho.run pins s σ H _ I ⟨P, F, io, en, st, hE, hS, Post.bind (rel := rV X.K T) hp⟩) fun u s1 ⟨v, H1, I1, rv, F1, io1, x, st1, l1, rx, hS1, hp1⟩ => ?_) ht
  cases hc : (clsOf st1 x).bind fun c => tab.lookup c with
  | none => exfalso; simp only [hc] at hp1; exact hp1
  | some h =>
    simp only [hc] at hp1
    obtain ⟨c, hc1, hc2⟩ := Option.bind_eq_some_iff.mp hc
    obtain ⟨f, cl, mt, hm, hf⟩ := (G _ (lookup_mem hc2)).ex
    obtain ⟨a, dx, fv, rfl, e2, e3⟩ := eMeth_use hS1 rx hc1
    obtain rfl : u = Value.ref a := rv
    refine getmeth_ok I1 e2 cl mt (e3 m hm) ?_
    replace hp1 : Post X.K T P (rV X.K T) (fun c d H' => W c d σ H') F1 io1 ((mk en st1).bind fun zs s3 => h [x] zs s3) Q := hp1
    refine PySem.W.callWith_KW0 (first := [.ref a]) (h₀ := X.base) I1.ok.mod.kin mt.kp hall ?_ hpl
    refine thn (hkw.run pos pins s1 σ H1 _ I1 ⟨P, F1, io1, en, st1, hE.mono l1, hS1, (Post.bind (rel := rL X.K T) hp1).withLen lk⟩) fun ws s3 ⟨zs, H3, I3, rz, lz, F3, io3, ys, st3, l3, ry, hS3, hp3⟩ => ⟨I3.kIn, ?_⟩
    rw [hks]
    exact call_val (us := [.ref a]) (vs := [.ref a]) hf hr tk I3 (.cons rfl .nil) rz rfl lz (.cons (rx.mono l3) .nil) ry hS3 hp3
end
end
end Mir
/-! Mir, part I: attributes, items, list methods, built-ins. -/
namespace Mir
open PySem PySem.Spec PyProof.Rows L2

/-! ### attributes -/
/-- a class whose field stands at the place i -/
structure FldS (K : PySem.W.Frag) (T : Tb) (f : Str) (c i : Nat) : Prop where
  cl : Cls K (T.ca c)
  no : NoAttr K (T.ca c) f
  at_ : (T.fl c)[i]? = some f
  nd : (T.fl c).Nodup
  few : (T.fl c).length ≤ 40
section
variable {X : Cx} {T : Tb} {W : WX} {o e value : Expr} {es : List Expr} {f x : Str} {pos pos' : Pos} {mo mv : EM} {ma : AM} {tab : List (Nat × Nat)}
theorem fld_take {l : List Str} {n i : Nat} {f : Str} (h : l[i]? = some f) (hi : i < n) : (l.take n)[i]? = some f := by
  rw [List.getElem?_take_of_lt hi]; exact h
/-- o.f -/
theorem me_fld (ho : PE X o (tE X.K T W mo)) (G : ∀ q ∈ tab, FldS X.K T f q.1 q.2) (hb : attributeBase o f X.env (eval o X.env) = eval o X.env := by rfl) : PE X (.Attribute o f pos) (tE X.K T W (eFld tab mo)) := by
  refine PE.weak (pe_fld ho hb) fun σ H Q ⟨P, F, io, en, st, hE, hS, hp⟩ => ?_
  refine tE_use hE hS hp fun v H1 F1 io1 x s1 hE1 rx hS1 l1 hp1 => ?_
  cases hd : deref s1 x with
  | ins c vs =>
    simp only [hd] at hp1
    cases hl : tab.lookup c with
    | none => simp only [hl] at hp1; exact hp1.elim
    | some i =>
      simp only [hl] at hp1
      have g := G _ (lookup_mem hl)
      obtain ⟨a, dx, fv, rfl, e2, e3, r4⟩ := hS1.inst rx hd
      cases hv : vs[i]? with
      | none => rw [hv] at hp1; exact hp1.elim
      | some y =>
        rw [hv] at hp1
        obtain ⟨u, hu, ru⟩ := r4.get hv
        have hi : i < vs.length := (List.getElem?_eq_some_iff.mp hv).1
        refine ⟨a, T.ca c, dx, fv, u, rfl, e2, g.cl, g.no, lookup_at ?_ ?_ hu, hp1.ok_of Le.refl ru hS1⟩
        · rw [e3]; exact g.nd.sublist (List.take_sublist _ _)
        · rw [e3]; exact fld_take g.at_ hi
  | _ => simp only [hd] at hp1; exact hp1.elim
theorem putF_at {f : Str} {v : V} : ∀ {fs : List (Str × V)} {i : Nat}, (fs.map (·.1)).Nodup → (fs.map (·.1))[i]? = some f → (L2.putF f v fs).map (·.1) = fs.map (·.1) ∧ (L2.putF f v fs).map (·.2) = (fs.map (·.2)).set i v
  | [], _, _, h => by simp at h
  | (g, u) :: r, 0, nd, h => by
    simp at h; subst h; simp [L2.putF]
  | (g, u) :: r, i + 1, nd, h => by
    simp only [List.map_cons, List.nodup_cons] at nd
    have h' : (r.map (·.1))[i]? = some f := by simpa using h
    have hg : g ≠ f := fun e => nd.1 (e ▸ List.mem_of_getElem? h')
    obtain ⟨e1, e2⟩ := putF_at (v := v) nd.2 h'
    simp [L2.putF, hg, e1, e2]
theorem putF_new {f : Str} {v : V} : ∀ {fs : List (Str × V)}, f ∉ fs.map (·.1) → L2.putF f v fs = fs ++ [(f, v)]
  | [], _ => rfl
  | (g, u) :: r, h => by
    simp only [List.map_cons, List.mem_cons, not_or] at h
    have hg : g ≠ f := fun e => h.1 e.symm
    simp [L2.putF, hg, putF_new h.2]
theorem take_notin {l : List Str} {f : Str} {i : Nat} (nd : l.Nodup) (h : l[i]? = some f) : f ∉ l.take i := fun m => by
  obtain ⟨j, hj⟩ := List.mem_iff_getElem?.mp m
  rw [List.getElem?_take] at hj
  split at hj
  · rename_i hji
    have h1 := (List.getElem?_eq_some_iff.mp hj)
    have h2 := (List.getElem?_eq_some_iff.mp h)
    obtain ⟨a1, b1⟩ := h1
    obtain ⟨a2, b2⟩ := h2
    exact absurd (b1.trans b2.symm) (List.pairwise_iff_getElem.mp nd j i a1 a2 hji)
  · cases hj
/-- o.f = e -/
theorem ms_fld (ho : PE X o (tE X.K T W mo)) (hv : PE X value (tE X.K T W mv)) (G : ∀ q ∈ tab, FldS X.K T f q.1 q.2) (hs : swapsWith value (some (.Attribute o f pos')) pos.line X.env = pure false := by rfl) :
    PS X (.Assign [.Attribute o f pos'] value pos) (tS X.K T W (sSetF tab mo mv)) := by
  refine PS.weak (ps_fld ho hv hs) fun D σ H ⟨P, F, io, en, st, hE, hS, hp⟩ => ?_
  refine ⟨P, F, io, en, st, hE, hS, ?_⟩
  refine Post.mono (PostS.bind (rel := rV X.K T) hp) fun v H1 ⟨F1, io1, y, s1, l1, ry, hS1, hp1⟩ => ?_
  refine ⟨P, F1, io1, en, s1, hE.mono l1, hS1, ?_⟩
  refine Post.mono (PostS.bind (rel := rV X.K T) hp1) fun v2 H2 ⟨F2, io2, x, s2, l2, rx, hS2, hp2⟩ => ?_
  cases x with
  | loc n =>
    simp only at hp2
    cases hc : s2[n]? with
    | none => simp only [hc] at hp2; exact hp2.elim
    | some c0 =>
      simp only [hc] at hp2
      cases c0 with
      | ins c vs =>
        simp only at hp2
        cases hl : tab.lookup c with
        | none => simp only [hl] at hp2; exact hp2.elim
        | some i =>
          simp only [hl] at hp2
          have g := G _ (lookup_mem hl)
          cases rx with
          | @loc a _ hi =>
            obtain ⟨o2, e2, e3⟩ := hS2.loc hi hc
            cases e3 with
            | @ins dx _ _ fv q1 q2 =>
              have few : fv.length < 1000 := by
                have : fv.length = (fv.map (·.1)).length := by simp
                rw [this, q1, List.length_take]; have : (T.fl c).length ≤ 40 := g.few; omega
              refine ⟨a, T.ca c, dx, fv, rfl, e2, g.cl, g.no, few, ?_⟩
              cases hp3 : putF i y vs with
              | none => simp only [hp3] at hp2; exact hp2.elim
              | some vs' =>
                simp only [hp3] at hp2
                have ry2 := ry.mono l2
                have lenv : vs.length = fv.length := by have := q2.length; simpa using this
                have key : RO X.K T F2 io2 (.ins c vs') (.ins (T.ca c) dx (L2.putF f v fv)) := by
                  unfold putF at hp3
                  split at hp3
                  · rename_i hlt
                    cases hp3
                    obtain ⟨k1, k2⟩ := putF_at (f := f) (v := v) (fs := fv) (i := i) (by rw [q1]; exact g.nd.sublist (List.take_sublist _ _)) (by rw [q1]; exact fld_take g.at_ hlt)
                    exact .ins (by rw [k1, q1, List.length_set]) (by rw [k2]; exact q2.set ry2 i)
                  · split at hp3
                    · rename_i hlt heq
                      cases hp3
                      subst heq
                      have hn : f ∉ fv.map (·.1) := by rw [q1]; exact take_notin g.nd g.at_
                      rw [putF_new hn]
                      refine .ins ?_ ?_
                      · rw [List.map_append, q1, List.length_append]
                        simp only [List.length_cons, List.length_nil, List.map_cons, List.map_nil]
                        rw [List.take_add_one, g.at_]; rfl
                      · rw [List.map_append]; exact q2.append (.cons ry2 .nil)
                    · cases hp3
                exact hp2 F2 io2 σ _ Le.refl ((hE.mono l1).mono l2) (hS2.put hi key)
      | _ => exact hp2.elim
  | _ => exact hp2.elim

/-! ### xs[i] = e -/
variable {i : Expr} {mi : EM}
theorem ms_setI (hv : PE X value (tE X.K T W mv)) (ho : PE X o (tE X.K T W mo)) (hi : PE X i (tE X.K T W mi))
    (ha : ∀ v, assign (.Subscript o i pos') X.env v = (do
      let ov ← holding [v] (eval o X.env)
      let iv ← holding [v, ov] (eval i X.env)
      standAt pos'
      holding [v, ov, iv] (setItem ov iv v)
      release [v, ov, iv] []) := by intro _; rfl)
    (hs : swapsWithSole [.Subscript o i pos'] value pos.line X.env = pure false := by rfl) (hw : swappedStores [.Subscript o i pos'] value X.env = pure none := by rfl)
    (h1 : (assignEach [.Subscript o i pos'] X.env).map (·.2) = [assign (.Subscript o i pos') X.env] := by rfl) : PS X (.Assign [.Subscript o i pos'] value pos) (tS X.K T W (sSetI mo mi mv)) := by
  refine PS.weak (ps_asg hv (pg_sub ho hi set_list ha) hs hw h1) fun D σ H ⟨P, F, io, en, st, hE, hS, hp⟩ => ?_
  refine ⟨P, F, io, en, st, hE, hS, ?_⟩
  refine Post.mono (PostS.bind (rel := rV X.K T) hp) fun v H1 ⟨F1, io1, y, s1, l1, ry, hS1, hp1⟩ => ?_
  refine ⟨P, F1, io1, en, s1, hE.mono l1, hS1, ?_⟩
  refine Post.mono (PostS.bind (rel := rV X.K T) hp1) fun v2 H2 ⟨F2, io2, x, s2, l2, rx, hS2, hp2⟩ => ?_
  refine ⟨P, F2, io2, en, s2, (hE.mono l1).mono l2, hS2, ?_⟩
  refine Post.mono (PostS.bind (rel := rV X.K T) hp2) fun v3 H3 ⟨F3, io3, k, s3, l3, rk, hS3, hp3⟩ => ?_
  have rx3 := rx.mono l3
  cases x with
  | loc n =>
    cases k with
    | int j =>
      cases rk
      simp only at hp3
      cases hc : s3[n]? with
      | none => simp only [hc] at hp3; exact hp3.elim
      | some c0 =>
        simp only [hc] at hp3
        cases c0 with
        | lst xs =>
          simp only at hp3
          cases hm : ixP xs.length j with
          | none => simp only [hm] at hp3; exact hp3.elim
          | some m =>
            simp only [hm] at hp3
            cases rx3 with
            | @loc a _ hi =>
              obtain ⟨o2, e2, e3⟩ := hS3.loc hi hc
              cases e3 with
              | @lst _ us q =>
                refine ⟨a, us, j, m, rfl, rfl, e2, by rw [← q.length]; exact hm, ?_⟩
                exact hp3 F3 io3 σ _ Le.refl (((hE.mono l1).mono l2).mono l3) (hS3.put hi (.lst (q.set ((ry.mono l2).mono l3) m)))
        | _ => exact hp3.elim
    | _ => exact hp3.elim
  | _ => exact hp3.elim

/-! ### methods of a list -/
theorem me_mt {f : OMt} {name : Str} {id : String} {r : V → List V → Hp → VK → Prop} {apos cpos : Pos} (slot : Slot "list" name id) (hty : typeOf (.builtin id) = pure (.type "method_descriptor")) (hm : MtR X id r)
    (hw : ∀ P F io st x v vs us H Q, R X.K T F io x v → Rs X.K T F io vs us → RS X.K T P F io st H → Post X.K T P (rV X.K T) (fun _ _ _ => False) F io (noX (f x vs st)) Q → r v us H Q)
    (ho : PE X o (tE X.K T W mo)) (ha : PA X (e :: es) (tL X.K T W ma))
    (hbase : attributeBase o name X.env (eval o X.env) = eval o X.env := by rfl)
    (hfew : ((backTo cpos (starEach (e :: es) X.env)).all (fun x => !x.1) && (backToKw cpos (keywordEach [] X.env)).all (fun x => x.1.isSome)
      && decide ((e :: es).length + ([] : List Keyword).length + (if ([] : List Keyword).isEmpty then 0 else 1) < 30)) = true := by rfl)
    (hline : (apos.endLine == cpos.line) = true := by rfl) (hs : starEach (e :: es) X.env = (false, eval e X.env) :: starEach es X.env := by rfl) (hplain : (backTo cpos (starEach es X.env)).any (·.1) = false := by rfl) :
    PE X (.Call (.Attribute o name apos) (e :: es) [] cpos) (tE X.K T W (eMt f mo ma)) := by
  refine PE.weak (pe_bm F.plainAttrs_list slot hty hm ho ha hbase hfew hline hs hplain) fun σ H Q ⟨P, F, io, en, st, hE, hS, hp⟩ => ?_
  refine tE_use hE hS hp fun v H1 F1 io1 x s1 hE1 rx hS1 l1 hp1 => ?_
  cases hl : isL s1 x with
  | false => simp only [hl] at hp1; exact hp1.elim
  | true =>
    simp only [hl, if_true] at hp1
    have hd : ∃ xs, deref s1 x = .lst xs := by
      unfold isL at hl
      split at hl
      · rename_i xs e; exact ⟨xs, e⟩
      · cases hl
    obtain ⟨xs, hd⟩ := hd
    obtain ⟨a, vs, rfl, hq, _⟩ := hS1.list rx hd
    refine ⟨.inl ⟨rfl, vs, .of hq⟩, ?_⟩
    refine tL_use hE1 hS1 hp1 fun us H2 F2 io2 ys s2 hE2 ry hS2 l2 hp2 => ?_
    exact hw P F2 io2 s2 x _ ys us H2 Q (rx.mono l2) ry hS2 (Post.noX hp2)
theorem smt_append {K : PySem.W.Frag} : ∀ P F io st x v vs us H Q, R K T F io x v → Rs K T F io vs us → RS K T P F io st H → Post K T P (rV K T) (fun _ _ _ => False) F io (noX (mAppend x vs st)) Q → rAppend v us H Q := by
  intro P F io st x v vs us H Q rx rv hS hp
  unfold mAppend at hp
  split at hp
  · rename_i n y
    cases rv with
    | cons ry rn =>
      cases rn
      cases rx with
      | @loc a _ hi =>
        split at hp
        · rename_i xs hc
          split at hp
          · rename_i hz
            obtain ⟨o2, e2, e3⟩ := hS.loc hi hc
            cases e3 with
            | @lst _ us q => exact ⟨a, us, _, rfl, rfl, e2, by rw [← q.length]; exact hz, hp.ok_of Le.refl .non (hS.put hi (.lst (q.append (.cons ry .nil))))⟩
          · exact hp.elim
        · exact hp.elim
  · exact hp.elim
theorem smt_extend {K : PySem.W.Frag} : ∀ P F io st x v vs us H Q, R K T F io x v → Rs K T F io vs us → RS K T P F io st H → Post K T P (rV K T) (fun _ _ _ => False) F io (noX (mExtend x vs st)) Q → rExtend v us H Q := by
  intro P F io st x v vs us H Q rx rv hS hp
  unfold mExtend at hp
  split at hp
  · rename_i n y
    cases rv with
    | cons ry rn =>
      cases rn
      cases rx with
      | @loc a _ hi =>
        split at hp
        · rename_i xs ys hc hd
          split at hp
          · rename_i hz
            obtain ⟨o2, e2, e3⟩ := hS.loc hi hc
            cases e3 with
            | @lst _ us q =>
              obtain ⟨b, ws, e6, e7, q2⟩ := hS.list ry hd
              subst e6
              exact ⟨a, b, us, ws, rfl, rfl, e2, e7, by rw [← q.length, ← q2.length]; exact hz, hp.ok_of Le.refl .non (hS.put hi (.lst (q.append q2)))⟩
          · exact hp.elim
        · exact hp.elim
  · exact hp.elim
theorem smt_pop {K : PySem.W.Frag} : ∀ P F io st x v vs us H Q, R K T F io x v → Rs K T F io vs us → RS K T P F io st H → Post K T P (rV K T) (fun _ _ _ => False) F io (noX (mPop x vs st)) Q → rPopAt v us H Q := by
  intro P F io st x v vs us H Q rx rv hS hp
  unfold mPop at hp
  split at hp
  · rename_i n j
    cases rv with
    | cons ry rn =>
      cases rn
      cases ry
      cases rx with
      | @loc a _ hi =>
        split at hp
        · rename_i xs hc
          split at hp
          · rename_i hz
            obtain ⟨o2, e2, e3⟩ := hS.loc hi hc
            cases e3 with
            | @lst _ us q =>
              cases hx : xs[j.toNat]? with
              | none => rw [hx] at hp; exact hp.elim
              | some y =>
                rw [hx] at hp
                obtain ⟨u, hu, ru⟩ := q.get hx
                have hlt := (List.getElem?_eq_some_iff.mp hu).1
                refine ⟨a, us, j, j.toNat, u, rfl, rfl, e2, by omega, by omega, ?_, hu, hp.ok_of Le.refl ru (hS.put hi (.lst (q.eraseIdx _)))⟩
                exact seqIndex_of hz.1 (by omega)
          · exact hp.elim
        · exact hp.elim
  · exact hp.elim
end
end Mir
/-! Mir, part P: enumerate of a tuple. -/
namespace PySem
open Sem (wp)
open AutoSeq1 (wpAny_loadPart')
theorem mir_enumerate_newT (l : Addr) (items : Array Value) (n : Nat) (dct : Option Addr) (sl : Array (Option Value)) :
    Meets (Builtin.«enumerate.__new__» ⟨[.type "enumerate", .ref l], []⟩) (fun _ R s => s.heap.get? l = some { cls := .type "tuple", dict := dct, data := .seq items n, slots := sl } ∧
      R (.ok (.ret (.ref (s.heap.push { cls := .type "tuple_iterator", data := .fields #[.ref l, .int 0 0] }).objs.size)))
        { s with heap := (s.heap.push { cls := .type "tuple_iterator", data := .fields #[.ref l, .int 0 0] }).push { cls := .type "enumerate", data := .fields #[.none, .bool false, .ref s.heap.objs.size, rawInt 0, .none, .none] } }) :=
  .of_wp fun prog w A R s h => by
    obtain ⟨hp, g, d, tk, os⟩ := s; obtain ⟨hl, h⟩ := h
    have hsub := sub_enumerate
    have hL : Heap.IsTuple (Shared.heap ⟨hp, g, d, tk, os⟩) l items := ⟨_, hl, rfl, n, rfl⟩
    wp_walk using wpAny_loadPart' hl
    refine wpAny_stack_any fun st => wpAny_pure ?_
    split
    · rename_i c _ _ _ _ _
      cases (c == Value.type "enumerate")
      · wp_walk using wpAny_loadPart' hl, wpAny_pyIter_tuple hL
        exact ⟨_, rfl, h⟩
      · wp_walk using wpAny_loadPart' hl, wpAny_pyIter_tuple hL
        exact ⟨_, rfl, h⟩
    · wp_walk using wpAny_loadPart' hl, wpAny_pyIter_tuple hL
      exact ⟨_, rfl, h⟩
end PySem
namespace PySem
section
variable {prog : Program} {w : World} {A : Around} {E : Value → Shared → Prop} {s : Shared}
theorem mir_call_enumerate_tuple {l : Addr} {items : Array Value} {Q : Value → Shared → Prop} (hL : s.heap.IsTuple l items)
    (h : ∀ h', IsEnum h' (s.heap.objs.size + 1) s.heap.objs.size 0 .none → h'.IsTupleIter s.heap.objs.size l 0 → h'.objs.size = s.heap.objs.size + 2 →
      (∀ b o, s.heap.get? b = some o → h'.get? b = some o) → Q (.ref (s.heap.objs.size + 1)) { s with heap := h' }) :
    wpAny (model prog w) A (call (.type "enumerate") [.ref l]) Q E s := by
  obtain ⟨⟨c, dct, dt, sl⟩, hl, hc, n, hd⟩ := hL
  replace hc : c = .type "tuple" := hc
  replace hd : dt = .seq items n := hd
  subst hc hd
  refine callType_new F.called_enumerate (by decide) (F.typeCall_enumerate_1 _) (F.newCall_enumerate_1 _) (fun obj => F.args_object_init_2 obj _) F.entry_enumerate_new
    (mir_enumerate_newT l items n dct sl) ⟨hl, ?_⟩
  have hz : (s.heap.push { cls := .type "tuple_iterator", data := .fields #[.ref l, .int 0 0] }).objs.size = s.heap.objs.size + 1 := Heap.size_push ..
  show _ ∧ _
  rw [hz]
  have he : IsEnum ((s.heap.push { cls := .type "tuple_iterator", data := .fields #[.ref l, .int 0 0] }).push
      { cls := .type "enumerate", data := .fields #[.none, .bool false, .ref s.heap.objs.size, rawInt 0, .none, .none] }) (s.heap.objs.size + 1) s.heap.objs.size 0 .none := by
    have := Heap.get?_push_size (s.heap.push { cls := .type "tuple_iterator", data := .fields #[.ref l, .int 0 0] })
      (o := { cls := .type "enumerate", data := .fields #[.none, .bool false, .ref s.heap.objs.size, rawInt 0, .none, .none] }) rfl
    rw [hz] at this; exact this
  refine ⟨⟨_, he, rfl⟩, h _ he ⟨_, Heap.get?_push_of_some _ (Heap.get?_push_size _ rfl), rfl, rfl⟩ (by rw [Heap.size_push, hz]) fun b o x => Heap.get?_push_of_some _ (Heap.get?_push_of_some _ x)⟩
end
end PySem
namespace Mir
open PySem PySem.Spec PyProof.Rows L2
def Itet (K : PySem.W.Frag) (a : Addr) : It :=
  ⟨fun i H => ∃ (xs : List V) (x : V), SqT K H a xs ∧ xs[i]? = some x, fun i H v H' => ∃ T x, v = .ref T ∧ H T = none ∧ H' = upd H T (.tup [.int (i : Nat), x]) ∧ ∀ xs, SqT K H a xs → xs[i]? = some x, fun i H => ∃ xs : List V, SqT K H a xs ∧ xs.length ≤ i⟩
theorem tup_ne {h : Heap} {a e : Addr} {its : Array Value} {it : Addr} {i : Int} {old : Value} (p : h.IsTuple a its) (he : PySem.IsEnum h e it i old) : e ≠ a := fun z => by
  subst z
  obtain ⟨o, ho, hc, _⟩ := p
  have : h.get? e = _ := he
  rw [ho] at this
  cases this
  simp at hc
theorem tup_ne2 {h : Heap} {a it : Addr} {its : Array Value} {t : Addr} {i : Nat} (p : h.IsTuple a its) (hi : h.IsTupleIter it t i) : a ≠ it := fun z => by
  subst z
  obtain ⟨o, ho, hc, _⟩ := p
  obtain ⟨o', ho', hc', _⟩ := hi
  rw [ho] at ho'
  cases ho'
  rw [hc] at hc'
  simp at hc'
theorem enum_endT {prog : Program} {w : World} {A : Around} {E : Value → Shared → Prop} {s : Shared} {e it a : Addr} {j : Nat} {i : Int} {old : Value} {items : Array Value} {Q : Option Value → Shared → Prop}
    (hh : A.handled = none) (he : PySem.IsEnum s.heap e it i old) (hit : s.heap.IsTupleIter it a j) (ht : s.heap.IsTuple a items) (hx : items[j]? = none)
    (hQ : ∀ h', Heap.ExtBut it s.heap h' → Q none { s with heap := h' }) : wpAny (model prog w) A (pyNext (.ref e)) Q E s := by
  have hT : s.TypeIs (.ref e) "enumerate" := ⟨_, he, rfl⟩
  unfold pyNext
  refine wpAny_bind (wpAny_attempt (wpAny_callSpecial?_slot (name := Str.ofString "__next__") hT F.slot_enumerate_next
    (wpAny_call_entry F.slot_enumerate_next hT F.entry_enumerate_next ?_ (F.args_enumerate_next_1 _))))
  show wpAny _ _ (field (.ref e) 2 >>= _) _ _ _
  refine wpAny_bind (wpAny_field he rfl (x := .ref it) rfl ?_)
  refine wpAny_bind (wpAny_nextOf_tuple_end (A := A.in1) hh hit ht hx fun h' x he' hx' => ?_)
  obtain ⟨o, ho, hc⟩ := hx'
  refine wpAny_bind (wpAny_isInstance (T := "StopIteration") (b := true) ⟨o, ho, hc⟩ isSubtype_stop ?_)
  exact wpAny_pure (hQ _ he')
theorem turn_enumT {P : Program} {w : World} {K : PySem.W.Frag} {elts : List Expr} {kk : Nat} {tpos : Pos} (a e it : Addr) :
    Turn P w K (.Tuple elts kk tpos) (Itet K a) [e, it] e (fun i h => (∃ old, IsEnum h e it ((i : Nat) : Int) old) ∧ h.IsTupleIter it a i ∧ e ≠ it) where
  mem := by simp
  obj := fun i h st b hb => by
    obtain ⟨⟨old, he⟩, ⟨o, ho, hc, hd⟩, _⟩ := st
    have e' : b = e ∨ b = it := by simpa using hb
    rcases e' with z | z
    · rw [z]; exact ⟨_, he, fun v q => nomatch q⟩
    · rw [z]; exact ⟨o, ho, fun v q => by rw [hd] at q; cases q⟩
  keep := fun i h h' st k => let ⟨⟨old, he⟩, hi, hne⟩ := st; ⟨⟨old, k e (by simp) _ he⟩, hi.at fun o q => k it (by simp) o q, hne⟩
  item := by
    intro X hP hw hK hc i pins s σ H E I hf st hg
    subst hP hw hK
    obtain ⟨⟨old, he⟩, hit, hne⟩ := st
    obtain ⟨xs, x, hq, hx⟩ := hg
    obtain ⟨its, rv, p, hz⟩ := I.tuple hq
    obtain ⟨u, hu, ru⟩ := rv.get hx
    have p' : s.heap.IsTuple a its.toArray := p
    have hel : e < s.heap.objs.size := Heap.lt_size he
    have hil : it < s.heap.objs.size := by obtain ⟨_, q, _⟩ := hit; exact Heap.lt_size q
    have hea := tup_ne p' he
    have hia := tup_ne2 p' hit
    have hlt : i < its.toArray.size := by
      have := (List.getElem?_eq_some_iff.mp hu).1
      simpa using this
    refine wpAny_pyNext_enum_itemD (Draws.tuple (prog := X.prog) (w := X.w) (A := X.A.in1) (I.ok.hd hc) it a hia its.toArray) he ⟨hit, p'⟩ hlt hne (by simp [hne, hea]) fun x' h' tk hP ho hst hT hsz hk => ?_
    have ex : x' = u := by
      have h1 : its.toArray[i]? = some x' := hP
      have h2 : its.toArray[i]? = some u := by simpa using hu
      rw [h1] at h2; cases h2; rfl
    subst ex
    refine ⟨_, rfl, wpAny_letOwnedTupleGo_enum (s := { s with heap := h', toks := tk + 1 }) ho fun h'' he' sb => ?_⟩
    have hT2 : h''.get? s.heap.objs.size = some { cls := .type "tuple", data := .seq #[.int i tk, x'] } := (sb.2 _ (Nat.ne_of_gt hel)).trans hT
    have new : ObjOk X.prog X.w (upd H s.heap.objs.size (.tup [.int (i : Nat), x])) h'' s.heap.objs.size (.tup [.int (i : Nat), x]) :=
      ⟨by show 2 ≤ sizeLine; decide, [.int i tk, x'], .cons ⟨_, rfl⟩ (.cons ru .nil), ⟨_, hT2, rfl, _, rfl⟩⟩
    have I1 : Inv X pins σ (upd H s.heap.objs.size (.tup [.int (i : Nat), x])) { s with heap := h'', toks := tk + 1 } :=
      I.turnedNew (ch := [e, it]) (fun b ob hb q => (sb.2 b (fun z => hb (by simp [z]))).trans (hk b ob (fun z => hb (by simp [z])) (fun z => hb (by simp [z])) q)) hf (Nat.le_refl _) new
    refine ⟨.ref s.heap.objs.size, _, I1, rfl, ⟨_, x, rfl, I.hok.fresh (Nat.le_refl _), rfl, fun ys hy => by rw [I.tuple_inj hy hq]; exact hx⟩, ⟨⟨x', ?_⟩, hst.1.at fun o q => (sb.2 it (Ne.symm hne)).trans q, hne⟩, fun b hb => ?_⟩
    · have e1 : ((i + 1 : Nat) : Int) = (i : Int) + 1 := by omega
      rw [e1]; exact he'
    · have hb' : b < s.heap.objs.size := by
        have e' : b = e ∨ b = it := by simpa using hb
        rcases e' with z | z
        · rw [z]; exact hel
        · rw [z]; exact hil
      rw [upd_ne (Nat.ne_of_lt hb')]
      exact (hf b hb).1
  done := by
    intro X hP hw hK hc i pins s σ H E I hf st hg
    subst hP hw hK
    obtain ⟨⟨old, he⟩, hit, hne⟩ := st
    obtain ⟨xs, hq, hx⟩ := hg
    obtain ⟨its, rv, p, hz⟩ := I.tuple hq
    have p' : s.heap.IsTuple a its.toArray := p
    obtain ⟨f0, f1, f2, f3, f4, f5⟩ := hf it (by simp)
    have hl := rv.length
    exact enum_endT (I.ok.hd hc) he hit p' (by simp; omega) fun h' eb => ⟨rfl, I.turned (t' := s.toks) (fun b o hb q => eb b o hb q) f0 f1 f3 f4 f5⟩
  self := fun A i s Q E st h => let ⟨⟨_, he⟩, _⟩ := st; wpAny_pyIter_enum he h
def iEnumT (K : PySem.W.Frag) (ta : TA) : TI := fun σ H R => ta σ H fun vs H1 => ∃ a xs, vs = [.ref a] ∧ SqT K H1 a xs ∧ R (Itet K a) H1
theorem pi_enumT {X : Cx} {e : Expr} {ta : TA} {p pos tpos : Pos} {elts : List Expr} {kk : Nat} (hg : Gl X "enumerate") (hm : X.mg "enumerate" = none) (ha : PA X [e] ta) (hs : starEach [e] X.env = [(false, eval e X.env)] := by rfl) :
    PI X (.Tuple elts kk tpos) (.Call (.Name "enumerate" p) [e] [] pos) (fun σ H R => ta σ H fun vs H1 => (∃ a xs, vs = [.ref a] ∧ SqL X.K H1 a xs ∧ R (Ite X.K a) H1) ∨ ∃ a xs, vs = [.ref a] ∧ SqT X.K H1 a xs ∧ R (Itet X.K a) H1) := by
  refine ⟨fun pins s σ H R I h => ?_⟩
  refine Call_ (ld_blt I hg hm boot_enumerate (PyProof.Rows.callWith_type1 (thn (ha.run pos pins s σ H _ I h) fun us s1 ⟨vs, H1, I1, r1, q1⟩ => ?_) hs rfl))
  have fin : ∀ b, (b = s1.heap.objs.size + 1 ∨ b = s1.heap.objs.size) → s1.heap.objs.size ≤ b := fun b e' => by
    rcases e' with z | z
    · rw [z]; exact Nat.le_add_right _ _
    · rw [z]; exact Nat.le_refl _
  rcases q1 with ⟨a, xs, ex, hq, q⟩ | ⟨a, xs, ex, hq, q⟩
  · subst ex
    cases r1 with
    | cons r rr =>
      cases rr
      cases r
      obtain ⟨its, rv, p', hz⟩ := I1.list hq
      refine call_enumerate_list p'.isList fun h' he hit hsz hk => wpAny_pyIter_enum he ?_
      have I2 : Inv X pins σ H1 { s1 with heap := h' } := I1.kept (t' := s1.toks) hk
      refine ⟨s1.heap.objs.size + 1, [s1.heap.objs.size + 1, s1.heap.objs.size], _, _, H1, rfl, I2, turn_enum a (s1.heap.objs.size + 1) s1.heap.objs.size, ⟨⟨.none, he⟩, hit, Nat.succ_ne_self _⟩, fun b hb => ?_, q⟩
      have hle := fin b (by simpa using hb)
      exact I1.fpOk hle (I1.hok.fresh hle)
  · subst ex
    cases r1 with
    | cons r rr =>
      cases rr
      cases r
      obtain ⟨its, rv, p', hz⟩ := I1.tuple hq
      refine mir_call_enumerate_tuple (show s1.heap.IsTuple a its.toArray from p') fun h' he hit hsz hk => wpAny_pyIter_enum he ?_
      have I2 : Inv X pins σ H1 { s1 with heap := h' } := I1.kept (t' := s1.toks) hk
      refine ⟨s1.heap.objs.size + 1, [s1.heap.objs.size + 1, s1.heap.objs.size], _, _, H1, rfl, I2, turn_enumT a (s1.heap.objs.size + 1) s1.heap.objs.size, ⟨⟨.none, he⟩, hit, Nat.succ_ne_self _⟩, fun b hb => ?_, q⟩
      have hle := fin b (by simpa using hb)
      exact I1.fpOk hle (I1.hok.fresh hle)
end Mir
/-! Mir, part J: new lists at places, enumerate, built-ins, isinstance. -/
namespace Mir
open PySem PySem.Spec PyProof.Rows L2

section
variable {X : Cx} {T : Tb} {W : WX} {tg e : Expr} {es : List Expr} {x : Str} {pos p : Pos} {me : EM} {ma : AM}
theorem me_pl {m : AM} (h : PE X e (tF X.K T W m)) : PE X e (tE X.K T W (ePl m)) := by
  refine PE.weak h fun σ H Q ⟨P, F, io, en, s, hE, hS, hp⟩ => ?_
  refine ⟨P, F, io, en, s, hE, hS, ?_⟩
  unfold ePl at hp
  cases hm : m en s with
  | ok xs s1 =>
    rw [hm] at hp
    intro F1 io1 p vs H1 l1 r1 hS1 np
    obtain ⟨l2, hS2⟩ := hS1.push (o := .lst vs) np (.lst r1)
    exact hp.ok_of (l1.trans l2) (.loc (by rw [hS1.len]; simp)) hS2
  | exc x s1 => rw [hm] at hp; exact hp
  | stuck => rw [hm] at hp; exact hp
/-- a global name: a constant -/
theorem me_glob {y : PV} {v : V} {u : Value} (hg : Gl X x) (hm : X.mg x = some u) (r : RelV v u) (hv : ∀ F io, R X.K T F io y v) (hd : (x == ("__debug__" : Str)) = false := by decide) : PE X (.Name x pos) (tE X.K T W (eC y)) := me_val (pe_glob hg hm r hd) hv
theorem me_bty {n : String} (hg : Gl X x) (hm : X.mg x = none) (hv : bootBuiltins x = some (.type n)) (hn : x ≠ "__name__" := by decide) (hd : (x == ("__debug__" : Str)) = false := by decide) : PE X (.Name x pos) (tE X.K T W (eC (.ty n))) :=
  me_val (pe_bltn (v := .ty n) hg hm hv rfl hn hd) fun F io => .ty n
theorem me_gcls {c : Nat} (hg : Gl X x) (hm : X.mg x = some (.ref (T.ca c))) (hd : (x == ("__debug__" : Str)) = false := by decide) : PE X (.Name x pos) (tE X.K T W (eC (.cls c))) :=
  me_val (pe_glob (v := .ref (T.ca c)) hg hm rfl hd) fun F io => .cls c

/-! ### enumerate of a list -/
def enumI : Nat → List PV → List PV
  | _, [] => []
  | n, x :: r => .tup [.int (n : Nat), x] :: enumI (n + 1) r
theorem enumI_get : ∀ (l : List PV) (n i : Nat), (enumI n l)[i]? = (l[i]?).map fun x => PV.tup [.int ((n + i : Nat) : Int), x]
  | [], _, _ => by simp [enumI]
  | x :: r, n, 0 => by simp [enumI]
  | x :: r, n, i + 1 => by
    simp only [enumI, List.getElem?_cons_succ, enumI_get r (n + 1) i]
    have : n + 1 + i = n + (i + 1) := by omega
    rw [this]
theorem enumI_len : ∀ (l : List PV) (n : Nat), (enumI n l).length = l.length
  | [], _ => rfl
  | x :: r, n => by simp [enumI, enumI_len r]
def iEnum (a : EM) : IM := fun σ s => (aCons a aNil σ s).bind fun xs s1 => match xs with
  | [.lst ys] => if ys.length ≤ sz then .ok ⟨enumI 0 ys, none⟩ s1 else .stuck
  | [.ro ys] => if ys.length ≤ sz then .ok ⟨enumI 0 ys, none⟩ s1 else .stuck
  | [.tup ys] => if ys.length ≤ sz then .ok ⟨enumI 0 ys, none⟩ s1 else .stuck
  | [.loc n] => (match s1[n]? with
    | some (.lst ys) => if ys.length ≤ sz then .ok ⟨enumI 0 ys, some (n, .lst ys)⟩ s1 else .stuck
    | _ => .stuck)
  | _ => .stuck
theorem walks_enum {K : PySem.W.Frag} {F : Hp} {io : List Addr} {w : Walk} {xs : List PV} {a : Addr} (hw : w.items = enumI 0 xs) (hq : ∀ P F1 io1 s1 H1, Le F io F1 io1 → RS K T P F1 io1 s1 H1 → w.ok s1 → ∃ vs, SqL K H1 a vs ∧ Rs K T F1 io1 xs vs) : Walks K T F io w (Ite K a) := fun P i F1 io1 s1 H1 l hS ok => by
  obtain ⟨vs, q, r⟩ := hq P F1 io1 s1 H1 l hS ok
  refine ⟨fun hi => ⟨vs, q, by rw [← r.length, ← enumI_len xs 0, ← hw]; exact hi⟩, fun x hx => ?_⟩
  rw [hw, enumI_get] at hx
  cases hxi : xs[i]? with
  | none => rw [hxi] at hx; cases hx
  | some y =>
    rw [hxi] at hx; cases hx
    obtain ⟨v, h1, h2⟩ := r.get hxi
    refine ⟨⟨vs, v, q, h1⟩, fun u H' ⟨T0, x, e1, n1, e2, hy⟩ => ?_⟩
    subst e1 e2
    have := hy vs q
    rw [h1] at this; cases this
    obtain ⟨l2, hS2⟩ := hS.grow (o := .tup [.int ((i : Nat) : Int), v]) n1
    exact ⟨_, l2, hS2, .tup (.inl (.inl upd_same)) (.cons (by simpa using R.int _) (.cons (h2.mono l2) .nil))⟩
theorem walks_enumT {K : PySem.W.Frag} {F : Hp} {io : List Addr} {w : Walk} {xs : List PV} {a : Addr} {vs : List V} (hw : w.items = enumI 0 xs) (q0 : SqT K F a vs) (r0 : Rs K T F io xs vs) : Walks K T F io w (Itet K a) := fun P i F1 io1 s1 H1 l hS ok => by
  have q : SqT K H1 a vs := hS.tup (sqT_mono l.fm q0)
  have r := r0.mono l
  refine ⟨fun hi => ⟨vs, q, by rw [← r.length, ← enumI_len xs 0, ← hw]; exact hi⟩, fun x hx => ?_⟩
  rw [hw, enumI_get] at hx
  cases hxi : xs[i]? with
  | none => rw [hxi] at hx; cases hx
  | some y =>
    rw [hxi] at hx; cases hx
    obtain ⟨v, h1, h2⟩ := r.get hxi
    refine ⟨⟨vs, v, q, h1⟩, fun u H' ⟨T0, x, e1, n1, e2, hy⟩ => ?_⟩
    subst e1 e2
    have := hy vs q
    rw [h1] at this; cases this
    obtain ⟨l2, hS2⟩ := hS.grow (o := .tup [.int ((i : Nat) : Int), v]) n1
    exact ⟨_, l2, hS2, .tup (.inl (.inl upd_same)) (.cons (by simpa using R.int _) (.cons (h2.mono l2) .nil))⟩
theorem mi_enum {elts : List Expr} {kk : Nat} {tpos : Pos} (hg : Gl X "enumerate") (hm : X.mg "enumerate" = none) (ha : PE X e (tE X.K T W me)) (hs : starEach [e] X.env = [(false, eval e X.env)] := by rfl) :
    PI X (.Tuple elts kk tpos) (.Call (.Name "enumerate" p) [e] [] pos) (tI X.K T W (iEnum me)) := by
  refine PI.weak (pi_enumT hg hm (ma_cons ha ma_nil hs) hs) fun σ H Z ⟨P, F, io, en, s, hE, hS, hp⟩ => ?_
  refine ⟨P, F, io, en, s, hE, hS, (PostI.bind (rel := rL X.K T) hp).mono fun vs H1 ⟨F1, io1, xs, s1, l, hr, hs, hp1⟩ => ?_⟩
  cases hr with
  | nil => exact hp1.elim
  | @cons y v ys ws ry rr =>
    cases rr with
    | cons => cases y <;> exact hp1.elim
    | nil =>
      cases ry with
      | @lst a zs us h1 h2 =>
        simp only at hp1
        split at hp1
        · rename_i hz
          exact .inl ⟨a, us, rfl, .of (hs.sub _ _ h1), hp1 F1 io1 _ H1 Le.refl hs (walks_enum rfl fun P F2 io2 s2 H2 l2 hS2 _ => ⟨us, .of (hS2.sub _ _ (l2.fm _ _ h1)), h2.mono l2⟩) (by rw [enumI_len]; exact hz)⟩
        · exact hp1.elim
      | @ro a zs us h1 h2 =>
        simp only at hp1
        split at hp1
        · rename_i hz
          exact .inl ⟨a, us, rfl, hs.lst h1, hp1 F1 io1 _ H1 Le.refl hs (walks_enum rfl fun P F2 io2 s2 H2 l2 hS2 _ => ⟨us, hS2.lst (sqL_mono l2.fm h1), h2.mono l2⟩) (by rw [enumI_len]; exact hz)⟩
        · exact hp1.elim
      | @tup a zs us h1 h2 =>
        simp only at hp1
        split at hp1
        · rename_i hz
          exact .inr ⟨a, us, rfl, hs.tup h1, hp1 F1 io1 _ H1 Le.refl hs (walks_enumT rfl h1 h2) (by rw [enumI_len]; exact hz)⟩
        · exact hp1.elim
      | @loc a n h1 =>
        simp only at hp1
        split at hp1
        · rename_i ys hx
          split at hp1
          · rename_i hz
            obtain ⟨o, e2, e3⟩ := hs.loc h1 hx
            cases e3 with
            | @lst _ us q =>
              refine .inl ⟨a, us, rfl, .of e2, hp1 F1 io1 _ H1 Le.refl hs (walks_enum rfl fun P F2 io2 s2 H2 l2 hS2 (ok : s2[n]? = some (.lst ys)) => ?_) (by rw [enumI_len]; exact hz)⟩
              obtain ⟨o2, e4, e5⟩ := hS2.loc (l2.ix _ _ h1) ok
              cases e5 with
              | lst q2 => exact ⟨_, .of e4, q2⟩
          · exact hp1.elim
        · exact hp1.elim
      | _ => exact hp1.elim

/-! ### built-ins -/
theorem cr_of {f : Value} {h : ON} {r : List V → Hp → VK → Prop} (hc : CallR X f r) (hw : ∀ (P F : Hp) (io : List Addr) (s : Store) (xs : List PV) (vs : List V) (H : Hp) (Q : VK), Rs X.K T F io xs vs → RS X.K T P F io s H → Post X.K T P (rV X.K T) (fun _ _ _ => False) F io (noX (h xs s)) Q → r vs H Q) : CallR X f (rN X.K T h) := by
  intro pins s σ H vs us Q I rv ⟨P, F, io, st, xs, rx, hS, hp⟩
  exact hc pins s σ H vs us Q I rv (hw P F io st xs vs H Q rx hS hp)
theorem me_blt {id : String} {h : ON} (hc : CallR X (.builtin id) (rN X.K T h)) (hg : Gl X x) (hm : X.mg x = none) (hv : bootBuiltins x = some (.builtin id)) (ha : PA X (e :: es) (tL X.K T W ma)) (hn : x ≠ "__name__" := by decide) (hdb : (x == ("__debug__" : Str)) = false := by decide)
    (he : starEach (e :: es) X.env = (false, eval e X.env) :: starEach es X.env := by rfl) (hpl : (backTo pos (starEach es X.env)).any (·.1) = false := by rfl) : PE X (.Call (.Name x p) (e :: es) [] pos) (tE X.K T W (eBlt h ma)) := by
  refine PE.weak (pe_callB hc hg hm hv ha hn hdb he hpl) fun σ H Q ⟨P, F, io, en, s, hE, hS, hp⟩ => ?_
  refine tL_use hE hS hp fun vs H1 F1 io1 xs s1 hE1 rx hS1 l1 hp1 => ⟨P, F1, io1, s1, xs, rx, hS1, Post.noX hp1⟩
theorem me_bltT {n : String} {h : ON} (hc : CallR X (.type n) (rN X.K T h)) (hg : Gl X x) (hm : X.mg x = none) (hv : bootBuiltins x = some (.type n)) (ha : PA X (e :: es) (tL X.K T W ma)) (hn : x ≠ "__name__" := by decide) (hdb : (x == ("__debug__" : Str)) = false := by decide)
    (he : starEach (e :: es) X.env = (false, eval e X.env) :: starEach es X.env := by rfl) (hpl : (backTo pos (starEach es X.env)).any (·.1) = false := by rfl) : PE X (.Call (.Name x p) (e :: es) [] pos) (tE X.K T W (eBlt h ma)) := by
  refine PE.weak (pe_callTy hc hg hm hv ha hn hdb he hpl) fun σ H Q ⟨P, F, io, en, s, hE, hS, hp⟩ => ?_
  refine tL_use hE hS hp fun vs H1 F1 io1 xs s1 hE1 rx hS1 l1 hp1 => ⟨P, F1, io1, s1, xs, rx, hS1, Post.noX hp1⟩
theorem Rs.one {K : PySem.W.Frag} {F : Hp} {io : List Addr} {x : PV} {vs : List V} (r : Rs K T F io [x] vs) : ∃ v, vs = [v] ∧ R K T F io x v := by
  cases r with
  | cons r1 rn => cases rn; exact ⟨_, rfl, r1⟩
theorem Rs.two {K : PySem.W.Frag} {F : Hp} {io : List Addr} {x y : PV} {vs : List V} (r : Rs K T F io [x, y] vs) : ∃ v u, vs = [v, u] ∧ R K T F io x v ∧ R K T F io y u := by
  cases r with
  | cons r1 rn => cases rn with
    | cons r2 rn => cases rn; exact ⟨_, _, rfl, r1, r2⟩
theorem scr_len : CallR X (.builtin "len") (rN X.K T bLen) := cr_of call_len fun P F io s xs vs H Q rx hS hp => by
  unfold bLen at hp
  split at hp
  · obtain ⟨v, rfl, r1⟩ := rx.one
    rename_i x
    cases hl : lenP s x with
    | none => rw [hl] at hp; exact hp.elim
    | some n =>
      rw [hl] at hp
      refine ⟨v, n, rfl, ?_, hp.ok_of Le.refl (.int _) hS⟩
      have seq : ∀ xs, itemsOf s x = some xs → n = xs.length → LenV X.K v H n := fun xs hx hn => by
        obtain ⟨a, vs, rfl, hq, r⟩ := hS.seq r1 hx
        rcases hq with hq | hq
        · exact .inl ⟨vs, hq, by rw [hn, r.length]⟩
        · exact .inr ⟨vs, hq, by rw [hn, r.length]⟩
      have gen : (itemsOf s x).map (·.length) = some n → LenV X.K v H n := fun h => by
        obtain ⟨xs, e1, e2⟩ := Option.map_eq_some_iff.mp h
        exact seq xs e1 e2.symm
      cases r1 with
      | str l =>
        simp only [lenP] at hl
        split at hl
        · rename_i hz
          cases hl
          exact ⟨by show l.toArray.size ≤ _; rw [List.size_toArray]; exact hz, by show l.length = l.toArray.size; simp⟩
        · cases hl
      | _ => exact gen hl
  · exact hp.elim
theorem scr_abs : CallR X (.builtin "abs") (rN X.K T bAbs) := cr_of call_abs fun P F io s xs vs H Q rx hS hp => by
  unfold bAbs at hp
  split at hp
  · obtain ⟨v, rfl, r1⟩ := rx.one
    cases r1
    exact ⟨_, rfl, hp.ok_of Le.refl (.int _) hS⟩
  · exact hp.elim
theorem scr_max (hc : X.calm = true) : CallR X (.builtin "max") (rN X.K T bMax) := cr_of (call_max2 hc) fun P F io s xs vs H Q rx hS hp => by
  unfold bMax at hp
  split at hp
  · obtain ⟨v, u, rfl, r1, r2⟩ := rx.two
    cases r1; cases r2
    exact ⟨_, _, rfl, hp.ok_of Le.refl (.int _) hS⟩
  · exact hp.elim
theorem scr_min (hc : X.calm = true) : CallR X (.builtin "min") (rN X.K T bMin) := cr_of (call_min2 hc) fun P F io s xs vs H Q rx hS hp => by
  unfold bMin at hp
  split at hp
  · obtain ⟨v, u, rfl, r1, r2⟩ := rx.two
    cases r1; cases r2
    exact ⟨_, _, rfl, hp.ok_of Le.refl (.int _) hS⟩
  · exact hp.elim
theorem scr_int : CallR X (.type "int") (rN X.K T bInt) := cr_of call_int1 fun P F io s xs vs H Q rx hS hp => by
  unfold bInt at hp
  split at hp
  · obtain ⟨v, rfl, r1⟩ := rx.one
    cases r1
    exact .inl ⟨_, rfl, hp.ok_of Le.refl (.int _) hS⟩
  · obtain ⟨v, rfl, r1⟩ := rx.one
    cases r1
    exact .inr ⟨_, rfl, hp.ok_of Le.refl (.int _) hS⟩
  · exact hp.elim
theorem Rs.bls {K : PySem.W.Frag} {F : Hp} {io : List Addr} : ∀ {xs : List PV} {vs : List V} {bs : List Bool}, blsOf xs = some bs → Rs K T F io xs vs → vs = bs.map V.bl
  | [], _, _, e, .nil => by cases e; rfl
  | .bl k :: r, _, _, e, .cons r1 rn => by
    simp only [blsOf, Option.map_eq_some_iff] at e
    obtain ⟨ks, e1, rfl⟩ := e
    cases r1
    rw [Rs.bls e1 rn]; rfl
theorem Rs.strs {K : PySem.W.Frag} {F : Hp} {io : List Addr} : ∀ {xs : List PV} {vs : List V} {bs : List (List Nat)}, strsOf xs = some bs → Rs K T F io xs vs → vs = (bs.map St8).map V.str
  | [], _, _, e, .nil => by cases e; rfl
  | .str k :: r, _, _, e, .cons r1 rn => by
    simp only [strsOf, Option.map_eq_some_iff] at e
    obtain ⟨ks, e1, rfl⟩ := e
    cases r1
    rw [Rs.strs e1 rn]; rfl
theorem RS.itemsL {K : PySem.W.Frag} {P F : Hp} {io : List Addr} {s : Store} {H : Hp} {x : PV} {v : V} {xs : List PV} (hS : RS K T P F io s H) (r : R K T F io x v) (e : bAll.itemsL s x = some xs) : ∃ a vs, v = .ref a ∧ SqL K H a vs ∧ Rs K T F io xs vs := by
  unfold bAll.itemsL at e
  split at e
  · rename_i ys hd
    cases e
    obtain ⟨a, vs, e1, e2, e3⟩ := hS.list r hd
    exact ⟨a, vs, e1, .of e2, e3⟩
  · rename_i ys hd
    cases e
    cases r with
    | ro h1 h2 => cases hd; exact ⟨_, _, rfl, hS.lst h1, h2⟩
    | @loc a n h1 =>
      have hn : n < s.length := by rw [hS.len]; exact (List.getElem?_eq_some_iff.mp h1).1
      have ed : deref s (.loc n) = s[n] := by simp [deref, List.getD, List.getElem?_eq_getElem hn]
      obtain ⟨o3, e4, e5⟩ := hS.loc h1 (List.getElem?_eq_getElem hn)
      rw [ed] at hd
      rw [hd] at e5
      cases e5
    | _ => cases hd
  · cases e
theorem scr_all (hc : X.calm = true) : CallR X (.builtin "all") (rN X.K T bAll) := cr_of (cr_all hc) fun P F io s xs vs H Q rx hS hp => by
  unfold bAll at hp
  split at hp
  · obtain ⟨v, rfl, r1⟩ := rx.one
    rename_i x
    cases hl : (bAll.itemsL s x).bind blsOf with
    | none => rw [hl] at hp; exact hp.elim
    | some ks =>
      rw [hl] at hp
      obtain ⟨ys, h1, h2⟩ := Option.bind_eq_some_iff.mp hl
      obtain ⟨a, us, rfl, q, r⟩ := hS.itemsL r1 h1
      rw [Rs.bls h2 r] at q
      exact ⟨a, ks, rfl, q, hp.ok_of Le.refl (.bl _) hS⟩
  · exact hp.elim
theorem scr_any (hc : X.calm = true) : CallR X (.builtin "any") (rN X.K T bAny) := cr_of (cr_any hc) fun P F io s xs vs H Q rx hS hp => by
  unfold bAny at hp
  split at hp
  · obtain ⟨v, rfl, r1⟩ := rx.one
    rename_i x
    cases hl : (bAll.itemsL s x).bind blsOf with
    | none => rw [hl] at hp; exact hp.elim
    | some ks =>
      rw [hl] at hp
      obtain ⟨ys, h1, h2⟩ := Option.bind_eq_some_iff.mp hl
      obtain ⟨a, us, rfl, q, r⟩ := hS.itemsL r1 h1
      rw [Rs.bls h2 r] at q
      exact ⟨a, ks, rfl, q, hp.ok_of Le.refl (.bl _) hS⟩
  · exact hp.elim
theorem RS.seqL {K : PySem.W.Frag} {P F : Hp} {io : List Addr} {s : Store} {H : Hp} {x : PV} {v : V} {xs : List PV} (r : RS K T P F io s H) (q : R K T F io x v) (e : itemsOf s x = some xs) : (∃ a vs, v = .ref a ∧ SqL K H a vs ∧ Rs K T F io xs vs) ∨ ∃ a vs, v = .ref a ∧ x = .tup xs ∧ SqT K F a vs ∧ Rs K T F io xs vs := by
  cases q with
  | tup h1 h2 => simp [itemsOf, deref] at e; subst e; exact .inr ⟨_, _, rfl, rfl, h1, h2⟩
  | lst h1 h2 => simp [itemsOf, deref] at e; subst e; exact .inl ⟨_, _, rfl, .of (r.sub _ _ h1), h2⟩
  | ro h1 h2 => simp [itemsOf, deref] at e; subst e; exact .inl ⟨_, _, rfl, r.lst h1, h2⟩
  | @loc a n h1 =>
    have hn : n < s.length := by rw [r.len]; exact (List.getElem?_eq_some_iff.mp h1).1
    obtain ⟨o, e2, e3⟩ := r.loc h1 (List.getElem?_eq_getElem hn)
    have ed : deref s (.loc n) = s[n] := by simp [deref, List.getD, List.getElem?_eq_getElem hn]
    simp only [itemsOf, ed] at e
    generalize s[n] = c at e e3
    cases e3 with
    | lst q3 => simp at e; subst e; exact .inl ⟨_, _, rfl, .of e2, q3⟩
    | _ => simp at e
  | _ => simp [itemsOf, deref] at e
theorem scr_tuple : CallR X (.type "tuple") (rN X.K T bTuple) := cr_of call_tuple_of fun P F io s xs vs H Q rx hS hp => by
  unfold bTuple at hp
  split at hp
  · obtain ⟨v, rfl, r1⟩ := rx.one
    rename_i x
    cases hl : itemsOf s x with
    | none => rw [hl] at hp; exact hp.elim
    | some ks =>
      rw [hl] at hp
      rcases hS.seqL r1 hl with ⟨a, us, rfl, q, r⟩ | ⟨a, us, rfl, rfl, q, r⟩
      · refine ⟨a, us, rfl, .inl ⟨q, fun l hn => ?_⟩⟩
        obtain ⟨l2, hS2⟩ := hS.grow (o := .tup us) hn
        exact hp.ok_of l2 (.tup (.inl (.inl upd_same)) (r.mono l2)) hS2
      · exact ⟨a, us, rfl, .inr ⟨hS.tup q, hp.ok_of Le.refl r1 hS⟩⟩
  · exact hp.elim
theorem scr_list : CallR X (.type "list") (rN X.K T bList) := cr_of call_list_of fun P F io s xs vs H Q rx hS hp => by
  unfold bList at hp
  split at hp
  · obtain ⟨v, rfl, r1⟩ := rx.one
    rename_i x
    cases hl : itemsOf s x with
    | none => rw [hl] at hp; exact hp.elim
    | some ks =>
      rw [hl] at hp
      obtain ⟨a, us, rfl, q, r⟩ := hS.seq r1 hl
      refine ⟨a, us, rfl, q, fun l hn => ?_⟩
      obtain ⟨l2, hS2⟩ := hS.grow (o := .lst us) hn
      exact hp.ok_of l2 (.lst upd_same (r.mono l2)) hS2
  · exact hp.elim

/-! ### sorted, of texts -/
theorem insS_perm (x : List Nat) : ∀ l, (insS x l).Perm (x :: l)
  | [] => .refl _
  | y :: r => by
    unfold insS
    split
    · exact ((insS_perm x r).cons y).trans (.swap x y r)
    · exact .refl _
theorem sortS_perm : ∀ l, (sortS l).Perm l
  | [] => .refl _
  | x :: r => (insS_perm x _).trans ((sortS_perm r).cons x)
theorem le_of_pair : ∀ {l : List (List Nat)}, l.Pairwise (· ≤ ·) → ∀ x, (insS x l).Pairwise (· ≤ ·)
  | [], _, x => by simp [insS]
  | y :: r, h, x => by
    obtain ⟨h1, h2⟩ := List.pairwise_cons.mp h
    unfold insS
    split
    · rename_i hl
      refine List.pairwise_cons.mpr ⟨fun z hz => ?_, le_of_pair h2 x⟩
      rcases List.mem_cons.mp ((insS_perm x r).mem_iff.mp hz) with e | e
      · rw [e]; exact List.le_of_lt hl
      · exact h1 z e
    · rename_i hl
      refine List.pairwise_cons.mpr ⟨fun z hz => ?_, h⟩
      rcases List.mem_cons.mp hz with e | e
      · rw [e]; exact List.not_lt.mp hl
      · exact List.le_trans (List.not_lt.mp hl) (h1 z e)
theorem sortS_pair : ∀ l, (sortS l).Pairwise (· ≤ ·)
  | [] => .nil
  | x :: r => le_of_pair (sortS_pair r) x
theorem rising_pair : ∀ (l : List Str) (p : Str), risingS p l = true → ((p :: l).map fun z => z.cps.toList).Pairwise (· ≤ ·)
  | [], p, _ => by simp
  | x :: r, p, h => by
    have h' : (!ltCps x.cps.toList p.cps.toList && risingS x r) = true := h
    rw [Bool.and_eq_true] at h'
    have ih := rising_pair r x h'.2
    have hle : p.cps.toList ≤ x.cps.toList := by
      have := h'.1
      rw [ltCps_eq] at this
      exact List.not_lt.mp (by simpa using this)
    rw [List.map_cons, List.pairwise_cons]
    refine ⟨fun z hz => ?_, ih⟩
    rw [List.map_cons] at hz ih
    rcases List.mem_cons.mp hz with e | e
    · rw [e]; exact hle
    · exact List.le_trans hle ((List.pairwise_cons.mp ih).1 z e)
theorem sorted_pair : ∀ (l : List Str), sortedS l = true → (l.map fun z => z.cps.toList).Pairwise (· ≤ ·)
  | [], _ => by simp
  | x :: r, h => rising_pair r x h
theorem sort_eq {ks : List (List Nat)} {ys : List Str} (hp : ys.Perm (ks.map St8)) (hs : sortedS ys = true) : ys = (sortS ks).map St8 := by
  have h1 : (ys.map fun z => z.cps.toList).Perm ks := by
    have := hp.map fun z : Str => z.cps.toList
    rw [List.map_map] at this
    have e : ((fun z : Str => z.cps.toList) ∘ St8) = id := by funext z; simp
    rw [e, List.map_id] at this
    exact this
  have h2 : ys.map (fun z => z.cps.toList) = sortS ks := List.Perm.eq_of_pairwise (le := (· ≤ ·)) (fun a b _ _ h k => List.le_antisymm h k) (sorted_pair ys hs) (sortS_pair ks) (h1.trans (sortS_perm ks).symm)
  rw [← h2, List.map_map]
  have e : (St8 ∘ fun z : Str => z.cps.toList) = id := by funext ⟨z⟩; simp
  rw [e, List.map_id]
theorem Rs.of_strs {K : PySem.W.Frag} {F : Hp} {io : List Addr} : ∀ (l : List (List Nat)), Rs K T F io (l.map PV.str) ((l.map St8).map V.str)
  | [] => .nil
  | x :: r => .cons (.str x) (Rs.of_strs r)
theorem scr_sorted : CallR X (.builtin "sorted") (rN X.K T bSorted) := cr_of cr_sortedS fun P F io s xs vs H Q rx hS hp => by
  unfold bSorted at hp
  split at hp
  · obtain ⟨v, rfl, r1⟩ := rx.one
    rename_i x
    cases hl : (bAll.itemsL s x).bind strsOf with
    | none => rw [hl] at hp; exact hp.elim
    | some ks =>
      rw [hl] at hp
      simp only [ofO_some, Res.bind_ok] at hp
      split at hp
      · rename_i h64
        obtain ⟨ys, h1, h2⟩ := Option.bind_eq_some_iff.mp hl
        obtain ⟨a, us, rfl, q, r⟩ := hS.itemsL r1 h1
        rw [Rs.strs h2 r] at q
        refine ⟨a, ks.map St8, rfl, q, by simpa using h64, fun zs p hp1 hp2 np => ?_⟩
        have e := sort_eq hp1 hp2
        subst e
        obtain ⟨l2, hS2⟩ := hS.grow (o := .lst (((sortS ks).map St8).map V.str)) np
        exact hp.ok_of l2 (.lst upd_same (Rs.of_strs _)) hS2
      · exact hp.elim
  · exact hp.elim

/-! ### isinstance -/
def Tb.tgv (T : Tb) : Tg → Value
  | .t n => .type n
  | .c n => .ref (T.ca n)
/-- instances of the class have a class that isinstance can read -/
structure InsOk (K : PySem.W.Frag) (C : Addr) : Prop where
  cl : Cls K C
  ha : PySem.W.findIn K (.ref C) "__class__" = some (some (.builtin "object.__class__"))
  hn : PySem.W.specialIn K (.builtin "object.__class__") "__get__" = some (some (.builtin "getset_descriptor.__get__"))
  htk : PySem.W.takesIn K (.builtin "object.__class__") = some true
  hm : PySem.W.mroIn K C (.type "object") = some true
def IsiS (K : PySem.W.Frag) (T : Tb) (tab : List ((Tg × Tg) × Bool)) : Prop := ∀ e ∈ tab, PySem.W.kitOne K (T.tgv e.1.1) (T.tgv e.1.2) = some e.2 ∧ ∀ c, e.1.1 = .c c → InsOk K (T.ca c)
theorem lookupT_mem {tab : List ((Tg × Tg) × Bool)} {q : Tg × Tg} {b : Bool} (e : tab.lookup q = some b) : (q, b) ∈ tab := by
  induction tab with
  | nil => cases e
  | cons a r ih =>
    obtain ⟨p, u⟩ := a
    rw [List.lookup_cons] at e
    cases hb : q == p with
    | true => rw [hb] at e; cases e; rw [beq_iff_eq.mp hb]; exact List.mem_cons_self ..
    | false => rw [hb] at e; exact List.mem_cons_of_mem _ (ih e)
theorem tyx_of {K : PySem.W.Frag} {P F : Hp} {io : List Addr} {s : Store} {H : Hp} {x : PV} {v : V} {g : Tg} (hS : RS K T P F io s H) (r : R K T F io x v) (e : tgOf s x = some g) (hc : ∀ c, g = .c c → InsOk K (T.ca c)) : TyX K H v (T.tgv g) := by
  have insT : ∀ {a dx : Addr} {c : Nat} {fv : List (Str × V)}, H a = some (.ins (T.ca c) dx fv) → InsOk K (T.ca c) → TyX K H (.ref a) (.ref (T.ca c)) := fun h k => .base (.ins h k.cl k.ha k.hn k.htk k.hm)
  cases r with
  | non => cases e; exact .base .non
  | bl b => cases e; exact .base (.bl b)
  | int i => cases e; exact .base (.int i)
  | str l => cases e; exact .base (.str _)
  | tup h1 h2 =>
    cases e
    rcases hS.tup h1 with (h | ⟨o, h⟩) | ⟨o, its, n, h, c, _⟩
    · exact .base (.tup h)
    · exact .fTuple h
    · exact .kTuple h c
  | lst h1 h2 => cases e; exact .base (.lst (hS.sub _ _ h1))
  | dic h1 h2 h3 => cases e; exact .base (.dK (hS.sub _ _ h1))
  | @ins a dx c vs fv h1 h2 h3 => cases e; exact insT (hS.sub _ _ h1) (hc _ rfl)
  | @loc a n h1 =>
    have hn : n < s.length := by rw [hS.len]; exact (List.getElem?_eq_some_iff.mp h1).1
    have ed : deref s (.loc n) = s[n] := by simp [deref, List.getD, List.getElem?_eq_getElem hn]
    obtain ⟨o, e2, e3⟩ := hS.loc h1 (List.getElem?_eq_getElem hn)
    simp only [tgOf, ed] at e
    generalize s[n] = c at e e3
    cases e3 with
    | lst q => cases e; exact .base (.lst e2)
    | dic q1 q2 => cases e; exact .base (.dK e2)
    | @ins dx c vs fv q1 q2 => cases e; exact insT e2 (hc _ rfl)
  | _ => cases e
theorem scr_isi {tab : List ((Tg × Tg) × Bool)} (G : IsiS X.K T tab) : CallR X (.builtin "isinstance") (rN X.K T (bIsi tab)) := cr_of call_isi fun P F io s xs vs H Q rx hS hp => by
  unfold bIsi at hp
  split at hp
  · rename_i x n
    obtain ⟨v, u, rfl, r1, r2⟩ := rx.two
    cases r2
    cases hl : (tgOf s x).bind fun g => tab.lookup (g, Tg.t n) with
    | none => rw [hl] at hp; exact hp.elim
    | some k =>
      rw [hl] at hp
      obtain ⟨g, h1, h2⟩ := Option.bind_eq_some_iff.mp hl
      obtain ⟨g1, g2⟩ := G _ (lookupT_mem h2)
      exact ⟨v, .ty n, T.tgv g, .type n, k, rfl, .ty n, tyx_of hS r1 h1 g2, g1, hp.ok_of Le.refl (.bl _) hS⟩
  · rename_i x c
    obtain ⟨v, u, rfl, r1, r2⟩ := rx.two
    cases r2
    cases hl : (tgOf s x).bind fun g => tab.lookup (g, Tg.c c) with
    | none => rw [hl] at hp; exact hp.elim
    | some k =>
      rw [hl] at hp
      obtain ⟨g, h1, h2⟩ := Option.bind_eq_some_iff.mp hl
      obtain ⟨g1, g2⟩ := G _ (lookupT_mem h2)
      exact ⟨v, .ref (T.ca c), T.tgv g, .ref (T.ca c), k, rfl, .own _, tyx_of hS r1 h1 g2, g1, hp.ok_of Le.refl (.bl _) hS⟩
  · exact hp.elim
end
end Mir
/-! Mir, part K: == and != by an own __eq__. -/
namespace Mir
open PySem PySem.Spec PyProof.Rows L2 PySem.W
section
variable {prog : Program} {w : World} {A A₀ : Around} {E : Value → Shared → Prop} {s : Shared} {K : Frag} {x C L f : Addr} {h₀ : Heap} {m : Str → Option Value} {ox : Obj} {od : Option Obj} {name : Str} {b tb : Value}
theorem ne_bind (self : Value) : bindSpecial (.builtin "object.__ne__") self = pure (.builtin "object.__ne__", [self]) :=
  (Slot.of (T := "object") (name := "__ne__") (owner := "object") (n := "__ne__") (by rw [typeLookup_type, builtinLookup_eq_fast]; kernel_rfl) (by decide +kernel) (by decide +kernel) (by decide +kernel)
    (.inl (by decide +kernel)) (by rw [isSubtype_type]; kernel_rfl)).bind self
theorem ifBoundB_K {M : Model} {args : List Value} {id : String} {Q : Option Value → Shared → Prop} (X : K.In s.heap) (I : InstAt s.heap x ox C od) (hs : findIn K (.ref C) name = some (some (.builtin id))) (hb : ∀ self, bindSpecial (.builtin id) self = pure (.builtin id, [self]))
    (h : wpAny M A (call (.builtin id) (.ref x :: args)) (fun v => Q (some v)) E s) : wpAny M A (callSpecialIfBound? (.ref x) name args) Q E s := by
  simp only [callSpecialIfBound?, bindSpecialIfBound?]
  refine wpAny_holding (wpAny_bind (wpAny_bind (wpAny_bind (I.type.here ((looks_findIn X hs).here ?_)))))
  refine wpAny_bind (wpAny_askSetting (wpAny_ite ?_))
  have fin : wpAny M A (call (.builtin id) ([.ref x] ++ args) >>= fun v => pure (some v)) Q E s := wpAny_bind (wpAny_mono h (fun v s' h' => wpAny_pure h') fun _ _ h' => h')
  simp only [hb]
  split
  · exact wpAny_bind (wpAny_pure (wpAny_pure (by exact fin)))
  · exact wpAny_tryCatch (wpAny_bind (wpAny_pure (wpAny_pure (by exact fin))))
theorem ne_K {Q : Value → Shared → Prop} (hu : A.units + 1 < cLine) (F : Fr h₀ L s.heap m) (X₀ : K.In h₀) (I : InstAt s.heap x ox C od) (hb : Looks (model prog w) s.heap (typeOf b) tb) (hn : notFirst K C tb = true)
    (hne : findIn K (.ref C) "__ne__" = some (some (.builtin "object.__ne__"))) (hm : mroIn K C (.type "object") = some true)
    (hs : findIn K (.ref C) "__eq__" = some (some (.ref f))) (hf : isFn K (.ref f) = true)
    (h : wpAny (model prog w) A.in1 (call (.ref f) [.ref x, b]) (fun v s' => ∃ k, v = .bool k ∧ Q (.bool !k) s') E s) : wpAny (model prog w) A (richCompare .NotEq (.ref x) b) Q E s := by
  have X := X₀.keeps F.keep
  have hu1 : A.units < cLine := by omega
  have one : wpAny (model prog w) A (tryCompare (.ref x) "__ne__" b) (fun r s' => ∃ v, r = some v ∧ Q v s') E s := by
    unfold tryCompare
    refine wpAny_bind (ifBoundB_K X I hne ne_bind (wpAny_call (codeAny_call_builtin PySem.F.cmp_object.ne.plain PySem.F.cmpEntry_ne (check_slot (i := "object.__ne__") (owner := "object") (n := "__ne__") (by decide +kernel) (by decide +kernel) (I.type.andThen (looks_mroIn X hm)) (PySem.F.cmpArgs_ne _ _) ?_))))
    unfold Builtin.«object.__ne__»
    refine wpAny_bind (m := slotArgs "__ne__" 1 _) (wpAny_pure ?_)
    refine wpAny_bind (m := cRoomFor _ _) (wpAny_cRoomFor hu ?_)
    refine wpAny_bind (m := callSpecialIfBound? (.ref x) (Str.ofString "__eq__") _) (ifBound_K X I hs hf (wpAny_mono h (fun r s' hq => ?_) fun _ _ y => y))
    obtain ⟨k, rfl, hq⟩ := hq
    refine wpAny_bind (m := truthy (.bool k)) (wpAny_truthy_bool ?_)
    exact wpAny_pure (wpAny_pure ⟨_, rfl, hq⟩)
  unfold richCompare
  simp only [oneThing_ref]
  refine wpAny_holding (wpAny_bind (wpAny_cRoomFor hu1 ?_))
  rw [cmpInfo_NotEq]
  dsimp only
  refine wpAny_bind (I.type.here (wpAny_bind (hb.here ?_)))
  split
  · rename_i q
    have e : subIn K tb (.ref C) = some false := by
      rcases Bool.or_eq_true_iff.mp hn with e | e
      · rw [beq_iff_eq.mp e] at q; simp at q
      · exact beq_iff_eq.mp e
    refine wpAny_bind ((looks_subIn X e).here ?_)
    simp only [Bool.false_eq_true, if_false]
    refine wpAny_bind (wpAny_mono one (fun r s' z => ?_) fun _ _ e => e)
    obtain ⟨v, rfl, hq⟩ := z
    exact wpAny_pure hq
  · refine wpAny_bind (wpAny_pure ?_)
    simp only [Bool.false_eq_true, if_false]
    refine wpAny_bind (wpAny_mono one (fun r s' z => ?_) fun _ _ e => e)
    obtain ⟨v, rfl, hq⟩ := z
    exact wpAny_pure hq
end

/-! ### a function's call somewhere below -/
section
variable {X : Cx} {T : Tb} {W : WX} {k n : Nat} {f : Addr} {ks : List Str} {h : List PV → List PV → Store → Res PV}
theorem call_valA {A : Around} {pins : List (Addr × Obj)} {σ : L2.St} {H : Hp} {s : Shared} {Q : VK} {us : List Value} {vs : List V} {P F : Hp} {io : List Addr} {xs : List PV} {st : Store}
    (G : FnS X.prog X.w X.K X.mg X.base T k f n [] h) (hr : Room k A) (hE : Env0 X.prog X.w X.K X.mg X.base A X.stack s H) (tk : Takes X W) (I : Inv X pins σ H s) (r : Vals vs us) (l1 : vs.length = n)
    (rx : Rs X.K T F io xs vs) (hS : RS X.K T P F io st H) (hp : Post X.K T P (rV X.K T) (fun c d H' => W c d σ H') F io (h xs [] st) Q) : wpAny (model X.prog X.w) A (call (.ref f) us) (EP X pins σ Q) X.xe s := by
  obtain ⟨fd, ps, m, gP, F1, ⟨g, gV, kb, rel⟩, rfl⟩ := G.ex
  have r3 := rel F io xs [] vs [] rx .nil l1 rfl
  have hb := kb.rel r .nil
  refine wpAny_call (codeAny_mono (F1.run A X.stack s H ⟨us, []⟩ (g us []) (gV vs []) Q (fun c d H' => W c d σ H') hr hE (by simpa using kb.to s us [] I.kIn (r.length.symm.trans l1) rfl) hb ⟨r3.2, P, F, io, _, st, r3.1, hS, hp⟩) fun r s' hq => ?_)
  cases r with
  | error e => exact (passAt tk σ) pins H s e s' I hq
  | ok fl =>
    cases fl with
    | ret u => exact I.after hq
    | next => exact False.elim hq
    | brk => exact False.elim hq
    | cont => exact False.elim hq
/-- an own class with an own == ; gs: the classes of what stands on the right -/
structure EqS (P : Program) (w : World) (K : PySem.W.Frag) (mg : Str → Option Value) (base : Heap) (T : Tb) (k : Nat) (c : Nat) (gs : List Tg) (h : List PV → List PV → Store → Res PV) : Prop where
  ex : ∃ f, PySem.W.findIn K (.ref (T.ca c)) "__eq__" = some (some (.ref f)) ∧ PySem.W.isFn K (.ref f) = true ∧ FnS P w K mg base T k f 2 [] h
  nf : ∀ g ∈ gs, PySem.W.notFirst K (T.ca c) (T.tgv g) = true ∧ ∀ d, g = .c d → InsOk K (T.ca d)
  ne : PySem.W.findIn K (.ref (T.ca c)) "__ne__" = some (some (.builtin "object.__ne__")) ∧ PySem.W.mroIn K (T.ca c) (.type "object") = some true
abbrev EqTab := List (Nat × List Tg × (List PV → List PV → Store → Res PV))
def eqOf (tab : EqTab) (s : Store) (x y : PV) : Option (List PV → List PV → Store → Res PV) := match (clsOf s x).bind fun c => tab.lookup c with
  | some (gs, h) => (match tgOf s y with
    | some g => if g ∈ gs then some h else none
    | none => none)
  | none => none
/-- x == y, x an instance with an own == -/
def eOwnEq (tab : EqTab) (a b : EM) : EM := fun σ s => (a σ s).bind fun x s1 => (b σ s1).bind fun y s2 => match eqOf tab s2 x y with
  | some h => h [x, y] [] s2
  | none => .stuck
def eOwnNe (tab : EqTab) (a b : EM) : EM := fun σ s => (a σ s).bind fun x s1 => (b σ s1).bind fun y s2 => match eqOf tab s2 x y with
  | some h => (h [x, y] [] s2).bind fun z s3 => match z with
    | .bl k => .ok (.bl !k) s3
    | _ => .stuck
  | none => .stuck
theorem eqOf_use {tab : EqTab} {P F : Hp} {io : List Addr} {s : Store} {H : Hp} {x y : PV} {v u : V} {pins : List (Addr × Obj)} {σ : L2.St} {sh : Shared} (hS : RS X.K T P F io s H) (rx : R X.K T F io x v) (ry : R X.K T F io y u) (I : Inv X pins σ H sh) {u' : Value} (ru : RelV u u')
    (G : ∀ q ∈ tab, EqS X.prog X.w X.K X.mg X.base T k q.1 q.2.1 q.2.2) (e : eqOf tab s x y = some h) : ∃ c f a ox od, v = .ref a ∧ PySem.W.InstAt sh.heap a ox (T.ca c) od ∧ Looks (model X.prog X.w) sh.heap (typeOf u') (T.tgv ((tgOf s y).getD (.t ""))) ∧
      PySem.W.notFirst X.K (T.ca c) (T.tgv ((tgOf s y).getD (.t ""))) = true ∧ PySem.W.findIn X.K (.ref (T.ca c)) "__eq__" = some (some (.ref f)) ∧ PySem.W.isFn X.K (.ref f) = true ∧ FnS X.prog X.w X.K X.mg X.base T k f 2 [] h ∧
      PySem.W.findIn X.K (.ref (T.ca c)) "__ne__" = some (some (.builtin "object.__ne__")) ∧ PySem.W.mroIn X.K (T.ca c) (.type "object") = some true := by
  unfold eqOf at e
  split at e
  · rename_i gs h' hc
    obtain ⟨c, hc1, hc2⟩ := Option.bind_eq_some_iff.mp hc
    split at e
    · rename_i g hg
      split at e
      · rename_i hgs
        cases e
        have G1 := G _ (lookup_mem hc2)
        obtain ⟨f, g1, g2, g3⟩ := G1.ex
        obtain ⟨n1, n2⟩ := G1.nf g hgs
        obtain ⟨a, dx, fv, rfl, e2, _⟩ := eMeth_use hS rx hc1
        obtain ⟨mA, O, _⟩ := ins_get I.hok e2
        obtain ⟨od, J, _⟩ := O.look
        have ty := tyx_of hS ry hg n2
        obtain ⟨Pz, Z, p, _⟩ := kit_of I ru ty
        rw [hg]
        exact ⟨c, f, a, _, od, rfl, J, Z.ty _ _ I.kIn p, n1, g1, g2, g3, G1.ne.1, G1.ne.2⟩
      · cases e
    · cases e
  · cases e
variable {a b : Expr} {ma mb : EM} {pos : Pos} {tab : EqTab}
/-- == as an operator by values, own == -/
def rOwnEq (X : Cx) (T : Tb) (W : WX) (tab : EqTab) (σ : L2.St) : R2 := fun v u H Q => ∃ P F io s x y, R X.K T F io x v ∧ R X.K T F io y u ∧ RS X.K T P F io s H ∧ Post X.K T P (rV X.K T) (fun c d H' => W c d σ H') F io (match eqOf tab s x y with
  | some h => h [x, y] [] s
  | none => .stuck) Q
theorem op_ownEq (G : ∀ q ∈ tab, EqS X.prog X.w X.K X.mg X.base T k q.1 q.2.1 q.2.2) (hr : Room (k + 1) X.A) (tk : Takes X W) {pins : List (Addr × Obj)} {s : Shared} {σ : L2.St} {H : Hp} {x y : V} {v u : Value} {Q : VK} (I : Inv X pins σ H s) (rx : RelV x v) (ry : RelV y u)
    (hq : rOwnEq X T W tab σ x y H Q) : wpAny (model X.prog X.w) X.A (compareOp .Eq v u) (EP X pins σ Q) X.xe s := by
  obtain ⟨P, F, io, st, p, q, rp, rq, hS, hp⟩ := hq
  cases hc : eqOf tab st p q with
  | none => rw [hc] at hp; exact hp.elim
  | some h =>
    rw [hc] at hp
    obtain ⟨c, f, a, ox, od, rfl, J, L, nf, h1, h2, h3, _, _⟩ := eqOf_use hS rp rq I ry G hc
    cases rx
    obtain ⟨m, hF⟩ := I.fr
    refine PySem.W.cmp_ofEq (PySem.W.cmp_K (op := .Eq) hr.units0 hF I.ok.mod.kin J L nf h1 h2 ?_)
    refine wpAny_mono (call_valA (us := [.ref a, u]) (vs := [.ref a, y]) h3 (hr.mono (Nat.le_succ k)) I.env0 tk I (.cons rfl (.cons ry .nil)) rfl (.cons rp (.cons rq .nil)) hS hp) (fun w s' z => ?_) fun _ _ x => x
    obtain ⟨z', H', I', rz, qz⟩ := z
    exact SlX.cmpback rz ⟨z', H', I', rz, qz⟩
theorem op_ownNe (G : ∀ q ∈ tab, EqS X.prog X.w X.K X.mg X.base T k q.1 q.2.1 q.2.2) (hr : Room (k + 1) X.A) (tk : Takes X W) {pins : List (Addr × Obj)} {s : Shared} {σ : L2.St} {H : Hp} {x y : V} {v u : Value} {Q : VK} (I : Inv X pins σ H s) (rx : RelV x v) (ry : RelV y u)
    (hq : rOwnEq X T W tab σ x y H fun z H' => ∃ k, z = .bl k ∧ Q (.bl !k) H') : wpAny (model X.prog X.w) X.A (compareOp .NotEq v u) (EP X pins σ Q) X.xe s := by
  obtain ⟨P, F, io, st, p, q, rp, rq, hS, hp⟩ := hq
  cases hc : eqOf tab st p q with
  | none => rw [hc] at hp; exact hp.elim
  | some h =>
    rw [hc] at hp
    obtain ⟨c, f, a, ox, od, rfl, J, L, nf, h1, h2, h3, h4, h5⟩ := eqOf_use hS rp rq I ry G hc
    cases rx
    obtain ⟨m, hF⟩ := I.fr
    refine PySem.W.cmp_ofNotEq (ne_K (by have := hr.un; omega) hF I.ok.mod.kin J L nf h4 h5 h1 h2 ?_)
    refine wpAny_mono (call_valA (us := [.ref a, u]) (vs := [.ref a, y]) h3 hr.in1 I.env0.in1 tk I (.cons rfl (.cons ry .nil)) rfl (.cons rp (.cons rq .nil)) hS hp) (fun w s' z => ?_) fun _ _ x => x
    obtain ⟨z', H', I', rz, kk, ez, qz⟩ := z
    subst ez
    cases (show w = Value.bool kk from rz)
    exact ⟨kk, rfl, .bl !kk, H', I', rfl, qz⟩
theorem me_ownEq (G : ∀ q ∈ tab, EqS X.prog X.w X.K X.mg X.base T k q.1 q.2.1 q.2.2) (hr : Room (k + 1) X.A) (tk : Takes X W) (ha : PE X a (tE X.K T W ma)) (hb : PE X b (tE X.K T W mb)) (hm : behindInMarks .Eq b = false) : PE X (.Compare a [.Eq] [b] pos) (tE X.K T W (eOwnEq tab ma mb)) := by
  refine ⟨fun pins s σ H Q I ⟨P, F, io, en, st, hE, hS, hp⟩ => ?_⟩
  refine wpAny_Compare1 (thn (ha.run pins s σ H _ I ⟨P, F, io, en, st, hE, hS, Post.bind (rel := rV X.K T) hp⟩) fun v s1 ⟨x, H1, I1, r1, F1, io1, px, st1, l1, rx, hS1, hp1⟩ => ?_) hm
  refine thn (hb.run pins s1 σ H1 _ I1 ⟨P, F1, io1, en, st1, hE.mono l1, hS1, Post.bind (rel := rV X.K T) hp1⟩) fun u s2 ⟨y, H2, I2, r2, F2, io2, py, st2, l2, ry, hS2, hp2⟩ => ?_
  exact op_ownEq G hr tk I2 r1 r2 ⟨P, F2, io2, st2, px, py, rx.mono l2, ry, hS2, hp2⟩
theorem ne_use {K : PySem.W.Frag} {P F : Hp} {io : List Addr} {Wz : Value → Option Addr → Hp → Prop} {r : Res PV} {Q : VK} (hp : Post K T P (rV K T) Wz F io (r.bind fun z s3 => match z with
    | .bl k => .ok (.bl !k) s3
    | _ => .stuck) Q) : Post K T P (rV K T) Wz F io r fun z H' => ∃ k, z = .bl k ∧ Q (.bl !k) H' := by
  cases r with
  | ok z s3 =>
    cases z with
    | bl k => exact fun F1 io1 y H1 l1 r1 hS1 => by cases r1; exact ⟨k, rfl, hp F1 io1 _ H1 l1 (.bl _) hS1⟩
    | _ => exact hp.elim
  | exc e s3 => exact hp
  | stuck => exact hp
theorem me_ownNe (G : ∀ q ∈ tab, EqS X.prog X.w X.K X.mg X.base T k q.1 q.2.1 q.2.2) (hr : Room (k + 1) X.A) (tk : Takes X W) (ha : PE X a (tE X.K T W ma)) (hb : PE X b (tE X.K T W mb)) (hm : behindInMarks .NotEq b = false) : PE X (.Compare a [.NotEq] [b] pos) (tE X.K T W (eOwnNe tab ma mb)) := by
  refine ⟨fun pins s σ H Q I ⟨P, F, io, en, st, hE, hS, hp⟩ => ?_⟩
  refine wpAny_Compare1 (thn (ha.run pins s σ H _ I ⟨P, F, io, en, st, hE, hS, Post.bind (rel := rV X.K T) hp⟩) fun v s1 ⟨x, H1, I1, r1, F1, io1, px, st1, l1, rx, hS1, hp1⟩ => ?_) hm
  refine thn (hb.run pins s1 σ H1 _ I1 ⟨P, F1, io1, en, st1, hE.mono l1, hS1, Post.bind (rel := rV X.K T) hp1⟩) fun u s2 ⟨y, H2, I2, r2, F2, io2, py, st2, l2, ry, hS2, hp2⟩ => ?_
  refine op_ownNe G hr tk I2 r1 r2 ⟨P, F2, io2, st2, px, py, rx.mono l2, ry, hS2, ?_⟩
  replace hp2 : Post X.K T P (rV X.K T) (fun c d H' => W c d σ H') F2 io2 (match eqOf tab st2 px py with
    | some h => (h [px, py] [] st2).bind fun z s3 => match z with
      | .bl k => .ok (.bl !k) s3
      | _ => .stuck
    | none => .stuck) Q := hp2
  cases hc : eqOf tab st2 px py with
  | none => rw [hc] at hp2; exact hp2
  | some h => rw [hc] at hp2; exact ne_use hp2
theorem bl_use {K : PySem.W.Frag} {P F : Hp} {io : List Addr} {Wz : Value → Option Addr → Hp → Prop} {r : Res PV} {Q : Bool → Hp → Prop} (hp : Post K T P rB Wz F io (r.bind fun z s3 => match z with
    | .bl k => .ok k s3
    | _ => .stuck) Q) : Post K T P (rV K T) Wz F io r fun z H' => ∃ k, z = .bl k ∧ Q k H' := by
  cases r with
  | ok z s3 =>
    cases z with
    | bl k => exact fun F1 io1 y H1 l1 r1 hS1 => by cases r1; exact ⟨k, rfl, hp F1 io1 _ H1 l1 rfl hS1⟩
    | _ => exact hp.elim
  | exc e s3 => exact hp
  | stuck => exact hp
theorem qe_ownEq (G : ∀ q ∈ tab, EqS X.prog X.w X.K X.mg X.base T k q.1 q.2.1 q.2.2) (hr : Room (k + 1) X.A) (tk : Takes X W) (ha : PE X a (tE X.K T W ma)) (hb : PE X b (tE X.K T W mb)) (hm : behindInMarks .Eq b = false) : PT X (.Compare a [.Eq] [b] pos) (tQ X.K T W (qBl (eOwnEq tab ma mb))) := by
  refine ⟨fun pins s σ H Q I ⟨P, F, io, en, st, hE, hS, hp⟩ => ?_⟩
  replace hp := bl_use hp
  refine wpAny_isTrue_Compare1 (thn (ha.run pins s σ H _ I ⟨P, F, io, en, st, hE, hS, Post.bind (rel := rV X.K T) hp⟩) fun v s1 ⟨x, H1, I1, r1, F1, io1, px, st1, l1, rx, hS1, hp1⟩ => ?_) hm
  refine thn (hb.run pins s1 σ H1 _ I1 ⟨P, F1, io1, en, st1, hE.mono l1, hS1, Post.bind (rel := rV X.K T) hp1⟩) fun u s2 ⟨y, H2, I2, r2, F2, io2, py, st2, l2, ry, hS2, hp2⟩ => ?_
  refine thn (op_ownEq G hr tk I2 r1 r2 ⟨P, F2, io2, st2, px, py, rx.mono l2, ry, hS2, hp2⟩) fun c s3 ⟨z, H3, I3, r3, kk, e, q3⟩ => ?_
  subst e
  cases r3
  exact wpAny_truthy_bool ⟨H3, I3, q3⟩
theorem qe_ownNe (G : ∀ q ∈ tab, EqS X.prog X.w X.K X.mg X.base T k q.1 q.2.1 q.2.2) (hr : Room (k + 1) X.A) (tk : Takes X W) (ha : PE X a (tE X.K T W ma)) (hb : PE X b (tE X.K T W mb)) (hm : behindInMarks .NotEq b = false) : PT X (.Compare a [.NotEq] [b] pos) (tQ X.K T W (qBl (eOwnNe tab ma mb))) := by
  refine ⟨fun pins s σ H Q I ⟨P, F, io, en, st, hE, hS, hp⟩ => ?_⟩
  replace hp := bl_use hp
  refine wpAny_isTrue_Compare1 (thn (ha.run pins s σ H _ I ⟨P, F, io, en, st, hE, hS, Post.bind (rel := rV X.K T) hp⟩) fun v s1 ⟨x, H1, I1, r1, F1, io1, px, st1, l1, rx, hS1, hp1⟩ => ?_) hm
  refine thn (hb.run pins s1 σ H1 _ I1 ⟨P, F1, io1, en, st1, hE.mono l1, hS1, Post.bind (rel := rV X.K T) hp1⟩) fun u s2 ⟨y, H2, I2, r2, F2, io2, py, st2, l2, ry, hS2, hp2⟩ => ?_
  have hp3 : Post X.K T P (rV X.K T) (fun c d H' => W c d σ H') F2 io2 (match eqOf tab st2 px py with
    | some h => (h [px, py] [] st2).bind fun z s3 => match z with
      | .bl k => .ok (.bl !k) s3
      | _ => .stuck
    | none => .stuck) _ := hp2
  refine thn (op_ownNe G hr tk I2 r1 r2 (Q := fun z H' => ∃ k, z = .bl k ∧ Q k H') ⟨P, F2, io2, st2, px, py, rx.mono l2, ry, hS2, ?_⟩) fun c s3 ⟨z, H3, I3, r3, kk, e, q3⟩ => ?_
  · cases hc : eqOf tab st2 px py with
    | none => rw [hc] at hp3; exact hp3
    | some h => rw [hc] at hp3; exact ne_use hp3
  · subst e
    cases r3
    exact wpAny_truthy_bool ⟨H3, I3, q3⟩
end
end Mir
/-! Mir, part L: what the head tells; forms of calls. -/
namespace Mir
open PySem PySem.Spec PyProof.Rows L2

theorem tkz0 {X : Cx} : Takes X W0 := fun u s' ⟨_, _, _, _, _, _, _, _, _, _, _, _, _, _, _, _, h⟩ => h.elim
section
variable {P : Program} {w : World} {K : PySem.W.Frag} {mg : Str → Option Value} {base : Heap} {N : List Str} {qual : Str} {scope : Scope} {f : Addr} {cdv : Value} {A : Around} {outer : List PySem.Env} {s : Shared} {H : Hp} {E : XK}
theorem takesB : Takes (cxB P w K mg base N qual scope f cdv A outer s H E) (fun c d _ H' => E c d H') := takes_of rfl rfl rfl rfl
theorem passesB : PassesOwn (model P w) (cxB P w K mg base N qual scope f cdv A outer s H E).A (cxB P w K mg base N qual scope f cdv A outer s H E).env (cxB P w K mg base N qual scope f cdv A outer s H E).xe := passes_of rfl
end

/-! ### how calls bind -/
def pickL {α : Type} (sel : List Nat) (l : List α) : List α := sel.filterMap fun i => l[i]?
theorem pickL_vals {sel : List Nat} {vs : List V} {us : List Value} (r : Vals vs us) : Vals (pickL sel vs) (pickL sel us) := by
  induction sel with
  | nil => exact .nil
  | cons i t ih =>
    unfold pickL at ih ⊢
    rw [List.filterMap_cons, List.filterMap_cons]
    cases hv : vs[i]? with
    | none =>
      have : us[i]? = none := by
        rw [List.getElem?_eq_none_iff] at hv ⊢
        rw [← r.length]; exact hv
      rw [this]; exact ih
    | some v =>
      obtain ⟨u, hu, ru⟩ := r.get hv
      rw [hu]; exact .cons ru ih
theorem pickL_rs {K : PySem.W.Frag} {T : Tb} {F : Hp} {io : List Addr} {sel : List Nat} {vs : List PV} {us : List V} (r : Rs K T F io vs us) : Rs K T F io (pickL sel vs) (pickL sel us) := by
  induction sel with
  | nil => exact .nil
  | cons i t ih =>
    unfold pickL at ih ⊢
    rw [List.filterMap_cons, List.filterMap_cons]
    cases hv : vs[i]? with
    | none =>
      have : us[i]? = none := by
        rw [List.getElem?_eq_none_iff] at hv ⊢
        rw [← r.length]; exact hv
      rw [this]; exact ih
    | some v =>
      obtain ⟨u, hu, ru⟩ := r.get hv
      rw [hu]; exact .cons ru ih
theorem pickL_len {α : Type} {l : List α} : ∀ {sel : List Nat}, (∀ i ∈ sel, i < l.length) → (pickL sel l).length = sel.length
  | [], _ => rfl
  | i :: t, h => by
    have hi := h i (List.mem_cons_self ..)
    unfold pickL
    rw [List.filterMap_cons, List.getElem?_eq_getElem hi]
    simp only [List.length_cons]
    congr 1
    exact pickL_len fun j hj => h j (List.mem_cons_of_mem _ hj)
section
variable {K : PySem.W.Frag} {T : Tb} {x qual : Str} {params : Arguments} {body : List Stmt} {scope : Scope} {dvs : List V} {kws : List (Str × V)} {f : Addr} {fd : FuncData} {ps : List Str}
/-- all by position -/
theorem callS_plain {np : Nat} (F : FunD K x qual params body scope [] kws f fd) (hn : np = ps.length)
    (h : ∀ (kV doc pm : Value) (an : Option Addr) (cdv ct : Value) (us : List Value), us.length = ps.length → bindArgs (PySem.W.fnOf x qual params body scope .none kV doc pm an cdv ct) ⟨us, []⟩ = pure (ps.zip us)) : CallS K T fd ps np [] (fun vs _ => vs) := by
  subst hn
  refine ⟨fun us _ => us, fun vs _ => vs, ⟨fun s us ws X l1 l2 => ?_, fun r _ => r⟩, fun F io vs zs us ws r _ l _ => ⟨r, l⟩⟩
  have : ws = [] := List.eq_nil_of_length_eq_zero l2
  subst this
  exact F.bindsA h s us l1
/-- keyword-only parameters: those that lack take their defaults -/
theorem callS_kwo {n : Nat} {ks : List Str} {ms : List (Str × V)} {mp : List PV} {sel : List Nat} (F : FunD K x qual params body scope [] kws f fd) (hk : kws ≠ []) (hms : ∀ q ∈ ms, q ∈ kws) (hmp : ∀ F io, Rs K T F io mp (ms.map (·.2)))
    (hsel : (∀ i ∈ sel, i < n + mp.length + ks.length) ∧ sel.length = ps.length)
    (h : ∀ (D : Addr) (doc pm : Value) (an : Option Addr) (cdv ct : Value) (us mv ws : List Value), us.length = n → mv.length = ms.length → ws.length = ks.length →
      KwChain D ((ms.map (·.1)).zip mv) (bindArgs (PySem.W.fnOf x qual params body scope .none (.ref D) doc pm an cdv ct) ⟨us, ks.zip ws⟩) (ps.zip (pickL sel (us ++ mv ++ ws)))) :
    CallS K T fd ps n ks (fun vs zs => pickL sel (vs ++ mp ++ zs)) := by
  obtain ⟨mv, kb⟩ := FunD.kbinds0 F n ks ms (fun us mv ws => pickL sel (us ++ mv ++ ws)) hk hms (fun r1 r2 r3 => pickL_vals ((r1.append r2).append r3)) h
  refine ⟨_, _, kb, fun F io vs zs us ws r1 r2 l1 l2 => ⟨pickL_rs ((r1.append (hmp F io)).append r2), ?_⟩⟩
  rw [pickL_len]
  · exact hsel.2
  · intro i hi
    have := hsel.1 i hi
    have e := (hmp F io).length
    simp only [List.length_append]
    omega
end

/-! ### constants of the module -/
mutual
def okC (K : PySem.W.Frag) : PV → Value → Bool
  | .non, .none => true
  | .bl b, .bool c => b == c
  | .int i, .int j _ => decide (i = j)
  | .str l, .str z _ => decide (z.cps.toList = l)
  | .tup xs, .ref a => (match K.lookup a with
    | some ⟨.type c, _, .seq its _, _⟩ => decide (c = "tuple") && (decide (its.size ≤ sizeLine) && okCs K xs its.toList)
    | _ => false)
  | .ro xs, .ref a => (match K.lookup a with
    | some ⟨.type c, none, .seq its _, _⟩ => decide (c = "list") && (decide (its.size ≤ sizeLine) && okCs K xs its.toList)
    | _ => false)
  | _, _ => false
def okCs (K : PySem.W.Frag) : List PV → List Value → Bool
  | [], [] => true
  | x :: xs, v :: vs => okC K x v && okCs K xs vs
  | _, _ => false
end
mutual
theorem okC_ok {K : PySem.W.Frag} {T : Tb} : ∀ (x : PV) (u : Value), okC K x u = true → ∃ v, RelV v u ∧ ∀ F io, R K T F io x v
  | .non, u, h => by
    cases u <;> simp [okC] at h
    exact ⟨.non, rfl, fun _ _ => .non⟩
  | .bl b, u, h => by
    cases u <;> simp [okC] at h
    subst h
    exact ⟨.bl b, rfl, fun _ _ => .bl b⟩
  | .int i, u, h => by
    cases u <;> simp [okC] at h
    subst h
    exact ⟨.int i, ⟨_, rfl⟩, fun _ _ => .int i⟩
  | .str l, u, h => by
    cases u <;> simp [okC] at h
    rename_i z t
    subst h
    exact ⟨.str z, ⟨_, rfl⟩, fun _ _ => by
      have := R.str (K := K) (T := T) (F := ‹_›) (io := ‹_›) z.cps.toList
      simpa [St8] using this⟩
  | .tup xs, u, h => by
    cases u <;> simp only [okC] at h <;> try cases h
    rename_i a
    split at h
    · rename_i c d its n sl hl
      rw [Bool.and_eq_true, Bool.and_eq_true] at h
      obtain ⟨h1, h2, h3⟩ := h
      obtain ⟨vs, r1, r2⟩ := okCs_ok (T := T) xs its.toList h3
      exact ⟨.ref a, rfl, fun F io => .tup (.inr ⟨_, its, n, hl, congrArg Value.type (of_decide_eq_true h1), rfl, of_decide_eq_true h2, r1⟩) (r2 F io)⟩
    · cases h
  | .ro xs, u, h => by
    cases u <;> simp only [okC] at h <;> try cases h
    rename_i a
    split at h
    · rename_i c its n sl hl
      rw [Bool.and_eq_true, Bool.and_eq_true] at h
      obtain ⟨h1, h2, h3⟩ := h
      obtain ⟨vs, r1, r2⟩ := okCs_ok (T := T) xs its.toList h3
      exact ⟨.ref a, rfl, fun F io => .ro (.inr ⟨_, its, n, hl, congrArg Value.type (of_decide_eq_true h1), rfl, rfl, of_decide_eq_true h2, r1⟩) (r2 F io)⟩
    · cases h
  | .lst _, u, h => by cases u <;> simp [okC] at h
  | .dic _ _, u, h => by cases u <;> simp [okC] at h
  | .ins _ _, u, h => by cases u <;> simp [okC] at h
  | .loc _, u, h => by cases u <;> simp [okC] at h
  | .fn _, u, h => by cases u <;> simp [okC] at h
  | .cls _, u, h => by cases u <;> simp [okC] at h
  | .ty _, u, h => by cases u <;> simp [okC] at h
theorem okCs_ok {K : PySem.W.Frag} {T : Tb} : ∀ (xs : List PV) (us : List Value), okCs K xs us = true → ∃ vs, Vals vs us ∧ ∀ F io, Rs K T F io xs vs
  | [], us, h => by
    cases us <;> simp [okCs] at h
    exact ⟨[], .nil, fun _ _ => .nil⟩
  | x :: xs, us, h => by
    cases us with
    | nil => simp [okCs] at h
    | cons u us =>
      simp only [okCs, Bool.and_eq_true] at h
      obtain ⟨v, r1, r2⟩ := okC_ok (T := T) x u h.1
      obtain ⟨vs, r3, r4⟩ := okCs_ok (T := T) xs us h.2
      exact ⟨v :: vs, .cons r1 r3, fun F io => .cons (r2 F io) (r4 F io)⟩
end
def conC (K : PySem.W.Frag) (x : Str) (v : PV) : Bool := match PySem.W.nsIn K mainGlobals x with
  | some (some u) => okC K v u
  | _ => false
theorem con_ok {K : PySem.W.Frag} {T : Tb} {h : Heap} {mg : Str → Option Value} (X : K.In h) (G : h.Ns mainGlobals mg) {x : Str} {y : PV} (c : conC K x y = true) : ∃ v u, mg x = some u ∧ RelV v u ∧ ∀ F io, R K T F io y v := by
  unfold conC at c
  cases e : PySem.W.nsIn K mainGlobals x with
  | none => rw [e] at c; cases c
  | some o =>
    rw [e] at c
    cases o with
    | none => cases c
    | some u =>
      obtain ⟨v, r1, r2⟩ := okC_ok (T := T) y u c
      exact ⟨v, u, PySem.W.mg_of X G e, r1, r2⟩
theorem me_con {X : Cx} {T : Tb} {W : WX} {x : Str} {pos : Pos} {y : PV} (hg : Gl X x) (h : ∃ v u, X.mg x = some u ∧ RelV v u ∧ ∀ F io, R X.K T F io y v) (hd : (x == ("__debug__" : Str)) = false := by decide) : PE X (.Name x pos) (tE X.K T W (eC y)) := by
  obtain ⟨v, u, h1, h2, h3⟩ := h
  exact me_glob hg h1 h2 h3 hd

/-! ### the Hook: facts by names, and any looks at the written part -/
abbrev Ex := List (PySem.W.Frag → Bool)
abbrev AlM : Type := He.AlD × Bool
def obsM (fa : List He.Fa) (fn : List He.DefD) (ex : Ex) (K : PySem.W.Frag) : AlM := (He.obsD fa fn K, ex.all fun f => f K)
def obsMG (n : Nat) (fa : List He.Fa) (fn : List He.DefD) (ex : Ex) (g : Addr → Option Obj) : AlM := obsM fa fn ex (He.frG g (He.asD g n))
def SaysM (fa : List He.Fa) (fn : List He.DefD) (ex : Ex) (K : PySem.W.Frag) : Prop := obsM fa fn ex K = (He.valD fn, true)
def hookM (n : Nat) (fa : List He.Fa) (fn : List He.DefD) (ex : Ex) : PySem.W.Hook where
  α := AlM
  obs := fun s => obsMG n fa fn ex s.heap.get?
  val := fun _ => (He.valD fn, true)
  says := fun _ h => ∃ K : PySem.W.Frag, K.In h ∧ SaysM fa fn ex K
  of := fun _ _ e => ⟨_, He.frG_in, e⟩
  keeps := fun _ _ _ ⟨K, hK, c⟩ k => ⟨K, PySem.W.Frag.In.keeps hK k, c⟩
theorem obsMG_eq {n : Nat} {fa : List He.Fa} {fn : List He.DefD} {ex : Ex} {g : Addr → Option Obj} {s : Shared} (h : ∀ a, g a = s.heap.get? a) : obsMG n fa fn ex g = (hookM n fa fn ex).obs s := by
  have e : g = s.heap.get? := funext h
  rw [e] <;> rfl
section
variable {fa : List He.Fa} {fn : List He.DefD} {ex : Ex} {K : PySem.W.Frag}
theorem SaysM.d (c : SaysM fa fn ex K) : He.SaysD fa fn K := congrArg (fun z : AlM => z.1) c
theorem SaysM.xx (c : SaysM fa fn ex K) (i : Nat) {f : PySem.W.Frag → Bool} (h : ex[i]? = some f := by rfl) : f K = true := by
  have e : (ex.all fun f => f K) = true := congrArg (fun z : AlM => z.2) c
  exact List.all_eq_true.mp e f (List.mem_of_getElem? h)
end
/-- a class whose instances have a class that can be read -/
def insB (K : PySem.W.Frag) (C : Addr) : Bool := decide (PySem.W.findIn K (.ref C) "__class__" = some (some (.builtin "object.__class__"))) && (decide (PySem.W.specialIn K (.builtin "object.__class__") "__get__" = some (some (.builtin "getset_descriptor.__get__"))) &&
  (decide (PySem.W.takesIn K (.builtin "object.__class__") = some true) && decide (PySem.W.mroIn K C (.type "object") = some true)))
theorem insB_ok {K : PySem.W.Frag} {C : Addr} (c : Cls K C) (h : insB K C = true) : InsOk K C := by
  unfold insB at h
  simp only [Bool.and_eq_true, decide_eq_true_eq] at h
  exact ⟨c, h.1, h.2.1, h.2.2.1, h.2.2.2⟩
def tgA (ca : List Str) (K : PySem.W.Frag) : Tg → Value
  | .t n => .type n
  | .c n => .ref (He.ga K (ca.getD n ""))
def kitB2 (ca : List Str) (tab : List ((Tg × Tg) × Bool)) (K : PySem.W.Frag) : Bool := tab.all fun e => decide (PySem.W.kitOne K (tgA ca K e.1.1) (tgA ca K e.1.2) = some e.2)
def nfB (ca : List Str) (c : Nat) (gs : List Tg) (K : PySem.W.Frag) : Bool := gs.all fun g => PySem.W.notFirst K (He.ga K (ca.getD c "")) (tgA ca K g)
def neB (ca : List Str) (c : Nat) (K : PySem.W.Frag) : Bool := decide (PySem.W.findIn K (.ref (He.ga K (ca.getD c ""))) "__ne__" = some (some (.builtin "object.__ne__"))) && decide (PySem.W.mroIn K (He.ga K (ca.getD c "")) (.type "object") = some true)
/-- the table of a law's own classes -/
def tbM (K : PySem.W.Frag) (ca : List Str) (fl : List (List Str)) : Tb := ⟨fun n => He.ga K (ca.getD n ""), fun _ => 0, fun n => fl.getD n [], fun _ _ _ => True, fun _ _ _ _ _ _ _ => trivial⟩
instance {K : PySem.W.Frag} {ca : List Str} {fl : List (List Str)} : NoGh (tbM K ca fl) := ⟨fun _ _ _ => trivial⟩
theorem tgA_eq {K : PySem.W.Frag} {ca : List Str} {fl : List (List Str)} (g : Tg) : (tbM K ca fl).tgv g = tgA ca K g := by cases g <;> rfl
/-- the statements of a class statement -/
def clsBody (s : Stmt) : List Stmt := match s with
  | .ClassDef _ _ _ b _ _ _ _ _ _ _ => b
  | _ => []
section
variable {X : Cx} {T : Tb} {W : WX} {a : Expr} {ma : EM} {pos : Pos}
theorem me_and1 (h : PE X a (tE X.K T W ma)) : PE X (.BoolOp .And [a] pos) (tE X.K T W ma) := ⟨fun pins s σ H Q I q => h.run pins s σ H Q I q⟩
theorem me_or1 (h : PE X a (tE X.K T W ma)) : PE X (.BoolOp .Or [a] pos) (tE X.K T W ma) := ⟨fun pins s σ H Q I q => h.run pins s σ H Q I q⟩
theorem bbeq (a b : Bool) : (a == b) = decide (b = a) := by cases a <;> cases b <;> rfl
theorem me_isB {q : Pos} {j : Nat} {b : Bool} (ha : PE X a (tE X.K T W ma)) : PE X (.Compare a [.Is] [.Constant (.bool b) j q] pos) (tE X.K T W (eOp1 (pyIs (.bl b)) ma)) := by
  refine PE.weak (pe_cmpR op_is_bl ha pe_bl (nomark _)) fun σ H Q ⟨P, F, io, en, s, hE, hS, hp⟩ => ?_
  refine tE_use hE hS hp fun v H1 F1 io1 x s1 hE1 rx hS1 l1 hp1 => ?_
  cases rx with
  | bl c => exact ⟨c, b, rfl, rfl, by have := hp1.ok_of Le.refl (.bl _) hS1; rwa [bbeq] at this⟩
  | _ => exact hp1.elim
theorem me_notB {q : Pos} {j : Nat} {b : Bool} (ha : PE X a (tE X.K T W ma)) : PE X (.Compare a [.IsNot] [.Constant (.bool b) j q] pos) (tE X.K T W (eNotB (eOp1 (pyIs (.bl b)) ma))) := by
  refine PE.weak (pe_cmpR op_isnot_bl ha pe_bl (nomark _)) fun σ H Q ⟨P, F, io, en, s, hE, hS, hp⟩ => ?_
  unfold eNotB eOp1 at hp
  simp only [Res.bind_assoc] at hp
  refine tE_use hE hS hp fun v H1 F1 io1 x s1 hE1 rx hS1 l1 hp1 => ?_
  cases rx with
  | bl c => exact ⟨c, b, rfl, rfl, by have := hp1.ok_of Le.refl (.bl _) hS1; rwa [bbeq] at this⟩
  | _ => exact hp1.elim
theorem qe_isB {q : Pos} {j : Nat} {b : Bool} (ha : PE X a (tE X.K T W ma)) : PT X (.Compare a [.Is] [.Constant (.bool b) j q] pos) (tQ X.K T W (qBl (eOp1 (pyIs (.bl b)) ma))) := by
  refine PT.weak (pt_cmpR op_is_bl ha pe_bl (nomark _)) fun σ H Q ⟨P, F, io, en, s, hE, hS, hp⟩ => ?_
  unfold qBl eOp1 at hp
  simp only [Res.bind_assoc] at hp
  refine tE_use hE hS hp fun v H1 F1 io1 x s1 hE1 rx hS1 l1 hp1 => ?_
  cases rx with
  | bl c => exact ⟨c, b, rfl, rfl, _, rfl, by have := hp1.ok_of Le.refl rfl hS1; rwa [bbeq] at this⟩
  | _ => exact hp1.elim
theorem qe_notB {q : Pos} {j : Nat} {b : Bool} (ha : PE X a (tE X.K T W ma)) : PT X (.Compare a [.IsNot] [.Constant (.bool b) j q] pos) (tQ X.K T W (qBl (eNotB (eOp1 (pyIs (.bl b)) ma)))) := by
  refine PT.weak (pt_cmpR op_isnot_bl ha pe_bl (nomark _)) fun σ H Q ⟨P, F, io, en, s, hE, hS, hp⟩ => ?_
  unfold qBl eNotB eOp1 at hp
  simp only [Res.bind_assoc] at hp
  refine tE_use hE hS hp fun v H1 F1 io1 x s1 hE1 rx hS1 l1 hp1 => ?_
  cases rx with
  | bl c => exact ⟨c, b, rfl, rfl, _, rfl, by have := hp1.ok_of Le.refl rfl hS1; rwa [bbeq] at this⟩
  | _ => exact hp1.elim
end
theorem ru {k : Nat} {A : Around} (r : Room k A) : A.units + 64 < cLine := by have := r.un; omega
end Mir
/-! Mir, part M: a law's end. -/
namespace Mir
open PySem PySem.Spec PyProof.Rows L2
theorem walk_ofM {l : PySem.W.OpenLaw} {n k : Nat} {q : Program} {loose : List Str} {XP : (Str → Option Value) → Heap → Prop} {YP : World → Heap → Prop} {d : DefRec} {CX : World → CXT} {x : Str}
    (hn : l.most = some n) (hn2 : n ≤ sizeLine) (hdf : d.params.defaults = []) (hr : Room k callerA)
    (F : ∀ (w : World) (mg : Str → Option Value) (fa : Addr) (h : Heap), YP w h → h.Ns mainGlobals mg → mg d.name = some (.ref fa) →
      ∃ (K : PySem.W.Frag) (fd : FuncData) (sp : Sp), K.In h ∧ (∀ (s : Shared) (u : Value), BindsTo s fd ⟨[u], []⟩ [(x, u)]) ∧
        (∀ (H : Hp) (a : Addr) (ns : List Int), ns.length ≤ n → Only H → SqL K H a (ns.map V.int) → sp [.ref a] H (fun v _ => v = .bl true) fun _ _ _ => False) ∧
        ∀ base : Heap, K.In base → base.Ns mainGlobals mg → FnOk l.prog w K mg base (CX w) k fa fd [x] sp)
    (hCX : ∀ (w : World) (H : Hp) (s : Shared) (e : Value) (s' : Shared), CX w [] H s (fun _ _ _ => False) e s' → False) :
    PySem.W.WalkO q loose XP YP l.row.toRowW d [] (fun f vs => PySem.call f vs) := by
  refine Att.attach_call hn hdf fun w s₀ s₁ mg mb fa o pm cd doc a vs ns G Y ho hd hcd hmg hobj hints hlen hg => ?_
  obtain ⟨K, fd, sp, KX, hb, hsp, hF⟩ := F w mg fa _ Y G.T.g hmg
  exact law_call KX G.T.g G.T.b G.T.builtins G.T.nolimit hg hobj hints (Nat.le_trans hlen hn2) hr hF hb (fun H hO hS => hsp H a ns hlen hO hS) fun H e s' => hCX w H s₁ e s'
theorem cx_none {P : Program} {w : World} {H : Hp} {s : Shared} {e : Value} {s' : Shared} (h : L2.CX P w [] H s (fun _ _ _ => False) e s') : False := by
  obtain ⟨_, _, _, _, _, _, _, _, _, _, _, _, h⟩ := h
  exact h
theorem law_sp {K : PySem.W.Frag} {T : Tb} {m : ON} {ns : List Int} {H : Hp} {a : Addr} (hS : SqL K H a (ns.map V.int)) (h : ∃ s', m [.ro (ns.map PV.int)] [] = .ok (.bl true) s') :
    spM K T 1 m [.ref a] H (fun v _ => v = .bl true) fun _ _ _ => False := by
  obtain ⟨s', h⟩ := h
  refine ⟨rfl, fun _ => none, H, [], [.ro (ns.map PV.int)], [], .cons (.ro hS (Rs.of_ints ns)) .nil, ⟨rfl, by simp, fun _ _ h => h, fun _ h => by simp at h, fun _ _ h => by simp at h, fun _ _ h => by cases h⟩, ?_⟩
  rw [h]
  intro F1 io1 v H1 _ r _
  cases r
  rfl
end Mir
/-! Mir, part N: reckoning on the plain side. -/
namespace Mir
section
variable {σ : Env} {s : Store}
@[simp] theorem eVar_ap (i : Nat) (σ : Env) (s : Store) : eVar i σ s = (match σ[i]? with
  | some (some v) => .ok v s
  | _ => .stuck) := rfl
@[simp] theorem eC_ap (v : PV) (σ : Env) (s : Store) : eC v σ s = .ok v s := rfl
@[simp] theorem eOp1_ap (f : O1) (a : EM) (σ : Env) (s : Store) : eOp1 f a σ s = (a σ s).bind fun x s1 => noX (f x s1) := rfl
@[simp] theorem eOp2_ap (f : O2) (a b : EM) (σ : Env) (s : Store) : eOp2 f a b σ s = (a σ s).bind fun x s1 => (b σ s1).bind fun y s2 => noX (f x y s2) := rfl
@[simp] theorem aNil_ap (σ : Env) (s : Store) : aNil σ s = .ok [] s := rfl
@[simp] theorem aCons_ap (a : EM) (r : AM) (σ : Env) (s : Store) : aCons a r σ s = (a σ s).bind fun x s1 => (r σ s1).bind fun xs s2 => .ok (x :: xs) s2 := rfl
@[simp] theorem eBlt_ap (f : ON) (a : AM) (σ : Env) (s : Store) : eBlt f a σ s = (a σ s).bind fun xs s1 => noX (f xs s1) := rfl
@[simp] theorem eTup_ap (a : AM) (σ : Env) (s : Store) : eTup a σ s = (a σ s).bind fun xs s1 => .ok (.tup xs) s1 := rfl
@[simp] theorem eLst_ap (a : AM) (σ : Env) (s : Store) : eLst a σ s = (a σ s).bind fun xs s1 => .ok (.lst xs) s1 := rfl
@[simp] theorem ePl_ap (a : AM) (σ : Env) (s : Store) : ePl a σ s = (a σ s).bind fun xs s1 => .ok (.loc s1.length) (s1 ++ [.lst xs]) := rfl
@[simp] theorem eIf_ap (t : TM) (a b : EM) (σ : Env) (s : Store) : eIf t a b σ s = (t σ s).bind fun k s1 => if k = true then a σ s1 else b σ s1 := rfl
@[simp] theorem eAnd_ap (a b : EM) (σ : Env) (s : Store) : eAnd a b σ s = (a σ s).bind fun x s1 => (ofO (truthV s1 x) s1).bind fun k s2 => if k = true then b σ s2 else .ok x s2 := rfl
@[simp] theorem eOr_ap (a b : EM) (σ : Env) (s : Store) : eOr a b σ s = (a σ s).bind fun x s1 => (ofO (truthV s1 x) s1).bind fun k s2 => if k = true then .ok x s2 else b σ s2 := rfl
@[simp] theorem eNot_ap (a : EM) (σ : Env) (s : Store) : eNot a σ s = (a σ s).bind fun x s1 => (ofO (truthV s1 x) s1).bind fun k s2 => .ok (.bl !k) s2 := rfl
@[simp] theorem eNotB_ap (a : EM) (σ : Env) (s : Store) : eNotB a σ s = (a σ s).bind fun x s1 => (match x with
  | .bl k => .ok (.bl !k) s1
  | _ => .stuck) := rfl
@[simp] theorem qOf_ap (a : EM) (σ : Env) (s : Store) : qOf a σ s = (a σ s).bind fun x s1 => ofO (truthV s1 x) s1 := rfl
@[simp] theorem qBl_ap (a : EM) (σ : Env) (s : Store) : qBl a σ s = (a σ s).bind fun x s1 => (match x with
  | .bl k => .ok k s1
  | _ => .stuck) := rfl
@[simp] theorem qAnd_ap (a b : TM) (σ : Env) (s : Store) : qAnd a b σ s = (a σ s).bind fun k s1 => if k = true then b σ s1 else .ok false s1 := rfl
@[simp] theorem qOr_ap (a b : TM) (σ : Env) (s : Store) : qOr a b σ s = (a σ s).bind fun k s1 => if k = true then .ok true s1 else b σ s1 := rfl
@[simp] theorem qNot_ap (a : TM) (σ : Env) (s : Store) : qNot a σ s = (a σ s).bind fun k s1 => .ok (!k) s1 := rfl
@[simp] theorem qYes_ap (σ : Env) (s : Store) : qYes σ s = .ok true s := rfl
@[simp] theorem eChain_ap (f g : O2) (a b c : EM) (σ : Env) (s : Store) : eChain f g a b c σ s = (a σ s).bind fun x s1 => (b σ s1).bind fun y s2 => (noX (f x y s2)).bind fun z s3 => (match z with
  | .bl true => (c σ s3).bind fun u s4 => noX (g y u s4)
  | .bl false => .ok (.bl false) s3
  | _ => .stuck) := rfl
@[simp] theorem eCallK_ap (f : List PV → List PV → Store → Res PV) (a kw : AM) (σ : Env) (s : Store) : eCallK f a kw σ s = (a σ s).bind fun vs s1 => (kw σ s1).bind fun zs s2 => f vs zs s2 := rfl
@[simp] theorem eFld_ap (tab : List (Nat × Nat)) (o : EM) (σ : Env) (s : Store) : eFld tab o σ s = (o σ s).bind fun x s1 => (match deref s1 x with
  | .ins c vs => (match tab.lookup c with
    | some i => ofO vs[i]? s1
    | none => .stuck)
  | _ => .stuck) := rfl
@[simp] theorem eSlice_ap (a : EM) (lo hi : OM) (σ : Env) (s : Store) : eSlice a lo hi σ s = (a σ s).bind fun x s1 => (lo σ s1).bind fun l s2 => (hi σ s2).bind fun u s3 => ofO (sliceV s3 x l u) s3 := rfl
@[simp] theorem oNone_ap (σ : Env) (s : Store) : oNone σ s = .ok none s := rfl
@[simp] theorem oSome_ap (a : EM) (σ : Env) (s : Store) : oSome a σ s = (a σ s).bind fun x s1 => (match x with
  | .int i => .ok (some i) s1
  | _ => .stuck) := rfl
@[simp] theorem eMt_ap (f : OMt) (o : EM) (a : AM) (σ : Env) (s : Store) : eMt f o a σ s = (o σ s).bind fun x s1 => if isL s1 x = true then (a σ s1).bind fun vs s2 => noX (f x vs s2) else .stuck := rfl
@[simp] theorem eMeth_ap (tab : List (Nat × (List PV → List PV → Store → Res PV))) (o : EM) (a kw : AM) (σ : Env) (s : Store) : eMeth tab o a kw σ s = (o σ s).bind fun x s1 => (match (clsOf s1 x).bind fun c => tab.lookup c with
  | some f => (a σ s1).bind fun vs s2 => (kw σ s2).bind fun zs s3 => f (x :: vs) zs s3
  | none => .stuck) := rfl
@[simp] theorem eOwnEq_ap (tab : EqTab) (a b : EM) (σ : Env) (s : Store) : eOwnEq tab a b σ s = (a σ s).bind fun x s1 => (b σ s1).bind fun y s2 => (match eqOf tab s2 x y with
  | some h => h [x, y] [] s2
  | none => .stuck) := rfl
@[simp] theorem eOwnNe_ap (tab : EqTab) (a b : EM) (σ : Env) (s : Store) : eOwnNe tab a b σ s = (a σ s).bind fun x s1 => (b σ s1).bind fun y s2 => (match eqOf tab s2 x y with
  | some h => (h [x, y] [] s2).bind fun z s3 => (match z with
    | .bl k => .ok (.bl !k) s3
    | _ => .stuck)
  | none => .stuck) := rfl
@[simp] theorem sNext_ap (σ : Env) (s : Store) : sNext σ s = .ok (σ, .next) s := rfl
@[simp] theorem sSeq_ap (a b : SM) (σ : Env) (s : Store) : sSeq a b σ s = (a σ s).bind fun r s1 => (match r.2 with
  | .next => b r.1 s1
  | f => .ok (r.1, f) s1) := rfl
@[simp] theorem gName_ap (i : Nat) (v : PV) (σ : Env) (s : Store) : gName i v σ s = .ok (σ.set i (some v)) s := rfl
@[simp] theorem sAsg_ap (e : EM) (g : GM) (σ : Env) (s : Store) : sAsg e g σ s = (e σ s).bind fun v s1 => (g v σ s1).bind fun σ1 s2 => .ok (σ1, .next) s2 := rfl
@[simp] theorem sNew_ap (e : AM) (i : Nat) (σ : Env) (s : Store) : sNew e i σ s = (e σ s).bind fun xs s1 => .ok (σ.set i (some (.loc s1.length)), .next) (s1 ++ [.lst xs]) := rfl
@[simp] theorem sExp_ap (e : EM) (σ : Env) (s : Store) : sExp e σ s = (e σ s).bind fun _ s1 => .ok (σ, .next) s1 := rfl
@[simp] theorem sRet_ap (e : EM) (σ : Env) (s : Store) : sRet e σ s = (e σ s).bind fun v s1 => .ok (σ, .ret v) s1 := rfl
@[simp] theorem sRetL_ap (e : AM) (σ : Env) (s : Store) : sRetL e σ s = (e σ s).bind fun xs s1 => .ok (σ, .ret (.loc s1.length)) (s1 ++ [.lst xs]) := rfl
@[simp] theorem sRetN_ap (σ : Env) (s : Store) : sRetN σ s = .ok (σ, .ret .non) s := rfl
@[simp] theorem sIf_ap (t : TM) (a b : SM) (σ : Env) (s : Store) : sIf t a b σ s = (t σ s).bind fun k s1 => if k = true then a σ s1 else b σ s1 := rfl
@[simp] theorem sPar_ap (a : AM) (i j : Nat) (σ : Env) (s : Store) : sPar a i j σ s = (a σ s).bind fun xs s1 => (match xs with
  | [x, y] => .ok ((σ.set i (some x)).set j (some y), .next) s1
  | _ => .stuck) := rfl
@[simp] theorem sSetI_ap (o i e : EM) (σ : Env) (s : Store) : sSetI o i e σ s = (e σ s).bind fun v s1 => (o σ s1).bind fun x s2 => (i σ s2).bind fun k s3 => (match x, k with
  | .loc n, .int j => (match s3[n]? with
    | some (.lst xs) => (match ixP xs.length j with
      | some m => .ok (σ, .next) (s3.set n (.lst (xs.set m v)))
      | none => .stuck)
    | _ => .stuck)
  | _, _ => .stuck) := rfl
@[simp] theorem sSetF_ap (tab : List (Nat × Nat)) (o e : EM) (σ : Env) (s : Store) : sSetF tab o e σ s = (e σ s).bind fun v s1 => (o σ s1).bind fun x s2 => (match x with
  | .loc n => (match s2[n]? with
    | some (.ins c vs) => (match tab.lookup c with
      | some i => (match putF i v vs with
        | some vs' => .ok (σ, .next) (s2.set n (.ins c vs'))
        | none => .stuck)
      | none => .stuck)
    | _ => .stuck)
  | _ => .stuck) := rfl
@[simp] theorem aComp_ap (it : IM) (g : GM) (t : TM) (e : EM) (own : List Nat) (σ : Env) (s : Store) : aComp it g t e own σ s = (it σ s).bind fun w s1 => compGo w g t e (wipe σ own) w.items [] s1 := rfl
@[simp] theorem sFor_ap (it : IM) (g : GM) (b : SM) (σ : Env) (s : Store) : sFor it g b σ s = (it σ s).bind fun w s1 => forGo w g b (keepAs σ) w.items σ s1 := rfl
theorem runDef_ap (fin : Store → PV → Store → Res PV) (n : Nat) (b : SM) (vs : List PV) (s : Store) : runDef fin n b vs s = (match b (vs.map some ++ List.replicate (n - vs.length) none) s with
  | .ok (_, .ret v) s1 => fin s v s1
  | .ok (_, .next) s1 => fin s .non s1
  | .ok _ _ => .stuck
  | .exc e s1 => finX s e s1
  | .stuck => .stuck) := rfl
end

/-! ### stores -/
@[simp] theorem mid_get (pre e : Store) (x : PV) : (pre ++ x :: e)[pre.length]? = some x := by simp
@[simp] theorem mid_getD (pre e : Store) (x : PV) : deref (pre ++ x :: e) (.loc pre.length) = x := by simp [deref, List.getD]
@[simp] theorem mid_set (pre e : Store) (x y : PV) : (pre ++ x :: e).set pre.length y = pre ++ y :: e := by simp
theorem finV_data {old new : Store} {v : PV} (hl : new.length = old.length) (hk : Kept old.length old new) (hv : lb old.length v = true) : finV old v new = .ok v new := by
  unfold finV
  rw [if_pos ⟨hk, by omega⟩]
  have ht : new.take old.length = new := List.take_of_length_le (by omega)
  cases v with
  | loc n => simp at hv; simp [hv, ht]
  | _ => simp only [hv, if_true, ht]
/-- new places are dropped -/
theorem finV_drop {old new e : Store} {v : PV} (hl : new.length = old.length) (hk : Kept old.length old new) (hv : lb old.length v = true) : finV old v (new ++ e) = .ok v new := by
  unfold finV
  have hk' : Kept old.length old (new ++ e) := fun i hi => by rw [List.getElem?_append_left (by omega)]; exact hk i hi
  rw [if_pos ⟨hk', by simp; omega⟩]
  have ht : (new ++ e).take old.length = new := by rw [List.take_append_of_le_length (by omega)]; exact List.take_of_length_le (by omega)
  cases v with
  | loc n => simp at hv; simp [hv, ht]
  | _ => simp only [hv, if_true, ht]
/-- what is handed back lies at a new place: it becomes a tree -/
theorem finV_new {old new e : Store} {n : Nat} {c : PV} (hl : new.length = old.length) (hk : Kept old.length old new) (hn : n ≥ old.length) (hc : (new ++ e)[n]? = some c) (hv : lb old.length c = true) : finV old (.loc n) (new ++ e) = .ok c new := by
  unfold finV
  have hk' : Kept old.length old (new ++ e) := fun i hi => by rw [List.getElem?_append_left (by omega)]; exact hk i hi
  rw [if_pos ⟨hk', by simp; omega⟩]
  have ht : (new ++ e).take old.length = new := by rw [List.take_append_of_le_length (by omega)]; exact List.take_of_length_le (by omega)
  simp only [hc, ht]
  rw [if_neg (by omega), if_pos hv]
theorem kept_refl (n : Nat) (s : Store) : Kept n s s := fun _ _ => .inl rfl
theorem kept_mid {n : Nat} (pre e : Store) (x y : PV) (h : lb n y = true) : Kept n (pre ++ x :: e) (pre ++ y :: e) := fun i hi => by
  rcases Nat.lt_trichotomy i pre.length with q | q | q
  · left; rw [List.getElem?_append_left q, List.getElem?_append_left q]
  · subst q; right; exact ⟨y, by simp, h⟩
  · left
    rw [List.getElem?_append_right (by omega), List.getElem?_append_right (by omega)]
    have : i - pre.length = (i - pre.length - 1) + 1 := by omega
    rw [this]; simp
/-! data names no place -/
mutual
theorem isD_lb : ∀ (n b : Nat) (v : PV), isD n v = true → lb b v = true
  | _, b, .non, _ => by simp
  | _, b, .bl _, _ => by simp
  | _, b, .int _, _ => by simp
  | _, b, .str _, _ => by simp
  | n + 1, b, .tup xs, h => by simp only [isD] at h; simpa using isDs_lb n b xs h
  | n + 1, b, .lst xs, h => by simp only [isD] at h; simpa using isDs_lb n b xs h
  | n + 1, b, .ro xs, h => by simp only [isD] at h; simpa using isDs_lb n b xs h
  | 0, b, .tup xs, h => by simp [isD] at h
  | 0, b, .lst xs, h => by simp [isD] at h
  | 0, b, .ro xs, h => by simp [isD] at h
  | n, b, .dic _ _, h => by cases n <;> simp [isD] at h
  | n, b, .ins _ _, h => by cases n <;> simp [isD] at h
  | n, b, .loc _, h => by cases n <;> simp [isD] at h
  | n, b, .fn _, h => by cases n <;> simp [isD] at h
  | n, b, .cls _, h => by cases n <;> simp [isD] at h
  | n, b, .ty _, h => by cases n <;> simp [isD] at h
theorem isDs_lb : ∀ (n b : Nat) (xs : List PV), xs.all (isD n) = true → lbs b xs = true
  | _, _, [], _ => by simp
  | n, b, x :: xs, h => by
    simp only [List.all_cons, Bool.and_eq_true] at h
    simp [isD_lb n b x h.1, isDs_lb n b xs h.2]
end
/-! ### loops whose turns change nothing -/
theorem compGo_pure {g : GM} {t : TM} {e : EM} {σ : Env} {s : Store} (p : PV → Bool) (f : PV → PV) : ∀ (xs acc : List PV), (∀ x ∈ xs, ∃ σ1, g x σ s = .ok σ1 s ∧ t σ1 s = .ok (p x) s ∧ (p x = true → e σ1 s = .ok (f x) s)) →
    compGo ⟨xs, none⟩ g t e σ xs acc s = .ok (acc ++ (xs.filter p).map f) s := by
  have main : ∀ (w : Walk), w.at_ = none → ∀ (xs acc : List PV), (∀ x ∈ xs, ∃ σ1, g x σ s = .ok σ1 s ∧ t σ1 s = .ok (p x) s ∧ (p x = true → e σ1 s = .ok (f x) s)) →
      compGo w g t e σ xs acc s = .ok (acc ++ (xs.filter p).map f) s := by
    intro w hw xs
    have ok : w.ok s := by unfold Walk.ok; rw [hw]; trivial
    induction xs with
    | nil => intro acc _; simp [compGo, ok]
    | cons x xs ih =>
      intro acc h
      obtain ⟨σ1, h1, h2, h3⟩ := h x (List.mem_cons_self ..)
      unfold compGo
      rw [if_pos ok, h1]
      simp only [noX_ok, Res.bind_ok, h2]
      cases hp : p x with
      | true => simp only [if_true, h3 hp, noX_ok, Res.bind_ok]; rw [ih _ fun y hy => h y (List.mem_cons_of_mem _ hy)]; simp [hp]
      | false => simp only [Bool.false_eq_true, if_false]; rw [ih _ fun y hy => h y (List.mem_cons_of_mem _ hy)]; simp [hp]
  exact fun xs acc h => main _ rfl xs acc h
theorem eqL_refl {f : PV → PV → Bool} : ∀ {xs : List PV}, (∀ x ∈ xs, f x x = true) → eqL f xs xs = true
  | [], _ => rfl
  | x :: xs, h => by simp [eqL, h x (List.mem_cons_self ..), eqL_refl (xs := xs) fun y hy => h y (List.mem_cons_of_mem _ hy)]
theorem eqF_refl : ∀ (n : Nat) (v : PV), isD n v = true → eqF n v v = true
  | n, .non, _ => by cases n <;> rfl
  | n, .bl _, _ => by cases n <;> simp [eqF]
  | n, .int _, _ => by cases n <;> simp [eqF]
  | n, .str _, _ => by cases n <;> simp [eqF]
  | n + 1, .tup xs, h => by simp only [isD] at h; simp only [eqF]; exact eqL_refl fun x hx => eqF_refl n x (List.all_eq_true.mp h x hx)
  | n + 1, .lst xs, h => by simp only [isD] at h; simp only [eqF]; exact eqL_refl fun x hx => eqF_refl n x (List.all_eq_true.mp h x hx)
  | n + 1, .ro xs, h => by simp only [isD] at h; simp only [eqF]; exact eqL_refl fun x hx => eqF_refl n x (List.all_eq_true.mp h x hx)
  | 0, .tup xs, h => by simp [isD] at h
  | 0, .lst xs, h => by simp [isD] at h
  | 0, .ro xs, h => by simp [isD] at h
  | n, .dic _ _, h => by cases n <;> simp [isD] at h
  | n, .ins _ _, h => by cases n <;> simp [isD] at h
  | n, .loc _, h => by cases n <;> simp [isD] at h
  | n, .fn _, h => by cases n <;> simp [isD] at h
  | n, .cls _, h => by cases n <;> simp [isD] at h
  | n, .ty _, h => by cases n <;> simp [isD] at h
theorem atP_of {α : Type} {xs : List α} {i : Int} {j : Nat} {x : α} (h : i = (j : Int)) (hx : xs[j]? = some x) : atP xs i = some x := by
  have hj := (List.getElem?_eq_some_iff.mp hx).1
  subst h
  unfold atP ixP
  rw [if_pos (by omega), if_pos (by omega)]
  simpa using hx

/-! ### reading -/
@[simp] theorem deref_non (s : Store)  : deref s .non = .non := rfl
@[simp] theorem tgOf_non (s : Store)  : tgOf s .non = some (.t "NoneType") := rfl
@[simp] theorem truthV_non (s : Store)  : truthV s .non = some false := rfl
@[simp] theorem deref_bl (s : Store) (b : Bool) : deref s (.bl b) = (.bl b) := rfl
@[simp] theorem tgOf_bl (s : Store) (b : Bool) : tgOf s (.bl b) = some (.t "bool") := rfl
@[simp] theorem truthV_bl (s : Store) (b : Bool) : truthV s (.bl b) = some b := rfl
@[simp] theorem deref_int (s : Store) (i : Int) : deref s (.int i) = (.int i) := rfl
@[simp] theorem tgOf_int (s : Store) (i : Int) : tgOf s (.int i) = some (.t "int") := rfl
@[simp] theorem truthV_int (s : Store) (i : Int) : truthV s (.int i) = some (i != 0) := rfl
@[simp] theorem deref_str (s : Store) (l : List Nat) : deref s (.str l) = (.str l) := rfl
@[simp] theorem tgOf_str (s : Store) (l : List Nat) : tgOf s (.str l) = some (.t "str") := rfl
@[simp] theorem deref_tup (s : Store) (xs : List PV) : deref s (.tup xs) = (.tup xs) := rfl
@[simp] theorem tgOf_tup (s : Store) (xs : List PV) : tgOf s (.tup xs) = some (.t "tuple") := rfl
@[simp] theorem truthV_tup (s : Store) (xs : List PV) : truthV s (.tup xs) = some (!xs.isEmpty) := rfl
@[simp] theorem deref_lst (s : Store) (xs : List PV) : deref s (.lst xs) = (.lst xs) := rfl
@[simp] theorem tgOf_lst (s : Store) (xs : List PV) : tgOf s (.lst xs) = some (.t "list") := rfl
@[simp] theorem truthV_lst (s : Store) (xs : List PV) : truthV s (.lst xs) = some (!xs.isEmpty) := rfl
@[simp] theorem deref_ins (s : Store) (c : Nat) (vs : List PV) : deref s (.ins c vs) = (.ins c vs) := rfl
@[simp] theorem deref_ro (s : Store) (xs : List PV) : deref s (.ro xs) = (.ro xs) := rfl
@[simp] theorem truthV_ro (s : Store) (xs : List PV) : truthV s (.ro xs) = some (!xs.isEmpty) := rfl
@[simp] theorem tgOf_ins (s : Store) (c : Nat) (vs : List PV) : tgOf s (.ins c vs) = some (.c c) := rfl
@[simp] theorem clsOf_ins (s : Store) (c : Nat) (vs : List PV) : clsOf s (.ins c vs) = some c := rfl
@[simp] theorem itemsOf_tup (s : Store) (xs : List PV) : itemsOf s (.tup xs) = some xs := rfl
@[simp] theorem itemsOf_lst (s : Store) (xs : List PV) : itemsOf s (.lst xs) = some xs := rfl
@[simp] theorem itemsOf_ro (s : Store) (xs : List PV) : itemsOf s (.ro xs) = some xs := rfl
@[simp] theorem mid_items (pre e : Store) (xs : List PV) : itemsOf (pre ++ .lst xs :: e) (.loc pre.length) = some xs := by simp [itemsOf]
@[simp] theorem itemsL_lst (s : Store) (xs : List PV) : bAll.itemsL s (.lst xs) = some xs := rfl
@[simp] theorem bIsi_ty (tab : List ((Tg × Tg) × Bool)) (x : PV) (n : String) (s : Store) : bIsi tab [x, .ty n] s = (ofO ((tgOf s x).bind fun g => tab.lookup (g, .t n)) s).bind fun k s => .ok (.bl k) s := rfl
@[simp] theorem bIsi_cls (tab : List ((Tg × Tg) × Bool)) (x : PV) (c : Nat) (s : Store) : bIsi tab [x, .cls c] s = (ofO ((tgOf s x).bind fun g => tab.lookup (g, .c c)) s).bind fun k s => .ok (.bl k) s := rfl
@[simp] theorem bLen_tup (s : Store) (xs : List PV) : bLen [.tup xs] s = .ok (.int xs.length) s := rfl
@[simp] theorem bLen_lst (s : Store) (xs : List PV) : bLen [.lst xs] s = .ok (.int xs.length) s := rfl
@[simp] theorem bLen_ro (s : Store) (xs : List PV) : bLen [.ro xs] s = .ok (.int xs.length) s := rfl
theorem bLen_str (s : Store) {l : List Nat} (h : l.length ≤ sz) : bLen [.str l] s = .ok (.int l.length) s := by simp [bLen, lenP, h]
@[simp] theorem pyIdx_tup (s : Store) (xs : List PV) (i : Int) : pyIdx (.tup xs) (.int i) s = ofO (atP xs i) s := rfl
@[simp] theorem pyIdx_lst (s : Store) (xs : List PV) (i : Int) : pyIdx (.lst xs) (.int i) s = ofO (atP xs i) s := rfl
@[simp] theorem pyIdx_ro (s : Store) (xs : List PV) (i : Int) : pyIdx (.ro xs) (.int i) s = ofO (atP xs i) s := rfl
@[simp] theorem pyIdx_mid (pre e : Store) (xs : List PV) (i : Int) : pyIdx (.loc pre.length) (.int i) (pre ++ .lst xs :: e) = ofO (atP xs i) (pre ++ .lst xs :: e) := by simp [pyIdx]
@[simp] theorem atP_zero {α : Type} (x : α) (xs : List α) : atP (x :: xs) 0 = some x := atP_of (j := 0) rfl rfl
@[simp] theorem atP_one {α : Type} (x y : α) (xs : List α) : atP (x :: y :: xs) 1 = some y := atP_of (j := 1) rfl rfl
@[simp] theorem atP_two {α : Type} (x y z : α) (xs : List α) : atP (x :: y :: z :: xs) 2 = some z := atP_of (j := 2) rfl rfl
@[simp] theorem pyAdd_int (s : Store) (i j : Int) : pyAdd (.int i) (.int j) s = .ok (.int (i + j)) s := rfl
@[simp] theorem pySub_int (s : Store) (i j : Int) : pySub (.int i) (.int j) s = .ok (.int (i - j)) s := rfl
@[simp] theorem pyNeg_int (s : Store) (i : Int) : pyNeg (.int i) s = .ok (.int (-i)) s := rfl
@[simp] theorem pyLt_int (s : Store) (i j : Int) : pyLt (.int i) (.int j) s = .ok (.bl (decide (i < j))) s := rfl
@[simp] theorem pyLt_str (s : Store) (a b : List Nat) : pyLt (.str a) (.str b) s = .ok (.bl (decide (a < b))) s := rfl
@[simp] theorem pyLe_int (s : Store) (i j : Int) : pyLe (.int i) (.int j) s = .ok (.bl (decide (i ≤ j))) s := rfl
@[simp] theorem pyGt_int (s : Store) (i j : Int) : pyGt (.int i) (.int j) s = .ok (.bl (decide (j < i))) s := rfl
@[simp] theorem pyGe_int (s : Store) (i j : Int) : pyGe (.int i) (.int j) s = .ok (.bl (decide (j ≤ i))) s := rfl
@[simp] theorem pyEq_str (s : Store) (a b : List Nat) : pyEq (.str a) (.str b) s = .ok (.bl (a == b)) s := rfl
@[simp] theorem pyEq_int (s : Store) (a b : Int) : pyEq (.int a) (.int b) s = .ok (.bl (a == b)) s := rfl
@[simp] theorem pyNe_str (s : Store) (a b : List Nat) : pyNe (.str a) (.str b) s = .ok (.bl (!(a == b))) s := rfl
@[simp] theorem bInt_int (s : Store) (i : Int) : bInt [.int i] s = .ok (.int i) s := rfl
@[simp] theorem bAbs_int (s : Store) (i : Int) : bAbs [.int i] s = .ok (.int (if i < 0 then -i else i)) s := rfl
theorem blsOf_true {α : Type} (l : List α) : blsOf (l.map fun _ => PV.bl true) = some (l.map fun _ => true) := by
  induction l with
  | nil => rfl
  | cons x l ih => simp [blsOf, ih]
@[simp] theorem bAll_true {α : Type} (s : Store) (l : List α) : bAll [.lst (l.map fun _ => PV.bl true)] s = .ok (.bl true) s := by
  unfold bAll
  simp [blsOf_true]
theorem pyMod_ok (s : Store) {i j : Int} (h : 0 < j) : pyMod (.int i) (.int j) s = .ok (.int (i % j)) s := by simp [pyMod, h]
theorem pyFdiv_ok (s : Store) {i j : Int} (h : 0 < j) (h2 : j < 2 ^ 128) : pyFdiv (.int i) (.int j) s = .ok (.int (i / j)) s := by
  unfold pyFdiv
  simp only
  rw [if_pos ⟨h, h2⟩]
theorem pyMulR (s : Store) {i j : Int} (h : -(2 ^ 64) < j ∧ j < 2 ^ 64) : pyMul (.int i) (.int j) s = .ok (.int (i * j)) s := by
  unfold pyMul
  simp only
  rw [if_pos (.inr h)]
theorem pyMulL (s : Store) {i j : Int} (h : -(2 ^ 64) < i ∧ i < 2 ^ 64) : pyMul (.int i) (.int j) s = .ok (.int (i * j)) s := by
  unfold pyMul
  simp only
  rw [if_pos (.inl h)]
theorem pyAdd_str (s : Store) {a b : List Nat} (h : a.length + b.length ≤ sz) : pyAdd (.str a) (.str b) s = .ok (.str (a ++ b)) s := by simp [pyAdd, h]
end Mir
/-! Mir, part O: more: lists put together at a new place, o[i] += e, join and split of texts. -/
namespace Mir
open PySem PySem.Spec PyProof.Rows L2
/-- a + b of lists, the items -/
def aCat (a b : EM) : AM := fun σ s => (a σ s).bind fun x s1 => (b σ s1).bind fun y s2 => match deref s2 x, deref s2 y with
  | .lst xs, .lst ys => if xs.length + ys.length ≤ sz then .ok (xs ++ ys) s2 else .stuck
  | _, _ => .stuck
/-- sep.join(e) -/
def eJoin (o e : EM) : EM := fun σ s => (o σ s).bind fun x s1 => match x with
  | .str a => (e σ s1).bind fun y s2 => match (itemsOf s2 y).bind strsOf with
    | some ys => if (ys.map (·.length)).sum + ys.length * a.length ≤ sz then .ok (.str (TL.joinL a ys)) s2 else .stuck
    | none => .stuck
  | _ => .stuck
/-- e.split(sep) -/
def eSplit (o e : EM) : EM := fun σ s => (o σ s).bind fun x s1 => match x with
  | .str a => (e σ s1).bind fun y s2 => match y with
    | .str b => if b ≠ [] ∧ b.all (· < 256) = true ∧ a.length + 2 ≤ sz then .ok (.lst ((TL.spl b 0 [] a).map .str)) s2 else .stuck
    | _ => .stuck
  | _ => .stuck
/-- o[i] += e, ints -/
def sAugI (o i e : EM) : SM := fun σ s => (o σ s).bind fun x s1 => match x with
  | .loc n => (i σ s1).bind fun k s2 => (noX (pyIdx (.loc n) k s2)).bind fun u s3 => (e σ s3).bind fun y s4 => (match k, u, y with
    | .int j, .int p, .int q => (match s4[n]? with
      | some (.lst xs) => (match ixP xs.length j with
        | some m => .ok (σ, .next) (s4.set n (.lst (xs.set m (.int (p + q)))))
        | none => .stuck)
      | _ => .stuck)
    | _, _, _ => .stuck)
  | _ => .stuck
section
variable {X : Cx} {T : Tb} {W : WX} {a b o e : Expr} {ma mb mo me : EM} {pos apos : Pos}
theorem mf_cat (ha : PE X a (tE X.K T W ma)) (hb : PE X b (tE X.K T W mb)) : PE X (.BinOp a .Add b pos) (tF X.K T W (aCat ma mb)) := by
  refine PE.weak (pe_op op_cat ha hb) fun σ H Q ⟨P, F, io, en, s, hE, hS, hp⟩ => ?_
  refine ⟨P, F, io, en, s, hE, hS, ?_⟩
  refine Post.mono (NewL.bind (rel := rV X.K T) hp) fun v H1 ⟨F1, io1, x, s1, l1, rx, hS1, hp1⟩ => ?_
  refine ⟨P, F1, io1, en, s1, hE.mono l1, hS1, ?_⟩
  refine Post.mono (NewL.bind (rel := rV X.K T) hp1) fun u H2 ⟨F2, io2, y, s2, l2, ry, hS2, hp2⟩ => ?_
  simp only at hp2
  split at hp2
  · rename_i xs ys hx hy
    split at hp2
    · rename_i hz
      obtain ⟨p, vs, rfl, h1, r1⟩ := hS2.list (rx.mono l2) hx
      obtain ⟨q, us, rfl, h2, r2⟩ := hS2.list ry hy
      exact ⟨p, q, vs, us, rfl, rfl, h1, h2, by rw [← r1.length, ← r2.length]; exact hz, fun z np => hp2 F2 io2 z (vs ++ us) H2 Le.refl (r1.append r2) hS2 np⟩
    · exact hp2.elim
  · exact hp2.elim
theorem me_join (ho : PE X o (tE X.K T W mo)) (he : PE X e (tE X.K T W me)) (hs : starEach [e] X.env = [(false, eval e X.env)] := by rfl) (hbase : attributeBase o "join" X.env (eval o X.env) = eval o X.env := by rfl) (hline : (apos.endLine == pos.line) = true := by rfl) :
    PE X (.Call (.Attribute o "join" apos) [e] [] pos) (tE X.K T W (eJoin mo me)) := by
  refine PE.weak (pe_join ho he hs hbase hline) fun σ H Q ⟨P, F, io, en, s, hE, hS, hp⟩ => ?_
  refine tE_use hE hS hp fun v H1 F1 io1 x s1 hE1 rx hS1 l1 hp1 => ?_
  cases rx with
  | str l =>
    refine ⟨⟨_, rfl⟩, ?_⟩
    refine tE_use hE1 hS1 hp1 fun u H2 F2 io2 y s2 hE2 ry hS2 l2 hp2 => ?_
    cases hi : (itemsOf s2 y).bind strsOf with
    | none => simp only [hi] at hp2; exact hp2.elim
    | some ys =>
      simp only [hi] at hp2
      split at hp2
      · rename_i hz
        obtain ⟨zs, h1, h2⟩ := Option.bind_eq_some_iff.mp hi
        obtain ⟨p, us, rfl, hq, r⟩ := hS2.seq ry h1
        rw [Rs.strs h2 r] at hq
        refine ⟨St8 l, p, ys.map St8, rfl, rfl, hq, ?_, ?_⟩
        · have e1 : (ys.map St8).map (·.length) = ys.map (·.length) := by
            rw [List.map_map]; apply List.map_congr_left; intro z _; exact str8_len z
          rw [e1, List.length_map, str8_len]; exact hz
        · have := SX.join_S l ys
          have e2 : Txt.join (St8 l) (ys.map St8) = St8 (TL.joinL l ys) := this
          rw [e2]
          exact hp2.ok_of Le.refl (.str _) hS2
      · exact hp2.elim
  | _ => exact hp1.elim
theorem me_split (ho : PE X o (tE X.K T W mo)) (he : PE X e (tE X.K T W me)) (hs : starEach [e] X.env = [(false, eval e X.env)] := by rfl) (hbase : attributeBase o "split" X.env (eval o X.env) = eval o X.env := by rfl) (hline : (apos.endLine == pos.line) = true := by rfl) :
    PE X (.Call (.Attribute o "split" apos) [e] [] pos) (tE X.K T W (eSplit mo me)) := by
  refine PE.weak (pe_split ho he hs hbase hline) fun σ H Q ⟨P, F, io, en, s, hE, hS, hp⟩ => ?_
  refine tE_use hE hS hp fun v H1 F1 io1 x s1 hE1 rx hS1 l1 hp1 => ?_
  cases rx with
  | str l =>
    refine ⟨⟨_, rfl⟩, ?_⟩
    refine tE_use hE1 hS1 hp1 fun u H2 F2 io2 y s2 hE2 ry hS2 l2 hp2 => ?_
    cases ry with
    | str b =>
      simp only at hp2
      split at hp2
      · rename_i hz
        refine ⟨St8 l, St8 b, rfl, rfl, ?_, ?_, ?_⟩
        · rw [str8_len]
          have : b.length ≠ 0 := fun e => hz.1 (List.eq_nil_of_length_eq_zero e)
          simpa using this
        · rw [str8_len]; exact hz.2.2
        · have e2 : Txt.split (St8 l) (St8 b) = (TL.spl b 0 [] l).map St8 := SX.split_S hz.1 hz.2.1
          rw [e2]
          intro p np
          obtain ⟨l3, hS3⟩ := hS2.grow (o := .lst (((TL.spl b 0 [] l).map St8).map V.str)) np
          exact hp2.ok_of l3 (.lst upd_same (Rs.of_strs _)) hS3
      · exact hp2.elim
    | _ => exact hp2.elim
  | _ => exact hp1.elim
theorem get_list : PGet X (rIxL X.K) := by
  intro pins s σ H x y v u Q I rx ry h
  obtain ⟨p, xs, i, z, rfl, rfl, hq, he, q⟩ := h
  cases rx
  obtain ⟨t, rfl⟩ := ry
  obtain ⟨its, r, pl, hz⟩ := I.list hq
  obtain ⟨j, h1, h2, h3, h4, h5⟩ := atI_get he
  obtain ⟨w, ew, rw'⟩ := r.get h2
  have hl := r.length
  have hn := line63
  have fin : EP X pins σ Q w s := ⟨z, H, I, rw', q⟩
  by_cases h0 : 0 ≤ i
  · have hj : i.toNat = j := by
      rw [seqIndex_of h0 h5] at h1
      exact Option.some.inj h1
    exact wpAny_getItem_list pl.isList h0 (by omega) (by rw [hj]; simpa using ew) fin
  · have hj : (i + (its.toArray.size : Int)).toNat = j := by
      rw [seqIndex_neg (by omega) h4] at h1
      rw [List.size_toArray, ← hl]
      exact Option.some.inj h1
    exact wpAny_getItem_list_neg pl.isList (by omega) (by rw [List.size_toArray] <;> omega) (by omega) (by rw [hj]; simpa using ew) fin
variable {i : Expr} {mi : EM} {tpos : Pos}
theorem ms_augI (ho : PE X o (tE X.K T W mo)) (hi : PE X i (tE X.K T W mi)) (he : PE X e (tE X.K T W me))
    (ha : ∀ ov iv new, augStore i ov iv new = (do holding [new, ov, iv] (setItem ov iv new); release [new, ov, iv] []; pure .next) := by intros; rfl) :
    PS X (.AugAssign (.Subscript o i tpos) .Add e pos) (tS X.K T W (sAugI mo mi me)) := by
  refine PS.weak (ps_augS ho hi get_list he ip_add set_list ha) fun D σ H ⟨P, F, io, en, st, hE, hS, hp⟩ => ?_
  refine ⟨P, F, io, en, st, hE, hS, ?_⟩
  refine Post.mono (PostS.bind (rel := rV X.K T) hp) fun v H1 ⟨F1, io1, x, s1, l1, rx, hS1, hp1⟩ => ?_
  cases x with
  | loc n =>
    refine ⟨P, F1, io1, en, s1, hE.mono l1, hS1, ?_⟩
    refine Post.mono (PostS.bind (rel := rV X.K T) (hp1 : PostS X.K T P W F1 io1 ((mi en s1).bind _) D)) fun v2 H2 ⟨F2, io2, k, s2, l2, rk, hS2, hp2⟩ => ?_
    have rx2 := rx.mono l2
    simp only at hp2
    cases hu : pyIdx (.loc n) k s2 with
    | exc _ _ => rw [hu] at hp2; exact hp2.elim
    | stuck => rw [hu] at hp2; exact hp2.elim
    | ok u0 s3 =>
      rw [hu] at hp2
      simp only [noX_ok, Res.bind_ok] at hp2
      cases rk with
      | int j =>
        unfold pyIdx at hu
        simp only at hu
        cases hx : itemsOf s2 (.loc n) with
        | none => rw [hx] at hu; cases hu
        | some xs =>
          rw [hx] at hu
          simp only at hu
          cases hat : atP xs j with
          | none => rw [hat] at hu; cases hu
          | some z =>
            rw [hat] at hu
            cases hu
            rcases hS2.seqL rx2 hx with ⟨a, vs, rfl, hq, hr⟩ | ⟨a, vs, _, e1, _⟩
            · obtain ⟨zv, e1, e2⟩ := atP_get hr hat
              refine ⟨a, vs, j, zv, rfl, rfl, hq, e1, ?_⟩
              refine ⟨P, F2, io2, en, s2, (hE.mono l1).mono l2, hS2, ?_⟩
              refine Post.mono (PostS.bind (rel := rV X.K T) hp2) fun v4 H4 ⟨F4, io4, y, s4, l4, ry, hS4, hp4⟩ => ?_
              have rx4 := rx2.mono l4
              have rz4 := e2.mono l4
              cases u0 with
              | int p =>
                cases y with
                | int q =>
                  cases ry
                  cases rz4
                  refine ⟨p, q, rfl, rfl, ?_⟩
                  simp only at hp4
                  cases hc : s4[n]? with
                  | none => simp only [hc] at hp4; exact hp4.elim
                  | some c0 =>
                    simp only [hc] at hp4
                    cases c0 with
                    | lst ys =>
                      simp only at hp4
                      cases hm : ixP ys.length j with
                      | none => simp only [hm] at hp4; exact hp4.elim
                      | some m =>
                        simp only [hm] at hp4
                        cases rx4 with
                        | @loc _ _ hi4 =>
                          obtain ⟨o2, g2, g3⟩ := hS4.loc hi4 hc
                          cases g3 with
                          | @lst _ us q3 =>
                            refine ⟨a, us, j, m, rfl, rfl, g2, by rw [← q3.length]; exact hm, ?_⟩
                            exact hp4 F4 io4 σ _ Le.refl (((hE.mono l1).mono l2).mono l4) (hS4.put hi4 (.lst (q3.set (.int (p + q)) m)))
                    | _ => exact hp4.elim
                | _ => exact hp4.elim
              | _ => exact hp4.elim
            · cases e1
      | _ => unfold pyIdx at hu; cases hu
  | _ => exact hp1.elim
end
/-! ### calls of defs with defaults by position -/
section
variable {K : PySem.W.Frag} {T : Tb} {x qual : Str} {params : Arguments} {body : List Stmt} {scope : Scope} {dvs : List V} {kws : List (Str × V)} {f : Addr} {fd : FuncData} {ps : List Str}
/-- defaults by position, keyword-only parameters: pd the defaults, mp the values of the keyword-only ones that lack -/
theorem callS_pk {n : Nat} {ks : List Str} {ms : List (Str × V)} {pd mp : List PV} {sel : List Nat} (F : FunD K x qual params body scope dvs kws f fd) (hd : dvs ≠ []) (hk : kws ≠ []) (hms : ∀ q ∈ ms, q ∈ kws) (hpd : ∀ F io, Rs K T F io pd dvs) (hmp : ∀ F io, Rs K T F io mp (ms.map (·.2)))
    (hsel : (∀ i ∈ sel, i < n + pd.length + mp.length + ks.length) ∧ sel.length = ps.length)
    (h : ∀ (T D : Addr) (doc pm : Value) (an : Option Addr) (cdv ct : Value) (us its mv ws : List Value), us.length = n → its.length = dvs.length → mv.length = ms.length → ws.length = ks.length →
      ∃ k, bindArgs (PySem.W.fnOf x qual params body scope (.ref T) (.ref D) doc pm an cdv ct) ⟨us, ks.zip ws⟩ = seqItems? (.ref T) >>= k ∧ KwChain D ((ms.map (·.1)).zip mv) (k (some its.toArray)) (ps.zip (pickL sel (us ++ its ++ mv ++ ws)))) :
    CallS K T fd ps n ks (fun vs zs => pickL sel (vs ++ pd ++ mp ++ zs)) := by
  obtain ⟨its, mv, kb⟩ := FunD.kbinds F n ks ms (fun us its mv ws => pickL sel (us ++ its ++ mv ++ ws)) hd hk hms (fun r1 r2 r3 r4 => pickL_vals (((r1.append r2).append r3).append r4)) h
  refine ⟨_, _, kb, fun F io vs zs us ws r1 r2 l1 l2 => ⟨pickL_rs (((r1.append (hpd F io)).append (hmp F io)).append r2), ?_⟩⟩
  rw [pickL_len]
  · exact hsel.2
  · intro i hi
    have := hsel.1 i hi
    have e := (hmp F io).length
    have e' := (hpd F io).length
    simp only [List.length_append]
    omega
/-- defaults by position, no keyword-only ones -/
theorem callS_pd {n : Nat} {ks : List Str} {pd : List PV} {sel : List Nat} (F : FunD K x qual params body scope dvs kws f fd) (hd : dvs ≠ []) (hpd : ∀ F io, Rs K T F io pd dvs)
    (hsel : (∀ i ∈ sel, i < n + pd.length + ks.length) ∧ sel.length = ps.length)
    (h : ∀ (T : Addr) (kV doc pm : Value) (an : Option Addr) (cdv ct : Value) (us its ws : List Value), us.length = n → its.length = dvs.length → ws.length = ks.length →
      ∃ k, bindArgs (PySem.W.fnOf x qual params body scope (.ref T) kV doc pm an cdv ct) ⟨us, ks.zip ws⟩ = seqItems? (.ref T) >>= k ∧ k (some its.toArray) = pure (ps.zip (pickL sel (us ++ its ++ ws)))) :
    CallS K T fd ps n ks (fun vs zs => pickL sel (vs ++ pd ++ zs)) := by
  obtain ⟨its, kb⟩ := FunD.kbindsD F n ks (fun us its ws => pickL sel (us ++ its ++ ws)) hd (fun r1 r2 r3 => pickL_vals ((r1.append r2).append r3)) h
  refine ⟨_, _, kb, fun F io vs zs us ws r1 r2 l1 l2 => ⟨pickL_rs ((r1.append (hpd F io)).append r2), ?_⟩⟩
  rw [pickL_len]
  · exact hsel.2
  · intro i hi
    have := hsel.1 i hi
    have e' := (hpd F io).length
    simp only [List.length_append]
    omega
end
end Mir
/-! Mir, part X: the call of an own exception class whose __init__ says super().__init__(text) and keeps its arguments. -/
namespace Mir
open PySem PySem.Spec PySem.W PyProof.Rows
/-- what stands behind the built-in class over which it lies -/
structure ExBase (B newId initId : String) (bmB : List Value) : Prop where
  fb : ExcBaseFacts B newId initId bmB
  kf : KxsFacts B initId
  sf : StoreFacts B bmB "object.__setattr__" "object"
theorem exVE : ExBase "ValueError" "ValueError.__new__" "ValueError.__init__" [.type "ValueError", .type "Exception", .type "BaseException", .type "object"] := ⟨PySem.F.excBase_ValueError, kxs_ValueError, PySem.F.store_ValueError⟩
theorem exTE : ExBase "TypeError" "TypeError.__new__" "TypeError.__init__" [.type "TypeError", .type "Exception", .type "BaseException", .type "object"] := ⟨PySem.F.excBase_TypeError, kxs_TypeError, PySem.F.store_TypeError⟩
/-- the __init__ of such a class, as it stands in the text: n fields, the parameters and attributes by name -/
structure ExDef where
  name : Str
  qual : Str
  params : Arguments
  body : List Stmt
  scope : Scope
/-- what the written part says of the class and its __init__ -/
structure ExCls (K : Frag) (C : Addr) (B newId initId : String) (bmB : List Value) (file0 : Str) (D : ExDef) (fI cda cc : Addr) (kV cdv : Value) : Prop where
  q : excInitIn K C bmB newId = true
  over : excOver K C bmB = true
  sa : findIn K (.ref C) "__setattr__" = some (some (.builtin "object.__setattr__"))
  hh : hasDictIn K C = true
  sub : subIn K (.ref C) (.type B) = some true
  self : mroIn K C (.ref C) = some true
  init : findIn K (.ref C) "__init__" = some (some (.ref fI))
  isF : isFn K (.ref fI) = true
  fn : ∃ oc od doc pm an ct osl, K.lookup fI = some ⟨oc, od, .func (ksFn D.name D.qual D.params D.body D.scope .none kV doc pm an cdv ct cc), osl⟩
  code : codeIn K cdv D.qual = true
  cdv : cdv = .ref cda
  file : ∃ ccl cdd vs ccs file tf, K.lookup cda = some ⟨ccl, cdd, .fields vs, ccs⟩ ∧ vs[2]? = some (.str file tf) ∧ (file0 == file) = true
  cell : ∃ cl cld csl, K.lookup cc = some ⟨cl, cld, .cell (some (.ref C)), csl⟩
  sup : ks_superIn K C C "__init__" = some (some (.builtin initId))
  any : nsIn K cStatics "thirdparty.any" = some none
/-- its names -/
structure ExScope (ps : List Str) (sc : Scope) : Prop where
  sup : sc.names.lookup ("super" : Str) = some .globalImplicit
  cls : sc.names.lookup ("__class__" : Str) = some .free
  loc : ∀ x ∈ ("self" : Str) :: ps, sc.names.lookup x = some .local
  kind : sc.kind = .function
  nocell : ∀ x ∈ sc.names, x.2 ≠ .cell
  co : sc.isCoroutine = false
  gen : sc.isGenerator = false
theorem fr_of {h₀ h : Heap} {L : Addr} {m : Str → Option Value} (hn : h.Ns L m) (k : ∀ b o, h₀.get? b = some o → h.get? b = some o) (a : h₀.objs.size ≤ L) : Fr h₀ L h m := ⟨hn, k, a⟩
/-- a name of the def that is a local -/
theorem ld_loc {M : Model} {A : Around} {E : Value → Shared → Prop} {s : Shared} {env : PySem.Env} {m : Str → Option Value} {x : Str} {pos : Pos} {v : Value} {Q : Value → Shared → Prop} (hk : env.scope.kind = .function) (hl : env.kindOf x = some .local) (hn : s.heap.Ns env.locals m) (hv : m x = some v) (h : Q v s)
    (hd : (x == ("__debug__" : Str)) = false := by decide) : wpAny M A (eval (.Name x pos) env) Q E s := wpAny_Name (wpAny_loadName_local hk hl hn hv h) hd
section
variable {P : Program} {w : World} {A : Around} {Em : Value → Shared → Prop} {K : Frag} {C fI cda cc : Addr} {B newId initId : String} {bmB : List Value} {D : ExDef} {kV cdv : Value} {hp : Heap} {g : Array GenState} {d : Drawn} {t : Nat} {os : OsState} {mg : Str → Option Value} {base : Heap}
/-- into __init__: what is done within it, over a ledger with the exception and its arguments -/
theorem ex_enter (EB : ExBase B newId initId bmB) (EC : ExCls K C B newId initId bmB P.main.file D fI cda cc kV cdv) {ps : List Str} (S : ExScope ps D.scope) (Mo : L2.Mod K mg base) (kb : ∀ b o, base.get? b = some o → hp.get? b = some o)
    {us : List Value} (hz : us.length ≤ 100) (hroom : A.depth + 2 < recursionLimit) {Q : Value → Shared → Prop}
    (hbind : ∀ (doc pm : Value) (an : Option Addr) (ct : Value) (e : Addr), bindArgs (ksFn D.name D.qual D.params D.body D.scope .none kV doc pm an cdv ct cc) ⟨.ref e :: us, []⟩ = pure ((("self" : Str) :: ps).zip (.ref e :: us)))
    (hl : us.length = ps.length)
    (h : ∀ (A' : Around) (h₀ h₁ : Heap) (e ta L tk : Nat), e ∉ [L] → (∀ b o, hp.get? b = some o → h₀.get? b = some o) → h₀.get? e = none → hp.objs.size ≤ e → K.In h₀ → Fr h₀ L h₁ (fun y => ((("self" : Str), Value.ref e) :: ps.zip us).reverse.lookup y) → News h₀ L h₁ [(e, excObj C ta none .none), (ta, excTup us)] →
      PySem.wpAt (model P w) A' (.func D.body (ksEnv D.qual D.scope L fI cdv cc)) (execs D.body (ksEnv D.qual D.scope L fI cdv cc)) (fun fl s' => (match fl with | .ret v => v = .none | _ => True) ∧ Q (.ref e) s') (fun _ _ => False) ⟨h₁, g, d, tk, os⟩) :
    wpAny (model P w) A (call (.ref C) us) Q Em ⟨hp, g, d, t, os⟩ := by
  have X : K.In hp := Mo.kin.keeps kb
  obtain ⟨nm, N', qn, bs, bm, hdct, sn, sub, ab, col, dd, k0, k1, k2, k3, k5, hC, hT⟩ := excInit_of X EC.q
  obtain ⟨oI, hoI, hcI⟩ : ∃ oI, hp.get? fI = some oI ∧ oI.cls = .type "function" := by
    obtain ⟨o, ho, hc⟩ := Option.map_eq_some_iff.mp (show (K.lookup fI).map (·.cls) = some (.type "function") from beq_iff_eq.mp EC.isF)
    exact ⟨o, X _ _ ho, hc⟩
  have hi' : Looks (model P w) hp (typeLookup (.ref C) "__init__") (some (.ref fI)) := looks_findIn X EC.init
  have hzs : us.length ≤ sizeLine := by rw [sizeLine_eq]; omega
  refine wpAny_call (PX.call_own EB.fb hT hC hi' (fun self => exc_bind hoI hcI self) hzs ?_)
  obtain ⟨oc, od, doc, pm, an, ct, osl, hfn⟩ := EC.fn
  have up : ∀ b o, hp.get? b = some o → ((hp.push (excTup us)).push (PX.excO C hp.objs.size)).get? b = some o := fun b o e => Heap.get?_push_of_some _ (Heap.get?_push_of_some _ e)
  have X2 := X.keeps up
  have he : ((hp.push (excTup us)).push (PX.excO C hp.objs.size)).get? (hp.objs.size + 1) = some (PX.excO C hp.objs.size) := by heap_get
  have ht : ((hp.push (excTup us)).push (PX.excO C hp.objs.size)).get? hp.objs.size = some (excTup us) := by heap_get
  have hlen : ((("self" : Str) :: ps).zip (Value.ref (hp.objs.size + 1) :: us)).length = ps.length + 1 := by simp [hl]
  have dep : (A.under (.builtin "type.__call__" ⟨.ref C :: us, []⟩)).depth < recursionLimit := by
    rw [L2.make_depth]; omega
  refine ks_codeAny_call_defAt (fd := ksFn D.name D.qual D.params D.body D.scope .none kV doc pm an cdv ct cc) (body := D.body) dep (X2 _ _ hfn) rfl ((Mo.nolimit.keeps kb).keeps up) (codeRec_of X2 EC.code) rfl (BindsTo.of_eq (hbind doc pm an ct _)) S.nocell ?_ (fun h₁ hns hk₁ => ?_) S.co S.gen S.kind
  · intro x hx
    exact S.loc x.1 (List.of_mem_zip hx).1
  · have hz0 := hideAll_size [hp.objs.size + 1, hp.objs.size] ((hp.push (excTup us)).push (PX.excO C hp.objs.size))
    have hsz : ((hp.push (excTup us)).push (PX.excO C hp.objs.size)).objs.size = hp.objs.size + 2 := by rw [Heap.size_push, Heap.size_push]
    have lo : ∀ b o, hp.get? b = some o → (hideAll ((hp.push (excTup us)).push (PX.excO C hp.objs.size)) [hp.objs.size + 1, hp.objs.size]).get? b = some o := fun b o e => by
      have lt := Heap.lt_size e
      exact hideAll_get _ (up b o e) (by
        intro hm
        rcases List.mem_cons.mp hm with e1 | hm
        · rw [e1] at lt; exact absurd lt (Nat.not_lt.mpr (Nat.le_succ _))
        · rw [List.mem_singleton.mp hm] at lt; exact absurd lt (Nat.lt_irrefl _))
    refine ks_wpAt_mono (h _ (hideAll ((hp.push (excTup us)).push (PX.excO C hp.objs.size)) [hp.objs.size + 1, hp.objs.size]) h₁ (hp.objs.size + 1) hp.objs.size _ _ ?_ lo (hideAll_none _ (by simp)) (by omega) (X.keeps lo) ⟨hns, fun b o e => hk₁ b o (of_hideAll _ e), Nat.le_of_eq hz0⟩ ?_) (fun fl s' q => ?_) (fun _ _ z => z.elim)
    · intro hm
      rw [hsz] at hm
      exact absurd (List.mem_singleton.mp hm) (Nat.ne_of_lt (Nat.lt_succ_self _))
    · intro p hp'
      simp only [List.mem_cons, List.not_mem_nil, or_false] at hp'
      rcases hp' with rfl | rfl
      · exact ⟨hk₁ _ _ he, by rw [hsz]; exact Nat.ne_of_lt (Nat.lt_succ_self _), hideAll_none _ (by simp)⟩
      · exact ⟨hk₁ _ _ ht, by rw [hsz]; exact Nat.ne_of_lt (Nat.lt_succ_of_lt (Nat.lt_succ_self _)), hideAll_none _ (by simp)⟩
    · cases fl with
      | ret v => obtain ⟨rfl, q2⟩ := q; exact ⟨rfl, q2⟩
      | _ => exact ⟨rfl, q.2⟩
end
end Mir
namespace Mir
open PySem PySem.Spec PySem.W PyProof.Rows
section
variable {P : Program} {w : World} {A : Around} {Em : Value → Shared → Prop} {K : Frag} {C fI cda cc : Addr} {B newId initId : String} {bmB : List Value} {D : ExDef} {kV cdv : Value} {hp : Heap} {g : Array GenState} {d : Drawn} {t : Nat} {os : OsState} {mg : Str → Option Value} {base : Heap}
abbrev supS (p0 p1 pa pc pcall pe : Pos) (msg : Str) (j : Nat) : Stmt := .Expr (.Call (.Attribute (.Call (.Name "super" p0) [] [] p1) "__init__" pa) [.Constant (.str msg) j pc] [] pcall) pe
theorem supIn {l : List Value} (h : ks_superIn K C C "__init__" = some (some (.builtin initId))) : ∃ cd, clsIn K C = some cd ∧ alongIn K "__init__" ((cd.mro.dropWhile (· != .ref C)).drop 1) = some (some (.builtin initId)) := by
  unfold ks_superIn at h
  cases hc : clsIn K C with
  | none => rw [hc] at h; cases h
  | some cd => rw [hc] at h; exact ⟨cd, rfl, h⟩
/-- super().__init__(text) -/
theorem ex_super (EB : ExBase B newId initId bmB) (EC : ExCls K C B newId initId bmB P.main.file D fI cda cc kV cdv) {ps : List Str} (S : ExScope ps D.scope) (Mo : L2.Mod K mg base) (hms : mg "super" = none)
    (htop : (P.main.scope.names.lookup ("super" : Str)).isSome = false) {ar : Arg} (hpar : (D.params.posonlyargs ++ D.params.args).head? = some ar) (har : ar.arg = ("self" : Str))
    {p0 p1 pa pc pcall pe : Pos} {msg : Str} {j : Nat} {h₀ h₁ : Heap} {e ta L tk : Nat} {m : Str → Option Value} {us : List Value} {Q : Flow → Shared → Prop} {E : Value → Shared → Prop}
    {pl : Sem Bool} (hev : ∀ env : PySem.Env, eval (.Call (.Attribute (.Call (.Name "super" p0) [] [] p1) "__init__" pa) [.Constant (.str msg) j pc] [] pcall) env = (do
      let ov ← attributeBase (.Call (.Name "super" p0) [] [] p1) "__init__" env (eval (.Call (.Name "super" p0) [] [] p1) env)
      standAt pa.atName
      let (f, first) ← holding [ov] (getMethod ov "__init__" pl)
      callWith pcall f first (backTo pcall (starEach [.Constant (.str msg) j pc] env)) []))
    (kb : ∀ b o, base.get? b = some o → h₀.get? b = some o) (X₀ : K.In h₀) (F : Fr h₀ L h₁ m) (hm : m "self" = some (.ref e)) (N : News h₀ L h₁ [(e, excObj C ta none .none), (ta, excTup us)]) (nt : ta ≠ e)
    (h : ∀ (h' : Heap) (tk' ta' : Nat) (news' : List (Addr × Obj)), Fr h₀ L h' m → News h₀ L h' ((e, excObj C ta' none .none) :: news') → (∀ p ∈ news', p.1 ≠ e) → Q .next ⟨h', g, d, tk', os⟩) :
    PySem.wpAt (model P w) A (.func D.body (ksEnv D.qual D.scope L fI cdv cc)) (exec (supS p0 p1 pa pc pcall pe msg j) (ksEnv D.qual D.scope L fI cdv cc)) Q E ⟨h₁, g, d, tk, os⟩ := by
  have hcd := EC.cdv
  subst hcd
  have X : K.In h₁ := X₀.keeps F.keep
  have kb1 : ∀ b o, base.get? b = some o → h₁.get? b = some o := fun b o q => F.keep b o (kb b o q)
  obtain ⟨oc, od, doc, pm, an, ct, osl, hfn⟩ := EC.fn
  obtain ⟨ccl, cdd, vs, ccs, file, tf, hcode, hvs, hfile⟩ := EC.file
  obtain ⟨cl, cld, csl, hcell⟩ := EC.cell
  obtain ⟨cd, hcls, hsup⟩ := supIn (l := []) EC.sup
  obtain ⟨mb, hblt, hbl2⟩ := Mo.blt
  obtain ⟨nm, N', qn, bs, bm, hdct, sn, sub, ab, col, dd, k0, k1, k2, k3, k5, hC, hT⟩ := excInit_of X EC.q
  have hx := (N (e, excObj C ta none .none) (by simp)).1
  have hself : (ksEnv D.qual D.scope L fI (.ref cda) cc).kindOf "self" = some .local := S.loc _ (by simp)
  have hI : InstAt h₁ e (excObj C ta none .none) C none := ⟨hx, rfl, rfl, trivial⟩
  have eC : e ≠ C := ks_ne X hI hcls
  have hin : interactive (ksEnv D.qual D.scope L fI (.ref cda) cc) = false := by
    unfold interactive
    rw [show (ksEnv D.qual D.scope L fI (.ref cda) cc).scope.kind = .function from S.kind]
    rfl
  refine ks_wpAt_Expr_any (ks_wpAt_MethodCall (pl := pl) ?_ ?_) hin ?_
  · refine ks_wpAt_super_base (env := ksEnv D.qual D.scope L fI (.ref cda) cc) S.sup S.cls (by decide) rfl (X _ _ hfn) rfl hpar rfl (X _ _ hcode) rfl hvs hfile htop ?_
    refine ks_loadName_global S.kind S.sup (Calls.loadGlobal_builtin (Mo.glob.keeps kb1) hms (hblt.keeps kb1) ((hbl2 _ (by decide)).trans (show bootBuiltins "super" = some (.type "super") by first | rfl | kernel_rfl)) ⟨rfl, ?_⟩)
    refine wpAny_loadName_free S.kind S.cls rfl ⟨_, X _ _ hcell, rfl⟩ ?_
    rw [har]
    refine wpAny_loadName_local S.kind hself F.ns hm ?_
    refine ks_wpAny_isType_cls hC rfl ⟨rfl, ?_⟩
    refine ks_wpAny_call_super hC rfl hx rfl (fun c z => nomatch z) (looks_mroIn X EC.self) (fun h2 e2 k2 => ?_)
    obtain ⟨F2, N2, l2⟩ := ks_newsPush (s := ⟨h₁, g, d, tk, os⟩) (o := ks_superObj C e C) F N rfl e2 k2
    have X2 : K.In h2 := X₀.keeps F2.keep
    have hso := (N2 _ (List.mem_cons_self ..)).1
    refine kxs_getMethod EB.kf hso (looks_opaque X2 EC.any) (l₀ := cd.mro) (fun A Q E s k q => wpAny_bind ((looks_clsIn X2 hcls) A _ E s k (wpAny_pure q))) rfl X2 hsup (show Looks (model P w) h2 (isInstance (.ref e) (.type B)) true from (show InstAt h2 e (excObj C ta none .none) C none from ⟨k2 _ _ hx, rfl, rfl, trivial⟩).type.andThen (looks_subIn X2 EC.sub)) eC (by decide) ?_
    obtain ⟨F3, N3, l3⟩ := ks_newsPush (s := ⟨h2, g, d, tk, os⟩) (o := kxs_mw initId e) F2 N2 rfl (Heap.get?_push_at rfl rfl) (fun b o q => Heap.get?_push_of_some _ q)
    refine kxs_callWith1 (i := initId) (x := e) N3 (List.mem_cons_self ..) ?_
    refine Calls.spliced_cons (wpAny_Constant_str (k := j) (pos := pc) (Calls.spliced_nil ⟨(N3 _ (List.mem_cons_self ..)).1, ?_⟩))
    refine kxs_call (x := e) (C := C) (i := initId) F3 X₀ N3 EB.fb EC.q (List.mem_cons_self ..) (.tail ?_ (.tail ?_ (.head ?_))) (by simp [sizeLine_eq]) (fun t' h' F4 N4 l4 => ?_)
    · exact Nat.ne_of_gt (l3 (e, excObj C ta none .none) (by simp))
    · exact Nat.ne_of_gt (l2 (e, excObj C ta none .none) (by simp))
    · intro p hp; rw [List.mem_singleton.mp hp]; exact nt
    · refine h _ _ t' [(t', excTup [.str msg (tk + 1)]), (h2.objs.size, kxs_mw initId e), (h₁.objs.size, ks_superObj C e C), (ta, excTup us)] F4 (fun p hp => N4 p ?_) (fun p hp => ?_)
      · simp only [List.mem_cons, List.not_mem_nil, or_false] at hp ⊢
        rcases hp with rfl | rfl | rfl | rfl | rfl <;> simp
      · simp only [List.mem_cons, List.not_mem_nil, or_false] at hp
        rcases hp with rfl | rfl | rfl | rfl
        · exact Nat.ne_of_gt (l4 (e, excObj C ta none .none) (by simp))
        · exact Nat.ne_of_gt (l3 (e, excObj C ta none .none) (by simp))
        · exact Nat.ne_of_gt (l2 (e, excObj C ta none .none) (by simp))
        · exact nt
  · exact hev _
  · rfl
end
end Mir
namespace Mir
open PySem PySem.Spec PySem.W PyProof.Rows
section
variable {P : Program} {w : World} {A : Around} {Em : Value → Shared → Prop} {K : Frag} {C fI cda cc : Addr} {B newId initId : String} {bmB : List Value} {D : ExDef} {kV cdv : Value} {hp : Heap} {g : Array GenState} {d : Drawn} {t : Nat} {os : OsState} {mg : Str → Option Value} {base : Heap}
abbrev stoS (q1 q2 q3 q4 : Pos) (f : Str) : Stmt := .Assign [.Attribute (.Name "self" q1) f q2] (.Name f q3) q4
theorem Fr.atSelf {h₀ h₁ : Heap} {L : Addr} {m : Str → Option Value} (F : Fr h₀ L h₁ m) : h₁.Ns L m := F.ns
/-- self.f = f, the first one -/
theorem ex_sto1 (EB : ExBase B newId initId bmB) (EC : ExCls K C B newId initId bmB P.main.file D fI cda cc kV cdv) {ps : List Str} (S : ExScope ps D.scope) {f : Str} (hf : f ∈ ps) (hfd : (f == ("__debug__" : Str)) = false) (ht : takerIn K C f = some none)
    {q1 q2 q3 q4 : Pos} {h₀ h₁ : Heap} {e ta L tk : Nat} {m : Str → Option Value} {u : Value} {news : List (Addr × Obj)} {Q : Flow → Shared → Prop} {E : Value → Shared → Prop}
    (X₀ : K.In h₀) (F : Fr h₀ L h₁ m) (hm : m "self" = some (.ref e)) (hu : m f = some u) (N : News h₀ L h₁ ((e, excObj C ta none .none) :: news)) (nn : ∀ p ∈ news, p.1 ≠ e)
    (h : ∀ (h' : Heap) (tk' dx : Nat) (hs : Int) (k : Tok), Fr h₀ L h' m → News h₀ L h' ((dx, dictOf [⟨hs, .str f k, u⟩] 1) :: (e, excObj C ta (some dx) .none) :: news) → e < dx → (∀ p ∈ news, p.1 < dx) → Q .next ⟨h', g, d, tk', os⟩) :
    PySem.wpAt (model P w) A (.func D.body (ksEnv D.qual D.scope L fI cdv cc)) (exec (stoS q1 q2 q3 q4 f) (ksEnv D.qual D.scope L fI cdv cc)) Q E ⟨h₁, g, d, tk, os⟩ := by
  have hself : (ksEnv D.qual D.scope L fI cdv cc).kindOf "self" = some .local := S.loc _ (by simp)
  have hfl : (ksEnv D.qual D.scope L fI cdv cc).kindOf f = some .local := S.loc _ (List.mem_cons_of_mem _ hf)
  refine ks_wpAt_Assign_Attr (wpAt_of_wpAny (ld_loc S.kind hfl F.ns hu (ld_loc S.kind hself F.ns hm ?_) hfd)) rfl
  refine set_exc0 (s := ⟨h₁, g, d, tk, os⟩) EB.sf F X₀ N (List.mem_cons_self ..) EC.sa EC.over ht EC.hh (es' := [⟨PyData.keyHash w.params f, .str f (tk + 1), u⟩]) (n' := 1) rfl (.head nn) (by simp) fun dx h' F' N' l' => ?_
  exact h h' _ dx _ _ F' N' (l' (e, excObj C ta none .none) (by simp)) fun p hp => l' p (List.mem_cons_of_mem _ hp)
/-- .. a second one -/
theorem ex_sto2 (EB : ExBase B newId initId bmB) (EC : ExCls K C B newId initId bmB P.main.file D fI cda cc kV cdv) {ps : List Str} (S : ExScope ps D.scope) {f f0 : Str} (hf : f ∈ ps) (hfd : (f == ("__debug__" : Str)) = false) (ht : takerIn K C f = some none) (hne : (f0 == f) = false)
    {q1 q2 q3 q4 : Pos} {h₀ h₁ : Heap} {e ta L tk dx : Nat} {m : Str → Option Value} {u u0 : Value} {hs0 : Int} {k0 : Tok} {news : List (Addr × Obj)} {Q : Flow → Shared → Prop} {E : Value → Shared → Prop}
    (X₀ : K.In h₀) (F : Fr h₀ L h₁ m) (hm : m "self" = some (.ref e)) (hu : m f = some u) (N : News h₀ L h₁ ((dx, dictOf [⟨hs0, .str f0 k0, u0⟩] 1) :: (e, excObj C ta (some dx) .none) :: news)) (ne : e < dx) (nn : ∀ p ∈ news, p.1 < dx)
    (h : ∀ (h' : Heap) (tk' : Nat) (hs : Int) (k : Tok), Fr h₀ L h' m → News h₀ L h' ((dx, dictOf [⟨hs0, .str f0 k0, u0⟩, ⟨hs, .str f k, u⟩] 2) :: (e, excObj C ta (some dx) .none) :: news) → Q .next ⟨h', g, d, tk', os⟩) :
    PySem.wpAt (model P w) A (.func D.body (ksEnv D.qual D.scope L fI cdv cc)) (exec (stoS q1 q2 q3 q4 f) (ksEnv D.qual D.scope L fI cdv cc)) Q E ⟨h₁, g, d, tk, os⟩ := by
  have hself : (ksEnv D.qual D.scope L fI cdv cc).kindOf "self" = some .local := S.loc _ (by simp)
  have hfl : (ksEnv D.qual D.scope L fI cdv cc).kindOf f = some .local := S.loc _ (List.mem_cons_of_mem _ hf)
  refine ks_wpAt_Assign_Attr (wpAt_of_wpAny (ld_loc S.kind hfl F.ns hu (ld_loc S.kind hself F.ns hm ?_) hfd)) rfl
  have hk : (Value.str f0 k0).isStr f = false := by
    show (f0 == f) = false
    exact hne
  refine set_excD (s := ⟨h₁, g, d, tk, os⟩) EB.sf F X₀ N (List.mem_cons_of_mem _ (List.mem_cons_self ..)) EC.sa EC.over ht EC.hh (List.mem_cons_self ..) (by simp [getL, hk, DictEntry.refKey]) (es' := [⟨hs0, .str f0 k0, u0⟩, ⟨PyData.keyHash w.params f, .str f (tk + 1), u⟩]) (n' := 2) (by simp [putL, putN, hk]) (.head ?_) (by simp) fun h' F' N' => ?_
  · intro p hp
    rcases List.mem_cons.mp hp with rfl | hp
    · exact Nat.ne_of_lt ne
    · exact Nat.ne_of_lt (nn p hp)
  · exact h h' _ _ _ F' N'
/-- dicts of one entry, of two -/
theorem ns_one {h : Heap} {dx : Addr} {f : Str} {u : Value} {hs : Int} {k : Tok} {n : Nat} (e : h.get? dx = some (dictOf [⟨hs, .str f k, u⟩] n)) : h.Ns1 dx (fun y => if y = f then some u else none) := by
  refine ⟨_, _, _, e, rfl, fun x hx => ?_, by simp [UniqKeys], fun y => ?_⟩
  · simp at hx; subst hx; exact ⟨f, k, rfl⟩
  · by_cases q : y = f
    · subst q; simp [nsFind, findBy, Value.isStr]
    · have : (f == y) = false := beq_eq_false_iff_ne.mpr (Ne.symm q)
      simp [nsFind, findBy, Value.isStr, q, this]
theorem ns_two {h : Heap} {dx : Addr} {f f2 : Str} {u u2 : Value} {hs hs2 : Int} {k k2 : Tok} {n : Nat} (hne : (f == f2) = false) (e : h.get? dx = some (dictOf [⟨hs, .str f k, u⟩, ⟨hs2, .str f2 k2, u2⟩] n)) : h.Ns1 dx (fun y => if y = f then some u else if y = f2 then some u2 else none) := by
  have n1 : f ≠ f2 := beq_eq_false_iff_ne.mp hne
  refine ⟨_, _, _, e, rfl, fun x hx => ?_, ?_, fun y => ?_⟩
  · simp at hx
    rcases hx with rfl | rfl
    · exact ⟨f, k, rfl⟩
    · exact ⟨f2, k2, rfl⟩
  · simp [UniqKeys, Value.isStr]
    exact Ne.symm n1
  · by_cases q : y = f
    · subst q; simp [nsFind, findBy, Value.isStr]
    · have q1 : (f == y) = false := beq_eq_false_iff_ne.mpr (Ne.symm q)
      by_cases q2 : y = f2
      · subst q2; simp [nsFind, findBy, Value.isStr, q, q1]
      · have : (f2 == y) = false := beq_eq_false_iff_ne.mpr (Ne.symm q2)
        simp [nsFind, findBy, Value.isStr, q, q1, q2, this]
/-- C(u): an exception that keeps one argument -/
theorem ex_make1 (EB : ExBase B newId initId bmB) (EC : ExCls K C B newId initId bmB P.main.file D fI cda cc kV cdv) {f : Str} (S : ExScope [f] D.scope) (hfd : (f == ("__debug__" : Str)) = false) (hsf : (f == ("self" : Str)) = false) (ht : takerIn K C f = some none) (Mo : L2.Mod K mg base) (hms : mg "super" = none)
    (htop : (P.main.scope.names.lookup ("super" : Str)).isSome = false) {ar : Arg} (hpar : (D.params.posonlyargs ++ D.params.args).head? = some ar) (har : ar.arg = ("self" : Str))
    {p0 p1 pa pc pcall pe q1 q2 q3 q4 : Pos} {msg : Str} {j : Nat} (hbody : D.body = [supS p0 p1 pa pc pcall pe msg j, stoS q1 q2 q3 q4 f]) {pl : Sem Bool} (hev : ∀ env : PySem.Env, eval (.Call (.Attribute (.Call (.Name "super" p0) [] [] p1) "__init__" pa) [.Constant (.str msg) j pc] [] pcall) env = (do
      let ov ← attributeBase (.Call (.Name "super" p0) [] [] p1) "__init__" env (eval (.Call (.Name "super" p0) [] [] p1) env)
      standAt pa.atName
      let (f, first) ← holding [ov] (getMethod ov "__init__" pl)
      callWith pcall f first (backTo pcall (starEach [.Constant (.str msg) j pc] env)) []))
    (kb : ∀ b o, base.get? b = some o → hp.get? b = some o) {u : Value} (hroom : A.depth + 2 < recursionLimit) {Q : Value → Shared → Prop}
    (hbind : ∀ (doc pm : Value) (an : Option Addr) (ct : Value) (e : Addr), bindArgs (ksFn D.name D.qual D.params D.body D.scope .none kV doc pm an cdv ct cc) ⟨[.ref e, u], []⟩ = pure [(("self" : Str), Value.ref e), (f, u)])
    (h : ∀ (h' : Heap) (tk' e dx ta : Nat), (∀ b o, hp.get? b = some o → h'.get? b = some o) → hp.objs.size ≤ e → e < dx → h'.get? e = some (excObj C ta (some dx) .none) → h'.Ns1 dx (fun y => if y = f then some u else none) → Q (.ref e) ⟨h', g, d, tk', os⟩) :
    wpAny (model P w) A (call (.ref C) [u]) Q Em ⟨hp, g, d, t, os⟩ := by
  refine ex_enter EB EC S Mo kb (by simp) hroom hbind rfl fun A' h₀ h₁ e ta L tk nL lo ne le X₀ F N => ?_
  have nm : ∀ v : Value, (List.lookup ("self" : Str) ([(("self" : Str), Value.ref e), (f, u)] : List (Str × Value)).reverse = some (Value.ref e)) ∧ List.lookup f ([(("self" : Str), Value.ref e), (f, u)] : List (Str × Value)).reverse = some u := fun v => by
    have h1 : (("self" : Str) == f) = false := by
      rw [beq_eq_false_iff_ne] at hsf ⊢; exact Ne.symm hsf
    constructor
    · show List.lookup _ [(f, u), (("self" : Str), Value.ref e)] = _
      simp [List.lookup, h1]
    · show List.lookup _ [(f, u), (("self" : Str), Value.ref e)] = _
      simp [List.lookup]
  have nt : ta ≠ e := by
    intro z
    have a1 := (N (e, excObj C ta none .none) (by simp)).1
    have a2 := (N (ta, excTup [u]) (by simp)).1
    rw [z] at a2
    rw [a1] at a2
    cases a2
  have kb0 : ∀ b o, base.get? b = some o → h₀.get? b = some o := fun b o q => lo b o (kb b o q)
  rw [hbody]
  refine ks_wpAt_execs_cons ?_
  rw [← hbody]
  refine ex_super EB EC S Mo hms htop hpar har hev kb0 X₀ F (nm .none).1 N nt fun h2 tk2 ta2 news2 F2 N2 nn2 => ?_
  refine ks_wpAt_execs_cons ?_
  refine ex_sto1 EB EC S (List.mem_cons_self ..) hfd ht X₀ F2 (nm .none).1 (nm .none).2 N2 nn2 fun h3 tk3 dx hs k F3 N3 l3 l3' => ?_
  refine wpAt_of_wpAny (wpAny_execs_nil ⟨trivial, ?_⟩)
  exact h h3 tk3 e dx ta2 (fun b o q => F3.keep b o (lo b o q)) le l3 (N3 (e, excObj C ta2 (some dx) .none) (by simp)).1 (ns_one (N3 _ (List.mem_cons_self ..)).1)
end
end Mir
/-! Mir, part Y: try with several clauses, named or not. -/
namespace Mir
open PySem PySem.Spec PyProof.Rows L2
/-- an exception at a, of the class cls, with the dict d, stands before the clauses -/
structure Before (X : Cx) (pins : List (Addr × Obj)) (σ : L2.St) (H : Hp) (a : Addr) (cls : Value) (d : Option Addr) (s : Shared) : Prop where
  ex : ∃ (B : Heap) (sI : Shared), Inv X pins σ H sI ∧ (∀ b o, sI.heap.get? b = some o → b ∉ frs X.stack → B.get? b = some o) ∧ sI.heap.UpToSlots s.heap ∧ HandSPX.FlyingZ B (X.env :: X.outer) a (Zc cls d) s.heap ∧ s.os = sI.os ∧ AllBare s.gens
  no : H a = none
section
variable {X : Cx} {pins : List (Addr × Obj)} {σ : L2.St} {H : Hp} {a : Addr} {cls : Value} {d : Option Addr} {s : Shared}
theorem Before.inv (b : Before X pins σ H a cls d s) : Inv X pins σ H s ∧ ∃ oe, s.heap.get? a = some oe ∧ Zc cls d oe ∧ (∃ vs, oe.data = .fields vs) ∧ (X.env.frame = some X.env.locals → a ≠ X.env.locals ∧ a ∉ X.fs) := by
  obtain ⟨B, sI, I, nb, up, fl, os, ag⟩ := b.ex
  obtain ⟨oe, vs, he, hz, hd⟩ := fl.there
  refine ⟨I.landed nb fl.1 up os ag, oe, he, hz, ⟨vs, hd⟩, fun hf => ?_⟩
  have out : a ∉ frs (X.env :: X.outer) := fun hm => by
    obtain ⟨_, o2, e2, no2⟩ := fl.2.2.1.mem hm
    rw [he] at e2
    exact no2 _ (Option.some.inj e2 ▸ hd)
  refine ⟨fun z => out (List.mem_filterMap.mpr ⟨X.env, List.mem_cons_self, by rw [hf, z]⟩), fun hm => ?_⟩
  obtain ⟨e, he2, q⟩ := List.mem_filterMap.mp hm
  exact out (List.mem_filterMap.mpr ⟨e, List.mem_cons_of_mem _ he2, q⟩)
/-- what the clauses do with it, by what is wished of it -/
def Clauses (X : Cx) (hds : List ExceptHandler) (wf : Ends → WX) : Prop := ∀ (pins : List (Addr × Obj)) (σ : L2.St) (H : Hp) (a : Addr) (cls : Value) (d : Option Addr) (s : Shared) (D : Ends),
  Before X pins σ H a cls d s → wf D cls d σ H → wpAny (model X.prog X.w) X.A (handleBy (.ref a) X.env hds) (SP X pins D) X.xe s
theorem cl_nil {Wout : WX} (hs : X.stack = X.env :: X.outer) (hf : X.env.frame = some X.env.locals) (tk : Takes X Wout) : Clauses X [] (fun _ => Wout) := by
  intro pins σ H a cls d s D b w
  obtain ⟨B, sI, I, nb, up, fl, os, ag⟩ := b.ex
  obtain ⟨_, _, _, oe, vs, tr, _, _, he, _, hd, h1, _⟩ := id fl
  refine wpAny_handleBy_nil ?_
  unfold PySem.passOn
  refine wpAny_bind (wpAny_field he hd h1 ?_)
  have some_ : ¬ ((Value.ref tr == Value.none) = true) := by simp
  rw [if_neg some_]
  have off : wpAny (model X.prog X.w) X.A (setFlight (.ref a) X.env.frame) (fun _ s2 => wpAny (model X.prog X.w) X.A (throw (.ref a) : Sem Flow) (SP X pins D) X.xe s2) X.xe s := by
    rw [hf]
    exact HandSPX.setFlight_upZ fl fun h2 he2 up2 => wpAny_throw (tk _ _ ⟨a, B, sI, pins, σ, H, cls, d, rfl, I, nb, up.trans up2, .inr (.inr (by rw [hs]; exact he2)), b.no, os, ag, w⟩)
  first
    | exact wpAny_bind (wpAny_pure (wpAny_bind off))
    | exact wpAny_bind off
/-- the class that a clause names is looked up -/
theorem cl_name {x : Str} {c : Value} {np : Pos} {oe : Obj} {pn : List (Addr × Obj)} {Q : Value → Shared → Prop} {E : Value → Shared → Prop} (hc : Names X x c) (S : Inv (X.suite a ((a, oe) :: pn)) [] σ H s) (q : Q c s) :
    wpAny (model X.prog X.w) (X.A.mark (some (.ref a))) (eval (.Name x np) X.env) Q E s := by
  obtain ⟨hg, hdb, hm | ⟨hm, hv, hn⟩⟩ := hc
  · exact ld_glob (X := X.suite a ((a, oe) :: pn)) S hg hm q hdb
  · exact ld_blt (X := X.suite a ((a, oe) :: pn)) S hg hm hv q hn hdb
theorem Before.again {s2 : Heap} (b : Before X pins σ H a cls d s) {B : Heap} {sI : Shared} (I : Inv X pins σ H sI) (nb : ∀ b o, sI.heap.get? b = some o → b ∉ frs X.stack → B.get? b = some o) (up : sI.heap.UpToSlots s2) (fl : HandSPX.FlyingZ B (X.env :: X.outer) a (Zc cls d) s2) (os : s.os = sI.os) (ag : AllBare s.gens) : Before X pins σ H a cls d { s with heap := s2 } :=
  ⟨⟨B, sI, I, nb, up, fl, os, ag⟩, b.no⟩
theorem ends_of {X : Cx} {pins : List (Addr × Obj)} {D : Ends} {f : Flow} {s : Shared} {oe : Obj} (ok : X.Ok) (h : SP (X.suite a ((a, oe) :: (X.pn ++ pins))) [] D f s) : SP X pins D f s := by
  cases f with
  | next => obtain ⟨σ6, H6, S6, q6⟩ := h; exact ⟨σ6, H6, S6.unsuite ok, q6⟩
  | brk => obtain ⟨σ6, H6, S6, q6⟩ := h; exact ⟨σ6, H6, S6.unsuite ok, q6⟩
  | cont => obtain ⟨σ6, H6, S6, q6⟩ := h; exact ⟨σ6, H6, S6.unsuite ok, q6⟩
  | ret u => obtain ⟨v, σ6, H6, S6, r6, q6⟩ := h; exact ⟨v, σ6, H6, S6.unsuite ok, r6, q6⟩
variable {x n : Str} {c : Value} {i : Nat} {suite : List Stmt} {b₀ : Stmt} {np pos' : Pos} {ts : Addr → Value → Option Addr → TS} {wr : Ends → WX} {hds : List ExceptHandler}
/-- what a clause wishes: the test's answer, then its suite or the others -/
def wClause (K : PySem.W.Frag) (c : Value) (here : Addr → Value → Option Addr → TS) (wr : Ends → WX) (D : Ends) : WX := fun cls d σ H =>
  ∃ b, PySem.W.exmOne K cls c = some b ∧ (b = true → ∀ a, H a = none → here a cls d D σ H) ∧ (b = false → wr D cls d σ H)
/-- the test of a clause -/
theorem cl_test {nm : Option Str} (hf : X.env.frame = some X.env.locals) (hc : Names X x c) {b : Bool} (hb : PySem.W.exmOne X.K cls c = some b) {D : Ends} (B : Before X pins σ H a cls d s)
    (h : if b = true then codeAny (model X.prog X.w) (X.A.mark (some (.ref a))) (.handlers (.ref a) [.ExceptHandler none nm (b₀ :: suite) pos'] X.env) (fun r s2 => match r with
          | .ok f => (match nm with
            | none => SP X pins D f s2
            | some n => wpAny (model X.prog X.w) X.A (do bindName X.env n .none; unbindBehindTheSuite X.env n pos') (fun _ s3 => SP X pins D f s3) X.xe s2)
          | .error e => cameBackBy (model X.prog X.w) X.A X.env X.xe e s2) s
      else wpAny (model X.prog X.w) X.A (handleBy (.ref a) X.env hds) (SP X pins D) X.xe s) :
    wpAny (model X.prog X.w) X.A (handleBy (.ref a) X.env (.ExceptHandler (some (.Name x np)) nm (b₀ :: suite) pos' :: hds)) (SP X pins D) X.xe s := by
  obtain ⟨I, oe, he, hz, ⟨vs, hd⟩, hn⟩ := B.inv
  obtain ⟨nL, nF⟩ := hn hf
  have S := I.suite he hd B.no nL nF
  refine wpAny_handleBy_cons (codeAny_handlers_test (cl_name hc S ?_)) (by intro q; cases q)
  have look : PySem.W.Looks (model X.prog X.w) s.heap (typeOf (.ref a)) cls := fun A Q E s2 k q => wpAny_typeOf_ref (k _ _ he) (by rw [hz.1]; exact q)
  refine (PySem.W.exm_one (M := model X.prog X.w) I.kIn look hb).here ?_
  cases b with
  | true => exact h
  | false => exact h
/-- except x: suite -/
theorem cl_only (hs : X.stack = X.env :: X.outer) (hf : X.env.frame = some X.env.locals) (hc : Names X x c) (hr : Clauses X hds wr)
    (hsu : ∀ (a : Addr) (oe : Obj) (cls : Value) (d : Option Addr) (pn : List (Addr × Obj)), Zc cls d oe → (∃ vs, oe.data = .fields vs) → PSs (X.suite a ((a, oe) :: pn)) (b₀ :: suite) (ts a cls d)) :
    Clauses X (.ExceptHandler (some (.Name x np)) none (b₀ :: suite) pos' :: hds) (wClause X.K c ts wr) := by
  intro pins σ H a cls d s D B ⟨b, hb, yes, no⟩
  refine cl_test hf hc hb B ?_
  cases b with
  | false => simp only [Bool.false_eq_true, if_false]; exact hr pins σ H a cls d s D B (no rfl)
  | true =>
    simp only [if_true]
    obtain ⟨B0, sI, I, nb, up, fl, os, ag⟩ := B.ex
    refine codeAny_handlers_suite (HandSPX.lands_againZ fl fun h4 fl4 up4 => ?_)
    have B4 := B.again I nb (up.trans up4) fl4 os ag
    obtain ⟨I4, oe, he, hz, ⟨vs, hd⟩, hn⟩ := B4.inv
    obtain ⟨nL, nF⟩ := hn hf
    refine wpAny_mono ((hsu a oe cls d (X.pn ++ pins) hz ⟨_, hd⟩).run [] _ σ H D (I4.suite he hd B.no nL nF) (yes rfl a B.no)) (fun f s6 q => ?_) (fun _ _ z => False.elim z)
    exact ends_of I.ok q
/-- slot i is forgotten behind -/
def goneE (i : Nat) (D : Ends) : Ends := { nx := fun σ H => D.nx (σ.set i none) H, rt := D.rt, bk := fun σ H => D.bk (σ.set i none) H, ct := fun σ H => D.ct (σ.set i none) H }
/-- except x as n: suite -/
theorem cl_as (hs : X.stack = X.env :: X.outer) (hf : X.env.frame = some X.env.locals) (hN : X.N.Nodup) (hi : X.N[i]? = some n) (hln : X.env.kindOf n = some .local) (hc : Names X x c) (hr : Clauses X hds wr)
    (hsu : ∀ (a : Addr) (oe : Obj) (cls : Value) (d : Option Addr) (pn : List (Addr × Obj)), Zc cls d oe → (∃ vs, oe.data = .fields vs) → PSs (X.suite a ((a, oe) :: pn)) (b₀ :: suite) (ts a cls d)) :
    Clauses X (.ExceptHandler (some (.Name x np)) (some n) (b₀ :: suite) pos' :: hds) (wClause X.K c (fun a cls d D σ H => ts a cls d (goneE i D) (σ.set i (some (.ref a))) H) wr) := by
  intro pins σ H a cls d s D B ⟨b, hb, yes, no⟩
  refine cl_test hf hc hb B ?_
  cases b with
  | false => simp only [Bool.false_eq_true, if_false]; exact hr pins σ H a cls d s D B (no rfl)
  | true =>
    simp only [if_true]
    obtain ⟨B0, sI, I, nb, up, fl, os, ag⟩ := B.ex
    refine codeAny_handlers_suite_as (HandSPX.lands_againZ fl fun h4 fl4 up4 => ?_)
    have B4 := B.again I nb (up.trans up4) fl4 os ag
    obtain ⟨I4, oe, he, hz, ⟨vs, hd⟩, hn⟩ := B4.inv
    obtain ⟨nL, nF⟩ := hn hf
    refine store_ok (X := X.suite a ((a, oe) :: (X.pn ++ pins))) (v := .ref a) (I4.suite he hd B.no nL nF) hN hi (.inl hln) rfl (fun s5 S5 => ?_) (.inr hln)
    refine wpAny_mono ((hsu a oe cls d (X.pn ++ pins) hz ⟨_, hd⟩).run [] s5 _ H (goneE i D) S5 (yes rfl a B.no)) (fun f s6 q => ?_) (fun _ _ z => False.elim z)
    have gone : ∀ {σ6 : L2.St} {H6 : Hp} {Q : Shared → Prop}, Inv (X.suite a ((a, oe) :: (X.pn ++ pins))) [] σ6 H6 s6 → (∀ s7, Inv X pins (σ6.set i none) H6 s7 → Q s7) →
        wpAny (model X.prog X.w) X.A (do bindName X.env n .none; unbindBehindTheSuite X.env n pos') (fun _ s7 => Q s7) X.xe s6 := fun S6 hq => gone_ok (S6.unsuite I.ok) hN hi hln hq
    cases f with
    | next => obtain ⟨σ6, H6, S6, q6⟩ := q; exact gone S6 fun s7 J => ⟨_, _, J, q6⟩
    | brk => obtain ⟨σ6, H6, S6, q6⟩ := q; exact gone S6 fun s7 J => ⟨_, _, J, q6⟩
    | cont => obtain ⟨σ6, H6, S6, q6⟩ := q; exact gone S6 fun s7 J => ⟨_, _, J, q6⟩
    | ret u => obtain ⟨v, σ6, H6, S6, r6, q6⟩ := q; exact gone S6 fun s7 J => ⟨v, _, _, J, r6, q6⟩
/-- the whole try -/
theorem ps_tryC {body : List Stmt} {h₀ : ExceptHandler} {pos : Pos} {wf : Ends → WX} {tb : WX → TS} (hs : X.stack = X.env :: X.outer) (hf : X.env.frame = some X.env.locals) (hh : Clauses X (h₀ :: hds) wf)
    (hb : ∀ (W : WX) (pn : List (Addr × Obj)) (xe : Value → Shared → Prop), Takes (X.tr pn xe) W → PassesOwn (model X.prog X.w) X.A X.env xe → PSs (X.tr pn xe) body (tb W)) :
    PS X (.Try body (h₀ :: hds) [] [] pos) (fun D σ H => tb (wf D) D σ H) := by
  refine ⟨fun pins s σ H D I h => ?_⟩
  have ok := I.ok
  have fr : X.A.frames = some (X.env :: X.outer) := by rw [ok.frames, hs]
  let xe : Value → Shared → Prop := fun e s₁ => wpAny (model X.prog X.w) X.A (noteFrame e X.env) (fun _ s₂ => wpAny (model X.prog X.w) X.A (setFlight e none) (fun _ s₃ => wpAny (model X.prog X.w) X.A (handleBy e X.env (h₀ :: hds)) (SP X pins D) X.xe s₃) X.xe s₂) X.xe s₁
  have tk : Takes (X.tr (X.pn ++ pins) xe) (wf D) := by
    intro u s' ⟨a, B, sI, pins', σ', H', cls, d, e, J', nb, up, sky, na, os, ag, w⟩
    subst e
    have I2 := J'.ofTry ok
    have sky2 : Sky B (X.env :: X.outer) a (Zc cls d) X.env.locals s'.heap := by rw [← hs]; exact sky
    show wpAny (model X.prog X.w) X.A (noteFrame (.ref a) X.env) _ _ _
    exact Sky.land Zc.steady fr hf sky2 fun h3 fl3 up3 => hh pins σ' H' a cls d { s' with heap := h3 } D ⟨⟨B, sI, I2, nb, up.trans up3, fl3, os, ag⟩, na⟩ w
  refine wpAny_Try_except (wpAny_mono ((hb (wf D) (X.pn ++ pins) xe tk PassesOwn.looking).run [] s σ H D (I.toTry _) h) (fun f s1 q => ?_) (fun _ _ z => z))
  cases f with
  | next => obtain ⟨σ', H', J, q⟩ := q; exact wpAny_execs_nil ⟨σ', H', J.ofTry ok, q⟩
  | brk => obtain ⟨σ', H', J, q⟩ := q; exact ⟨σ', H', J.ofTry ok, q⟩
  | cont => obtain ⟨σ', H', J, q⟩ := q; exact ⟨σ', H', J.ofTry ok, q⟩
  | ret u => obtain ⟨v, σ', H', J, r, q⟩ := q; exact ⟨v, σ', H', J.ofTry ok, r, q⟩
end
end Mir
/-! Mir, part Z: raise, try. -/
namespace Mir
open PySem PySem.Spec PyProof.Rows L2
/-- how the class at C makes its exceptions: n arguments, kept under these names -/
def MakesX (P : Program) (w : World) (K : PySem.W.Frag) (C : Addr) (fs : List Str) : Prop :=
  ∀ (base : Heap) (mg : Str → Option Value) (A : Around) (Em : Value → Shared → Prop) (hp : Heap) (g : Array GenState) (d : Drawn) (t : Nat) (os : OsState) (us : List Value) (Q : Value → Shared → Prop), L2.Mod K mg base → mg "super" = none → us.length = fs.length → A.depth + 2 < recursionLimit →
    (∀ b o, base.get? b = some o → hp.get? b = some o) →
    (∀ (h' : Heap) (tk' e dx ta : Nat), (∀ b o, hp.get? b = some o → h'.get? b = some o) → hp.objs.size ≤ e → e < dx → h'.get? e = some (PySem.W.excObj C ta (some dx) .none) → h'.Ns1 dx (fun y => (fs.zip us).lookup y) → Q (.ref e) ⟨h', g, d, tk', os⟩) →
    wpAny (model P w) A (call (.ref C) us) Q Em ⟨hp, g, d, t, os⟩
theorem zip_relO {y : Str} : ∀ {fs : List Str} {vs : List V} {us : List Value}, Vals vs us → RelO ((fs.zip vs).lookup y) ((fs.zip us).lookup y)
  | [], _, _, _ => True.intro
  | _ :: _, [], _, r => by cases r; exact True.intro
  | f :: fs, v :: vs, _, r => by
    cases r with
    | @cons _ u _ us rv rr =>
      simp only [List.zip_cons_cons]
      by_cases q : y = f
      · subst q; simp [List.lookup]; exact rv
      · have : (y == f) = false := beq_eq_false_iff_ne.mpr q
        simp only [List.lookup, this]
        exact zip_relO rr
/-- X(..), to be raised -/
def tMkX (C : Addr) (fs : List Str) (ta : TA) : L2.St → Hp → XK → Prop := fun σ H Q => ta σ H fun vs H1 => vs.length = fs.length ∧ ∀ dd, H1 dd = none → Q (.ref C) (some dd) (upd H1 dd (.xd (fs.zip vs)))
theorem pmk_x {X : Cx} {x : Str} {C : Addr} {fs : List Str} {e : Expr} {es : List Expr} {ta : TA} {p pos : Pos} (mk : MakesX X.prog X.w X.K C fs) (hsu : X.mg "super" = none) (hA : X.A.depth + 2 < recursionLimit) (ra : Raises X (.ref C)) (kC : PySem.W.keepIn X.K (.ref C) = true) (hg : Gl X x) (hm : X.mg x = some (.ref C)) (ha : PA X (e :: es) ta)
    (hdb : (x == ("__debug__" : Str)) = false := by decide) (he : starEach (e :: es) X.env = (false, eval e X.env) :: starEach es X.env := by rfl) (hpl : (backTo pos (starEach es X.env)).any (·.1) = false := by rfl) :
    PMk X (.Call (.Name x p) (e :: es) [] pos) (tMkX C fs ta) := by
  intro pins s σ H Q I h
  refine wpAny_Call_Name_kw (ld_glob I hg hm ?_ hdb)
  refine PySem.W.callWith_K (h₀ := X.base) I.ok.mod.kin kC (thn (ha.run pos pins s σ H _ I h) fun us s1 ⟨vs, H1, I1, r1, hl, q1⟩ => ⟨I1.kIn, ?_⟩) he hpl
  show wpAny _ _ (call (.ref C) us) _ _ _
  obtain ⟨hp, g, d, tk, os⟩ := s1
  refine mk X.base X.mg X.A _ hp g d tk os us _ I1.ok.mod hsu (by rw [← r1.length]; exact hl) hA I1.bk fun h' tk' e1 dx ta' k le lt hx hn => ?_
  have ne : ∀ {b : Addr} {o : Obj}, hp.get? b = some o → b ≠ e1 := fun q => Nat.ne_of_lt (Nat.lt_of_lt_of_le (Heap.lt_size q) le)
  obtain ⟨G, g1, g2⟩ := restrict h' fun b => decide (b ≠ e1)
  have gk : ∀ b, b ≠ e1 → G.get? b = h'.get? b := fun b hb => g1 b (decide_eq_true hb)
  have ge : G.get? e1 = none := g2 e1 (by simp)
  have dne : dx ≠ e1 := Nat.ne_of_gt lt
  have hdx : hp.objs.size ≤ dx := Nat.le_of_lt (Nat.lt_of_le_of_lt le lt)
  have kG : ∀ b o, hp.get? b = some o → G.get? b = some o := fun b o q => (gk b (ne q)).trans (k b o q)
  have ok : ObjOk X.prog X.w (upd H1 dx (.xd (fs.zip vs))) G dx (.xd (fs.zip vs)) := ⟨_, hn.at fun o q => (gk dx dne).trans q, fun f => zip_relO r1⟩
  have J : Inv X pins σ (upd H1 dx (.xd (fs.zip vs))) ⟨G, g, d, tk', os⟩ := I1.laid (t' := tk') kG hdx ok
  refine ⟨e1, _, _, ⟨G, g, d, tk', os⟩, _, .ref C, some dx, rfl, J, fun b o q => ?_, ge, hx, ⟨rfl, rfl⟩, rfl, rfl, ?_, rfl, I1.bare, ra, q1 dx (I1.hok.fresh hdx)⟩
  · by_cases hb : b = e1
    · rw [hb, ge] at q; cases q
    · exact (gk b hb).symm.trans q
  · rw [upd_ne (Ne.symm dne)]; exact I1.hok.fresh le
/-! ### raise -/
def sRaise (c : Nat) (a : AM) : SM := fun σ s => (a σ s).bind fun vs s1 => .exc (.ins c vs) s1
/-- how a class of the text may be raised -/
structure RaiseS (P : Program) (w : World) (K : PySem.W.Frag) (T : Tb) (c n : Nat) : Prop where
  makes : MakesX P w K (T.ca c) (T.fl c)
  len : (T.fl c).length = n
  exC : PySem.W.subIn K (.ref (T.ca c)) (.type "BaseException") = some true
  tyC : PySem.W.typeIn K (.ref (T.ca c)) = some (.type "type")
  kC : PySem.W.keepIn K (.ref (T.ca c)) = true
section
variable {X : Cx} {T : Tb} {W : WX} {x : Str} {c n : Nat} {e : Expr} {es : List Expr} {ma : AM} {p pos pos' : Pos}
theorem ms_raise (rs : RaiseS X.prog X.w X.K T c n) (hsu : X.mg "super" = none) {k : Nat} (hr : Room k X.A) (hc : X.calm = true) (tk : Takes X W) (hg : Gl X x) (hm : X.mg x = some (.ref (T.ca c))) (ha : PA X (e :: es) (tL X.K T W ma)) (hl : LenA ma n)
    (hdb : (x == ("__debug__" : Str)) = false := by decide) (he : starEach (e :: es) X.env = (false, eval e X.env) :: starEach es X.env := by rfl) (hpl : (backTo pos' (starEach es X.env)).any (·.1) = false := by rfl) :
    PS X (.Raise (some (.Call (.Name x p) (e :: es) [] pos')) none pos) (tS X.K T W (sRaise c ma)) := by
  have hA : X.A.depth + 2 < recursionLimit := by have := hr.dp; omega
  refine PS.weak (ps_raise hc tk (pmk_x (fs := T.fl c) rs.makes hsu hA (raises_own rs.exC rs.tyC) rs.kC hg hm ha hdb he hpl)) fun D σ H ⟨P, F, io, en, s, hE, hS, hp⟩ => ?_
  refine ⟨P, F, io, en, s, hE, hS, ?_⟩
  unfold sRaise at hp
  cases hm' : ma en s with
  | ok xs s1 =>
    rw [hm'] at hp
    intro F1 io1 vs H1 l1 r1 hS1
    have hn := hl _ _ _ _ hm'
    refine ⟨by rw [← r1.length, hn, rs.len], fun dd hd => ?_⟩
    obtain ⟨l2, hS2⟩ := hS1.grow (o := .xd ((T.fl c).zip vs)) hd
    have e1 : (T.fl c).length = vs.length := by rw [← r1.length, hn, rs.len]
    have z1 : ((T.fl c).zip vs).map (·.1) = T.fl c := List.map_fst_zip (Nat.le_of_eq e1)
    have z2 : ((T.fl c).zip vs).map (·.2) = vs := List.map_snd_zip (Nat.le_of_eq e1.symm)
    refine hp _ io1 _ _ σ _ (l1.trans l2) ⟨c, xs, rfl, rfl, fun _ => ⟨dd, _, rfl, upd_same, ?_, by rw [z2]; exact r1.mono l2⟩⟩ hS2
    rw [z1, r1.length, ← e1, List.take_length]
  | exc y s1 => rw [hm'] at hp; exact fun F' io' cls d H' l hr hs => hp F' io' cls d σ H' l hr hs
  | stuck => rw [hm'] at hp; exact hp
end
end Mir
/-! Mir, part W: try with clauses; a held exception's attributes. -/
namespace Mir
open PySem PySem.Spec PyProof.Rows L2
/-! ### the relations do not look at what else is known -/
section
variable {K : PySem.W.Frag} {T T' : Tb} {F : Hp} {io : List Addr}
structure Same (T T' : Tb) : Prop where
  ca : T'.ca = T.ca
  fa : T'.fa = T.fa
  fl : T'.fl = T.fl
theorem Same.symm (h : Same T T') : Same T' T := ⟨h.ca.symm, h.fa.symm, h.fl.symm⟩
mutual
theorem R.conv (h : Same T T') : ∀ (x : PV) (v : V), R K T F io x v → R K T' F io x v
  | .non, _, r => by cases r; exact .non
  | .bl _, _, r => by cases r; exact .bl _
  | .int _, _, r => by cases r; exact .int _
  | .str _, _, r => by cases r; exact .str _
  | .fn i, _, r => by cases r; rw [← h.fa]; exact .fn i
  | .cls c, _, r => by cases r; rw [← h.ca]; exact .cls c
  | .ty _, _, r => by cases r; exact .ty _
  | .loc _, _, r => by cases r with | loc e => exact .loc e
  | .tup xs, _, r => by cases r with | tup e q => exact .tup e (Rs.conv h xs _ q)
  | .lst xs, _, r => by cases r with | lst e q => exact .lst e (Rs.conv h xs _ q)
  | .ro xs, _, r => by cases r with | ro e q => exact .ro e (Rs.conv h xs _ q)
  | .dic ks vs, _, r => by cases r with | dic e q1 q2 => exact .dic e (Rs.conv h ks _ q1) (Rs.conv h vs _ q2)
  | .ins c vs, _, r => by cases r with | ins e e2 q => exact .ins (by rw [h.ca]; exact e) (by rw [h.fl]; exact e2) (Rs.conv h vs _ q)
theorem Rs.conv (h : Same T T') : ∀ (xs : List PV) (vs : List V), Rs K T F io xs vs → Rs K T' F io xs vs
  | [], _, r => by cases r; exact .nil
  | x :: xs, _, r => by cases r with | cons a b => exact .cons (R.conv h x _ a) (Rs.conv h xs _ b)
end
theorem RO.conv (h : Same T T') {c : PV} {o : HO} (r : RO K T F io c o) : RO K T' F io c o := by
  cases r with
  | lst q => exact .lst (Rs.conv h _ _ q)
  | dic q1 q2 => exact .dic (Rs.conv h _ _ q1) (Rs.conv h _ _ q2)
  | @ins dx c vs fv e q =>
    have := RO.ins (K := K) (T := T') (F := F) (io := io) (dx := dx) (by rw [h.fl]; exact e) (Rs.conv h _ _ q)
    rw [h.ca] at this
    exact this
theorem RS.conv (h : Same T T') {P : Hp} {s : Store} {H : Hp} (r : RS K T P F io s H) : RS K T' P F io s H :=
  ⟨r.len, r.nd, r.sub, r.dis, fun n c e => let ⟨a, o, e1, e2, e3⟩ := r.cell n c e; ⟨a, o, e1, e2, e3.conv h⟩, r.kept⟩
theorem RE.conv (h : Same T T') {e : Env} {σ : L2.St} (r : RE K T F io e σ) (g : T'.gh F io σ) : RE K T' F io e σ :=
  ⟨r.len, fun i x q => let ⟨v, e1, e2⟩ := r.at_ i x q; ⟨v, e1, R.conv h _ _ e2⟩, g⟩
/-- a slot may be given anything, if it is forgotten -/
theorem RE.unset {e : Env} {σ : L2.St} (r : RE K T F io e σ) (i : Nat) (u : Option V) (g : T'.gh F io (σ.set i u)) (h : Same T T') : RE K T' F io (e.set i none) (σ.set i u) := by
  refine ⟨by simp [r.len], fun j x q => ?_, g⟩
  by_cases hj : j = i
  · subst hj
    have hl : j < e.length := by simpa using (List.getElem?_eq_some_iff.mp q).1
    rw [List.getElem?_set_self hl] at q
    cases q
  · rw [List.getElem?_set_ne (Ne.symm hj)] at q ⊢
    obtain ⟨v, e1, e2⟩ := r.at_ j x q
    exact ⟨v, e1, R.conv h _ _ e2⟩
end
/-- a fact found by its instance -/
class Fact' (p : Prop) : Prop where
  out : p
/-- an exception's dict holds its fields -/
def xFld (K : PySem.W.Frag) (T : Tb) (F : Hp) (io : List Addr) (d : Option Addr) (c : Nat) (vs : List PV) : Prop :=
  vs ≠ [] → ∃ dd fv, d = some dd ∧ F dd = some (.xd fv) ∧ fv.map (·.1) = (T.fl c).take vs.length ∧ Rs K T F io vs (fv.map (·.2))
theorem xFld.mono {K : PySem.W.Frag} {T : Tb} {F F' : Hp} {io io' : List Addr} {d : Option Addr} {c : Nat} {vs : List PV} (l : Le F io F' io') (h : xFld K T F io d c vs) : xFld K T F' io' d c vs := fun hn => by
  obtain ⟨dd, fv, q1, q2, q3, q4⟩ := h hn
  exact ⟨dd, fv, q1, l.fm _ _ q2, q3, q4.mono l⟩
/-- what is known within a clause: the name holds the exception, its dict holds the fields -/
def excT (K : PySem.W.Frag) (T : Tb) (i : Nat) (a : Addr) (d : Option Addr) (c : Nat) (vs : List PV) : Tb := { T with
  gh := fun F io σ => σ[i]? = some (some (.ref a)) ∧ xFld K T F io d c vs
  ghm := fun F io F' io' σ l h => ⟨h.1, h.2.mono l⟩ }
instance excT_set {K : PySem.W.Frag} {T : Tb} {i j : Nat} {a : Addr} {d : Option Addr} {c : Nat} {vs : List PV} [h : Fact' (j ≠ i)] : GhSet (excT K T i a d c vs) j := ⟨fun F io σ v g => ⟨by rw [List.getElem?_set_ne h.out]; exact g.1, g.2⟩⟩
theorem excT_same {K : PySem.W.Frag} {T : Tb} {i : Nat} {a : Addr} {d : Option Addr} {c : Nat} {vs : List PV} : Same T (excT K T i a d c vs) := ⟨rfl, rfl, rfl⟩
/-! ### try -/
/-- a clause: which classes it takes; the slot of its name; its suite, by the exception's class and fields -/
structure Hd where
  tab : List (Nat × Bool)
  slot : Option Nat
  suite : Nat → List PV → SM
def offSlot (o : Option Nat) (σ : Env) : Env := match o with
  | some i => σ.set i none
  | none => σ
def slotIn (o : Option Nat) (σ : Env) : Bool := match o with
  | some i => decide (i < σ.length)
  | none => true
def tryHs : List Hd → Nat → List PV → Env → Store → Res (Env × Fl)
  | [], c, vs, _, s => .exc (.ins c vs) s
  | h :: r, c, vs, σ, s => match h.tab.lookup c with
    | some true => if slotIn h.slot σ = true then (noX (h.suite c vs (offSlot h.slot σ) s)).bind fun q s1 => .ok (offSlot h.slot q.1, q.2) s1 else .stuck
    | some false => tryHs r c vs σ s
    | none => .stuck
def sTry (b : SM) (hs : List Hd) : SM := fun σ s => match b σ s with
  | .ok r s1 => .ok r s1
  | .exc (.ins c vs) s1 => tryHs hs c vs σ s1
  | _ => .stuck
/-- a try's body: the slots are as they were when the exception was raised -/
def PostX (K : PySem.W.Frag) (T : Tb) (P : Hp) (W : WX) (F : Hp) (io : List Addr) (σ : L2.St) (r : Res (Env × Fl)) (D : Ends) : Prop := match r with
  | .exc e s => ∀ F' io' cls d H', Le F io F' io' → RX K T F' io' e cls d → RS K T P F' io' s H' → W cls d σ H'
  | r => PostS K T P W F io r D
def tX (K : PySem.W.Frag) (T : Tb) (W : WX) (m : SM) : TS := fun D σ H => ∃ P F io e s, RE K T F io e σ ∧ RS K T P F io s H ∧ PostX K T P W F io σ (m e s) D
theorem PSs.any {X : Cx} {st : List Stmt} {ι : Type} {t : ι → TS} (h : ∀ i, PSs X st (t i)) : PSs X st (fun D σ H => ∃ i, t i D σ H) := ⟨fun pins s σ H D I ⟨i, q⟩ => (h i).run pins s σ H D I q⟩
theorem PSs.when {X : Cx} {st : List Stmt} {p : Prop} {t : TS} (h : p → PSs X st t) : PSs X st (fun D σ H => p ∧ t D σ H) := ⟨fun pins s σ H D I ⟨a, q⟩ => (h a).run pins s σ H D I q⟩
section
variable {X : Cx} {T : Tb} {W : WX} {e : Expr} {me : EM} {mb : SM} {pos : Pos}
theorem PostX.use {K : PySem.W.Frag} {k : PV → Store → Res (Env × Fl)} {D : Ends} {P F : Hp} {io : List Addr} {en : Env} {s : Store} {σ : L2.St} {H : Hp} (hE : RE K T F io en σ) (hS : RS K T P F io s H) (h : PostX K T P W F io σ ((me en s).bind k) D) (hk : ∀ x s, ∃ r : (Env × Fl) × Store, k x s = .ok r.1 r.2 ∨ k x s = .stuck) {Q' : VK}
    (hq : ∀ v H1 F1 io1 x s1, RE K T F1 io1 en σ → R K T F1 io1 x v → RS K T P F1 io1 s1 H1 → Le F io F1 io1 → PostS K T P W F1 io1 (k x s1) D → Q' v H1) : tE K T W me σ H Q' := by
  refine ⟨P, F, io, en, s, hE, hS, ?_⟩
  cases hm : me en s with
  | ok x s1 =>
    rw [hm] at h
    intro F1 io1 v H1 l rx hS1
    refine hq v H1 F1 io1 x s1 (hE.mono l) rx hS1 l ?_
    have h' : PostX K T P W F io σ (k x s1) D := h
    obtain ⟨r, hr | hr⟩ := hk x s1
    · rw [hr] at h' ⊢; exact PostS.le l h'
    · rw [hr] at h'; exact h'.elim
  | exc y s1 => rw [hm] at h; exact h
  | stuck => rw [hm] at h; exact h
theorem mx_expr (he : PE X e (tE X.K T W me)) (hsw : swapsWith e none pos.line X.env = pure false := by rfl) : PSs X [.Expr e pos] (tX X.K T W (sExp me)) := by
  refine pss_one (PS.weak (ps_expr he hsw) fun D σ H ⟨P, F, io, en, s, hE, hS, hp⟩ => ?_)
  exact PostX.use hE hS hp (fun _ _ => ⟨(_, _), .inl rfl⟩) fun v H1 F1 io1 x s1 hE1 rx hS1 l1 hp1 => hp1 F1 io1 σ H1 Le.refl hE1 hS1
theorem mx_ret (he : PE X e (tE X.K T W me)) : PSs X [.Return (some e) pos] (tX X.K T W (sRet me)) := by
  refine pss_one (PS.weak (ps_ret he) fun D σ H ⟨P, F, io, en, s, hE, hS, hp⟩ => ?_)
  exact PostX.use hE hS hp (fun _ _ => ⟨(_, _), .inl rfl⟩) fun v H1 F1 io1 x s1 hE1 rx hS1 l1 hp1 => hp1 F1 io1 v H1 Le.refl rx hS1
end
/-- what the clauses are, and what they do -/
structure ClS (X : Cx) (T : Tb) (W : WX) (hds : List ExceptHandler) (hs : List Hd) : Prop where
  ex : ∃ wf, Clauses X hds wf ∧ ∀ (D : Ends) (cls : Value) (d : Option Addr) (σ : L2.St) (H : Hp) (P F : Hp) (io : List Addr) (en : Env) (s : Store) (c : Nat) (vs : List PV),
    RE X.K T F io en σ → RS X.K T P F io s H → RX X.K T F io (.ins c vs) cls d → PostX X.K T P W F io σ (tryHs hs c vs en s) D → wf D cls d σ H
section
variable {X : Cx} {T : Tb} {W : WX}
theorem cls_nil (hs : X.stack = X.env :: X.outer) (hf : X.env.frame = some X.env.locals) (tk : Takes X W) : ClS X T W [] [] :=
  ⟨_, cl_nil hs hf tk, fun D cls d σ H P F io en s c vs hE hS hx hp => hp F io cls d H Le.refl hx hS⟩
variable {x n : Str} {cv : Value} {i : Nat} {suite : List Stmt} {b₀ : Stmt} {np pos' : Pos} {hds : List ExceptHandler} {r : List Hd} {tab : List (Nat × Bool)} {m : Nat → List PV → SM}
theorem PostS.out {K : PySem.W.Frag} {T T' : Tb} {P F : Hp} {io : List Addr} {i : Nat} {D : Ends} {W W' : WX} {q : Res (Env × Fl)} (h : Same T T') [NoGh T] {σ0 : L2.St} (hp : PostX K T P W F io σ0 ((noX q).bind fun q s1 => .ok (offSlot (some i) q.1, q.2) s1) D) : PostS K T' P W' F io q (goneE i D) := by
  have hz : Same T' T := h.symm
  have off : ∀ {F' : Hp} {io' : List Addr} {e : Env} {σ : L2.St}, RE K T' F' io' e σ → RE K T F' io' (e.set i none) (σ.set i none) := fun r => by
    refine ⟨by simp [r.len], fun j x q => ?_, NoGh.free _ _ _⟩
    by_cases hj : j = i
    · subst hj
      have hl := (List.getElem?_eq_some_iff.mp q).1
      rw [List.getElem?_set_self (by simpa using hl)] at q
      cases q
    · rw [List.getElem?_set_ne (Ne.symm hj)] at q ⊢
      obtain ⟨v, e1, e2⟩ := r.at_ j x q
      exact ⟨v, e1, R.conv hz _ _ e2⟩
  cases q with
  | ok z s =>
    obtain ⟨e, f⟩ := z
    cases f with
    | next => exact fun F' io' σ H' l hE hS => hp F' io' _ H' l (off hE) (hS.conv hz)
    | brk => exact fun F' io' σ H' l hE hS => hp F' io' _ H' l (off hE) (hS.conv hz)
    | cont => exact fun F' io' σ H' l hE hS => hp F' io' _ H' l (off hE) (hS.conv hz)
    | ret x => exact fun F' io' v H' l hr hS => hp F' io' v H' l (R.conv hz _ _ hr) (hS.conv hz)
  | exc e s => exact hp.elim
  | stuck => exact hp.elim
theorem cls_as [NoGh T] (hs : X.stack = X.env :: X.outer) (hf : X.env.frame = some X.env.locals) (hN : X.N.Nodup) (hi : X.N[i]? = some n) (hln : X.env.kindOf n = some .local) (hc : Names X x cv)
    (ht : ∀ q ∈ tab, PySem.W.exmOne X.K (.ref (T.ca q.1)) cv = some q.2)
    (hsu : ∀ (a : Addr) (oe : Obj) (d : Option Addr) (pn : List (Addr × Obj)) (c : Nat) (vs : List PV), tab.lookup c = some true → Zc (.ref (T.ca c)) d oe → (∃ vs, oe.data = .fields vs) → PSs (X.suite a ((a, oe) :: pn)) (b₀ :: suite) (tS X.K (excT X.K T i a d c vs) (fun _ _ _ _ => False) (m c vs)))
    (hr : ClS X T W hds r) : ClS X T W (.ExceptHandler (some (.Name x np)) (some n) (b₀ :: suite) pos' :: hds) (⟨tab, some i, m⟩ :: r) := by
  obtain ⟨wf, h1, h2⟩ := hr.ex
  refine ⟨_, cl_as (i := i) (ts := fun a cls d D σ H => ∃ q : Nat × List PV, (cls = .ref (T.ca q.1) ∧ tab.lookup q.1 = some true) ∧ tS X.K (excT X.K T i a d q.1 q.2) (fun _ _ _ _ => False) (m q.1 q.2) D σ H) hs hf hN hi hln hc h1 (fun a oe cls d pn hz hd => ?_), fun D cls d σ H P F io en s c vs hE hS hx hp => ?_⟩
  · exact PSs.any fun q => PSs.when fun hq => hsu a oe d pn q.1 q.2 hq.2 (by rw [← hq.1]; exact hz) hd
  · obtain ⟨c', vs', e1, ecls, hfl⟩ := hx
    cases e1
    unfold tryHs at hp
    simp only at hp
    cases hl : tab.lookup c with
    | none => rw [hl] at hp; exact hp.elim
    | some b =>
      rw [hl] at hp
      refine ⟨b, by rw [ecls]; exact ht _ (lookup_mem hl), fun hb a ha => ?_, fun hb => ?_⟩
      · subst hb
        simp only at hp
        split at hp
        · rename_i hin
          have hlen : i < σ.length := by rw [← hE.len]; exact of_decide_eq_true hin
          refine ⟨(c, vs), ⟨ecls, hl⟩, P, F, io, en.set i none, s, ?_, hS.conv excT_same, PostS.out excT_same hp⟩
          refine hE.unset i _ ⟨?_, hfl⟩ excT_same
          rw [List.getElem?_set_self hlen]
        · exact hp.elim
      · subst hb
        exact h2 D cls d σ H P F io en s c vs hE hS ⟨c, vs, rfl, ecls, hfl⟩ hp
theorem cls_only (hs : X.stack = X.env :: X.outer) (hf : X.env.frame = some X.env.locals) (hc : Names X x cv)
    (ht : ∀ q ∈ tab, PySem.W.exmOne X.K (.ref (T.ca q.1)) cv = some q.2) {m : SM}
    (hsu : ∀ (a : Addr) (oe : Obj) (pn : List (Addr × Obj)), (∃ vs, oe.data = .fields vs) → PSs (X.suite a ((a, oe) :: pn)) (b₀ :: suite) (tS X.K T (fun _ _ _ _ => False) m))
    (hr : ClS X T W hds r) : ClS X T W (.ExceptHandler (some (.Name x np)) none (b₀ :: suite) pos' :: hds) (⟨tab, none, fun _ _ => m⟩ :: r) := by
  obtain ⟨wf, h1, h2⟩ := hr.ex
  refine ⟨_, cl_only (ts := fun a cls d D σ H => tS X.K T (fun _ _ _ _ => False) m D σ H) hs hf hc h1 (fun a oe cls d pn hz hd => hsu a oe pn hd), fun D cls d σ H P F io en s c vs hE hS hx hp => ?_⟩
  obtain ⟨c', vs', e1, ecls, hfl⟩ := hx
  cases e1
  unfold tryHs at hp
  simp only at hp
  cases hl : tab.lookup c with
  | none => rw [hl] at hp; exact hp.elim
  | some b =>
    rw [hl] at hp
    refine ⟨b, by rw [ecls]; exact ht _ (lookup_mem hl), fun hb a ha => ?_, fun hb => ?_⟩
    · subst hb
      simp only [slotIn, if_true, offSlot] at hp
      refine ⟨P, F, io, en, s, hE, hS, ?_⟩
      cases hm : m en s with
      | ok z s1 =>
        obtain ⟨e, f⟩ := z
        rw [hm] at hp
        cases f with
        | next => exact hp
        | brk => exact hp
        | cont => exact hp
        | ret x => exact hp
      | exc e s1 => rw [hm] at hp; exact hp.elim
      | stuck => rw [hm] at hp; exact hp.elim
    · subst hb
      exact h2 D cls d σ H P F io en s c vs hE hS ⟨c, vs, rfl, ecls, hfl⟩ hp
theorem ms_try {body : List Stmt} {h₀ : ExceptHandler} {pos : Pos} {mb : SM} {hs' : List Hd} (hs : X.stack = X.env :: X.outer) (hf : X.env.frame = some X.env.locals)
    (hb : ∀ (W' : WX) (pn : List (Addr × Obj)) (xe : Value → Shared → Prop), Takes (X.tr pn xe) W' → PSs (X.tr pn xe) body (tX X.K T W' mb)) (hh : ClS X T W (h₀ :: hds) hs') :
    PS X (.Try body (h₀ :: hds) [] [] pos) (tS X.K T W (sTry mb hs')) := by
  obtain ⟨wf, h1, h2⟩ := hh.ex
  refine PS.weak (ps_tryC hs hf h1 (tb := fun W' => tX X.K T W' mb) fun W' pn xe tk _ => hb W' pn xe tk) fun D σ H ⟨P, F, io, en, s, hE, hS, hp⟩ => ?_
  refine ⟨P, F, io, en, s, hE, hS, ?_⟩
  unfold sTry at hp
  cases hm : mb en s with
  | ok r s1 =>
    rw [hm] at hp
    obtain ⟨e, f⟩ := r
    cases f with
    | next => exact hp
    | brk => exact hp
    | cont => exact hp
    | ret x => exact hp
  | stuck => rw [hm] at hp; exact hp.elim
  | exc e s1 =>
    rw [hm] at hp
    intro F1 io1 cls d H1 l hx hS1
    cases e with
    | ins c vs =>
      simp only at hp
      refine h2 D cls d σ H1 P F1 io1 en s1 c vs (hE.mono l) hS1 hx ?_
      have hp2 := PostS.le l hp
      cases hq : tryHs hs' c vs en s1 with
      | ok z s2 => rw [hq] at hp2; exact hp2
      | exc y s2 => rw [hq] at hp2; exact fun F' io' cls d H' l hr hs => hp2 F' io' cls d σ H' l hr hs
      | stuck => rw [hq] at hp2; exact hp2.elim
    | _ => exact hp.elim
end
/-! ### the attributes of a held exception -/
def eXf (j : Nat) (vs : List PV) : EM := fun _ s => ofO vs[j]? s
section
variable {X : Cx} {T : Tb} {W : WX} {i j c : Nat} {a : Addr} {oe : Obj} {d : Option Addr} {vs : List PV} {pn : List (Addr × Obj)} {x n : Str} {p pos : Pos}
theorem me_xf (C : XfC X.K (T.ca c)) (hno : PySem.W.findIn X.K (.ref (T.ca c)) n = some none) (hat : (T.fl c)[j]? = some n) (hnd : (T.fl c).Nodup) (hz : Zc (.ref (T.ca c)) d oe) (hf : ∃ vs, oe.data = .fields vs)
    (hx : PE (X.suite a ((a, oe) :: pn)) (.Name x p) (tVar i)) (hb : attributeBase (.Name x p) n X.env (eval (.Name x p) X.env) = eval (.Name x p) X.env := by rfl) :
    PE (X.suite a ((a, oe) :: pn)) (.Attribute (.Name x p) n pos) (tE X.K (excT X.K T i a d c vs) W (eXf j vs)) := by
  refine PE.weak (pe_xf C hno hz hf hx hb) fun σ H Q ⟨P, F, io, en, s, hE, hS, hp⟩ => ?_
  obtain ⟨h1, h2⟩ := hE.gh
  unfold eXf at hp
  cases hv : vs[j]? with
  | none => rw [hv] at hp; exact hp.elim
  | some y =>
    rw [hv] at hp
    have hj := (List.getElem?_eq_some_iff.mp hv).1
    obtain ⟨dd, fv, q1, q2, q3, q4⟩ := h2 (by intro z; subst z; simp at hj)
    obtain ⟨u, hu, ru⟩ := q4.get hv
    refine ⟨.ref a, h1, rfl, rfl, dd, fv, u, q1, hS.sub _ _ q2, lookup_at ?_ ?_ hu, hp.ok_of Le.refl (R.conv excT_same _ _ ru) hS⟩
    · rw [q3]; exact hnd.sublist (List.take_sublist _ _)
    · rw [q3]; exact fld_take hat hj
end
end Mir
/-! Mir, part V: what the head tells of exception classes. -/
namespace Mir
open PySem PySem.Spec PyProof.Rows L2
/-- an exception class of the text: over ValueError (or TypeError), its fields, its __init__ -/
structure XcD where
  cls : Str
  ve : Bool
  fs : List Str
  d : ExDef
def veT : List Value := [.type "ValueError", .type "Exception", .type "BaseException", .type "object"]
def teT : List Value := [.type "TypeError", .type "Exception", .type "BaseException", .type "object"]
/-- a def with its closure's names -/
def fnC (K : PySem.W.Frag) (p : Str × Option Str) : He.FnW := match K.lookup (He.fAd K p) with
  | some ⟨_, _, .func fd, _⟩ => some (fd.name, fd.qualname, fd.params, fd.body, fd.scope, fd.globals, fd.closure.map fun q => (q.1, 0), fd.builtins)
  | _ => none
def XcD.val (x : XcD) : He.FnW := some (x.d.name, x.d.qual, x.d.params, .stmts x.d.body, x.d.scope, mainGlobals, [("__class__", 0)], builtinsNs)
/-- looks at the class -/
def xcB1 (K : PySem.W.Frag) (C : Addr) (B newId initId : String) (bm : List Value) : Bool := PySem.W.excInitIn K C bm newId && (PySem.W.excOver K C bm && (decide (PySem.W.findIn K (.ref C) "__setattr__" = some (some (.builtin "object.__setattr__"))) && (PySem.W.hasDictIn K C &&
  (decide (PySem.W.subIn K (.ref C) (.type B) = some true) && (decide (PySem.W.mroIn K C (.ref C) = some true) && (decide (PySem.W.findIn K (.ref C) "__init__" = some (some (.ref (He.ma K C "__init__")))) && (PySem.W.isFn K (.ref (He.ma K C "__init__")) &&
  (decide (PySem.W.ks_superIn K C C "__init__" = some (some (.builtin initId))) && (decide (PySem.W.nsIn K cStatics "thirdparty.any" = some none) && (decide (PySem.W.subIn K (.ref C) (.type "BaseException") = some true) && (decide (PySem.W.typeIn K (.ref C) = some (.type "type")) && PySem.W.keepIn K (.ref C))))))))))))
/-- looks at its __init__ -/
def xcB2 (K : PySem.W.Frag) (C : Addr) (file0 q : Str) : Bool := match K.lookup (He.ma K C "__init__") with
  | some ⟨_, _, .func fd, _⟩ => decide (fd.defaults = .none) && (PySem.W.codeIn K fd.code q && ((match fd.code with
    | .ref cda => (match K.lookup cda with
      | some ⟨_, _, .fields vs, _⟩ => (match (vs[2]? : Option Value) with
        | some (.str file _) => file0 == file
        | _ => false)
      | _ => false)
    | _ => false) && (match fd.closure with
    | [(_, cc)] => (match K.lookup cc with
      | some ⟨_, _, .cell (some (.ref D)), _⟩ => decide (D = C)
      | _ => false)
    | _ => false)))
  | _ => false
def xcB (file0 : Str) (x : XcD) (K : PySem.W.Frag) : Bool := (if x.ve = true then xcB1 K (He.ga K x.cls) "ValueError" "ValueError.__new__" "ValueError.__init__" veT else xcB1 K (He.ga K x.cls) "TypeError" "TypeError.__new__" "TypeError.__init__" teT) &&
  (xcB2 K (He.ga K x.cls) file0 x.d.qual && x.fs.all fun f => decide (PySem.W.takerIn K (He.ga K x.cls) f = some none))
theorem xc1_ok {K : PySem.W.Frag} {x : XcD} {B newId initId : String} {bm : List Value} {file0 : Str} (h1 : xcB1 K (He.ga K x.cls) B newId initId bm = true) (h2 : xcB2 K (He.ga K x.cls) file0 x.d.qual = true) (e : fnC K (x.cls, some "__init__") = x.val) :
    (∃ cda cc kV cdv, ExCls K (He.ga K x.cls) B newId initId bm file0 x.d (He.ma K (He.ga K x.cls) "__init__") cda cc kV cdv) ∧ PySem.W.subIn K (.ref (He.ga K x.cls)) (.type "BaseException") = some true ∧ PySem.W.typeIn K (.ref (He.ga K x.cls)) = some (.type "type") ∧ PySem.W.keepIn K (.ref (He.ga K x.cls)) = true := by
  unfold xcB1 at h1
  simp only [Bool.and_eq_true, decide_eq_true_eq] at h1
  obtain ⟨a1, a2, a3, a4, a5, a6, a7, a8, a9, a10, a11, a12, a13⟩ := h1
  refine ⟨?_, a11, a12, a13⟩
  unfold xcB2 at h2
  unfold fnC XcD.val at e
  rw [show He.fAd K (x.cls, some "__init__") = He.ma K (He.ga K x.cls) "__init__" from rfl] at e
  obtain ⟨xc, xv, xf, D⟩ := x
  simp only at *
  cases q : K.lookup (He.ma K (He.ga K xc) "__init__") with
  | none => rw [q] at h2; cases h2
  | some o =>
    obtain ⟨oc, od, dt, osl⟩ := o
    rw [q] at h2 e
    cases dt with
    | func fd =>
      obtain ⟨n1, n2, n3, n4, n5, n6, n7, n8, n9, n10, n11, n12, n13, n14, n15⟩ := fd
      simp only [Option.some.injEq, Prod.mk.injEq] at e
      obtain ⟨z1, z2, z3, z4, z5, z6, z7, z8⟩ := e
      subst z1 z2 z3 z4 z5 z6 z8
      simp only [Bool.and_eq_true, decide_eq_true_eq] at h2
      obtain ⟨d1, b1, b2, b3⟩ := h2
      subst d1
      split at b2
      · rename_i cda
        split at b2
        · rename_i ccl cdd vs ccs hcode
          split at b2
          · rename_i file tf hvs
            split at b3
            · rename_i nm cc
              simp only [List.map_cons, List.map_nil, List.cons.injEq, Prod.mk.injEq, and_true] at z7
              subst z7
              split at b3
              · rename_i cl cld D' csl hcell
                have hD := of_decide_eq_true b3
                subst hD
                exact ⟨cda, cc, n9, .ref cda, a1, a2, a3, a4, a5, a6, a7, a8, ⟨oc, od, n10, n11, n12, n14, osl, q⟩, b1, rfl, ⟨ccl, cdd, vs, ccs, file, tf, hcode, hvs, b2⟩, ⟨cl, cld, csl, hcell⟩, a9, a10⟩
              · cases b3
            · cases b3
          · cases b2
        · cases b2
      · cases b2
    | _ => cases h2
/-! ### the Hook -/
def asX (g : Addr → Option Obj) (n : Nat) : List Addr := He.asD g n ++ (cStatics :: (He.asD g n).flatMap fun a => match g a with
  | some o => (match o.data with
    | .func fd => fd.closure.map (·.2)
    | _ => [])
  | none => [])
abbrev AlN : Type := AlM × List He.FnW
def obsN (fa : List He.Fa) (fn : List He.DefD) (xs : List XcD) (ex : Ex) (K : PySem.W.Frag) : AlN := (obsM fa fn ex K, xs.map fun x => fnC K (x.cls, some "__init__"))
def obsNG (n : Nat) (fa : List He.Fa) (fn : List He.DefD) (xs : List XcD) (ex : Ex) (g : Addr → Option Obj) : AlN := obsN fa fn xs ex (He.frG g (asX g n))
def valN (fn : List He.DefD) (xs : List XcD) : AlN := ((He.valD fn, true), xs.map XcD.val)
def hookN (n : Nat) (fa : List He.Fa) (fn : List He.DefD) (xs : List XcD) (ex : Ex) : PySem.W.Hook where
  α := AlN
  obs := fun s => obsNG n fa fn xs ex s.heap.get?
  val := fun _ => valN fn xs
  says := fun _ h => ∃ K : PySem.W.Frag, K.In h ∧ obsN fa fn xs ex K = valN fn xs
  of := fun _ _ e => ⟨_, He.frG_in, e⟩
  keeps := fun _ _ _ ⟨K, hK, c⟩ k => ⟨K, PySem.W.Frag.In.keeps hK k, c⟩
theorem obsNG_eq {n : Nat} {fa : List He.Fa} {fn : List He.DefD} {xs : List XcD} {ex : Ex} {g : Addr → Option Obj} {s : Shared} (h : ∀ a, g a = s.heap.get? a) : obsNG n fa fn xs ex g = (hookN n fa fn xs ex).obs s := by
  have e : g = s.heap.get? := funext h
  rw [e] <;> rfl
/-- what is told of the written part, and of the program's own file -/
structure SaysN (P : Program) (file0 : Str) (fa : List He.Fa) (fn : List He.DefD) (xs : List XcD) (ex : Ex) (K : PySem.W.Frag) : Prop where
  eq : obsN fa fn xs ex K = valN fn xs
  file : P.main.file = file0
  sup : (P.main.scope.names.lookup ("super" : Str)).isSome = false
section
variable {P : Program} {file0 : Str} {fa : List He.Fa} {fn : List He.DefD} {xs : List XcD} {ex : Ex} {K : PySem.W.Frag}
theorem SaysN.m (c : SaysN P file0 fa fn xs ex K) : SaysM fa fn ex K := congrArg (fun z : AlN => z.1) c.eq
theorem SaysN.d (c : SaysN P file0 fa fn xs ex K) : He.SaysD fa fn K := c.m.d
theorem SaysN.xx (c : SaysN P file0 fa fn xs ex K) (i : Nat) {f : PySem.W.Frag → Bool} (h : ex[i]? = some f := by rfl) : f K = true := c.m.xx i h
theorem SaysN.fc (c : SaysN P file0 fa fn xs ex K) (i : Nat) {x : XcD} (h : xs[i]? = some x := by rfl) : fnC K (x.cls, some "__init__") = x.val := by
  have e : (xs.map fun x => fnC K (x.cls, some "__init__")) = xs.map XcD.val := congrArg (fun z : AlN => z.2) c.eq
  have e2 : (xs.map fun x => fnC K (x.cls, some "__init__"))[i]? = (xs.map XcD.val)[i]? := by rw [e]
  rw [List.getElem?_map, List.getElem?_map, h] at e2
  exact Option.some.inj e2
/-- such a class may be raised: one field -/
theorem SaysN.raise1 {w : World} {T : Tb} {n : Nat} (c : SaysN P file0 fa fn xs ex K) (i : Nat) {x : XcD} (h : xs[i]? = some x) {j : Nat} (hx : ex[j]? = some (xcB file0 x)) (hc : T.ca n = He.ga K x.cls) {f : Str} (hf : x.fs = [f]) (hl : T.fl n = [f]) (S : ExScope [f] x.d.scope) (hfd : (f == ("__debug__" : Str)) = false) (hsf : (f == ("self" : Str)) = false)
    {ar : Arg} (hpar : (x.d.params.posonlyargs ++ x.d.params.args).head? = some ar) (har : ar.arg = ("self" : Str))
    {p0 p1 pa pc pcall pe q1 q2 q3 q4 : Pos} {msg : Str} {jj : Nat} (hbody : x.d.body = [supS p0 p1 pa pc pcall pe msg jj, stoS q1 q2 q3 q4 f]) {pl : Sem Bool} (hev : ∀ env : PySem.Env, eval (.Call (.Attribute (.Call (.Name "super" p0) [] [] p1) "__init__" pa) [.Constant (.str msg) jj pc] [] pcall) env = (do
      let ov ← attributeBase (.Call (.Name "super" p0) [] [] p1) "__init__" env (eval (.Call (.Name "super" p0) [] [] p1) env)
      standAt pa.atName
      let (f, first) ← holding [ov] (getMethod ov "__init__" pl)
      callWith pcall f first (backTo pcall (starEach [.Constant (.str msg) jj pc] env)) []))
    (hbind : ∀ (kV cdv doc pm : Value) (an : Option Addr) (ct : Value) (cc e : Addr) (u : Value), bindArgs (PySem.W.ksFn x.d.name x.d.qual x.d.params x.d.body x.d.scope .none kV doc pm an cdv ct cc) ⟨[.ref e, u], []⟩ = pure [(("self" : Str), Value.ref e), (f, u)]) : RaiseS P w K T n 1 := by
  have hb := c.xx j hx
  unfold xcB at hb
  simp only [Bool.and_eq_true] at hb
  obtain ⟨b1, b2, b3⟩ := hb
  have ht : PySem.W.takerIn K (He.ga K x.cls) f = some none := by
    have := List.all_eq_true.mp b3 f (by rw [hf]; simp)
    exact of_decide_eq_true this
  have key : ∀ {B newId initId : String} {bm : List Value}, ExBase B newId initId bm → xcB1 K (He.ga K x.cls) B newId initId bm = true → RaiseS P w K T n 1 := fun {B newId initId bm} EB h1 => by
    obtain ⟨⟨cda, cc, kV, cdv, EC⟩, e1, e2, e3⟩ := xc1_ok h1 b2 (c.fc i h)
    rw [← c.file] at EC
    refine ⟨?_, by rw [hl]; rfl, by rw [hc]; exact e1, by rw [hc]; exact e2, by rw [hc]; exact e3⟩
    rw [hc, hl]
    intro base mg A Em hp g d t os us Q Mo hms hlen hroom kb h
    match us, hlen with
    | [u], _ =>
      refine ex_make1 EB EC S hfd hsf ht Mo hms c.sup hpar har hbody hev kb hroom (fun doc pm an ct e => hbind kV cdv doc pm an ct cc e u) fun h' tk' e dx ta k le lt hx hn => h h' tk' e dx ta k le lt hx ?_
      have z : (fun y => (List.zip [f] [u]).lookup y) = fun y => if y = f then some u else none := by
        funext y
        by_cases q : y = f
        · subst q; simp [List.lookup]
        · have : (y == f) = false := beq_eq_false_iff_ne.mpr q
          simp [List.lookup, this, q]
      rw [z]; exact hn
  cases hve : x.ve with
  | true => rw [hve] at b1; exact key exVE b1
  | false => rw [hve] at b1; exact key exTE b1
/-- what an except suite asks of the class -/
def xfB1 (K : PySem.W.Frag) (C f : Str) : Bool := xfB K (He.ga K C) && decide (PySem.W.findIn K (.ref (He.ga K C)) f = some none)
theorem xfB1_ok {C f : Str} (h : xfB1 K C f = true) : XfC K (He.ga K C) ∧ PySem.W.findIn K (.ref (He.ga K C)) f = some none := by
  unfold xfB1 at h
  rw [Bool.and_eq_true] at h
  exact ⟨xfB_ok h.1, of_decide_eq_true h.2⟩
/-- which classes a clause takes -/
def exmB (ca : List Str) (D : Str) (tab : List (Nat × Bool)) (K : PySem.W.Frag) : Bool := tab.all fun q => decide (PySem.W.exmOne K (.ref (He.ga K (ca.getD q.1 ""))) (.ref (He.ga K D)) = some q.2)
theorem exmB_ok {ca : List Str} {fl : List (List Str)} {D : Str} {tab : List (Nat × Bool)} (h : exmB ca D tab K = true) : ∀ q ∈ tab, PySem.W.exmOne K (.ref ((tbM K ca fl).ca q.1)) (.ref (He.ga K D)) = some q.2 := fun q hq => of_decide_eq_true (List.all_eq_true.mp h q hq)
end
theorem tab_one {tab : List (Nat × Bool)} {n c : Nat} (hd : tab.all (fun q => !q.2 || q.1 == n) = true) (h : tab.lookup c = some true) : c = n := by
  have := List.all_eq_true.mp hd _ (lookup_mem h)
  simpa using this
end Mir
/-! Mir, part U: further operations: upper, a list many times. -/
namespace Mir
open PySem PySem.Spec PyProof.Rows L2
abbrev up1 : Nat → Nat := PyProof.Rows.up1
/-- o.upper(), plain signs -/
def eUpper (o : EM) : EM := fun σ s => (o σ s).bind fun x s1 => match x with
  | .str a => if a.all (· < 128) = true ∧ a.length ≤ 5592405 then .ok (.str (a.map up1)) s1 else .stuck
  | _ => .stuck
/-- xs * k, the items -/
def aRep (a b : EM) : AM := fun σ s => (a σ s).bind fun x s1 => (b σ s1).bind fun y s2 => match deref s2 x, y with
  | .lst xs, .int k => if 0 ≤ k ∧ k < 1000 ∧ xs.length * k.toNat ≤ sz then .ok (List.replicate k.toNat xs).flatten s2 else .stuck
  | _, _ => .stuck
@[simp] theorem eUpper_ap (o : EM) (σ : Env) (s : Store) : eUpper o σ s = (o σ s).bind fun x s1 => (match x with
  | .str a => if a.all (· < 128) = true ∧ a.length ≤ 5592405 then .ok (.str (a.map up1)) s1 else .stuck
  | _ => .stuck) := rfl
@[simp] theorem aRep_ap (a b : EM) (σ : Env) (s : Store) : aRep a b σ s = (a σ s).bind fun x s1 => (b σ s1).bind fun y s2 => (match deref s2 x, y with
  | .lst xs, .int k => if 0 ≤ k ∧ k < 1000 ∧ xs.length * k.toNat ≤ sz then .ok (List.replicate k.toNat xs).flatten s2 else .stuck
  | _, _ => .stuck) := rfl
@[simp] theorem sRaise_ap (c : Nat) (a : AM) (σ : Env) (s : Store) : sRaise c a σ s = (a σ s).bind fun vs s1 => .exc (.ins c vs) s1 := rfl
@[simp] theorem eXf_ap (j : Nat) (vs : List PV) (σ : Env) (s : Store) : eXf j vs σ s = ofO vs[j]? s := rfl
theorem sTry_ap (b : SM) (hs : List Hd) (σ : Env) (s : Store) : sTry b hs σ s = (match b σ s with
  | .ok r s1 => .ok r s1
  | .exc (.ins c vs) s1 => tryHs hs c vs σ s1
  | _ => .stuck) := rfl
section
variable {X : Cx} {T : Tb} {W : WX} {a b o : Expr} {ma mb mo : EM} {pos apos : Pos}
theorem me_upper (ho : PE X o (tE X.K T W mo)) (hbase : attributeBase o "upper" X.env (eval o X.env) = eval o X.env := by rfl) (hline : (apos.endLine == pos.line) = true := by rfl) : PE X (.Call (.Attribute o "upper" apos) [] [] pos) (tE X.K T W (eUpper mo)) := by
  refine PE.weak (pe_upper ho hbase hline) fun σ H Q ⟨P, F, io, en, s, hE, hS, hp⟩ => ?_
  refine tE_use hE hS hp fun v H1 F1 io1 x s1 hE1 rx hS1 l1 hp1 => ?_
  cases rx with
  | str l =>
    simp only at hp1
    split at hp1
    · rename_i hz
      refine ⟨⟨_, rfl⟩, St8 l, rfl, rfl, by rw [str8_len]; exact hz.2, ?_⟩
      have e : Txt.upper (St8 l) = St8 (l.map up1) := SX.upper_S hz.1
      rw [e]
      exact hp1.ok_of Le.refl (.str _) hS1
    · exact hp1.elim
  | _ => exact hp1.elim
theorem rep_rs {K : PySem.W.Frag} {F : Hp} {io : List Addr} {xs : List PV} {vs : List V} (r : Rs K T F io xs vs) : ∀ n : Nat, Rs K T F io (List.replicate n xs).flatten (List.replicate n vs).flatten
  | 0 => .nil
  | n + 1 => by simp only [List.replicate_succ, List.flatten_cons]; exact r.append (rep_rs r n)
theorem mf_rep (ha : PE X a (tE X.K T W ma)) (hb : PE X b (tE X.K T W mb)) : PE X (.BinOp a .Mult b pos) (tF X.K T W (aRep ma mb)) := by
  refine PE.weak (pe_op op_rep ha hb) fun σ H Q ⟨P, F, io, en, s, hE, hS, hp⟩ => ?_
  refine ⟨P, F, io, en, s, hE, hS, ?_⟩
  refine Post.mono (NewL.bind (rel := rV X.K T) hp) fun v H1 ⟨F1, io1, x, s1, l1, rx, hS1, hp1⟩ => ?_
  refine ⟨P, F1, io1, en, s1, hE.mono l1, hS1, ?_⟩
  refine Post.mono (NewL.bind (rel := rV X.K T) hp1) fun u H2 ⟨F2, io2, y, s2, l2, ry, hS2, hp2⟩ => ?_
  simp only at hp2
  split at hp2
  · rename_i xs k hx
    split at hp2
    · rename_i hz
      cases ry
      obtain ⟨p, vs, rfl, h1, r1⟩ := hS2.list (rx.mono l2) hx
      have hk : k < 2 ^ 63 := by omega
      have hk2 : -(2 ^ 63) ≤ k := by omega
      exact ⟨p, k, vs, rfl, rfl, h1, hk2, hk, by rw [← r1.length]; exact hz.2.2, fun z np => hp2 F2 io2 z _ H2 Le.refl (rep_rs r1 _) hS2 np⟩
    · exact hp2.elim
  · exact hp2.elim
end
end Mir
/-! Mir, part Q: loops by invariants; more simp rules of the plain side. -/
namespace Mir
@[simp] theorem eJoin_ap (o e : EM) (σ : Env) (s : Store) : eJoin o e σ s = (o σ s).bind fun x s1 => (match x with
  | .str a => (e σ s1).bind fun y s2 => (match (itemsOf s2 y).bind strsOf with
    | some ys => if (ys.map (·.length)).sum + ys.length * a.length ≤ sz then .ok (.str (TL.joinL a ys)) s2 else .stuck
    | none => .stuck)
  | _ => .stuck) := rfl
@[simp] theorem eSplit_ap (o e : EM) (σ : Env) (s : Store) : eSplit o e σ s = (o σ s).bind fun x s1 => (match x with
  | .str a => (e σ s1).bind fun y s2 => (match y with
    | .str b => if b ≠ [] ∧ b.all (· < 256) = true ∧ a.length + 2 ≤ sz then .ok (.lst ((TL.spl b 0 [] a).map .str)) s2 else .stuck
    | _ => .stuck)
  | _ => .stuck) := rfl
@[simp] theorem aCat_ap (a b : EM) (σ : Env) (s : Store) : aCat a b σ s = (a σ s).bind fun x s1 => (b σ s1).bind fun y s2 => (match deref s2 x, deref s2 y with
  | .lst xs, .lst ys => if xs.length + ys.length ≤ sz then .ok (xs ++ ys) s2 else .stuck
  | _, _ => .stuck) := rfl
@[simp] theorem atP_three {α : Type} (x y z u : α) (xs : List α) : atP (x :: y :: z :: u :: xs) 3 = some u := atP_of (j := 3) rfl rfl
@[simp] theorem atP_four {α : Type} (x y z u v : α) (xs : List α) : atP (x :: y :: z :: u :: v :: xs) 4 = some v := atP_of (j := 4) rfl rfl
@[simp] theorem pyNe_int (s : Store) (a b : Int) : pyNe (.int a) (.int b) s = .ok (.bl (!(a == b))) s := rfl
theorem sz_val : sz = 16777216 := rfl
theorem Walk.ok_none {w : Walk} (h : w.at_ = none) (s : Store) : w.ok s := by unfold Walk.ok; rw [h]; trivial
/-- a comprehension by what holds between its turns -/
theorem compGo_inv {g : GM} {t : TM} {e : EM} {σ : Env} {w : Walk} (hw : w.at_ = none) (P : Store → Prop) (Q : PV → Prop) : ∀ (xs acc : List PV) (s : Store), P s →
    (∀ x ∈ xs, ∀ s, P s → ∃ σ1 s1 y s2, g x σ s = .ok σ1 s ∧ t σ1 s = .ok true s1 ∧ e σ1 s1 = .ok y s2 ∧ P s2 ∧ Q y) →
    ∃ ys s', compGo w g t e σ xs acc s = .ok (acc ++ ys) s' ∧ ys.length = xs.length ∧ (∀ y ∈ ys, Q y) ∧ P s' := by
  intro xs
  induction xs with
  | nil => intro acc s hs _; exact ⟨[], s, by simp [compGo, Walk.ok_none hw], rfl, by simp, hs⟩
  | cons x xs ih =>
    intro acc s hs h
    obtain ⟨σ1, s1, y, s2, h1, h2, h3, h4, h5⟩ := h x (List.mem_cons_self ..) s hs
    obtain ⟨ys, s', e1, e2, e3, e4⟩ := ih (acc ++ [y]) s2 h4 fun z hz => h z (List.mem_cons_of_mem _ hz)
    refine ⟨y :: ys, s', ?_, by simp [e2], fun z hz => ?_, e4⟩
    · unfold compGo
      rw [if_pos (Walk.ok_none hw s), h1]
      simp only [noX_ok, Res.bind_ok, h2, h3, if_true]
      rw [e1]; simp
    · rcases List.mem_cons.mp hz with rfl | hz
      · exact h5
      · exact e3 z hz
/-- .. with some left out -/
theorem compGo_some {g : GM} {t : TM} {e : EM} {σ : Env} {w : Walk} (hw : w.at_ = none) (P : Store → Prop) (Q : PV → Prop) : ∀ (xs acc : List PV) (s : Store), P s →
    (∀ x ∈ xs, ∀ s, P s → ∃ σ1 k s1, g x σ s = .ok σ1 s ∧ t σ1 s = .ok k s1 ∧ P s1 ∧ (k = true → ∃ y s2, e σ1 s1 = .ok y s2 ∧ P s2 ∧ Q y)) →
    ∃ ys s', compGo w g t e σ xs acc s = .ok (acc ++ ys) s' ∧ ys.length ≤ xs.length ∧ (∀ y ∈ ys, Q y) ∧ P s' := by
  intro xs
  induction xs with
  | nil => intro acc s hs _; exact ⟨[], s, by simp [compGo, Walk.ok_none hw], Nat.le_refl _, by simp, hs⟩
  | cons x xs ih =>
    intro acc s hs h
    obtain ⟨σ1, k, s1, h1, h2, h3, h4⟩ := h x (List.mem_cons_self ..) s hs
    cases k with
    | true =>
      obtain ⟨y, s2, h5, h6, h7⟩ := h4 rfl
      obtain ⟨ys, s', e1, e2, e3, e4⟩ := ih (acc ++ [y]) s2 h6 fun z hz => h z (List.mem_cons_of_mem _ hz)
      refine ⟨y :: ys, s', ?_, by simp [e2], fun z hz => ?_, e4⟩
      · unfold compGo
        rw [if_pos (Walk.ok_none hw s), h1]
        simp only [noX_ok, Res.bind_ok, h2, h5, if_true]
        rw [e1]; simp
      · rcases List.mem_cons.mp hz with rfl | hz
        · exact h7
        · exact e3 z hz
    | false =>
      obtain ⟨ys, s', e1, e2, e3, e4⟩ := ih acc s1 h3 fun z hz => h z (List.mem_cons_of_mem _ hz)
      refine ⟨ys, s', ?_, by simp; omega, e3, e4⟩
      unfold compGo
      rw [if_pos (Walk.ok_none hw s), h1]
      simp only [noX_ok, Res.bind_ok, h2, Bool.false_eq_true, if_false]
      exact e1
/-- .. whose items are the kept ones themselves -/
theorem compGo_sub {g : GM} {t : TM} {e : EM} {σ : Env} {w : Walk} (hw : w.at_ = none) (P : Store → Prop) : ∀ (xs acc : List PV) (s : Store), P s → (∀ x ∈ xs, ∀ s, P s → ∃ σ1 k s2, g x σ s = .ok σ1 s ∧ t σ1 s = .ok k s2 ∧ P s2 ∧ (k = true → e σ1 s2 = .ok x s2)) →
    ∃ ys s', compGo w g t e σ xs acc s = .ok (acc ++ ys) s' ∧ ys.Sublist xs ∧ P s' := by
  intro xs
  induction xs with
  | nil => intro acc s hs _; exact ⟨[], s, by simp [compGo, Walk.ok_none hw], .slnil, hs⟩
  | cons x xs ih =>
    intro acc s hs h
    obtain ⟨σ1, k, s2, h1, h2, h3, h4⟩ := h x (List.mem_cons_self ..) s hs
    unfold compGo
    rw [if_pos (Walk.ok_none hw s), h1]
    simp only [noX_ok, Res.bind_ok, h2]
    cases k with
    | true =>
      simp only [if_true, h4 rfl, noX_ok, Res.bind_ok]
      obtain ⟨ys, s', e1, e2, e3⟩ := ih (acc ++ [x]) s2 h3 fun y hy => h y (List.mem_cons_of_mem _ hy)
      exact ⟨x :: ys, s', by rw [e1]; simp, e2.cons_cons x, e3⟩
    | false =>
      simp only [Bool.false_eq_true, if_false]
      obtain ⟨ys, s', e1, e2, e3⟩ := ih acc s2 h3 fun y hy => h y (List.mem_cons_of_mem _ hy)
      exact ⟨ys, s', e1, e2.cons x, e3⟩
/-- a for loop that runs through -/
theorem forGo_inv {g : GM} {b : SM} {keep : Env → Env} {w : Walk} (I : Nat → List PV → Env → Store → Prop) : ∀ (xs : List PV) (n : Nat) (σ : Env) (s : Store), I n xs σ s →
    (∀ n xs σ s, I n xs σ s → w.ok s) →
    (∀ n x xs σ s, I n (x :: xs) σ s → ∃ σ1 s1 σ2 f s2, g x σ s = .ok σ1 s1 ∧ b σ1 s1 = .ok (σ2, f) s2 ∧ (f = .next ∨ f = .cont) ∧ I (n + 1) xs (keep σ2) s2) →
    ∃ σ' s', forGo w g b keep xs σ s = .ok (σ', .next) s' ∧ I (n + xs.length) [] σ' s' := by
  intro xs
  induction xs with
  | nil => intro n σ s h ok _; exact ⟨σ, s, by simp [forGo, ok _ _ _ _ h], h⟩
  | cons x xs ih =>
    intro n σ s h ok st
    obtain ⟨σ1, s1, σ2, f, s2, h1, h2, h3, h4⟩ := st n x xs σ s h
    obtain ⟨σ', s', e1, e2⟩ := ih (n + 1) (keep σ2) s2 h4 ok st
    refine ⟨σ', s', ?_, by rw [List.length_cons]; have : n + (xs.length + 1) = n + 1 + xs.length := by omega
                           rw [this]; exact e2⟩
    unfold forGo
    rw [if_pos (ok _ _ _ _ h), h1]
    simp only [Res.bind_ok, h2]
    rcases h3 with rfl | rfl <;> exact e1
/-- a for loop that may return -/
theorem forGo_ret {g : GM} {b : SM} {keep : Env → Env} {w : Walk} (I : Nat → List PV → Env → Store → Prop) (V : PV → Store → Prop) : ∀ (xs : List PV) (n : Nat) (σ : Env) (s : Store), I n xs σ s →
    (∀ n xs σ s, I n xs σ s → w.ok s) →
    (∀ n x xs σ s, I n (x :: xs) σ s → ∃ σ1 s1 σ2 f s2, g x σ s = .ok σ1 s1 ∧ b σ1 s1 = .ok (σ2, f) s2 ∧ (((f = .next ∨ f = .cont) ∧ I (n + 1) xs (keep σ2) s2) ∨ ∃ v, f = .ret v ∧ V v s2)) →
    ∃ σ' f s', forGo w g b keep xs σ s = .ok (σ', f) s' ∧ ((f = .next ∧ I (n + xs.length) [] σ' s') ∨ ∃ v, f = .ret v ∧ V v s') := by
  intro xs
  induction xs with
  | nil => intro n σ s h ok _; exact ⟨σ, .next, s, by simp [forGo, ok _ _ _ _ h], .inl ⟨rfl, h⟩⟩
  | cons x xs ih =>
    intro n σ s h ok st
    obtain ⟨σ1, s1, σ2, f, s2, h1, h2, h3⟩ := st n x xs σ s h
    rcases h3 with ⟨h3, h4⟩ | ⟨v, rfl, h4⟩
    · obtain ⟨σ', f', s', e1, e2⟩ := ih (n + 1) (keep σ2) s2 h4 ok st
      refine ⟨σ', f', s', ?_, ?_⟩
      · unfold forGo
        rw [if_pos (ok _ _ _ _ h), h1]
        simp only [Res.bind_ok, h2]
        rcases h3 with rfl | rfl <;> exact e1
      · rw [List.length_cons]; have : n + (xs.length + 1) = n + 1 + xs.length := by omega
        rw [this]; exact e2
    · refine ⟨σ2, .ret v, s2, ?_, .inr ⟨v, rfl, h4⟩⟩
      unfold forGo
      rw [if_pos (ok _ _ _ _ h), h1]
      simp only [Res.bind_ok, h2]
theorem atP_lt {α : Type} {xs : List α} {i : Int} (h0 : 0 ≤ i) (h1 : i < xs.length) : ∃ x ∈ xs, atP xs i = some x := by
  have hj : i.toNat < xs.length := by omega
  exact ⟨xs[i.toNat], List.getElem_mem _, atP_of (j := i.toNat) (by omega) (List.getElem?_eq_getElem hj)⟩
theorem join_nil : ∀ ys : List (List Nat), TL.joinL [] ys = ys.flatten
  | [] => rfl
  | [p] => by simp [TL.joinL]
  | p :: q :: r => by
    show p ++ ([] ++ TL.joinL [] (q :: r)) = _
    rw [join_nil (q :: r)]; simp
theorem strsOf_map : ∀ l : List (List Nat), strsOf (l.map .str) = some l
  | [] => rfl
  | x :: l => by simp [strsOf, strsOf_map l]
theorem finL_new {s : Store} {xs : List PV} (h : lbs s.length xs = true) : finL s (.loc s.length) (s ++ [.lst xs]) = .ok (.loc s.length) (s ++ [.lst xs]) := by
  unfold finL
  have hk : Kept s.length s (s ++ [.lst xs]) := fun i hi => by left; rw [List.getElem?_append_left hi]
  rw [if_pos ⟨hk, by simp⟩]
  simp [h]
theorem get1 (pre e : Store) (x y : PV) : (pre ++ x :: y :: e)[pre.length + 1]? = some y := by
  rw [List.getElem?_append_right (by omega)]; simp
theorem get2 (pre e : Store) (x y z : PV) : (pre ++ x :: y :: z :: e)[pre.length + 2]? = some z := by
  rw [List.getElem?_append_right (by omega)]; simp
theorem set1 (pre e : Store) (x y u : PV) : (pre ++ x :: y :: e).set (pre.length + 1) u = pre ++ x :: u :: e := by
  rw [List.set_append_right _ _ (by omega)]; simp
theorem set2 (pre e : Store) (x y z u : PV) : (pre ++ x :: y :: z :: e).set (pre.length + 2) u = pre ++ x :: y :: u :: e := by
  rw [List.set_append_right _ _ (by omega)]; simp
theorem der1 (pre e : Store) (x y : PV) : deref (pre ++ x :: y :: e) (.loc (pre.length + 1)) = y := by
  have h := get1 pre e x y
  simp only [deref, List.getD_eq_getElem?_getD]
  rw [h]; rfl
theorem der2 (pre e : Store) (x y z : PV) : deref (pre ++ x :: y :: z :: e) (.loc (pre.length + 2)) = z := by
  have h := get2 pre e x y z
  simp only [deref, List.getD_eq_getElem?_getD]
  rw [h]; rfl
theorem len4 {α : Type} {l : List α} (h : l.length = 4) : ∃ a b c d, l = [a, b, c, d] := by
  match l, h with
  | [a, b, c, d], _ => exact ⟨a, b, c, d, rfl⟩
theorem cut_lo {α : Type} {l : List α} {i : Nat} (h : i ≤ l.length) : cutP l none (some (i : Int)) = l.take i := by
  unfold cutP sIxP
  have h1 : ¬ ((i : Int) < 0) := by omega
  simp [h1]
theorem cut_hi {α : Type} {l : List α} {i : Nat} (h : i ≤ l.length) : cutP l (some (i : Int)) none = l.drop i := by
  unfold cutP sIxP
  have h1 : ¬ ((i : Int) < 0) := by omega
  simp [h1]
  have h2 : min i l.length = i := by omega
  rw [h2, List.take_of_length_le (by simp)]
theorem blsOf_mapP {α : Type} (l : List α) (p : α → Bool) : blsOf (l.map fun c => PV.bl (p c)) = some (l.map p) := by
  induction l with
  | nil => rfl
  | cons x l ih => simp [blsOf, ih]
end Mir
/-! Mir, part R: repr of small things; isinstance of a held exception. -/
namespace Mir
open PySem PySem.Spec PyProof.Rows L2
def reprP : PV → Option (List Nat)
  | .bl true => some [84, 114, 117, 101]
  | .bl false => some [70, 97, 108, 115, 101]
  | .non => some [78, 111, 110, 101]
  | _ => none
/-- repr(x), x True, False or None -/
def bRepr : ON := fun vs s => match vs with
  | [x] => (ofO (reprP x) s).bind fun l s => .ok (.str l) s
  | _ => .stuck
def rpV : V → Option Str
  | .bl true => some (St8 [84, 114, 117, 101])
  | .bl false => some (St8 [70, 97, 108, 115, 101])
  | .non => some (St8 [78, 111, 110, 101])
  | _ => none
theorem call_reprB {X : Cx} : CallR X (.builtin "repr") (fun xs H Q => ∃ x t, xs = [x] ∧ rpV x = some t ∧ Q (.str t) H) := by
  intro pins s σ H xs us Q I r h
  obtain ⟨x, t, rfl, hz, q⟩ := h
  obtain ⟨u, rfl, rx⟩ := vals1 r
  cases x with
  | bl b =>
    obtain rfl : u = .bool b := rx
    refine PySem.P.repr_of_bool ⟨.str t, H, I.tok _, ?_, q⟩
    cases b <;> (simp only [rpV, Option.some.injEq] at hz; subst hz; exact ⟨_, rfl⟩)
  | non =>
    obtain rfl : u = Value.none := rx
    refine PySem.P.repr_of_none ⟨.str t, H, I.tok _, ?_, q⟩
    simp only [rpV, Option.some.injEq] at hz; subst hz; exact ⟨_, rfl⟩
  | _ => cases hz
section
variable {X : Cx} {T : Tb}
theorem scr_repr : CallR X (.builtin "repr") (rN X.K T bRepr) := cr_of call_reprB fun P F io s xs vs H Q rx hS hp => by
  unfold bRepr at hp
  split at hp
  · obtain ⟨v, rfl, r1⟩ := rx.one
    rename_i x
    cases x with
    | bl b =>
      cases r1
      cases b
      · exact ⟨_, _, rfl, rfl, hp.ok_of Le.refl (.str _) hS⟩
      · exact ⟨_, _, rfl, rfl, hp.ok_of Le.refl (.str _) hS⟩
    | non => cases r1; exact ⟨_, _, rfl, rfl, hp.ok_of Le.refl (.str _) hS⟩
    | _ => exact hp.elim
  · exact hp.elim
end
@[simp] theorem bRepr_bl (b : Bool) (s : Store) : bRepr [.bl b] s = .ok (.str (if b then [84, 114, 117, 101] else [70, 97, 108, 115, 101])) s := by cases b <;> rfl
@[simp] theorem sCont_ap (σ : Env) (s : Store) : sCont σ s = .ok (σ, .cont) s := rfl
@[simp] theorem sBrk_ap (σ : Env) (s : Store) : sBrk σ s = .ok (σ, .brk) s := rfl
/-! ### isinstance of a held exception -/
/-- what the class C says when isinstance asks its instances for D -/
structure XisC (K : PySem.W.Frag) (C : Addr) (cv : Value) (b : Bool) : Prop where
  ok : ExcC K C
  kit : PySem.W.kitOne K (.ref C) cv = some b
def xisB (C D : Str) (b : Bool) (K : PySem.W.Frag) : Bool :=
  xfB K (He.ga K C) && (decide (PySem.W.findIn K (.ref (He.ga K C)) "__class__" = some (some (.builtin "object.__class__"))) && (decide (PySem.W.specialIn K (.builtin "object.__class__") "__get__" = some (some (.builtin "getset_descriptor.__get__"))) && (decide (PySem.W.takesIn K (.builtin "object.__class__") = some true) &&
    (decide (PySem.W.mroIn K (He.ga K C) (.type "object") = some true) && decide (PySem.W.kitOne K (.ref (He.ga K C)) (.ref (He.ga K D)) = some b)))))
theorem xisB_ok {C D : Str} {b : Bool} {K : PySem.W.Frag} (h : xisB C D b K = true) : XisC K (He.ga K C) (.ref (He.ga K D)) b := by
  unfold xisB at h
  simp only [Bool.and_eq_true, decide_eq_true_eq] at h
  obtain ⟨h1, h2, h3, h4, h5, h6⟩ := h
  have q := xfB_ok h1
  exact ⟨⟨q.ga, q.gg, q.exC, q.hdC, h2, h3, h4, h5⟩, h6⟩
/-- isinstance(e, D), e the exception that the suite holds, it has a field -/
def eXis (b : Bool) (vs : List PV) : EM := fun _ s => if vs.isEmpty = true then .stuck else .ok (.bl b) s
@[simp] theorem eXis_ap (b : Bool) (v : PV) (vs : List PV) (σ : Env) (s : Store) : eXis b (v :: vs) σ s = .ok (.bl b) s := rfl
def rIsD (a D : Addr) (b : Bool) (d : Option Addr) : List V → Hp → VK → Prop := fun xs H Q => xs = [.ref a, .ref D] ∧ (∃ dd fs, d = some dd ∧ H dd = some (.xd fs)) ∧ Q (.bl b) H
theorem call_isD {X : Cx} {a C D : Addr} {oe : Obj} {d : Option Addr} {b : Bool} {pn : List (Addr × Obj)} (E : XisC X.K C (.ref D) b) (hz : Zc (.ref C) d oe) (hf : ∃ vs, oe.data = .fields vs) : CallR (X.suite a ((a, oe) :: pn)) (.builtin "isinstance") (rIsD a D b d) := by
  intro pins s σ H xs us Q I r h
  obtain ⟨rfl, ⟨dd, fs, ed, ea⟩, q⟩ := h
  obtain ⟨u, w', rfl, r1, r2⟩ := vals2 r
  obtain rfl : u = Value.ref a := r1
  obtain rfl : w' = Value.ref D := r2
  subst ed
  obtain ⟨ha, _⟩ := I.pin (a, oe) (List.mem_append_left _ List.mem_cons_self)
  obtain ⟨vs, hd⟩ := hf
  have hx : ObjOk X.prog X.w H s.heap dd (.xd fs) := I.hok dd _ ea
  obtain ⟨mA, hns, hr⟩ := hx
  obtain ⟨od, ho, hl⟩ := lookIn_ns hns
  have J : PySem.W.InstAt s.heap a oe C (some od) := ⟨ha, hz.1, by unfold PySem.W.notCls; rw [hd] <;> rfl, by rw [hz.2]; exact ho⟩
  obtain ⟨cd, hc, _⟩ := PySem.W.any_some E.ok.hd
  exact PySem.W.kia_one (PySem.W.kitx_exc (by rw [hc]; rfl) E.ok.hg E.ok.hk E.ok.hs E.ok.ha E.ok.hn E.ok.ht E.ok.hm) I.kIn J E.kit (fun z => nomatch z) fun tk => ⟨.bl b, H, I.kept (t' := tk) fun _ _ z => z, rfl, q⟩
section
variable {X : Cx} {T : Tb} {W : WX} {i c : Nat} {a D : Addr} {oe : Obj} {d : Option Addr} {b : Bool} {vs : List PV} {pn : List (Addr × Obj)} {x y z : Str} {p p2 p3 pos : Pos}
theorem me_xis (E : XisC X.K (T.ca c) (.ref D) b) (hz : Zc (.ref (T.ca c)) d oe) (hf : ∃ vs, oe.data = .fields vs)
    (hx : PE (X.suite a ((a, oe) :: pn)) (.Name x p) (tVar i)) (hg : Gl (X.suite a ((a, oe) :: pn)) z) (hm : X.mg z = none) (hv : bootBuiltins z = some (.builtin "isinstance"))
    (hgD : Gl (X.suite a ((a, oe) :: pn)) y) (hmD : X.mg y = some (.ref D)) (hn : z ≠ "__name__" := by decide) (hdb : (z == ("__debug__" : Str)) = false := by decide) (hdy : (y == ("__debug__" : Str)) = false := by decide)
    (he : starEach [.Name x p, .Name y p2] X.env = (false, eval (.Name x p) X.env) :: starEach [.Name y p2] X.env := by rfl) (he2 : starEach [.Name y p2] X.env = (false, eval (.Name y p2) X.env) :: starEach [] X.env := by rfl) (hpl : (backTo pos (starEach [.Name x p, .Name y p2] X.env)).any (·.1) = false := by rfl) :
    PE (X.suite a ((a, oe) :: pn)) (.Call (.Name z p3) [.Name x p, .Name y p2] [] pos) (tE X.K (excT X.K T i a d c vs) W (eXis b vs)) := by
  refine PE.weak (pe_callB (call_isD E hz hf) hg hm hv (pa_cons hx (pa_cons (pe_glob (v := .ref D) hgD hmD rfl hdy) pa_nil he2) he) hn hdb he hpl) fun σ H Q ⟨P, F, io, en, s, hE, hS, hp⟩ => ?_
  obtain ⟨h1, h2⟩ := hE.gh
  unfold eXis at hp
  cases vs with
  | nil => exact hp.elim
  | cons v vs =>
    obtain ⟨dd, fv, q1, q2, q3, q4⟩ := h2 (by simp)
    exact ⟨.ref a, h1, rfl, ⟨dd, _, q1, hS.sub _ _ q2⟩, hp.ok_of Le.refl (.bl b) hS⟩
end
end Mir
/-! Mir, part S: star parameters, star arguments, class methods. -/
namespace Mir
open PySem PySem.Spec PyProof.Rows L2
/-- a function of the text, called by any number of values and the keywords ks -/
def FnH (P : Program) (w : World) (K : PySem.W.Frag) (mg : Str → Option Value) (base : Heap) (T : Tb) (k : Nat) (f : Addr) (ks : List Str) (h : List PV → List PV → Store → Res PV) : Prop :=
  ∀ (A : Around) (outer : List PySem.Env) (s : Shared) (H : Hp) (us ws : List Value) (vs zs : List V) (P' F : Hp) (io : List Addr) (xs ys : List PV) (st : Store) (Q : VK) (E : XK),
    Room k A → Env0 P w K mg base A outer s H → Vals vs us → Vals zs ws → zs.length = ks.length → Rs K T F io xs vs → Rs K T F io ys zs → RS K T P' F io st H →
    Post K T P' (rV K T) E F io (h xs ys st) Q → codeAny (model P w) A (.call (.ref f) ⟨us, ks.zip ws⟩) (CR (L2.CX P w) outer P w H s Q E) s
section
variable {P : Program} {w : World} {K : PySem.W.Frag} {mg : Str → Option Value} {base : Heap} {T : Tb} {k n : Nat} {f : Addr} {ks : List Str} {h : List PV → List PV → Store → Res PV}
/-- n values exactly -/
def onlyN (n : Nat) (h : List PV → List PV → Store → Res PV) : List PV → List PV → Store → Res PV := fun xs ys s => if xs.length = n then h xs ys s else .stuck
theorem FnS.toH (G : FnS P w K mg base T k f n ks h) : FnH P w K mg base T k f ks (onlyN n h) := by
  intro A outer s H us ws vs zs P' F io xs ys st Q E hr e0 r rz l2 rx ry hS hp
  obtain ⟨fd, ps, m, gP, F1, ⟨g, gV, kb, rel⟩, rfl⟩ := G.ex
  unfold onlyN at hp
  split at hp
  · rename_i hn
    have l1 : vs.length = n := by rw [← rx.length]; exact hn
    have r3 := rel F io xs ys vs zs rx ry l1 l2
    have kIn : K.In s.heap := e0.mod.kin.keeps fun b o e => (e0.bs b o e).1
    exact F1.run A outer s H ⟨us, ks.zip ws⟩ (g us ws) (gV vs zs) Q E hr e0 (kb.to s us ws kIn (r.length.symm.trans l1) (rz.length.symm.trans l2)) (kb.rel r rz) ⟨r3.2, P', F, io, _, st, r3.1, hS, hp⟩
  · exact hp.elim
theorem FnH.mono {j : Nat} (G : FnH P w K mg base T j f ks h) (hj : j ≤ k) : FnH P w K mg base T k f ks h :=
  fun A outer s H us ws vs zs P' F io xs ys st Q E hr => G A outer s H us ws vs zs P' F io xs ys st Q E (hr.mono hj)
end
/-! ### a def with a star parameter -/
section
variable {P : Program} {w : World} {K : PySem.W.Frag} {mg : Str → Option Value} {base : Heap} {x qual : Str} {params : Arguments} {body : List Stmt} {scope : Scope} {dvs : List V} {kws : List (Str × V)} {f : Addr} {fd : FuncData} {T : Tb}
/-- a def with a star parameter: np values by position, what is left is a tuple behind the others -/
def starF (np : Nat) (gP : List PV → List PV → List PV) (m : ON) : List PV → List PV → Store → Res PV := fun xs ys st => if np ≤ xs.length ∧ xs.length ≤ sz then m (gP (xs.take np) ys ++ [.tup (xs.drop np)]) st else .stuck
theorem fn_starH [NoGh T] {N ps ks : List Str} {pv : Str} {k n np : Nat} {fin : Store → PV → Store → Res PV} {mb : SM} {g : List Value → List Value → List Value} {gV : List V → List V → List V} {gP : List PV → List PV → List PV}
    (F : FunD K x qual params body scope dvs kws f fd) (S : FnScope N (ps ++ [pv]) scope) (hf : FinOk K T fin) (hn : n = N.length)
    (hb : ∀ (us rest ws : List Value) (s : Shared) (A' : Around) (Ex : Value → Shared → Prop) (Q : List (Str × Value) → Shared → Prop), K.In s.heap → us.length = np → ws.length = ks.length →
      wpAny (model P w) A' (newTuple rest >>= fun t => pure (ps.zip (g us ws) ++ [(pv, t)])) Q Ex s → wpAny (model P w) A' (bindArgs fd ⟨us ++ rest, ks.zip ws⟩) Q Ex s)
    (hrel : ∀ {vs zs : List V} {us ws : List Value}, Vals vs us → Vals zs ws → vs.length = np → zs.length = ks.length → Vals (gV vs zs) (g us ws) ∧ (g us ws).length = ps.length)
    (hrelP : ∀ (F : Hp) (io : List Addr) (xs ys : List PV) (vs zs : List V), Rs K T F io xs vs → Rs K T F io ys zs → vs.length = np → zs.length = ks.length → Rs K T F io (gP xs ys) (gV vs zs))
    (hbody : ∀ (cdv : Value) (A : Around) (outer : List PySem.Env) (s : Shared) (H : Hp) (E : XK), Room k (A.deeper (envOfC qual scope s.heap.objs.size f cdv)) →
      PSs (cxB P w K mg base N qual scope f cdv A outer s H E) body (tS K T (fun c d _ H' => E c d H') mb)) :
    FnH P w K mg base T (k + 1) f ks (starF np gP (runDef fin n mb)) := by
  subst hn
  intro A outer s H us ws vs zs P' F' io xs ys st Q E hr e0 r rz l2 rx ry hS hp
  unfold starF at hp
  split at hp
  case isFalse => exact hp.elim
  rename_i hle
  obtain ⟨oc, od, dV, kV, doc, pm, an, cdv, ct, osl, rfl, lk, hcd, _, _⟩ := F.ex
  have lv : vs.length = xs.length := rx.length.symm
  have lu : us.length = xs.length := by rw [← r.length]; exact lv
  have r1 : Vals (vs.take np) (us.take np) := r.take np
  have r2 : Vals (vs.drop np) (us.drop np) := r.drop np
  have lt1 : (vs.take np).length = np := by rw [List.length_take]; omega
  have lt2 : (us.take np).length = np := by rw [List.length_take]; omega
  have lw : ws.length = ks.length := by rw [← rz.length]; exact l2
  obtain ⟨rg, lg⟩ := hrel r1 rz lt1 l2
  have hz : (us.drop np).length ≤ sizeLine := by rw [List.length_drop]; have := hle.2; simp only [sz] at this; rw [sizeLine_eq]; omega
  have hn : H s.heap.objs.size = Option.none := e0.hok.fresh (Nat.le_refl _)
  refine StX.run_bnd lk hcd S hr e0 (G := fun xs' H2 => ∃ p, H p = Option.none ∧ xs' = gV (vs.take np) zs ++ [V.ref p] ∧ H2 = upd H p (.tup (vs.drop np))) (fun A' Ex Q' h => ?_) fun s2 H2 xs' ⟨p, hp', ex, eH⟩ hr' => ?_
  · have kIn : K.In s.heap := e0.mod.kin.keeps fun b o e => (e0.bs b o e).1
    have eu : us = us.take np ++ us.drop np := (List.take_append_drop np us).symm
    rw [eu]
    refine hb _ _ _ s A' Ex Q' kIn lt2 lw ?_
    refine wpAny_bind (wpAny_newTuple (wpAny_pure ?_) hz)
    have new : ObjOk P w (upd H s.heap.objs.size (.tup (vs.drop np))) (s.heap.push ({ cls := .type "tuple", data := .seq (us.drop np).toArray } : Obj)) s.heap.objs.size (.tup (vs.drop np)) := ⟨by rw [r2.length]; exact hz, us.drop np, r2, ⟨_, Heap.get?_push_size _ rfl, rfl, _, rfl⟩⟩
    have un := StX.un_laid (fs := frs outer) (s := s) (o := ({ cls := .type "tuple", data := .seq (us.drop np).toArray } : Obj)) (u := .tup (vs.drop np)) hn
    have z := h _ _ (gV (vs.take np) zs ++ [V.ref s.heap.objs.size]) (g (us.take np) ws ++ [Value.ref s.heap.objs.size]) (StX.env0_laid e0 new) un rfl (fun e s' => StX.cxUp outer s H _ _ E e s' un (fun b o q => Heap.get?_push_of_some _ q) rfl) (rg.append (.cons rfl .nil))
      (by rw [List.length_append, List.length_append, rg.length, lg] <;> rfl) ⟨_, hn, rfl, rfl⟩
    rw [List.zip_append lg.symm] at z
    exact z
  · subst ex eH
    refine ⟨_, hbody cdv A outer s2 _ E hr', ?_⟩
    obtain ⟨le, hS2⟩ := hS.grow (o := .tup (vs.drop np)) hp'
    have rt : Rs K T F' io (xs.drop np) (vs.drop np) := rx.drop np
    have rp : R K T (upd F' p (.tup (vs.drop np))) io (.tup (xs.drop np)) (.ref p) := .tup (.of upd_same) (rt.mono le)
    have rr := hrelP F' io (xs.take np) ys (vs.take np) zs (rx.take np) ry lt1 l2
    have rxs : Rs K T (upd F' p (.tup (vs.drop np))) io (gP (xs.take np) ys ++ [.tup (xs.drop np)]) (gV (vs.take np) zs ++ [.ref p]) := (rr.mono le).append (.cons rp .nil)
    refine ⟨P', upd F' p (.tup (vs.drop np)), io, _, st, RE.start (N := N) rxs, hS2, ?_⟩
    have hp2 := Post.le le hp
    unfold runDef at hp2
    cases hbd : mb ((gP (xs.take np) ys ++ [PV.tup (xs.drop np)]).map some ++ List.replicate (N.length - (gP (xs.take np) ys ++ [PV.tup (xs.drop np)]).length) none) st with
    | ok r s1 =>
      obtain ⟨e1, fl⟩ := r
      rw [hbd] at hp2
      cases fl with
      | ret v => exact fun F1 io1 u H1 l1 r1 hS1 => hf P' _ F1 io io1 st s1 _ H1 v u E Q hS2 l1 hS1 r1 hp2
      | next => exact fun F1 io1 σ H1 l1 hE1 hS1 => hf P' _ F1 io io1 st s1 _ H1 .non .non E Q hS2 l1 hS1 .non hp2
      | brk => exact hp2.elim
      | cont => exact hp2.elim
    | exc e s1 => rw [hbd] at hp2; exact fun F1 io1 cls d σ H1 l1 r1 hS1 => finX_ok (rel := rV K T) hS2 l1 hS1 r1 hp2
    | stuck => rw [hbd] at hp2; exact hp2.elim
end
/-! ### how a star parameter binds -/
section
variable {P : Program} {w : World} {K : PySem.W.Frag} {mg : Str → Option Value} {base : Heap} {x qual : Str} {params : Arguments} {body : List Stmt} {scope : Scope} {kws : List (Str × V)} {f : Addr} {fd : FuncData} {T : Tb}
/-- all other parameters are written -/
theorem fn_starP [NoGh T] {N ps ks : List Str} {pv : Str} {k n np : Nat} {fin : Store → PV → Store → Res PV} {mb : SM} {sel : List Nat}
    (F : FunD K x qual params body scope [] kws f fd) (S : FnScope N (ps ++ [pv]) scope) (hf : FinOk K T fin) (hn : n = N.length) (hsel : (∀ i ∈ sel, i < np + ks.length) ∧ sel.length = ps.length)
    (hb : ∀ (kV doc pm : Value) (an : Option Addr) (cdv ct : Value) (us rest ws : List Value), us.length = np → ws.length = ks.length →
      bindArgs (PySem.W.fnOf x qual params body scope .none kV doc pm an cdv ct) ⟨us ++ rest, ks.zip ws⟩ = (newTuple rest >>= fun t => pure (ps.zip (pickL sel (us ++ ws)) ++ [(pv, t)])))
    (hbody : ∀ (cdv : Value) (A : Around) (outer : List PySem.Env) (s : Shared) (H : Hp) (E : XK), Room k (A.deeper (envOfC qual scope s.heap.objs.size f cdv)) →
      PSs (cxB P w K mg base N qual scope f cdv A outer s H E) body (tS K T (fun c d _ H' => E c d H') mb)) :
    FnH P w K mg base T (k + 1) f ks (starF np (fun vs zs => pickL sel (vs ++ zs)) (runDef fin n mb)) := by
  refine fn_starH (g := fun us ws => pickL sel (us ++ ws)) (gV := fun vs zs => pickL sel (vs ++ zs)) (gP := fun vs zs => pickL sel (vs ++ zs)) F S hf hn (fun us rest ws s A' Ex Q kIn h1 h2 h => ?_) (fun {vs zs us ws} r rz l1 l2 => ⟨pickL_vals (r.append rz), ?_⟩) (fun F io xs ys vs zs r rz l1 l2 => pickL_rs (r.append rz)) hbody
  · obtain ⟨oc, od, dV, kV, doc, pm, an, cdv, ct, osl, rfl, lk, hcd, hD, hK⟩ := F.ex
    rcases hD with ⟨_, rfl⟩ | ⟨e, _⟩
    · rw [hb kV doc pm an cdv ct us rest ws h1 h2]; exact h
    · exact absurd rfl e
  · rw [pickL_len]
    · exact hsel.2
    · intro i hi
      have := hsel.1 i hi
      rw [List.length_append, ← r.length, ← rz.length, l1, l2]
      exact this
end
end Mir
/-! Mir, part T: star arguments; new instances and class methods called with them. -/
namespace Mir
open PySem PySem.Spec PyProof.Rows L2
/-- the items of a, then r -/
def aStar (a : EM) (r : AM) : AM := fun σ s => (a σ s).bind fun x s1 => match itemsOf s1 x with
  | some xs => (r σ s1).bind fun ys s2 => .ok (xs ++ ys) s2
  | none => .stuck
@[simp] theorem aStar_ap (a : EM) (r : AM) (σ : Env) (s : Store) : aStar a r σ s = (a σ s).bind fun x s1 => (match itemsOf s1 x with
  | some xs => (r σ s1).bind fun ys s2 => .ok (xs ++ ys) s2
  | none => .stuck) := rfl
section
variable {X : Cx} {T : Tb} {W : WX} {e a : Expr} {es : List Expr} {ma : EM} {mr : AM} {p : Pos}
theorem ma_star (ha : PE X a (tE X.K T W ma)) (hr : PA X es (tL X.K T W mr)) (hs : starEach (.Starred a p :: es) X.env = (true, eval a X.env) :: starEach es X.env := by rfl) : PA X (.Starred a p :: es) (tL X.K T W (aStar ma mr)) := by
  refine PA.weak (StX.pa_star ha hr hs) fun σ H Q ⟨P, F, io, en, s, hE, hS, hp⟩ => ?_
  refine tE_use hE hS hp fun v H1 F1 io1 x s1 hE1 rx hS1 l1 hp1 => ?_
  cases hi : itemsOf s1 x with
  | none => rw [hi] at hp1; exact hp1.elim
  | some xs =>
    rw [hi] at hp1
    obtain ⟨q, vs, e1, e2, e3⟩ := hS1.seq rx hi
    refine ⟨q, vs, e1, e2.symm, ?_⟩
    refine tL_use hE1 hS1 hp1 fun ws H2 F2 io2 ys s2 hE2 rys hS2 l2 hp2 => ?_
    exact hp2.ok_of Le.refl ((e3.mono l2).append rys) hS2
end
/-! ### callWith with a star and keywords -/
theorem callWith_SK {M : Model} {A : Around} {E : Value → Shared → Prop} {s : Shared} {f : Value} {first : List Value} {pos : Pos} {Q : Value → Shared → Prop} {P : Heap → Prop} {args : List (Bool × Sem Value)} {kws : List (Option Str × Sem Value)} (hst : args.any (·.1) = true)
    (hk : ∀ h, P h → ∃ k, (k = Keeper.frame ∨ k = Keeper.machine ∨ k = Keeper.boundFrame) ∧ PySem.W.Looks M h (keeperOf f) k)
    (h : wpAny M A (evalArgs f true args kws) (fun a s₁ => P s₁.heap ∧ wpAny M A (call f (first ++ a.pos) a.kw) Q E s₁) E s) : wpAny M A (callWith pos f first args kws) Q E s := by
  unfold callWith
  refine wpAny_bind (wpAny_holding (wpAny_mono h (fun a s₁ h₁ => wpAny_bind (wpAny_standAt ?_)) fun _ _ x => x))
  obtain ⟨k, hk', L⟩ := hk _ h₁.1
  simp only [hst, Bool.true_or]
  refine wpAny_bind (L.here ?_)
  have tail : ∀ {t : Sem Value}, wpAny M A t Q E s₁ → wpAny M A (t >>= fun r => holding [r] point >>= fun _ => pure r) Q E s₁ :=
    fun ht => wpAny_bind (wpAny_mono ht (fun r s₂ hr => wpAny_bind (wpAny_holding (wpAny_point (wpAny_pure hr)))) fun _ _ x => x)
  have marked (mk : Value) : wpAny M A (callMarked mk f (first ++ a.pos) a.kw) Q E s₁ := by unfold callMarked; exact Calls.wpAny_keep h₁.2
  rcases hk' with rfl | rfl | rfl <;> dsimp only <;> first | exact tail (marked _) | exact tail (wpAny_operating h₁.2)
section
variable {X : Cx} {T : Tb} {W : WX} {k n : Nat} {f C : Addr} {ks : List Str} {h : List PV → List PV → Store → Res PV} {x m : Str} {p pos apos : Pos} {e o : Expr} {es : List Expr} {kws : List Keyword} {ma mk : AM} {mo : EM}
/-- a class called by values -/
theorem new_valH {c : Nat} {fin : Store → PV → Store → Res PV} (hfin : FinOk X.K T fin) {pins : List (Addr × Obj)} {σ : L2.St} {H : Hp} {s : Shared} {Q : VK} {us ws : List Value} {vs zs : List V} {P F : Hp} {io : List Addr} {xs ys : List PV} {st : Store}
    (M : Mk X.K (T.ca c) f) (G : FnH X.prog X.w X.K X.mg X.base T k f ks h) (hr : Room (k + 1) X.A) (tk : Takes X W) (I : Inv X pins σ H s) (r : Vals vs us) (rz : Vals zs ws) (l2 : zs.length = ks.length)
    (rx : Rs X.K T F io xs vs) (ry : Rs X.K T F io ys zs) (hS : RS X.K T P F io st H) (hp : Post X.K T P (rV X.K T) (fun c d H' => W c d σ H') F io (newOf c fin h xs ys st) Q) : wpAny (model X.prog X.w) X.A (call (.ref (T.ca c)) us (ks.zip ws)) (EP X pins σ Q) X.xe s := by
  have n1 : H s.heap.objs.size = none := I.hok.fresh (Nat.le_refl _)
  have n2 : H (s.heap.objs.size + 1) = none := I.hok.fresh (Nat.le_succ _)
  have ne : s.heap.objs.size ≠ s.heap.objs.size + 1 := Nat.ne_of_lt (Nat.lt_succ_self _)
  have I2 := Inv.made (C := T.ca c) I
  have hS1 : RS X.K T P F io st (upd H s.heap.objs.size (.own (s.heap.objs.size + 1))) := hS.other n1
  obtain ⟨le, hS2⟩ := hS1.push (p := s.heap.objs.size + 1) (o := .ins (T.ca c) s.heap.objs.size []) (c := .ins c []) (by rw [upd_ne (Ne.symm ne)]; exact n2) (.ins (by simp) .nil)
  have rloc : R X.K T F (io ++ [s.heap.objs.size + 1]) (.loc st.length) (.ref (s.heap.objs.size + 1)) := .loc (by rw [hS.len]; simp)
  have r1 : Vals (V.ref (s.heap.objs.size + 1) :: vs) (Value.ref (s.heap.objs.size + 1) :: us) := .cons rfl r
  have hin : Post X.K T P (rV X.K T) (fun c d H' => W c d σ H') F (io ++ [s.heap.objs.size + 1]) (h (.loc st.length :: xs) ys (st ++ [.ins c []])) fun v H2 => v = .non ∧ Q (.ref (s.heap.objs.size + 1)) H2 := by
    unfold newOf at hp
    cases hm : h (.loc st.length :: xs) ys (st ++ [.ins c []]) with
    | ok z s1 =>
      simp only [hm] at hp
      intro F2 io2 v H2 l2' rz2 hS2'
      cases z with
      | non =>
        cases rz2
        exact ⟨rfl, hfin P F F2 io io2 st s1 H H2 _ _ _ Q hS (le.trans l2') hS2' (rloc.mono l2') hp⟩
      | _ => exact hp.elim
    | exc e s1 =>
      simp only [hm] at hp
      intro F2 io2 cls d H2 l2' rx2 hS2'
      exact finX_ok (rel := rV X.K T) hS (le.trans l2') hS2' rx2 hp
    | stuck => simp only [hm] at hp; exact hp.elim
  refine wpAny_call (make_map (f := f) I.kIn M.makes M.init (beq_iff_eq.mp M.fn) (codeAny_mono (G _ X.stack _ _ (Value.ref (s.heap.objs.size + 1) :: us) ws (V.ref (s.heap.objs.size + 1) :: vs) zs P F (io ++ [s.heap.objs.size + 1]) (.loc st.length :: xs) ys (st ++ [.ins c []]) _ (fun c d H' => W c d σ H') (hr.make (T.ca c) us (ks.zip ws))
    (I2.env0.make (T.ca c) us (ks.zip ws)) r1 rz l2 (.cons rloc (rx.mono le)) (ry.mono le) hS2 hin) fun r s' hq' => ?_))
  cases r with
  | error e => exact passAt tk σ pins _ _ e s' I2 hq'
  | ok fl =>
    cases fl with
    | ret u =>
      obtain ⟨v, H', I3, rv, ev, q3⟩ := I2.after hq'
      subst ev
      exact ⟨rv, ⟨V.ref (s.heap.objs.size + 1), H', I3, rfl, q3⟩⟩
    | next => exact False.elim hq'
    | brk => exact False.elim hq'
    | cont => exact False.elim hq'
/-- C(e, .., k = v): C a class of the module, no star among the arguments -/
theorem me_newH {c : Nat} {fin : Store → PV → Store → Res PV} (hfin : FinOk X.K T fin) (M : Mk X.K (T.ca c) f) (G : FnH X.prog X.w X.K X.mg X.base T k f ks h) (hr : Room (k + 1) X.A) (tk : Takes X W) (hg : Gl X x) (hm : X.mg x = some (.ref (T.ca c)))
    (ha : PA X (e :: es) (tL X.K T W ma)) (hkw : PK X kws (tL X.K T W mk)) (lk : LenA mk ks.length) (hall : (backToKw pos (keywordEach kws X.env)).all (·.1.isSome) = true := by rfl) (hks : (backToKw pos (keywordEach kws X.env)).filterMap (·.1) = ks := by rfl)
    (hdb : (x == ("__debug__" : Str)) = false := by decide) (he : starEach (e :: es) X.env = (false, eval e X.env) :: starEach es X.env := by rfl)
    (hpl : ((backTo pos (starEach (e :: es) X.env)).any (·.1) || (backToKw pos (keywordEach kws X.env)).any (·.1.isNone)) = false := by rfl) : PE X (.Call (.Name x p) (e :: es) kws pos) (tE X.K T W (eCallK (newOf c fin h) ma mk)) := by
  refine ⟨fun pins s σ H Q I ⟨P, F, io, en, st, hE, hS, hp⟩ => ?_⟩
  refine wpAny_Call_Name_kw (ld_glob I hg hm ?_ hdb)
  refine PySem.W.callWith_KW (h₀ := X.base) I.ok.mod.kin M.kp hall (thn (ha.run pos pins s σ H _ I ⟨P, F, io, en, st, hE, hS, Post.bind (rel := rL X.K T) hp⟩) fun us s1 ⟨vs, H1, I1, r, F1, io1, xs, st1, le1, rx, hS1, hp1⟩ => ?_) hpl he
  refine thn (hkw.run pos pins s1 σ H1 _ I1 ⟨P, F1, io1, en, st1, hE.mono le1, hS1, (Post.bind (rel := rL X.K T) hp1).withLen lk⟩) fun ws s2 ⟨zs, H2, I2, rz, l2, F2, io2, ys, st2, le2, ry, hS2, hp2⟩ => ⟨I2.kIn, ?_⟩
  rw [hks]
  exact new_valH hfin M G hr tk I2 r rz l2 (rx.mono le2) ry hS2 hp2
/-- C(e, .., *y, k = v) -/
theorem me_newHS {c : Nat} {fin : Store → PV → Store → Res PV} (hfin : FinOk X.K T fin) (M : Mk X.K (T.ca c) f) (G : FnH X.prog X.w X.K X.mg X.base T k f ks h) (hr : Room (k + 1) X.A) (tk : Takes X W) (hg : Gl X x) (hm : X.mg x = some (.ref (T.ca c)))
    (ha : PA X (e :: es) (tL X.K T W ma)) (hkw : PK X kws (tL X.K T W mk)) (lk : LenA mk ks.length) (hall : (backToKw pos (keywordEach kws X.env)).all (·.1.isSome) = true := by rfl) (hks : (backToKw pos (keywordEach kws X.env)).filterMap (·.1) = ks := by rfl)
    (hdb : (x == ("__debug__" : Str)) = false := by decide) (he : starEach (e :: es) X.env = (false, eval e X.env) :: starEach es X.env := by rfl)
    (hst : (backTo pos (starEach (e :: es) X.env)).any (·.1) = true := by rfl) : PE X (.Call (.Name x p) (e :: es) kws pos) (tE X.K T W (eCallK (newOf c fin h) ma mk)) := by
  refine ⟨fun pins s σ H Q I ⟨P, F, io, en, st, hE, hS, hp⟩ => ?_⟩
  refine wpAny_Call_Name_kw (ld_glob I hg hm ?_ hdb)
  refine callWith_SK hst (PySem.W.keeps_K M.kp) (evalArgs_kw2 hall (thn (ha.run pos pins s σ H _ I ⟨P, F, io, en, st, hE, hS, Post.bind (rel := rL X.K T) hp⟩) fun us s1 ⟨vs, H1, I1, r, F1, io1, xs, st1, le1, rx, hS1, hp1⟩ => ?_) he)
  refine thn (hkw.run pos pins s1 σ H1 _ I1 ⟨P, F1, io1, en, st1, hE.mono le1, hS1, (Post.bind (rel := rL X.K T) hp1).withLen lk⟩) fun ws s2 ⟨zs, H2, I2, rz, l2, F2, io2, ys, st2, le2, ry, hS2, hp2⟩ => ⟨I2.kIn, ?_⟩
  rw [hks]
  exact new_valH hfin M G hr tk I2 r rz l2 (rx.mono le2) ry hS2 hp2
/-- a class's number, held in a slot, then what is made -/
def eAtCls (i c : Nat) (m : EM) : EM := fun σ s => match σ[i]? with
  | some (some (.cls d)) => if d = c then m σ s else .stuck
  | _ => .stuck
@[simp] theorem eAtCls_ap (i c : Nat) (m : EM) (σ : Env) (s : Store) : eAtCls i c m σ s = (match σ[i]? with
  | some (some (.cls d)) => if d = c then m σ s else .stuck
  | _ => .stuck) := rfl
/-- cls(e, .., *y, k = v): cls a local name -/
theorem me_newLS {c i : Nat} {fin : Store → PV → Store → Res PV} (hfin : FinOk X.K T fin) (M : Mk X.K (T.ca c) f) (G : FnH X.prog X.w X.K X.mg X.base T k f ks h) (hr : Room (k + 1) X.A) (tk : Takes X W) (hx : ∀ p, PE X (.Name x p) (tVar i))
    (ha : PA X (e :: es) (tL X.K T W ma)) (hkw : PK X kws (tL X.K T W mk)) (lk : LenA mk ks.length) (hall : (backToKw pos (keywordEach kws X.env)).all (·.1.isSome) = true := by rfl) (hks : (backToKw pos (keywordEach kws X.env)).filterMap (·.1) = ks := by rfl)
    (he : starEach (e :: es) X.env = (false, eval e X.env) :: starEach es X.env := by rfl)
    (hst : (backTo pos (starEach (e :: es) X.env)).any (·.1) = true := by rfl) : PE X (.Call (.Name x p) (e :: es) kws pos) (tE X.K T W (eAtCls i c (eCallK (newOf c fin h) ma mk))) := by
  refine ⟨fun pins s σ H Q I ⟨P, F, io, en, st, hE, hS, hp⟩ => ?_⟩
  unfold eAtCls at hp
  split at hp
  case h_2 => exact hp.elim
  rename_i d hd
  split at hp
  case isFalse => exact hp.elim
  rename_i hdc
  subst hdc
  obtain ⟨v, hv, rv⟩ := hE.at_ i _ hd
  cases rv
  refine wpAny_Call_Name_kw (thn ((hx p).run pins s σ H (fun u H' => u = .ref (T.ca d) ∧ H' = H) I ⟨_, hv, rfl, rfl⟩) fun u s0 ⟨y, H0, I0, ry, ey, eH⟩ => ?_)
  subst ey eH
  obtain rfl : u = Value.ref (T.ca d) := ry
  refine callWith_SK hst (PySem.W.keeps_K M.kp) (evalArgs_kw2 hall (thn (ha.run pos pins s0 σ _ _ I0 ⟨P, F, io, en, st, hE, hS, Post.bind (rel := rL X.K T) hp⟩) fun us s1 ⟨vs, H1, I1, r, F1, io1, xs, st1, le1, rx, hS1, hp1⟩ => ?_) he)
  refine thn (hkw.run pos pins s1 σ H1 _ I1 ⟨P, F1, io1, en, st1, hE.mono le1, hS1, (Post.bind (rel := rL X.K T) hp1).withLen lk⟩) fun ws s2 ⟨zs, H2, I2, rz, l2, F2, io2, ys, st2, le2, ry, hS2, hp2⟩ => ⟨I2.kIn, ?_⟩
  rw [hks]
  exact new_valH hfin M G hr tk I2 r rz l2 (rx.mono le2) ry hS2 hp2
end
end Mir
/-! Mir, part T2: class methods called through their class. -/
namespace Mir
open PySem PySem.Spec PyProof.Rows L2
section
variable {X : Cx} {T : Tb} {W : WX} {k n : Nat} {f C : Addr} {ks : List Str} {h : List PV → List PV → Store → Res PV} {x m : Str} {p pos apos : Pos} {e o : Expr} {es : List Expr} {kws : List Keyword} {ma mk : AM} {mo : EM} {mc : Value} {pr g : Addr} {pl : Sem Bool}
/-- C.m(e, .., k = v): m a class method of the class C of the module -/
theorem me_cmethK {c : Nat} (r : ClX.CRead X.K (T.ca c) mc) (cm : ClX.CMet X.K (T.ca c) mc m pr g) (G : FnH X.prog X.w X.K X.mg X.base T k g ks h) (hr : Room k X.A) (tk : Takes X W) (hg : Gl X x) (hm : X.mg x = some (.ref (T.ca c)))
    (ha : PA X (e :: es) (tL X.K T W ma)) (hkw : PK X kws (tL X.K T W mk)) (lk : LenA mk ks.length) (hall : (backToKw pos (keywordEach kws X.env)).all (·.1.isSome) = true := by rfl) (hks : (backToKw pos (keywordEach kws X.env)).filterMap (·.1) = ks := by rfl)
    (hdb : (x == ("__debug__" : Str)) = false := by decide) (he : starEach (e :: es) X.env = (false, eval e X.env) :: starEach es X.env := by rfl)
    (hpl : ((backTo pos (starEach (e :: es) X.env)).any (·.1) || (backToKw pos (keywordEach kws X.env)).any (·.1.isNone)) = false := by rfl)
    (ht : eval (.Call (.Attribute (.Name x p) m apos) (e :: es) kws pos) X.env = (do
      let ov ← eval (.Name x p) X.env
      standAt apos.atName
      let (f, first) ← holding [ov] (getMethod ov m pl)
      callWith pos f first (backTo pos (starEach (e :: es) X.env)) (backToKw pos (keywordEach kws X.env))) := by rfl) :
    PE X (.Call (.Attribute (.Name x p) m apos) (e :: es) kws pos) (tE X.K T W (eCallK (fun vs zs => h (.cls c :: vs) zs) ma mk)) := by
  refine ⟨fun pins s σ H Q I ⟨P, F, io, en, st, hE, hS, hp⟩ => ?_⟩
  refine PySem.W.methodCall_KW (pl := pl) (thn ((pe_glob (v := .ref (T.ca c)) hg hm rfl hdb).run pins s σ H (fun u H' => u = .ref (T.ca c) ∧ H' = H) I ⟨rfl, rfl⟩) fun u s1 ⟨y, H0, I1, ry, ey, eH⟩ => ?_) ht
  subst ey eH
  obtain rfl : u = Value.ref (T.ca c) := ry
  refine ClX.getmethcm_ok I1 r cm fun s2 I2 => ?_
  have hb := ClX.base_none I1 (Nat.le_refl s1.heap.objs.size)
  refine PySem.W.callWith_of (P := PySem.W.MethP X.K s1.heap.objs.size g (.ref (T.ca c))) hpl (PySem.W.keeps_M cm.fi) (evalArgs_kw2 hall (thn (ha.run pos _ s2 σ _ _ I2 ⟨P, F, io, en, st, hE, hS, Post.bind (rel := rL X.K T) hp⟩) fun us s3 ⟨vs, H2, I3, rv, F1, io1, xs, st1, le1, rx, hS1, hp1⟩ => ?_) he)
  refine thn (hkw.run pos _ s3 σ H2 _ I3 ⟨P, F1, io1, en, st1, hE.mono le1, hS1, (Post.bind (rel := rL X.K T) hp1).withLen lk⟩) fun ws s4 ⟨zs, H3, I4, rz, l2, F2, io2, ys, st2, le2, ry2, hS2, hp2⟩ => ⟨⟨ClX.pin_at I4, I4.kIn⟩, ?_⟩
  rw [hks]
  have z : wpAny (model X.prog X.w) X.A (call (.ref s1.heap.objs.size) us (ks.zip ws)) (EP X ((s1.heap.objs.size, PySem.W.methodObj (.ref g) (.ref (T.ca c))) :: pins) σ Q) X.xe s4 := by
    refine wpAny_call (PySem.W.method_call (ClX.pin_at I4) (codeAny_mono (G X.A X.stack s4 H3 (Value.ref (T.ca c) :: us) ws (V.ref (T.ca c) :: vs) zs P F2 io2 (.cls c :: xs) ys st2 Q (fun cc d H' => W cc d σ H') hr I4.env0 (.cons rfl rv) rz l2 (.cons (.cls c) (rx.mono le2)) ry2 hS2 hp2) fun r s' hq => ?_))
    cases r with
    | error e => exact passAt tk σ _ H3 _ e s' I4 hq
    | ok fl =>
      cases fl with
      | ret u => exact I4.after hq
      | next => exact False.elim hq
      | brk => exact False.elim hq
      | cont => exact False.elim hq
  exact thn z fun _ _ y => ClX.unpinE y
end
/-! ### class constants read through an instance -/
end Mir
/-! Mir, part T3: .get of a written dict; constants of a class; a = b = v; insert. -/
namespace Mir
open PySem PySem.Spec PyProof.Rows L2
/-! ### .get of a dict of the module that is never changed -/
def rowsB (K : PySem.W.Frag) : List DictEntry → List (List Nat × PV) → Bool
  | [], [] => true
  | e :: es, (k, v) :: D => (match e.key with
    | .str z _ => decide (z.cps.toList = k)
    | _ => false) && (okC K v e.val && rowsB K es D)
  | _, _ => false
def dicB (x : Str) (D : List (List Nat × PV)) (K : PySem.W.Frag) : Bool := match PySem.W.nsIn K mainGlobals x with
  | some (some (.ref a)) => !(a == sysModules) && (match K.lookup a with
    | some ⟨.type c, none, .dict es _, sl⟩ => decide (c = "dict") && (decide (sl = #[]) && rowsB K es.toList D)
    | _ => false)
  | _ => false
theorem rowsB_ok {K : PySem.W.Frag} : ∀ {es : List DictEntry} {D : List (List Nat × PV)}, rowsB K es D = true → KTD.Rows (fun (d : PV) v => okC K d v = true) es (D.map fun p => (St8 p.1, p.2))
  | [], [], _ => .nil
  | e :: es, (k, v) :: D, h => by
    simp only [rowsB, Bool.and_eq_true] at h
    obtain ⟨h1, h2, h3⟩ := h
    split at h1
    · rename_i z t hk
      have hz : z = St8 k := by
        have := of_decide_eq_true h1
        subst this
        simp [St8]
      subst hz
      exact .cons hk h2 (rowsB_ok h3)
    · cases h1
  | [], _ :: _, h => by cases h
  | _ :: _, [], h => by cases h
theorem dicB_ok {K : PySem.W.Frag} {h : Heap} {mg : Str → Option Value} (X : K.In h) (G : h.Ns mainGlobals mg) {x : Str} {D : List (List Nat × PV)} (c : dicB x D K = true) :
    ∃ a, mg x = some (.ref a) ∧ ∀ h', K.In h' → KTD.TabOf (fun (d : PV) v => okC K d v = true) h' a (D.map fun p => (St8 p.1, p.2)) := by
  unfold dicB at c
  split at c
  · rename_i a e
    rw [Bool.and_eq_true] at c
    obtain ⟨c1, c2⟩ := c
    split at c2
    · rename_i cn es ep sl hl
      rw [Bool.and_eq_true, Bool.and_eq_true] at c2
      obtain ⟨h1, h2, h3⟩ := c2
      refine ⟨a, PySem.W.mg_of X G e, fun h' X' => ⟨by simpa using c1, _, es, ep, X' _ _ hl, ⟨congrArg Value.type (of_decide_eq_true h1), rfl, of_decide_eq_true h2⟩, rfl, rowsB_ok h3⟩⟩
    · cases c2
  · cases c
theorem datumAt_map {k : List Nat} : ∀ {D : List (List Nat × PV)}, KTD.datumAt (St8 k) (D.map fun p => (St8 p.1, p.2)) = D.lookup k
  | [] => rfl
  | (x, d) :: D => by
    simp only [List.map_cons, KTD.datumAt, List.lookup]
    by_cases h : k = x
    · subst h; simp
    · have : ¬ (St8 k = St8 x) := fun e => h (by
        have := congrArg (fun z : Str => z.cps.toList) e
        simpa [St8] using this)
      rw [if_neg (by simp [this]), datumAt_map]
      have h2 : (k == x) = false := beq_eq_false_iff_ne.mpr h
      rw [h2]
section
variable {prog : Program} {w : World} {A : Around} {E : Value → Shared → Prop} {s : Shared} {a : Addr} {k : Str} {tk : Tok} {δ : Type} {R' : δ → Value → Prop} {D : List (Str × δ)}
theorem dictGet_tab {Q : Option Value → Shared → Prop} (T : KTD.TabOf R' s.heap a D) (h1 : ∀ d v, KTD.datumAt k D = some d → R' d v → Q (some v) { s with toks := s.toks + 1 }) (h2 : KTD.datumAt k D = none → Q none { s with toks := s.toks + 1 }) :
    wpAny (model prog w) A (dictGet a (.str k tk)) Q E s := by
  obtain ⟨_, o, es, ep, ho, hc, hd, hr⟩ := T
  unfold dictGet
  try with_reducible refine wpAny_holding ?_
  refine wpAny_bind (wpAny_pyHash_str (wpAny_bind (KTD.kt_dictFind_strs (s := { s with toks := s.toks + 1 }) ho hd (by obtain ⟨l⟩ := es; simpa using hr.exact) ?_)))
  have hq : Q (findBy (fun k v => v.isStr k) es k) { s with toks := s.toks + 1 } := by
    have hf : findBy (fun k v => v.isStr k) es k = (es.toList.find? fun e => e.key.isStr k).map (·.val) := by
      obtain ⟨l⟩ := es
      simp [findBy]
    rw [hf]
    cases hat : KTD.datumAt k D with
    | some d => obtain ⟨v, hv, hfl⟩ := hr.find_some hat; rw [hv]; exact h1 d v hat hfl
    | none => rw [hr.find_none hat]; exact h2 hat
  rw [findBy_of_findIdx?] at hq
  cases hi : es.findIdx? fun e => e.key.isStr k with
  | none => rw [hi] at hq; exact wpAny_pure hq
  | some i => rw [hi] at hq; exact wpAny_bind (wpAny_dictEntries (s := { s with toks := s.toks + 1 }) ho hd (wpAny_pure hq))
theorem meets_tab : MeetsIn prog w (Builtin.«dict.get» ⟨[.ref a, .str k tk], []⟩) (fun _ R s => KTD.TabOf R' s.heap a D ∧ (∀ d v, KTD.datumAt k D = some d → R' d v → R (.ok (.ret v)) { s with toks := s.toks + 1 }) ∧ (KTD.datumAt k D = none → R (.ok (.ret .none)) { s with toks := s.toks + 1 })) :=
  .of_wp fun A R s ⟨T, h1, h2⟩ => by
    show wpAny _ _ (dictGet a (.str k tk) >>= _) _ _ s
    refine wpAny_bind (dictGet_tab T (fun d v ha hv => wpAny_pure ⟨v, rfl, h1 d v ha hv⟩) fun hn => ?_)
    show wpAny _ _ (Builtin.Dict.missed a (.str k tk) >>= _) _ _ _
    exact wpAny_bind (wpAny_missed_other T.1 (wpAny_pure ⟨.none, rfl, h2 hn⟩))
end
/-- D.get(e), D a written dict -/
def eDGet (D : List (List Nat × PV)) (m : EM) : EM := fun σ s => (m σ s).bind fun x s1 => match x with
  | .str l => .ok ((D.lookup l).getD .non) s1
  | _ => .stuck
@[simp] theorem eDGet_ap (D : List (List Nat × PV)) (m : EM) (σ : Env) (s : Store) : eDGet D m σ s = (m σ s).bind fun x s1 => (match x with
  | .str l => .ok ((D.lookup l).getD .non) s1
  | _ => .stuck) := rfl
section
variable {X : Cx} {T : Tb} {W : WX} {e : Expr} {me : EM} {x : Str} {p pos apos cpos : Pos} {D : List (List Nat × PV)}
theorem me_dget (hg : Gl X x) (h : ∃ a, X.mg x = some (.ref a) ∧ ∀ h', X.K.In h' → KTD.TabOf (fun (d : PV) v => okC X.K d v = true) h' a (D.map fun p => (St8 p.1, p.2))) (he : PE X e (tE X.K T W me)) (m : M1 X (.Name x p) "get" apos e cpos) (hd : (x == ("__debug__" : Str)) = false := by decide) :
    PE X (.Call (.Attribute (.Name x p) "get" apos) [e] [] cpos) (tE X.K T W (eDGet D me)) := by
  obtain ⟨a, ha, hT⟩ := h
  refine ⟨fun pins s σ H Q I ⟨P, F, io, en, st, hE, hS, hp⟩ => ?_⟩
  refine wpAny_Call_method m.base m.few m.line PySem.F.plainAttrs_dict PySem.F.slot_dict_get PySem.F.type_dict_get (thn ((pe_glob (v := .ref a) hg ha rfl hd).run pins s σ H (fun u H' => u = .ref a ∧ H' = H) I ⟨rfl, rfl⟩) fun u s1 ⟨y, H0, I1, ry, ey, eH⟩ => ?_)
  subst ey eH
  obtain rfl : u = Value.ref a := ry
  obtain ⟨h0, o, es, ep, ho, hc, hdd, hr⟩ := hT s1.heap I1.kIn
  refine ⟨⟨o, ho, hc.1⟩, fun b e => by injection e with e; subst e; exact ⟨o, ho, hc.2.1⟩, ?_⟩
  rw [m.trees]
  refine Calls.callWith_builtin rfl (Calls.evalArgs_plain (Calls.spliced_cons (thn (he.run pins s1 σ _ _ I1 ⟨P, F, io, en, st, hE, hS, Post.bind (rel := rV X.K T) hp⟩) fun iv s2 ⟨y, H2, I2, ry, F2, io2, xv, st2, le2, rx, hS2, hp2⟩ => Calls.spliced_nil ?_)))
  cases rx with
  | str l =>
    obtain ⟨t, rfl⟩ := ry
    have T2 := hT s2.heap I2.kIn
    refine call_meetsIn PySem.F.slot_dict_get ⟨_, T2.2.choose_spec.choose_spec.choose_spec.1, T2.2.choose_spec.choose_spec.choose_spec.2.1.1⟩ PySem.F.entry_dict_get (PySem.F.args_dict_get_2 _ _) (meets_tab (D := D.map fun p => (St8 p.1, p.2)) (R' := fun (d : PV) v => okC X.K d v = true)) ⟨T2, fun d v hdat hv => ?_, fun hn => ?_⟩
    · rw [datumAt_map] at hdat
      obtain ⟨vv, r1, r2⟩ := okC_ok (T := T) d v hv
      simp only [hdat, Option.getD_some] at hp2
      exact ⟨vv, _, I2.tok _, r1, hp2.ok_of Le.refl (r2 _ _) hS2⟩
    · rw [datumAt_map] at hn
      simp only [hn, Option.getD_none] at hp2
      exact ⟨.non, _, I2.tok _, rfl, hp2.ok_of Le.refl .non hS2⟩
  | _ => exact hp2.elim
end
end Mir
/-! Mir, part T4: constants of a class; a = b = v; insert. -/
namespace Mir
open PySem PySem.Spec PyProof.Rows L2
/-! ### constants of the class, read through an instance -/
structure ConS (K : PySem.W.Frag) (T : Tb) (f : Str) (c : Nat) (i : Int) : Prop where
  cl : Cls K (T.ca c)
  con : ∃ u, Con K (T.ca c) f (.int i) u
  no : f ∉ T.fl c
def ccB (C f : Str) (i : Int) (K : PySem.W.Frag) : Bool := match PySem.W.findIn K (.ref (He.ga K C)) f with
  | some (some (.int j t)) => decide (i = j) && (decide (PySem.W.specialIn K (.int j t) "__get__" = some none) && !(PySem.W.copiedNames.contains f))
  | _ => false
theorem ccB_ok {K : PySem.W.Frag} {C f : Str} {i : Int} (h : ccB C f i K = true) : ∃ u, Con K (He.ga K C) f (.int i) u := by
  unfold ccB at h
  split at h
  · rename_i j t e
    simp only [Bool.and_eq_true, decide_eq_true_eq] at h
    obtain ⟨rfl, h2, h3⟩ := h
    exact ⟨_, e, ⟨t, rfl⟩, h2, by simpa using h3⟩
  · cases h
/-- o.f, f a constant of o's class -/
def eCCon (tab : List (Nat × Int)) (o : EM) : EM := fun σ s => (o σ s).bind fun x s1 => match deref s1 x with
  | .ins c _ => (match tab.lookup c with
    | some i => .ok (.int i) s1
    | none => .stuck)
  | _ => .stuck
@[simp] theorem eCCon_ap (tab : List (Nat × Int)) (o : EM) (σ : Env) (s : Store) : eCCon tab o σ s = (o σ s).bind fun x s1 => (match deref s1 x with
  | .ins c _ => (match tab.lookup c with
    | some i => .ok (.int i) s1
    | none => .stuck)
  | _ => .stuck) := rfl
theorem lookup_no {α : Type} {f : Str} : ∀ {l : List (Str × α)}, f ∉ l.map (·.1) → l.lookup f = none
  | [], _ => rfl
  | (x, v) :: l, h => by
    simp only [List.map_cons, List.mem_cons, not_or] at h
    simp only [List.lookup]
    rw [beq_eq_false_iff_ne.mpr h.1]
    exact lookup_no h.2
section
variable {X : Cx} {T : Tb} {W : WX} {o e value : Expr} {es : List Expr} {f x : Str} {pos pos' : Pos} {mo mv me : EM} {ma : AM}
theorem me_ccon {tab : List (Nat × Int)} (ho : PE X o (tE X.K T W mo)) (G : ∀ q ∈ tab, ConS X.K T f q.1 q.2) (hb : attributeBase o f X.env (eval o X.env) = eval o X.env := by rfl) : PE X (.Attribute o f pos) (tE X.K T W (eCCon tab mo)) := by
  refine PE.weak (pe_con ho hb) fun σ H Q ⟨P, F, io, en, st, hE, hS, hp⟩ => ?_
  refine tE_use hE hS hp fun v H1 F1 io1 x s1 hE1 rx hS1 l1 hp1 => ?_
  cases hd : deref s1 x with
  | ins c vs =>
    simp only [hd] at hp1
    cases hl : tab.lookup c with
    | none => simp only [hl] at hp1; exact hp1.elim
    | some i =>
      simp only [hl] at hp1
      have g := G _ (lookup_mem hl)
      obtain ⟨a, dx, fv, rfl, e2, e3, r4⟩ := hS1.inst rx hd
      obtain ⟨u, hc⟩ := g.con
      refine ⟨a, T.ca c, dx, fv, .int i, u, rfl, e2, g.cl, hc, lookup_no ?_, hp1.ok_of Le.refl (.int i) hS1⟩
      rw [e3]
      exact fun h => g.no (List.mem_of_mem_take h)
  | _ => simp only [hd] at hp1; exact hp1.elim
/-! ### insert -/
/-- xs.insert(i, y), i not below 0 -/
def mInsert : OMt := fun x vs s => match x, vs with
  | .loc n, [.int i, v] => (match s[n]? with
    | some (.lst xs) => if xs.length < sz ∧ 0 ≤ i ∧ i < 2 ^ 62 then .ok .non (s.set n (.lst (xs.take i.toNat ++ [v] ++ xs.drop i.toNat))) else .stuck
    | _ => .stuck)
  | _, _ => .stuck
theorem smt_insert {K : PySem.W.Frag} : ∀ P F io st x v vs us H Q, R K T F io x v → Rs K T F io vs us → RS K T P F io st H → Post K T P (rV K T) (fun _ _ _ => False) F io (noX (mInsert x vs st)) Q →
    ∃ (l : Addr) (xs : List V) (i : Int) (y : V), v = .ref l ∧ us = [.int i, y] ∧ H l = some (.lst xs) ∧ xs.length < sizeLine ∧ 0 ≤ i ∧ i < 2 ^ 63 ∧ Q .non (upd H l (.lst (xs.take i.toNat ++ [y] ++ xs.drop i.toNat))) := by
  intro P F io st x v vs us H Q rx rv hS hp
  unfold mInsert at hp
  split at hp
  · rename_i n i y
    obtain ⟨u1, u2, rfl, r1, r2⟩ := rv.two
    cases r1
    cases rx with
    | @loc a _ hi =>
      split at hp
      · rename_i xs hc
        split at hp
        · rename_i hz
          obtain ⟨o2, e2, e3⟩ := hS.loc hi hc
          cases e3 with
          | @lst _ us q =>
            refine ⟨a, us, i, u2, rfl, rfl, e2, by rw [← q.length]; have := hz.1; simp only [sz] at this; rw [sizeLine_eq]; omega, hz.2.1, by omega, hp.ok_of Le.refl .non (hS.put hi (.lst (((q.take _).append (.cons r2 .nil)).append (q.drop _))))⟩
        · exact hp.elim
      · exact hp.elim
  · exact hp.elim
end
/-! ### a = b = v -/
/-- two targets -/
noncomputable def sAsg2 (e : EM) (g1 g2 : GM) : SM := fun σ s => (e σ s).bind fun v s1 => (g1 v σ s1).bind fun σ1 s2 => (g2 v σ1 s2).bind fun σ2 s3 => .ok (σ2, .next) s3
@[simp] theorem sAsg2_ap (e : EM) (g1 g2 : GM) (σ : Env) (s : Store) : sAsg2 e g1 g2 σ s = (e σ s).bind fun v s1 => (g1 v σ s1).bind fun σ1 s2 => (g2 v σ1 s2).bind fun σ2 s3 => .ok (σ2, .next) s3 := rfl
section
variable {X : Cx} {T : Tb} {W : WX} {e : Expr} {me : EM} {x y : Str} {i j : Nat} {px py pos : Pos}
theorem ms_asg2 [GhSet T i] [GhSet T j] (he : PE X e (tE X.K T W me)) (hx : PG X (.Name x px) (L2.gName i)) (hy : PG X (.Name y py) (L2.gName j))
    (h1 : (assignEach [.Name x px, .Name y py] X.env).map (·.2) = [assign (.Name x px) X.env, assign (.Name y py) X.env] := by rfl)
    (hw : swappedStores [.Name x px, .Name y py] e X.env = pure none := by rfl) : PS X (.Assign [.Name x px, .Name y py] e pos) (tS X.K T W (sAsg2 me (Mir.gName i) (Mir.gName j))) := by
  refine ⟨fun pins s σ H D I ⟨P, F, io, en, st, hE, hS, hp⟩ => ?_⟩
  refine wpAny_Assign_two (thn (he.run pins s σ H (fun v H1 => D.nx ((σ.set i (some v)).set j (some v)) H1) I (PostS.use hE hS hp fun v H1 F1 io1 z s1 hE1 rz hS1 l1 hp1 => ?_)) fun v s1 ⟨z, H1, I1, r1, q1⟩ => ?_) h1 hw
  · exact hp1 F1 io1 _ H1 Le.refl ((hE1.set rz i).set rz j) hS1
  · refine thn (hx.run pins s1 σ H1 z v (fun σ' H' => σ' = σ.set i (some z) ∧ H' = H1) I1 r1 ⟨rfl, rfl⟩) fun _ s2 ⟨σ', H', I2, e1, e2⟩ => ?_
    subst e1 e2
    exact thn (hy.run pins s2 _ _ z v (fun σ' Hz => σ' = (σ.set i (some z)).set j (some z) ∧ Hz = H') I2 r1 ⟨rfl, rfl⟩) fun _ s3 ⟨σ', H'', I3, e1, e2⟩ => ⟨σ', H'', I3, by subst e1; subst e2; exact q1⟩
end
/-! ### list(e), a new list -/
/-- the items -/
def aItems (a : EM) : AM := fun σ s => (a σ s).bind fun x s1 => match itemsOf s1 x with
  | some xs => .ok xs s1
  | none => .stuck
@[simp] theorem aItems_ap (a : EM) (σ : Env) (s : Store) : aItems a σ s = (a σ s).bind fun x s1 => (match itemsOf s1 x with
  | some xs => .ok xs s1
  | none => .stuck) := rfl
section
variable {X : Cx} {T : Tb} {W : WX} {e : Expr} {ma : EM} {x : Str} {p pos : Pos}
theorem mf_list (hg : Gl X x) (hm : X.mg x = none) (hv : bootBuiltins x = some (.type "list")) (ha : PE X e (tE X.K T W ma)) (hn : x ≠ "__name__" := by decide) (hdb : (x == ("__debug__" : Str)) = false := by decide)
    (he : starEach [e] X.env = (false, eval e X.env) :: starEach [] X.env := by rfl) (hpl : (backTo pos (starEach [] X.env)).any (·.1) = false := by rfl) : PE X (.Call (.Name x p) [e] [] pos) (tF X.K T W (aItems ma)) := by
  refine PE.weak (pe_callTy call_list_of hg hm hv (pa_cons ha pa_nil he) hn hdb he hpl) fun σ H Q ⟨P, F, io, en, s, hE, hS, hp⟩ => ?_
  refine ⟨P, F, io, en, s, hE, hS, ?_⟩
  refine Post.mono (NewL.bind (rel := rV X.K T) hp) fun v H1 ⟨F1, io1, y, s1, l1, rx, hS1, hp1⟩ => ?_
  simp only at hp1
  cases hi : itemsOf s1 y with
  | none => rw [hi] at hp1; exact hp1.elim
  | some xs =>
    rw [hi] at hp1
    obtain ⟨a, us, rfl, q, r⟩ := hS1.seq rx hi
    exact ⟨a, us, rfl, q, fun z np => hp1 F1 io1 z us H1 Le.refl r hS1 np⟩
end
end Mir
/-! Mir, part V2: the head's facts with class methods; defaults that are objects. -/
namespace Mir
open PySem PySem.Spec PyProof.Rows L2
abbrev AlC : Type := AlN × List He.FnW
def obsC (fa : List He.Fa) (fn : List He.DefD) (xs : List XcD) (cs : List He5.DefA) (ex : Ex) (K : PySem.W.Frag) : AlC := (obsN fa fn xs ex K, cs.map fun d => He5.fnA K (d.at_ K))
def obsCG (n : Nat) (fa : List He.Fa) (fn : List He.DefD) (xs : List XcD) (cs : List He5.DefA) (ex : Ex) (g : Addr → Option Obj) : AlC := obsC fa fn xs cs ex (He.frG g (asX g n))
def valC (fn : List He.DefD) (xs : List XcD) (cs : List He5.DefA) : AlC := (valN fn xs, cs.map He5.DefA.val)
def hookC (n : Nat) (fa : List He.Fa) (fn : List He.DefD) (xs : List XcD) (cs : List He5.DefA) (ex : Ex) : PySem.W.Hook where
  α := AlC
  obs := fun s => obsCG n fa fn xs cs ex s.heap.get?
  val := fun _ => valC fn xs cs
  says := fun _ h => ∃ K : PySem.W.Frag, K.In h ∧ obsC fa fn xs cs ex K = valC fn xs cs
  of := fun _ _ e => ⟨_, He.frG_in, e⟩
  keeps := fun _ _ _ ⟨K, hK, c⟩ k => ⟨K, PySem.W.Frag.In.keeps hK k, c⟩
theorem obsCG_eq {n : Nat} {fa : List He.Fa} {fn : List He.DefD} {xs : List XcD} {cs : List He5.DefA} {ex : Ex} {g : Addr → Option Obj} {s : Shared} (h : ∀ a, g a = s.heap.get? a) : obsCG n fa fn xs cs ex g = (hookC n fa fn xs cs ex).obs s := by
  have e : g = s.heap.get? := funext h
  rw [e] <;> rfl
structure SaysC (P : Program) (file0 : Str) (fa : List He.Fa) (fn : List He.DefD) (xs : List XcD) (cs : List He5.DefA) (ex : Ex) (K : PySem.W.Frag) : Prop where
  eqc : obsC fa fn xs cs ex K = valC fn xs cs
  file : P.main.file = file0
  sup : (P.main.scope.names.lookup ("super" : Str)).isSome = false
section
variable {P : Program} {file0 : Str} {fa : List He.Fa} {fn : List He.DefD} {xs : List XcD} {cs : List He5.DefA} {ex : Ex} {K : PySem.W.Frag}
theorem SaysC.n (c : SaysC P file0 fa fn xs cs ex K) : SaysN P file0 fa fn xs ex K := ⟨congrArg (fun z : AlC => z.1) c.eqc, c.file, c.sup⟩
theorem SaysC.d (c : SaysC P file0 fa fn xs cs ex K) : He.SaysD fa fn K := c.n.d
theorem SaysC.xx (c : SaysC P file0 fa fn xs cs ex K) (i : Nat) {f : PySem.W.Frag → Bool} (h : ex[i]? = some f := by rfl) : f K = true := c.n.xx i h
/-- a class method's def -/
theorem SaysC.cm (c : SaysC P file0 fa fn xs cs ex K) (i : Nat) {d : He5.DefA} (h : cs[i]? = some d) {j : Nat} (hx : ex[j]? = some fun K => d.ok K) : ∃ fd, FunD K d.name d.qual d.params d.body d.scope (d.dvs K) (d.kws K) (d.at_ K) fd := by
  have e : cs.map (fun d => He5.fnA K (d.at_ K)) = cs.map He5.DefA.val := congrArg (fun z : AlC => z.2) c.eqc
  have e2 : (cs.map fun d => He5.fnA K (d.at_ K))[i]? = (cs.map He5.DefA.val)[i]? := by rw [e]
  rw [List.getElem?_map, List.getElem?_map, h] at e2
  exact He5.DefA.funD (Option.some.inj e2) (c.xx j hx)
/-- the class C, read as a class, and its class method m -/
def cmB (C m : Str) (K : PySem.W.Frag) : Bool := PySem.W.readsIn K (He.ga K C) (.type "type") && (He5.wrapB K (He.ga K C) "classmethod" "classmethod.__get__" m && PySem.W.fnIn K (He5.wf K (He.ga K C) "classmethod" m))
theorem cmB_ok {C m : Str} (h : cmB C m K = true) : ClX.CRead K (He.ga K C) (.type "type") ∧ ClX.CMet K (He.ga K C) (.type "type") m (He.ma K (He.ga K C) m) (He5.wf K (He.ga K C) "classmethod" m) := by
  unfold cmB at h
  rw [Bool.and_eq_true, Bool.and_eq_true] at h
  obtain ⟨h1, h2, h3⟩ := h
  refine ⟨⟨h1, ?_⟩, He5.cmet_of h2 h3⟩
  have h := h1
  unfold PySem.W.readsIn at h
  obtain ⟨h, _⟩ := He.ba h
  obtain ⟨h, _⟩ := He.ba h
  obtain ⟨h, h3⟩ := He.ba h
  obtain ⟨_, h2⟩ := He.ba h
  unfold PySem.W.specialIn
  rw [beq_iff_eq.mp h2, Option.bind_some]
  exact beq_iff_eq.mp h3
end
/-! ### defaults that are objects of the written part -/
/-- the keyword default n of the def at f, if it is an object -/
def kwAt (f : PySem.W.Frag → Addr) (n : Str) (K : PySem.W.Frag) : Addr := match K.lookup (f K) with
  | some ⟨_, _, .func fd, _⟩ => (match fd.kwdefaults with
    | .ref D => (match PySem.W.nsIn K D n with
      | some (some (.ref a)) => a
      | _ => 0)
    | _ => 0)
  | _ => 0
def okB (y : PV) (p : PySem.W.Frag → Addr) (K : PySem.W.Frag) : Bool := okC K y (.ref (p K))
theorem okB_ok {K : PySem.W.Frag} {T : Tb} {y : PV} {p : PySem.W.Frag → Addr} (h : okB y p K = true) (F : Hp) (io : List Addr) : R K T F io y (.ref (p K)) := by
  obtain ⟨v, r1, r2⟩ := okC_ok (T := T) y _ h
  cases v with
  | ref a =>
    have e : Value.ref (p K) = Value.ref a := r1
    cases e
    exact r2 F io
  | non => exact absurd r1 (by intro e; cases e)
  | bl _ => exact absurd r1 (by intro e; cases e)
  | ty _ => exact absurd r1 (by intro e; cases e)
  | int _ => obtain ⟨_, e⟩ := r1; cases e
  | str _ => obtain ⟨_, e⟩ := r1; cases e
  | byt _ => obtain ⟨_, e⟩ := r1; cases e
  | flt _ => obtain ⟨_, e⟩ := r1; cases e
end Mir
/-! Mir, part T5: name = [.. for ..] on one line. -/
namespace Mir
open PySem PySem.Spec PyProof.Rows L2
section
variable {X : Cx} {T : Tb} {W : WX} {tg e : Expr} {me : EM} {ms : AM} {pos p : Pos}
theorem tLc_of [NoGh T] {own : List (Str × Nat)} {im : IM} {g : GM} {g' : TG} {qt : TM} (gi : GIn X.K T g' g (own.map (·.2))) {σ : L2.St} {H : Hp} {Q : VK} (h : tF X.K T W (aComp im g qt me (own.map (·.2))) σ H Q) :
    tLc (tI X.K T W im) g' (tQ X.K T W0 qt) (tE X.K T W0 me) (own.map (·.2)) σ H Q := by
  obtain ⟨P, F, io, en, s, hE, hS, hp⟩ := h
  refine ⟨P, F, io, en, s, hE, hS, ?_⟩
  unfold aComp at hp
  cases hm : im en s with
  | exc x s1 => rw [hm] at hp; exact hp
  | stuck => rw [hm] at hp; exact hp
  | ok w s1 =>
    rw [hm] at hp
    intro F1 io1 J H1 l1 hS1 hw hz D nD
    have hPD : P D = none := by
      cases e : P D with
      | none => rfl
      | some u => have := (hS1.kept D u e).1; rw [nD] at this; cases this
    refine ⟨fun i m H' => ∃ F2 io2 s2 acc accv, Le F1 io1 F2 io2 ∧ RS X.K T (upd P D (.lst accv)) F2 io2 s2 H' ∧ Rs X.K T F2 io2 acc accv ∧ accv.length ≤ i ∧ m = w.items.length - i ∧
      NewL X.K T P (fun c d H' => W c d σ H') F2 io2 (compGo w g qt me (Mir.wipe en (own.map (·.2))) (w.items.drop i) acc s2) Q, ⟨_, F1, io1, s1, [], [], Le.refl, hS1.hold nD, .nil, Nat.le_refl _, rfl, NewL.le l1 (by simpa using hp)⟩, ?_⟩
    rintro i m H2 ⟨F2, io2, s2, acc, accv, l2, hS2, hacc, hlen, rfl, hp2⟩
    by_cases hok : w.ok s2
    · obtain ⟨w1, w2⟩ := hw _ i F2 io2 s2 H2 l2 hS2 hok
      by_cases hi' : i < w.items.length
      · right
        rw [drop_at hi'] at hp2
        unfold compGo at hp2
        rw [if_pos hok] at hp2
        obtain ⟨g1, g2⟩ := w2 _ (List.getElem?_eq_getElem hi')
        refine ⟨g1, fun H' => ∃ F2 io2 s2 acc accv, Le F1 io1 F2 io2 ∧ RS X.K T (upd P D (.lst accv)) F2 io2 s2 H' ∧ Rs X.K T F2 io2 acc accv ∧ accv.length ≤ i + 1 ∧
          NewL X.K T P (fun c d H' => W c d σ H') F2 io2 (compGo w g qt me (Mir.wipe en (own.map (·.2))) (w.items.drop (i + 1)) acc s2) Q,
          fun H' ⟨F3, io3, s3, acc3, accv3, l3, hS3, hacc3, hl3, hp3⟩ => ⟨_, by omega, F3, io3, s3, acc3, accv3, l3, hS3, hacc3, hl3, rfl, hp3⟩, fun v H' hy => ?_⟩
        obtain ⟨F3, l3, hS3, rx⟩ := g2 v H' hy
        have hEw : RE X.K T F3 io2 (Mir.wipe en (own.map (·.2))) (L2.wipe σ (own.map (·.2))) := (hE.mono (l1.trans (l2.trans l3))).wipe _
        cases hgx : g w.items[i] (Mir.wipe en (own.map (·.2))) s2 with
        | exc _ _ => rw [hgx] at hp2; exact hp2.elim
        | stuck => rw [hgx] at hp2; exact hp2.elim
        | ok e3 s3 =>
          rw [hgx] at hp2
          simp only [noX_ok, Res.bind_ok] at hp2
          have l12 : Le F1 io1 F3 io2 := l2.trans l3
          have hp3 := NewL.le l3 hp2
          have z := gi (upd P D (.lst accv)) F3 io2 (Mir.wipe en (own.map (·.2))) s2 w.items[i] v (L2.wipe σ (own.map (·.2))) H'
            (fun σ4 H4 => tQ X.K T W0 qt σ4 H4 fun b H3 => if b = true then tE X.K T W0 me σ4 H3 fun y H4 => ∃ acc, H4 D = some (.lst acc) ∧ acc.length < sizeLine ∧
              (∃ F2 io2 s2 acc' accv, Le F1 io1 F2 io2 ∧ RS X.K T (upd P D (.lst accv)) F2 io2 s2 (upd H4 D (.lst (acc ++ [y]))) ∧ Rs X.K T F2 io2 acc' accv ∧ accv.length ≤ i + 1 ∧
                NewL X.K T P (fun c d H' => W c d σ H') F2 io2 (compGo w g qt me (Mir.wipe en (own.map (·.2))) (w.items.drop (i + 1)) acc' s2) Q)
              else (∃ F2 io2 s2 acc' accv, Le F1 io1 F2 io2 ∧ RS X.K T (upd P D (.lst accv)) F2 io2 s2 H3 ∧ Rs X.K T F2 io2 acc' accv ∧ accv.length ≤ i + 1 ∧
                NewL X.K T P (fun c d H' => W c d σ H') F2 io2 (compGo w g qt me (Mir.wipe en (own.map (·.2))) (w.items.drop (i + 1)) acc' s2) Q)) hEw hS3 rx ?_
          · rw [wipe_wipe] at z
            exact z
          · rw [hgx]
            intro F4 io4 σ4 H4 l4 hE4 hS4
            refine ⟨_, F4, io4, e3, s3, hE4, hS4, ?_⟩
            cases hq : qt e3 s3 with
            | exc _ _ => rw [hq] at hp3; exact hp3.elim
            | stuck => rw [hq] at hp3; exact hp3.elim
            | ok k s4 =>
              rw [hq] at hp3
              intro F5 io5 k' H5 l5 (ek : k = k') hS5
              subst ek
              have l15 : Le F1 io1 F5 io5 := l12.trans (l4.trans l5)
              cases k with
              | false => exact ⟨F5, io5, s4, acc, accv, l15, hS5, hacc.mono (l3.trans (l4.trans l5)), by omega, NewL.le (l4.trans l5) hp3⟩
              | true =>
                simp only [if_true, noX_ok, Res.bind_ok] at hp3 ⊢
                refine ⟨_, F5, io5, e3, s4, hE4.mono l5, hS5, ?_⟩
                cases hme : me e3 s4 with
                | exc _ _ => rw [hme] at hp3; exact hp3.elim
                | stuck => rw [hme] at hp3; exact hp3.elim
                | ok y s5 =>
                  rw [hme] at hp3
                  intro F6 io6 yv H6 l6 ry hS6
                  obtain ⟨hd, hS7⟩ := hS6.held (o' := .lst (accv ++ [yv]))
                  exact ⟨accv, hd, by omega, F6, io6, s5, acc ++ [y], accv ++ [yv], l15.trans l6, hS7, (hacc.mono (l3.trans (l4.trans (l5.trans l6)))).append (.cons ry .nil), by simp; omega,
                    NewL.le (l4.trans (l5.trans l6)) hp3⟩
      · left
        have hd : w.items.drop i = [] := List.drop_eq_nil_iff.mpr (by omega)
        rw [hd] at hp2
        unfold compGo at hp2
        rw [if_pos hok] at hp2
        obtain ⟨H0, d0, hH, hS0⟩ := hS2.let_go hPD
        refine ⟨w1 (by omega), ?_⟩
        have := hp2 F2 io2 D accv H0 Le.refl hacc hS0 d0
        rw [hH] at this
        exact this
    · exfalso
      cases hd : w.items.drop i with
      | nil => rw [hd] at hp2; unfold compGo at hp2; rw [if_neg hok] at hp2; exact hp2
      | cons a b => rw [hd] at hp2; unfold compGo at hp2; rw [if_neg hok] at hp2; exact hp2
/-- name = [.. for ..], a place -/
theorem ms_newLc [NoGh T] {elt iter : Expr} {ifs : List Expr} {scope : Scope} {own : List (Str × Nat)} {im : IM} {g : GM} {g' : TG} {qt : TM} {i : Nat} {y : Str} {py spos : Pos} (hc : X.calm = true) (hN : X.N.Nodup) (hy : X.N[i]? = some y) (hyl : X.env.scope.names.lookup y = some .local)
    (hk : X.env.scope.kind = .function) (hl : (py.line == pos.line) = true) (hab : (scope.names.any fun (n, k) => n == y && (k == .local || k == .cell)) = false)
    (hi : PI X tg iter (tI X.K T W im)) (ok : BlkOk X.N X.env.scope scope own)
    (hg : ∀ (s : Shared) (H : Hp) (C : Addr) (cl : List (Str × Addr)) (fp : List Addr), PG (X.blk s H scope (compEnvC scope cl C X.env) fp) tg g') (gi : GIn X.K T g' g (own.map (·.2)))
    (ht : ∀ (s : Shared) (H : Hp) (C : Addr) (cl : List (Str × Addr)) (fp : List Addr), PTs (X.blk s H scope (compEnvC scope cl C X.env) fp) ifs (tQ X.K T W0 qt))
    (he : ∀ (s : Shared) (H : Hp) (C : Addr) (cl : List (Str × Addr)) (fp : List Addr), PE (X.blk s H scope (compEnvC scope cl C X.env) fp) elt (tE X.K T W0 me)) (hs : ∀ x, foldedSetIterable iter X.env x = pure x := by intro _; rfl) :
    PS X (.Assign [.Name y py] (.ListComp elt [⟨tg, iter, ifs, 0⟩] scope pos) spos) (tS X.K T W (sNew (aComp im g qt me (own.map (·.2))) i)) := by
  refine PS.weak (ps_setLc hc hN hy hyl (sw_true hk hyl hl hab) hi ok hg ht he hs) fun D σ H ⟨P, F, io, en, s, hE, hS, hp⟩ => ?_
  refine tLc_of gi ⟨P, F, io, en, s, hE, hS, ?_⟩
  unfold sNew at hp
  cases hm : aComp im g qt me (own.map (·.2)) en s with
  | ok xs s1 =>
    rw [hm] at hp
    intro F1 io1 a vs H1 l1 r1 hS1 ha
    obtain ⟨l2, hS2⟩ := hS1.push (o := .lst vs) ha (.lst r1)
    refine hp F1 (io1 ++ [a]) _ _ (l1.trans l2) ?_ hS2
    exact (hE.mono (l1.trans l2)).set (.loc (by rw [hS1.len]; simp)) i
  | exc x s1 => rw [hm] at hp; exact fun F' io' cls d H' l hr hs => hp F' io' cls d σ H' l hr hs
  | stuck => rw [hm] at hp; exact hp
/-- name = [.. for ..], never changed -/
theorem ms_setLc [NoGh T] {elt iter : Expr} {ifs : List Expr} {scope : Scope} {own : List (Str × Nat)} {im : IM} {g : GM} {g' : TG} {qt : TM} {i : Nat} {y : Str} {py spos : Pos} (hc : X.calm = true) (hN : X.N.Nodup) (hy : X.N[i]? = some y) (hyl : X.env.scope.names.lookup y = some .local)
    (hk : X.env.scope.kind = .function) (hl : (py.line == pos.line) = true) (hab : (scope.names.any fun (n, k) => n == y && (k == .local || k == .cell)) = false)
    (hi : PI X tg iter (tI X.K T W im)) (ok : BlkOk X.N X.env.scope scope own)
    (hg : ∀ (s : Shared) (H : Hp) (C : Addr) (cl : List (Str × Addr)) (fp : List Addr), PG (X.blk s H scope (compEnvC scope cl C X.env) fp) tg g') (gi : GIn X.K T g' g (own.map (·.2)))
    (ht : ∀ (s : Shared) (H : Hp) (C : Addr) (cl : List (Str × Addr)) (fp : List Addr), PTs (X.blk s H scope (compEnvC scope cl C X.env) fp) ifs (tQ X.K T W0 qt))
    (he : ∀ (s : Shared) (H : Hp) (C : Addr) (cl : List (Str × Addr)) (fp : List Addr), PE (X.blk s H scope (compEnvC scope cl C X.env) fp) elt (tE X.K T W0 me)) (hs : ∀ x, foldedSetIterable iter X.env x = pure x := by intro _; rfl) :
    PS X (.Assign [.Name y py] (.ListComp elt [⟨tg, iter, ifs, 0⟩] scope pos) spos) (tS X.K T W (sAsg (eLst (aComp im g qt me (own.map (·.2)))) (Mir.gName i))) := by
  refine PS.weak (ps_setLc hc hN hy hyl (sw_true hk hyl hl hab) hi ok hg ht he hs) fun D σ H ⟨P, F, io, en, s, hE, hS, hp⟩ => ?_
  refine tLc_of gi ⟨P, F, io, en, s, hE, hS, ?_⟩
  unfold sAsg eLst at hp
  cases hm : aComp im g qt me (own.map (·.2)) en s with
  | ok xs s1 =>
    rw [hm] at hp
    intro F1 io1 a vs H1 l1 r1 hS1 ha
    obtain ⟨l2, hS2⟩ := hS1.grow (o := .lst vs) ha
    refine hp _ io1 _ _ (l1.trans l2) ?_ hS2
    exact (hE.mono (l1.trans l2)).set (.lst upd_same (r1.mono l2)) i
  | exc x s1 => rw [hm] at hp; exact fun F' io' cls d H' l hr hs => hp F' io' cls d σ H' l hr hs
  | stuck => rw [hm] at hp; exact hp
end
end Mir
/-! what the helpers of the laws k01 to k34 draw -/
namespace EL
open Mir
noncomputable def m_law_take : SM := sSeq (sIf (qBl (eOp2 pyGt (eOp2 pyIdx (eVar 0) (eC (.int 0))) (eC (.int 0)))) (sSeq (sAsg (eOp2 pyMod (eBlt bInt (aCons (eOp2 pyIdx (eVar 0) (eC (.int 0))) (aNil))) (eVar 1)) (gName 2)) (sSeq (sSetI (eVar 0) (eC (.int 0)) (eOp2 pyFdiv (eOp2 pyIdx (eVar 0) (eC (.int 0))) (eVar 1))) (sRet (eVar 2)))) (sNext)) (sSeq (sSetI (eVar 0) (eC (.int 1)) (eOp2 pyMod (eBlt bInt (aCons (eOp2 pyAdd (eOp2 pyMul (eOp2 pyIdx (eVar 0) (eC (.int 1))) (eC (.int 48271))) (eC (.int 90001))) (aNil))) (eC (.int 2147483629)))) (sRet (eOp2 pyMod (eOp2 pyFdiv (eOp2 pyMod (eBlt bInt (aCons (eOp2 pyMul (eOp2 pyFdiv (eOp2 pyIdx (eVar 0) (eC (.int 1))) (eC (.int 11))) (eC (.int 39373))) (aNil))) (eC (.int 2147483647))) (eC (.int 64))) (eVar 1))))
noncomputable def d_law_take : ON := runDef finV 3 m_law_take
noncomputable def m_law_of : SM := sRet (eOp2 pyIdx (eVar 1) (eCallK (fun vs _ => d_law_take vs) (aCons (eVar 0) (aCons (eBlt bLen (aCons (eVar 1) (aNil))) (aNil))) (aNil)))
noncomputable def d_law_of : ON := runDef finV 2 m_law_of
noncomputable def b_law_names_0 : SM := sExp (eMt mAppend (eVar 7) (aCons (eOp2 pyAdd (eOp2 pyAdd (eSlice (eVar 5) (oNone) (oSome (eVar 6))) (eMt mPop (eVar 4) (aCons (eCallK (fun vs _ => d_law_take vs) (aCons (eVar 0) (aCons (eBlt bLen (aCons (eVar 4) (aNil))) (aNil))) (aNil)) (aNil)))) (eSlice (eVar 5) (oSome (eVar 6)) (oNone))) (aNil)))
noncomputable def b_law_names_1 : SM := sAsg (eOp2 pyAdd (eVar 5) (eCallK (fun vs _ => d_law_of vs) (aCons (eVar 0) (aCons (eC (.str [97, 98, 99, 100, 101, 102, 103, 104, 105, 106, 107, 108, 109, 110, 111, 112, 113, 114, 115, 116, 117, 118, 119, 120, 121, 122])) (aNil))) (aNil))) (gName 5)
noncomputable def b_law_names_2 : SM := sExp (eMt mExtend (eVar 4) (aCons (eLst (aComp (iSeq (eC (.str [97, 98, 99, 100, 101, 102, 103, 104, 105, 106, 107, 108, 109, 110, 111, 112, 113, 114, 115, 116, 117, 118, 119, 120, 121, 122]))) (gName 8) (qYes) (eOp2 pyAdd (eVar 2) (eVar 8)) [8])) (aNil)))
noncomputable def m_law_names : SM := sSeq (sPar (aCons (ePl (aNil)) (aCons (eC (.str [])) aNil)) 4 5) (sSeq (sFor (iSeq (eC (.str [103, 106, 113, 122]))) (gName 2) (b_law_names_2)) (sSeq (sFor (iRange1 (eCallK (fun vs _ => d_law_take vs) (aCons (eVar 0) (aCons (eC (.int 7)) (aNil))) (aNil))) (gName 3) (b_law_names_1)) (sSeq (sPar (aCons (eCallK (fun vs _ => d_law_take vs) (aCons (eVar 0) (aCons (eOp2 pyAdd (eBlt bLen (aCons (eVar 5) (aNil))) (eC (.int 1))) (aNil))) (aNil)) (aCons (ePl (aNil)) aNil)) 6 7) (sSeq (sFor (iRange1 (eVar 1)) (gName 3) (b_law_names_0)) (sRet (eVar 7))))))
noncomputable def d_law_names : ON := runDef finV 9 m_law_names
noncomputable def b_law_bag_0 : SM := sAsg (eOp2 pyMod (eBlt bInt (aCons (eOp2 pyAdd (eOp2 pyAdd (eOp2 pyMul (eVar 3) (eC (.int 44017))) (eOp2 pyMod (eBlt bInt (aCons (eVar 5) (aNil))) (eC (.int 2147483563)))) (eOp2 pyMul (eC (.int 59)) (eVar 4))) (aNil))) (eC (.int 2147483399))) (gName 3)
noncomputable def m_law_bag : SM := sSeq (sAsg (eIf (qBl (eOp2 pyLt (eVar 1) (eBlt bLen (aCons (eVar 0) (aNil))))) (eOp2 pyIdx (eVar 0) (eVar 1)) (eC (.int 0))) (gName 2)) (sSeq (sAsg (eOp2 pyAdd (eOp2 pyMul (eC (.int 5381)) (eVar 1)) (eC (.int 977))) (gName 3)) (sSeq (sFor (iEnum (eSlice (eVar 0) (oNone) (oSome (eC (.int 63))))) (gTup [4, 5]) (b_law_bag_0)) (sRetL (aCons (eIf (qBl (eOp2 pyGe (eBlt bAbs (aCons (eVar 2) (aNil))) (eOp2 pyPow (eC (.int 10)) (eC (.int 18))))) (eBlt bAbs (aCons (eVar 2) (aNil))) (eC (.int 0))) (aCons (eVar 3) (aNil))))))
noncomputable def d_law_bag : ON := runDef finL 6 m_law_bag
def takeV (a b m : Int) : Int := if 0 < a then a % m else (((b * 48271 + 90001) % 2147483629) / 11 * 39373 % 2147483647 / 64) % m
def takeA (a m : Int) : Int := if 0 < a then a / m else a
def takeB (a b : Int) : Int := if 0 < a then b else (b * 48271 + 90001) % 2147483629
theorem takeV_lt {a b m : Int} (h : 0 < m) : 0 ≤ takeV a b m ∧ takeV a b m < m := by
  unfold takeV
  split
  · exact ⟨Int.emod_nonneg _ (by omega), Int.emod_lt_of_pos _ h⟩
  · exact ⟨Int.emod_nonneg _ (by omega), Int.emod_lt_of_pos _ h⟩
theorem take_eq (pre e : Store) (a b m : Int) (h : 0 < m) (h2 : m < 2 ^ 64) : d_law_take [.loc pre.length, .int m] (pre ++ .lst [.int a, .int b] :: e) = .ok (.int (takeV a b m)) (pre ++ .lst [.int (takeA a m), .int (takeB a b)] :: e) := by
  unfold d_law_take
  rw [runDef_ap]
  unfold m_law_take
  have h3 : m < 340282366920938463463374607431768211456 := by omega
  by_cases ha : 0 < a
  · simp [pyIdx, itemsOf, deref, List.getD, atP, ixP, pyGt, ha, bInt, pyMod, h, pyFdiv, h3]
    rw [finV_data (by simp) (kept_mid pre e _ _ (by simp)) (by simp)]
    simp [takeV, takeA, takeB, ha]
  · simp [pyIdx, itemsOf, deref, List.getD, atP, ixP, pyGt, ha, bInt, pyMod, h, pyFdiv, h3, pyMul, pyAdd]
    rw [finV_data (by simp) (kept_mid pre e _ _ (by simp)) (by simp)]
    simp [takeV, takeA, takeB, ha]
def isW (w : List Nat) : Prop := 1 ≤ w.length ∧ w.length ≤ 8 ∧ (∀ x ∈ w, 97 ≤ x ∧ x ≤ 122) ∧ ∃ x ∈ w, x = 103 ∨ x = 106 ∨ x = 113 ∨ x = 122
abbrev bg (a b : Int) : PV := .lst [.int a, .int b]
theorem of_lst (pre e : Store) (a b : Int) {xs : List PV} (h1 : xs ≠ []) (h2 : xs.length < 2 ^ 60) (h3 : ∀ x ∈ xs, ∀ n, lb n x = true) :
    ∃ v a' b', v ∈ xs ∧ d_law_of [.loc pre.length, .lst xs] (pre ++ bg a b :: e) = .ok v (pre ++ bg a' b' :: e) := by
  have hp : 0 < xs.length := List.length_pos_iff.mpr h1
  have m1 : (0 : Int) < xs.length := by omega
  have m2 : (xs.length : Int) < 2 ^ 64 := by omega
  obtain ⟨t1, t2⟩ := takeV_lt (a := a) (b := b) m1
  obtain ⟨v, hv, ev⟩ := atP_lt t1 t2
  refine ⟨v, takeA a xs.length, takeB a b, hv, ?_⟩
  unfold d_law_of
  rw [runDef_ap]
  unfold m_law_of
  simp [take_eq pre e a b _ m1 m2, ev]
  rw [finV_data (by simp) (kept_mid pre e _ _ (by simp)) (h3 v hv _)]
theorem of_str (pre e : Store) (a b : Int) {l : List Nat} (h1 : l ≠ []) (h2 : l.length ≤ 1000) :
    ∃ c a' b', c ∈ l ∧ d_law_of [.loc pre.length, .str l] (pre ++ bg a b :: e) = .ok (.str [c]) (pre ++ bg a' b' :: e) := by
  have hp : 0 < l.length := List.length_pos_iff.mpr h1
  have m1 : (0 : Int) < l.length := by omega
  have m2 : (l.length : Int) < 2 ^ 64 := by omega
  have hz : l.length ≤ sz := by simp only [sz]; omega
  obtain ⟨t1, t2⟩ := takeV_lt (a := a) (b := b) m1
  obtain ⟨v, hv, ev⟩ := atP_lt t1 t2
  refine ⟨v, takeA a l.length, takeB a b, hv, ?_⟩
  unfold d_law_of
  rw [runDef_ap]
  unfold m_law_of
  simp [bLen_str _ hz, take_eq pre e a b _ m1 m2, pyIdx, hz, ev]
  rw [finV_data (by simp) (kept_mid pre e _ _ (by simp)) (by simp)]
/-- m names: right ones, no two alike -/
structure Nm (m : Nat) (l : List (List Nat)) : Prop where
  w : ∀ x ∈ l, isW x
  nd : l.Nodup
  len : l.length = m
/-! ### the bag -/
theorem forBag (w : Walk) (hw : w.at_ = none) (s : Store) (sc at_ ce : PV) : ∀ (xs : List PV) (n : Nat) (bl : Int), (∀ x ∈ xs, ∃ i : Int, x = .int i) →
    ∃ bl', forGo w (gTup [4, 5]) (sAsg (eOp2 pyMod (eBlt bInt (aCons (eOp2 pyAdd (eOp2 pyAdd (eOp2 pyMul (eVar 3) (eC (.int 44017))) (eOp2 pyMod (eBlt bInt (aCons (eVar 5) (aNil))) (eC (.int 2147483563)))) (eOp2 pyMul (eC (.int 59)) (eVar 4))) (aNil))) (eC (.int 2147483399))) (gName 3))
      (keepAs [some sc, some at_, some ce, some (.int bl), none, none]) (enumI n xs) [some sc, some at_, some ce, some (.int bl), none, none] s = .ok ([some sc, some at_, some ce, some (.int bl'), none, none], .next) s := by
  have ok : w.ok s := by unfold Walk.ok; rw [hw]; trivial
  have gen : ∀ (xs : List PV) (n : Nat) (bl bl0 : Int), (∀ x ∈ xs, ∃ i : Int, x = .int i) →
    ∃ bl', forGo w (gTup [4, 5]) (sAsg (eOp2 pyMod (eBlt bInt (aCons (eOp2 pyAdd (eOp2 pyAdd (eOp2 pyMul (eVar 3) (eC (.int 44017))) (eOp2 pyMod (eBlt bInt (aCons (eVar 5) (aNil))) (eC (.int 2147483563)))) (eOp2 pyMul (eC (.int 59)) (eVar 4))) (aNil))) (eC (.int 2147483399))) (gName 3))
      (keepAs [some sc, some at_, some ce, some (.int bl0), none, none]) (enumI n xs) [some sc, some at_, some ce, some (.int bl), none, none] s = .ok ([some sc, some at_, some ce, some (.int bl'), none, none], .next) s := by
    intro xs
    induction xs with
    | nil => intro n bl bl0 _; exact ⟨bl, by simp [enumI, forGo, ok]⟩
    | cons x xs ih =>
      intro n bl bl0 h
      obtain ⟨i, rfl⟩ := h x (List.mem_cons_self ..)
      obtain ⟨bl', e⟩ := ih (n + 1) ((bl * 44017 + i % 2147483563 + 59 * (n : Int)) % 2147483399) bl0 fun y hy => h y (List.mem_cons_of_mem _ hy)
      refine ⟨bl', ?_⟩
      unfold enumI forGo
      rw [if_pos ok]
      have m1 : ∀ j s, pyMul (.int j) (.int 44017) s = .ok (.int (j * 44017)) s := fun j s => pyMulR s (by omega)
      have m2 : ∀ j s, pyMul (.int 59) (.int j) s = .ok (.int (59 * j)) s := fun j s => pyMulL s (by omega)
      have m3 : ∀ j s, pyMod (.int j) (.int 2147483563) s = .ok (.int (j % 2147483563)) s := fun j s => pyMod_ok s (by omega)
      have m4 : ∀ j s, pyMod (.int j) (.int 2147483399) s = .ok (.int (j % 2147483399)) s := fun j s => pyMod_ok s (by omega)
      simp [gTup, gNames, m1, m2, m3, m4, keepAs]
      simpa [keepAs] using e
  exact fun xs n bl h => gen xs n bl bl h
theorem bag_eq (s : Store) {ns : List Int} (hl : ns.length ≤ 63) (k : Nat) (hk : k < 100) : ∃ a b, d_law_bag [.ro (ns.map .int), .int k] s = .ok (.loc s.length) (s ++ [bg a b]) := by
  unfold d_law_bag
  rw [runDef_ap]
  unfold m_law_bag b_law_bag_0
  obtain ⟨ce, hce⟩ : ∃ ce : Int, (if k < ns.length then noX (ofO (atP (ns.map PV.int) (k : Int)) s) else .ok (.int 0) s) = .ok (.int ce) s := by
    split
    · rename_i h
      have hj : k < ns.length := by omega
      exact ⟨ns[k], by rw [atP_of (j := k) (x := .int ns[k]) rfl (by simp [hj])]; rfl⟩
    · exact ⟨0, rfl⟩
  have cut : (cutP (ns.map PV.int) none (some 63)) = ns.map PV.int := by
    show ((ns.map PV.int).drop 0).take (min 63 (ns.map PV.int).length - 0) = _
    rw [List.drop_zero, List.take_of_length_le (by simp; omega)]
  have m1 : pyMul (.int 5381) (.int k) s = .ok (.int (5381 * k)) s := pyMulL s (by omega)
  obtain ⟨bl, hb⟩ := forBag ⟨enumI 0 (ns.map PV.int), none⟩ rfl s (.ro (ns.map .int)) (.int k) (.int ce) (ns.map .int) 0 (5381 * (k : Int) + 977) (fun x hx => by obtain ⟨i, _, rfl⟩ := List.mem_map.mp hx; exact ⟨i, rfl⟩)
  have z : ns.length ≤ sz := by simp only [sz]; omega
  have pw : pyPow (.int 10) (.int 18) s = .ok (.int (10 ^ 18)) s := by simp [pyPow]
  simp [hce, m1, iEnum, sliceV, cut, z, hb, pw]
  by_cases hc : (1000000000000000000 : Int) ≤ (if ce < 0 then -ce else ce)
  · simp [hc]
    refine ⟨_, _, finL_new (by simp)⟩
  · simp [hc]
    refine ⟨_, _, finL_new (by simp)⟩
abbrev ABC : List Nat := [97, 98, 99, 100, 101, 102, 103, 104, 105, 106, 107, 108, 109, 110, 111, 112, 113, 114, 115, 116, 117, 118, 119, 120, 121, 122]
abbrev nE (m : Int) (p : Nat) (one turn stem at_ found : Option PV) : Env := [some (.loc p), some (.int m), one, turn, some (.loc (p + 1)), stem, at_, found, none]
def pairs (cs : List Nat) : List (List Nat) := cs.flatMap fun c => ABC.map fun b => [c, b]
theorem pairs_cons (c : Nat) (cs : List Nat) : pairs (c :: cs) = (ABC.map fun b => [c, b]) ++ pairs cs := rfl
noncomputable abbrev bExt : SM := sExp (eMt mExtend (eVar 4) (aCons (eLst (aComp (iSeq (eC (.str ABC))) (gName 8) (qYes) (eOp2 pyAdd (eVar 2) (eVar 8)) [8])) (aNil)))
theorem forExt (w : Walk) (hw : w.at_ = none) (pre : Store) (x : PV) (σ0 : Env) (hσ : σ0 = nE m pre.length none none (some (.str [])) none none) : ∀ (cs : List Nat) (L : List (List Nat)), L.length + 26 * cs.length ≤ 200 →
    forGo w (gName 2) bExt (keepAs σ0) (cs.map fun c => .str [c]) σ0 (pre ++ [x, .lst (L.map .str)]) = .ok (σ0, .next) (pre ++ [x, .lst ((L ++ pairs cs).map .str)]) := by
  have ok : ∀ s, w.ok s := fun s => by unfold Walk.ok; rw [hw]; trivial
  intro cs
  induction cs with
  | nil => intro L _; simp [forGo, ok, pairs]
  | cons c cs ih =>
    intro L hL
    simp only [List.length_cons] at hL
    have hc : ∀ (y : Option PV) (s : Store), compGo ⟨ABC.map fun c => .str [c], none⟩ (gName 8) qYes (eOp2 pyAdd (eVar 2) (eVar 8)) (nE m pre.length (some (.str [c])) none (some (.str [])) none none) (ABC.map fun c => .str [c]) [] s = .ok ((ABC.map fun b => [c, b]).map .str) s := by
      intro y s
      rw [compGo_pure (fun _ => true) (fun v => match v with | .str l => .str (c :: l) | v => v)]
      · rw [List.filter_eq_self.mpr (by simp)]; simp
      · intro v hv
        obtain ⟨b, _, rfl⟩ := List.mem_map.mp hv
        refine ⟨_, rfl, rfl, fun _ => ?_⟩
        simp [nE, pyAdd_str _ (show ([c] : List Nat).length + ([b] : List Nat).length ≤ sz by simp [sz])]
    rw [List.map_cons]
    unfold forGo
    rw [if_pos (ok _)]
    have hl : L.length + 26 ≤ sz := by simp only [sz]; omega
    have z26 : (26 : Nat) ≤ sz := by simp only [sz]; omega
    have h2 := ih (L ++ ABC.map fun b => [c, b]) (by simp; omega)
    rw [hσ] at h2 ⊢
    have hc2 := hc none (pre ++ [x, .lst (L.map .str)])
    simp only [nE] at hc2 h2 ⊢
    simp [iSeq, wipe, z26, isL, der1, keepAs] at hc2 h2 ⊢
    simp [hc2, mExtend, get1, set1, hl]
    rw [pairs_cons]
    simpa [keepAs] using h2
/-! ### the stem -/
noncomputable abbrev bStem : SM := sAsg (eOp2 pyAdd (eVar 5) (eCallK (fun vs _ => d_law_of vs) (aCons (eVar 0) (aCons (eC (.str ABC)) (aNil))) (aNil))) (gName 5)
theorem forStem (w : Walk) (hw : w.at_ = none) (pre : Store) (y : PV) (σ0 : Env) (hσ : σ0 = nE m pre.length none none (some (.str [])) none none) : ∀ (xs : List PV) (stem : List Nat) (a b : Int), (∀ c ∈ stem, 97 ≤ c ∧ c ≤ 122) → stem.length + xs.length ≤ 6 →
    ∃ (st : List Nat) (a' b' : Int), (∀ c ∈ st, 97 ≤ c ∧ c ≤ 122) ∧ st.length ≤ 6 ∧ forGo w (gName 3) bStem (keepAs σ0) xs (nE m pre.length none none (some (.str stem)) none none) (pre ++ [bg a b, y]) = .ok (nE m pre.length none none (some (.str st)) none none, .next) (pre ++ [bg a' b', y]) := by
  have ok : ∀ s, w.ok s := fun s => by unfold Walk.ok; rw [hw]; trivial
  intro xs
  induction xs with
  | nil => intro st a b h1 h2; exact ⟨st, a, b, h1, by simpa using h2, by simp [forGo, ok]⟩
  | cons x xs ih =>
    intro stem a b h1 h2
    simp only [List.length_cons] at h2
    obtain ⟨c, a1, b1, hc, e1⟩ := of_str pre [y] a b (l := ABC) (by simp) (by simp)
    have hc' : 97 ≤ c ∧ c ≤ 122 := by
      have : ∀ c ∈ ABC, 97 ≤ c ∧ c ≤ 122 := by decide
      exact this c hc
    obtain ⟨st, a', b', g1, g2, g3⟩ := ih (stem ++ [c]) a1 b1 (fun d hd => by
      rcases List.mem_append.mp hd with q | q
      · exact h1 d q
      · simp at q; subst q; exact hc') (by simp; omega)
    refine ⟨st, a', b', g1, g2, ?_⟩
    unfold forGo
    rw [if_pos (ok _)]
    subst hσ
    have ad : ∀ s, pyAdd (.str stem) (.str [c]) s = .ok (.str (stem ++ [c])) s := fun s => pyAdd_str s (by simp [sz]; omega)
    simp only [nE] at g3 ⊢
    simp [e1, ad]
    simpa [keepAs] using g3
/-! ### the words -/
def wd (st : List Nat) (i : Nat) (x : List Nat) : List Nat := st.take i ++ x ++ st.drop i
noncomputable abbrev bWord : SM := sExp (eMt mAppend (eVar 7) (aCons (eOp2 pyAdd (eOp2 pyAdd (eSlice (eVar 5) (oNone) (oSome (eVar 6))) (eMt mPop (eVar 4) (aCons (eCallK (fun vs _ => d_law_take vs) (aCons (eVar 0) (aCons (eBlt bLen (aCons (eVar 4) (aNil))) (aNil))) (aNil)) (aNil)))) (eSlice (eVar 5) (oSome (eVar 6)) (oNone))) (aNil)))
theorem pair_len {x : List Nat} {cs : List Nat} (h : x ∈ pairs cs) : ∃ c b, c ∈ cs ∧ b ∈ ABC ∧ x = [c, b] := by
  unfold pairs at h
  obtain ⟨c, hc, hx⟩ := List.mem_flatMap.mp h
  obtain ⟨b, hb, rfl⟩ := List.mem_map.mp hx
  exact ⟨c, b, hc, hb, rfl⟩
abbrev gj : List Nat := [103, 106, 113, 122]
theorem cons_erase_perm {α : Type} : ∀ {l : List α} {i : Nat} (h : i < l.length), (l[i] :: l.eraseIdx i).Perm l
  | x :: l, 0, _ => .refl _
  | x :: l, i + 1, h => by
    have := cons_erase_perm (l := l) (i := i) (by simpa using h)
    simp only [List.getElem_cons_succ, List.eraseIdx_cons_succ]
    exact (List.Perm.swap x _ _).trans (this.cons x)
theorem er_map {α β : Type} (f : α → β) : ∀ (l : List α) (i : Nat), (l.map f).eraseIdx i = (l.eraseIdx i).map f
  | [], i => by simp
  | x :: l, 0 => by simp
  | x :: l, i + 1 => by simp [er_map f l i]
theorem forWord (w : Walk) (hw : w.at_ = none) (pre : Store) (st : List Nat) (i : Nat) (hi : i ≤ st.length) (hst : st.length ≤ 6) (σ0 : Env) (hσ : σ0 = nE m pre.length none none (some (.str st)) (some (.int i)) (some (.loc (pre.length + 2)))) : ∀ (xs : List PV) (L ps : List (List Nat)) (a b : Int),
    (∀ x ∈ L, x ∈ pairs gj) → (∀ x ∈ ps, x ∈ pairs gj) → (ps ++ L).Nodup → xs.length ≤ L.length → L.length ≤ 1000 → ps.length + xs.length ≤ 100 →
    ∃ (L' qs : List (List Nat)) (a' b' : Int), (∀ x ∈ qs, x ∈ pairs gj) ∧ qs.Nodup ∧ qs.length = ps.length + xs.length ∧
      forGo w (gName 3) bWord (keepAs σ0) xs σ0 (pre ++ [bg a b, .lst (L.map .str), .lst ((ps.map (wd st i)).map .str)]) = .ok (σ0, .next) (pre ++ [bg a' b', .lst (L'.map .str), .lst ((qs.map (wd st i)).map .str)]) := by
  have ok : ∀ s, w.ok s := fun s => by unfold Walk.ok; rw [hw]; trivial
  intro xs
  induction xs with
  | nil => intro L ps a b h1 h2 h3 h4 h5 h6; exact ⟨L, ps, a, b, h2, (List.nodup_append.mp h3).1, by simp, by simp [forGo, ok]⟩
  | cons x xs ih =>
    intro L ps a b h1 h2 h3 h4 h5 h6
    simp only [List.length_cons] at h4 h6
    have m1 : (0 : Int) < (L.length : Int) := by omega
    have m2 : (L.length : Int) < 2 ^ 64 := by omega
    obtain ⟨t1, t2⟩ := takeV_lt (a := a) (b := b) m1
    have hj : (takeV a b L.length).toNat < L.length := by omega
    generalize hv : takeV a b L.length = v at t1 t2 hj
    have hx := h1 _ (List.getElem_mem hj)
    obtain ⟨c, d, hc, hd, ex⟩ := pair_len hx
    have hper := cons_erase_perm hj
    have e1 := take_eq pre [.lst (L.map .str), .lst ((ps.map (wd st i)).map .str)] a b _ m1 m2
    rw [hv] at e1
    rw [List.map_map] at e1
    obtain ⟨L', qs, a', b', g1, g2, g3, g4⟩ := ih (L.eraseIdx v.toNat) (ps ++ [L[v.toNat]]) (takeA a L.length) (takeB a b)
      (fun y hy => h1 y (List.mem_of_mem_eraseIdx hy)) (fun y hy => by
        rcases List.mem_append.mp hy with q | q
        · exact h2 y q
        · simp at q; subst q; exact hx)
      (by
        rw [List.append_assoc]
        refine (List.Perm.nodup_iff ?_).mpr h3
        exact List.Perm.append_left ps hper)
      (by rw [List.length_eraseIdx_of_lt hj]; omega) (by rw [List.length_eraseIdx_of_lt hj]; omega) (by simp; omega)
    refine ⟨L', qs, a', b', g1, g2, by rw [g3]; simp; omega, ?_⟩
    unfold forGo
    rw [if_pos (ok _)]
    have z1 : st.length ≤ sz := by simp only [sz]; omega
    have pv : (PV.str L[v.toNat]) = .str [c, d] := by rw [ex]
    have hget : (L.map PV.str)[v.toNat]? = some (.str L[v.toNat]) := by simp [hj]
    have ad1 : ∀ s, pyAdd (.str (st.take i)) (.str L[v.toNat]) s = .ok (.str (st.take i ++ L[v.toNat])) s := fun s => pyAdd_str s (by rw [ex]; simp [sz]; omega)
    have ad2 : ∀ s, pyAdd (.str (st.take i ++ L[v.toNat])) (.str (st.drop i)) s = .ok (.str (st.take i ++ L[v.toNat] ++ st.drop i)) s := fun s => pyAdd_str s (by rw [ex]; simp [sz]; omega)
    have pl : ps.length < sz := by simp only [sz]; omega
    have v62 : v < 4611686018427387904 := by omega
    have er : (L.map PV.str).eraseIdx v.toNat = (L.eraseIdx v.toNat).map .str := er_map _ _ _
    subst hσ
    simp only [nE] at g4 ⊢
    simp [sliceV, z1, cut_lo hi, cut_hi hi, isL, der1, der2, bLen, lenP, itemsOf, e1, mPop, get1, get2, set1, set2, t1, v62, hget, ad1, ad2, mAppend, pl, er]
    simpa [keepAs, wd] using g4
theorem wd_inj {st : List Nat} {i : Nat} {x y : List Nat} (h : wd st i x = wd st i y) : x = y := by
  unfold wd at h
  exact List.append_cancel_left (List.append_cancel_right h)
theorem pairs_nd : (pairs gj).Nodup := by decide +kernel
theorem wd_w {st : List Nat} {i : Nat} {x : List Nat} (h1 : ∀ c ∈ st, 97 ≤ c ∧ c ≤ 122) (h2 : st.length ≤ 6) (hi : i ≤ st.length) (hx : x ∈ pairs gj) : isW (wd st i x) := by
  obtain ⟨c, b, hc, hb, rfl⟩ := pair_len hx
  have q1 : ∀ c ∈ gj, (97 ≤ c ∧ c ≤ 122) ∧ (c = 103 ∨ c = 106 ∨ c = 113 ∨ c = 122) := by decide
  have q2 : ∀ c ∈ ABC, 97 ≤ c ∧ c ≤ 122 := by decide
  unfold wd
  refine ⟨by simp; omega, by simp; omega, fun y hy => ?_, c, by simp, (q1 c hc).2⟩
  simp only [List.mem_append, List.mem_cons, List.not_mem_nil, or_false] at hy
  rcases hy with (hy | hy | hy) | hy
  · exact h1 y (List.mem_of_mem_take hy)
  · subst hy; exact (q1 _ hc).1
  · subst hy; exact q2 _ hb
  · exact h1 y (List.mem_of_mem_drop hy)
theorem names_eq (m : Nat) (hm : m ≤ 40) (pre : Store) (a b : Int) : ∃ l a' b', Nm m l ∧ d_law_names [.loc pre.length, .int (m : Nat)] (pre ++ [bg a b]) = .ok (.lst (l.map .str)) (pre ++ [bg a' b']) := by
  have e1 := forExt (m := (m : Nat)) ⟨gj.map fun c => .str [c], none⟩ rfl pre (bg a b) _ rfl gj [] (by simp)
  simp only [List.nil_append] at e1
  have e2 := take_eq pre [.lst ((pairs gj).map .str)] a b 7 (by omega) (by omega)
  obtain ⟨t1, t2⟩ := takeV_lt (a := a) (b := b) (m := 7) (by omega)
  generalize takeV a b 7 = v at e2 t1 t2
  obtain ⟨st, a1, b1, s1, s2, e3⟩ := forStem (m := (m : Nat)) ⟨(List.range v.toNat).map fun k => .int (k : Nat), none⟩ rfl pre (.lst ((pairs gj).map .str)) _ rfl ((List.range v.toNat).map fun k => .int (k : Nat)) [] (takeA a 7) (takeB a b) (by simp) (by simp; omega)
  have e4 := take_eq pre [.lst ((pairs gj).map .str)] a1 b1 ((st.length : Int) + 1) (by omega) (by omega)
  obtain ⟨t3, t4⟩ := takeV_lt (a := a1) (b := b1) (m := (st.length : Int) + 1) (by omega)
  generalize takeV a1 b1 ((st.length : Int) + 1) = u at e4 t3 t4
  obtain ⟨i, rfl⟩ : ∃ i : Nat, u = i := ⟨u.toNat, by omega⟩
  have hi : i ≤ st.length := by omega
  obtain ⟨L', qs, a2, b2, q1, q2, q3, e5⟩ := forWord (m := (m : Nat)) ⟨(List.range m).map fun k => .int (k : Nat), none⟩ rfl pre st i hi s2 _ rfl ((List.range m).map fun k => .int (k : Nat)) (pairs gj) [] (takeA a1 ((st.length : Int) + 1)) (takeB a1 b1)
    (fun _ h => h) (by simp) (by simpa using pairs_nd) (by simp only [List.length_map, List.length_range]; have : (pairs gj).length = 104 := (by decide +kernel); omega) (by decide +kernel) (by simp; omega)
  refine ⟨qs.map (wd st i), a2, b2, ⟨fun x hx => ?_, ?_, by simpa using q3⟩, ?_⟩
  · obtain ⟨y, hy, rfl⟩ := List.mem_map.mp hx
    exact wd_w s1 s2 hi (q1 y hy)
  · unfold List.Nodup
    rw [List.pairwise_map]
    exact q2.imp fun h e => h (wd_inj e)
  · unfold d_law_names
    rw [runDef_ap]
    unfold m_law_names b_law_names_0 b_law_names_1 b_law_names_2
    have m1 : -4611686018427387904 ≤ (m : Int) := by omega
    have m2 : (m : Int) ≤ 16777216 := by omega
    have z1 : st.length ≤ sz := by simp only [sz]; omega
    have v1 : -4611686018427387904 ≤ v := by omega
    have v2 : v ≤ 16777216 := by omega
    generalize hP : (pairs gj).map PV.str = PP at e1 e2 e3 e4 e5
    simp only [nE, List.map_nil] at e1 e3 e5
    rw [List.map_map] at e5
    simp only [List.map_cons, List.map_nil, List.length_cons, List.length_nil]
    simp at e1 e3 e5
    simp [iSeq, iRange1, sz, der1, e1, e2, v1, v2, e3, bLen_str _ z1, e4, m1, m2, e5]
    have lbq : ∀ n, lbs n (qs.map (PV.str ∘ wd st i)) = true := fun n => isDs_lb 0 n _ (by simp [isD])
    have f := finV_new (old := pre ++ [bg a b]) (new := pre ++ [bg a2 b2]) (e := [.lst (L'.map .str), .lst (qs.map (PV.str ∘ wd st i))]) (n := pre.length + 2) (c := .lst (qs.map (PV.str ∘ wd st i))) (by simp) (kept_mid pre [] _ _ (by simp)) (by simp)
      (by rw [List.append_assoc]; exact get2 pre [] _ _ _) (by rw [lb_lst]; exact lbq _)
    rw [List.append_assoc] at f
    exact f
end EL
/-! what the package's functions about names and parts answer, for any plain data -/
namespace PL
open Mir
def c_LETTERS : PV := .str [97, 98, 99, 100, 101, 102, 103, 104, 105, 106, 107, 108, 109, 110, 111, 112, 113, 114, 115, 116, 117, 118, 119, 120, 121, 122]
def c_WORDS : PV := .tup [.str [109, 97, 114, 107, 115], .str [107, 105, 110, 100], .str [118, 97, 108, 117, 101], .str [100, 101, 102], .str [114, 101, 116, 117, 114, 110], .str [110, 111, 110, 101], .str [99, 111, 112, 121], .str [105, 102], .str [117, 110, 108, 101, 115, 115], .str [105, 110], .str [105, 115], .str [109, 97, 114, 107], .str [98, 111, 120], .str [111, 110, 99, 101], .str [97, 110, 101, 119], .str [101, 97, 114, 108, 121], .str [108, 97, 116, 101], .str [99, 108, 115], .str [115, 101, 108, 102], .str [109, 101, 116, 104, 111, 100]]
def c_MOST_LETTERS : PV := .int 8
noncomputable def m_is_name (tab : List ((Tg × Tg) × Bool)) : SM := sSeq (sIf (qOr (qNot (qOf (eBlt (bIsi tab) (aCons (eVar 0) (aCons (eC (.ty "str")) (aNil)))))) (qNot (qBl (eChain pyLe pyLe (eC (.int 1)) (eBlt bLen (aCons (eVar 0) (aNil))) (eC c_MOST_LETTERS))))) (sRet (eC (.bl false))) (sNext)) (sRet (eAnd (eOp2 pyNotIn (eVar 0) (eC c_WORDS)) (eBlt bAll (aCons (eLst (aComp (iSeq (eVar 0)) (gName 1) (qYes) (eOp2 pyIn (eVar 1) (eC c_LETTERS)) [1])) (aNil)))))
noncomputable def d_is_name (tab : List ((Tg × Tg) × Bool)) : ON := runDef finV 2 (m_is_name tab)
noncomputable def m_are_items (tab : List ((Tg × Tg) × Bool)) : SM := sSeq (sIf (qOr (qNot (qOf (eBlt (bIsi tab) (aCons (eVar 0) (aCons (eC (.ty "tuple")) (aNil)))))) (qNot (qOf (eBlt bAll (aCons (eLst (aComp (iSeq (eVar 0)) (gName 2) (qYes) (eCallK (fun vs _ => d_is_name tab vs) (aCons (eVar 2) (aNil)) (aNil)) [2])) (aNil)))))) (sRet (eC (.bl false))) (sNext)) (sRet (eBlt bAll (aCons (eLst (aComp (iRange1 (eOp2 pySub (eBlt bLen (aCons (eVar 0) (aNil))) (eC (.int 1)))) (gName 1) (qYes) (eOp2 pyLt (eOp2 pyIdx (eVar 0) (eVar 1)) (eOp2 pyIdx (eVar 0) (eOp2 pyAdd (eVar 1) (eC (.int 1))))) [1])) (aNil))))
noncomputable def d_are_items (tab : List ((Tg × Tg) × Bool)) : ON := runDef finV 3 (m_are_items tab)
noncomputable def m_is_owner (tab : List ((Tg × Tg) × Bool)) : SM := sRet (eOr (eCallK (fun vs _ => d_is_name tab vs) (aCons (eVar 0) (aNil)) (aNil)) (eAnd (eBlt (bIsi tab) (aCons (eVar 0) (aCons (eC (.ty "str")) (aNil)))) (eOp2 pyEq (eVar 0) (eC (.str [99, 108, 115])))))
noncomputable def d_is_owner (tab : List ((Tg × Tg) × Bool)) : ON := runDef finV 1 (m_is_owner tab)
noncomputable def m_is_truth (tab : List ((Tg × Tg) × Bool)) : SM := sRet (eBlt (bIsi tab) (aCons (eVar 0) (aCons (eC (.ty "bool")) (aNil))))
noncomputable def d_is_truth (tab : List ((Tg × Tg) × Bool)) : ON := runDef finV 1 (m_is_truth tab)
noncomputable def m_has_word (tab : List ((Tg × Tg) × Bool)) : SM := sRet (eAnd (eBlt (bIsi tab) (aCons (eVar 0) (aCons (eC (.ty "tuple")) (aNil)))) (eAnd (eOp2 pyGt (eBlt bLen (aCons (eVar 0) (aNil))) (eC (.int 0))) (eBlt (bIsi tab) (aCons (eOp2 pyIdx (eVar 0) (eC (.int 0))) (aCons (eC (.ty "str")) (aNil))))))
noncomputable def d_has_word (tab : List ((Tg × Tg) × Bool)) : ON := runDef finV 1 (m_has_word tab)
noncomputable def m_is_default (tab : List ((Tg × Tg) × Bool)) : SM := sSeq (sIf (qNot (qOf (eCallK (fun vs _ => d_has_word tab vs) (aCons (eVar 1) (aNil)) (aNil)))) (sRet (eC (.bl false))) (sNext)) (sSeq (sPar (aCons (eOp2 pyIdx (eVar 1) (eC (.int 0))) (aCons (eBlt bLen (aCons (eVar 1) (aNil))) aNil)) 2 3) (sSeq (sIf (qBl (eOp2 pyEq (eVar 0) (eC (.str [109, 97, 114, 107])))) (sRet (eAnd (eOp2 pyEq (eVar 2) (eC (.str [109, 97, 114, 107]))) (eAnd (eOp2 pyEq (eVar 3) (eC (.int 2))) (eCallK (fun vs _ => d_is_name tab vs) (aCons (eOp2 pyIdx (eVar 1) (eC (.int 1))) (aNil)) (aNil))))) (sNext)) (sSeq (sIf (qBl (eOp2 pyIn (eVar 2) (eTup (aCons (eC (.str [111, 110, 99, 101])) (aCons (eC (.str [97, 110, 101, 119])) (aNil)))))) (sRet (eAnd (eOp2 pyEq (eVar 3) (eC (.int 2))) (eCallK (fun vs _ => d_are_items tab vs) (aCons (eOp2 pyIdx (eVar 1) (eC (.int 1))) (aNil)) (aNil)))) (sNext)) (sSeq (sIf (qBl (eOp2 pyEq (eVar 2) (eC (.str [101, 97, 114, 108, 121])))) (sRet (eAnd (eOp2 pyEq (eVar 3) (eC (.int 3))) (eAnd (eCallK (fun vs _ => d_is_name tab vs) (aCons (eOp2 pyIdx (eVar 1) (eC (.int 1))) (aNil)) (aNil)) (eCallK (fun vs _ => d_is_name tab vs) (aCons (eOp2 pyIdx (eVar 1) (eC (.int 2))) (aNil)) (aNil))))) (sNext)) (sRet (eAnd (eOp2 pyEq (eVar 2) (eC (.str [108, 97, 116, 101]))) (eAnd (eOp2 pyEq (eVar 3) (eC (.int 3))) (eAnd (eCallK (fun vs _ => d_is_owner tab vs) (aCons (eOp2 pyIdx (eVar 1) (eC (.int 1))) (aNil)) (aNil)) (eCallK (fun vs _ => d_is_name tab vs) (aCons (eOp2 pyIdx (eVar 1) (eC (.int 2))) (aNil)) (aNil))))))))))
noncomputable def d_is_default (tab : List ((Tg × Tg) × Bool)) : ON := runDef finV 4 (m_is_default tab)
noncomputable def m_look_name (tab : List ((Tg × Tg) × Bool)) (cN : Nat) : SM := sIf (qNot (qOf (eCallK (fun vs _ => d_is_name tab vs) (aCons (eVar 0) (aNil)) (aNil)))) (sRaise cN (aCons (eVar 0) (aNil))) (sNext)
noncomputable def d_look_name (tab : List ((Tg × Tg) × Bool)) (cN : Nat) : ON := runDef finV 1 (m_look_name tab cN)
noncomputable def m_Param_init (tab : List ((Tg × Tg) × Bool)) (cN : Nat) (cP : Nat) (tn th td tm : List (Nat × Nat)) : SM := sSeq (sExp (eCallK (fun vs _ => d_look_name tab cN vs) (aCons (eVar 1) (aNil)) (aNil))) (sSeq (sIf (qOr (qNot (qOf (eBlt (bIsi tab) (aCons (eVar 2) (aCons (eC (.ty "str")) (aNil)))))) (qBl (eOp2 pyNotIn (eVar 2) (eTup (aCons (eC (.str [109, 97, 114, 107])) (aCons (eC (.str [98, 111, 120])) (aNil))))))) (sRaise cP (aCons (eC (.str [104, 111, 108, 100, 115])) (aNil))) (sNext)) (sSeq (sIf (qAnd (qBl (eNotB (eOp1 (pyIs .non) (eVar 3)))) (qNot (qOf (eCallK (fun vs _ => d_is_default tab vs) (aCons (eVar 2) (aCons (eVar 3) (aNil))) (aNil))))) (sRaise cP (aCons (eC (.str [100, 101, 102, 97, 117, 108, 116])) (aNil))) (sNext)) (sSeq (sIf (qNot (qOf (eCallK (fun vs _ => d_is_truth tab vs) (aCons (eVar 4) (aNil)) (aNil)))) (sRaise cP (aCons (eC (.str [110, 97, 109, 101, 100])) (aNil))) (sNext)) (sSeq (sSetF tn (eVar 0) (eVar 1)) (sSeq (sSetF th (eVar 0) (eVar 2)) (sSeq (sSetF td (eVar 0) (eVar 3)) (sSetF tm (eVar 0) (eVar 4))))))))
noncomputable def d_Param_init (tab : List ((Tg × Tg) × Bool)) (cN : Nat) (cP : Nat) (tn th td tm : List (Nat × Nat)) : ON := runDef finV 5 (m_Param_init tab cN cP tn th td tm)
/-! ### plain data -/
abbrev WDS : List (List Nat) := [[109, 97, 114, 107, 115], [107, 105, 110, 100], [118, 97, 108, 117, 101], [100, 101, 102], [114, 101, 116, 117, 114, 110], [110, 111, 110, 101], [99, 111, 112, 121], [105, 102], [117, 110, 108, 101, 115, 115], [105, 110], [105, 115], [109, 97, 114, 107], [98, 111, 120], [111, 110, 99, 101], [97, 110, 101, 119], [101, 97, 114, 108, 121], [108, 97, 116, 101], [99, 108, 115], [115, 101, 108, 102], [109, 101, 116, 104, 111, 100]]
abbrev ABC : List Nat := [97, 98, 99, 100, 101, 102, 103, 104, 105, 106, 107, 108, 109, 110, 111, 112, 113, 114, 115, 116, 117, 118, 119, 120, 121, 122]
abbrev sMark : List Nat := [109, 97, 114, 107]
abbrev sBox : List Nat := [98, 111, 120]
abbrev sOnce : List Nat := [111, 110, 99, 101]
abbrev sAnew : List Nat := [97, 110, 101, 119]
abbrev sEarly : List Nat := [101, 97, 114, 108, 121]
abbrev sLate : List Nat := [108, 97, 116, 101]
abbrev sCls : List Nat := [99, 108, 115]
/-- data: texts are short -/
def G : Nat → PV → Bool
  | _, .non => true
  | _, .bl _ => true
  | _, .int _ => true
  | _, .str l => decide (l.length ≤ 1000)
  | n + 1, .tup xs => decide (xs.length ≤ 1000) && xs.all (G n)
  | n + 1, .lst xs => decide (xs.length ≤ 1000) && xs.all (G n)
  | _, _ => false
theorem G_isD : ∀ (n : Nat) (v : PV), G n v = true → isD n v = true
  | n, .non, _ => by cases n <;> rfl
  | n, .bl _, _ => by cases n <;> rfl
  | n, .int _, _ => by cases n <;> rfl
  | n, .str _, _ => by cases n <;> rfl
  | n + 1, .tup xs, h => by
    simp only [G, Bool.and_eq_true, List.all_eq_true] at h
    simp only [isD, List.all_eq_true]
    exact fun x hx => G_isD n x (h.2 x hx)
  | n + 1, .lst xs, h => by
    simp only [G, Bool.and_eq_true, List.all_eq_true] at h
    simp only [isD, List.all_eq_true]
    exact fun x hx => G_isD n x (h.2 x hx)
  | 0, .tup xs, h => by simp [G] at h
  | 0, .lst xs, h => by simp [G] at h
  | n, .ro xs, h => by cases n <;> simp [G] at h
  | n, .dic _ _, h => by cases n <;> simp [G] at h
  | n, .ins _ _, h => by cases n <;> simp [G] at h
  | n, .loc _, h => by cases n <;> simp [G] at h
  | n, .fn _, h => by cases n <;> simp [G] at h
  | n, .cls _, h => by cases n <;> simp [G] at h
  | n, .ty _, h => by cases n <;> simp [G] at h
theorem G_mono : ∀ (n : Nat) (v : PV), G n v = true → G (n + 1) v = true
  | n, .non, _ => by cases n <;> rfl
  | n, .bl _, _ => by cases n <;> rfl
  | n, .int _, _ => by cases n <;> rfl
  | n, .str _, h => by cases n <;> exact h
  | n + 1, .tup xs, h => by
    simp only [G, Bool.and_eq_true, List.all_eq_true] at h ⊢
    exact ⟨h.1, fun x hx => G_mono n x (h.2 x hx)⟩
  | n + 1, .lst xs, h => by
    simp only [G, Bool.and_eq_true, List.all_eq_true] at h ⊢
    exact ⟨h.1, fun x hx => G_mono n x (h.2 x hx)⟩
  | 0, .tup xs, h => by simp [G] at h
  | 0, .lst xs, h => by simp [G] at h
  | n, .ro xs, h => by cases n <;> simp [G] at h
  | n, .dic _ _, h => by cases n <;> simp [G] at h
  | n, .ins _ _, h => by cases n <;> simp [G] at h
  | n, .loc _, h => by cases n <;> simp [G] at h
  | n, .fn _, h => by cases n <;> simp [G] at h
  | n, .cls _, h => by cases n <;> simp [G] at h
  | n, .ty _, h => by cases n <;> simp [G] at h
theorem G_le {n m : Nat} {x : PV} (hm : n ≤ m) (h : G n x = true) : G m x = true := by
  induction hm with
  | refl => exact h
  | step _ ih => exact G_mono _ _ ih
theorem G_deref {n : Nat} {x : PV} {s : Store} (h : G n x = true) : deref s x = x := by
  cases x <;> first | rfl | (cases n <;> simp [G] at h)
theorem G_lb {n : Nat} {x : PV} (b : Nat) (h : G n x = true) : lb b x = true := isD_lb n b x (G_isD n x h)
theorem G_lbs {n : Nat} {l : List PV} (b : Nat) (h : ∀ x ∈ l, G n x = true) : lbs b l = true := lbs_iff.mpr fun x hx => G_lb b (h x hx)
theorem pyNe_G {x y : PV} {s : Store} (h : G dp x = true) (h' : G dp y = true) : pyNe x y s = .ok (.bl (!eqF dp x y)) s := by
  unfold pyNe
  rw [G_deref h, G_deref h', G_isD _ _ h, G_isD _ _ h']; rfl
theorem pyEq_G {x y : PV} {s : Store} (h : G dp x = true) (h' : G dp y = true) : pyEq x y s = .ok (.bl (eqF dp x y)) s := by
  unfold pyEq
  rw [G_deref h, G_deref h', G_isD _ _ h, G_isD _ _ h']; rfl
theorem pyIn_tup {x : PV} {s : Store} {xs : List PV} (h : isD dp x = true) (h' : xs.all (isD dp) = true) : pyIn x (.tup xs) s = .ok (.bl (xs.any fun z => eqF dp z x)) s := by
  unfold pyIn inP
  split
  · rename_i heq; cases heq
  · simp [h, h']
theorem pyNotIn_tup {x : PV} {s : Store} {xs : List PV} (h : isD dp x = true) (h' : xs.all (isD dp) = true) : pyNotIn x (.tup xs) s = .ok (.bl (!(xs.any fun z => eqF dp z x))) s := by
  unfold pyNotIn inP
  split
  · rename_i heq; cases heq
  · simp [h, h']
theorem pyIn_lst {x : PV} {s : Store} {xs : List PV} (h : isD dp x = true) (h' : xs.all (isD dp) = true) : pyIn x (.lst xs) s = .ok (.bl (xs.any fun z => eqF dp z x)) s := by
  unfold pyIn inP
  split
  · rename_i heq; cases heq
  · simp [h, h']
/-- what the table of classes must tell -/
structure TabOk (tab : List ((Tg × Tg) × Bool)) : Prop where
  s : ∀ b ∈ ["NoneType", "bool", "int", "str", "tuple", "list"], tab.lookup (.t b, .t "str") = some (b == "str")
  t : ∀ b ∈ ["NoneType", "bool", "int", "str", "tuple", "list"], tab.lookup (.t b, .t "tuple") = some (b == "tuple")
  b : ∀ b ∈ ["NoneType", "bool", "int", "str", "tuple", "list"], tab.lookup (.t b, .t "bool") = some (b == "bool")
def isStr : PV → Bool
  | .str _ => true
  | _ => false
def isTup : PV → Bool
  | .tup _ => true
  | _ => false
def isBl : PV → Bool
  | .bl _ => true
  | _ => false
section
variable {tab : List ((Tg × Tg) × Bool)} (K : TabOk tab) {n : Nat} {x : PV} {s : Store}
include K
theorem isi_str (h : G n x = true) : bIsi tab [x, .ty "str"] s = .ok (.bl (isStr x)) s := by
  cases x <;> first | (rw [bIsi_ty]; simp only [tgOf_non, tgOf_bl, tgOf_int, tgOf_str, tgOf_tup, tgOf_lst, Option.bind_some]; rw [K.s _ (by simp)]; rfl) | (cases n <;> simp [G] at h)
theorem isi_tup (h : G n x = true) : bIsi tab [x, .ty "tuple"] s = .ok (.bl (isTup x)) s := by
  cases x <;> first | (rw [bIsi_ty]; simp only [tgOf_non, tgOf_bl, tgOf_int, tgOf_str, tgOf_tup, tgOf_lst, Option.bind_some]; rw [K.t _ (by simp)]; rfl) | (cases n <;> simp [G] at h)
theorem isi_bool (h : G n x = true) : bIsi tab [x, .ty "bool"] s = .ok (.bl (isBl x)) s := by
  cases x <;> first | (rw [bIsi_ty]; simp only [tgOf_non, tgOf_bl, tgOf_int, tgOf_str, tgOf_tup, tgOf_lst, Option.bind_some]; rw [K.b _ (by simp)]; rfl) | (cases n <;> simp [G] at h)
end
theorem len2 {α : Type} (w : α) (r : List α) : ((((w :: r).length : Int)) == 2) = (match r with | [_] => true | _ => false) := by
  match r with
  | [] => rfl
  | [_] => rfl
  | _ :: _ :: r =>
    show ((((r.length + 3 : Nat) : Int)) == 2) = false
    rw [beq_eq_false_iff_ne]; omega
theorem len3 {α : Type} (w : α) (r : List α) : ((((w :: r).length : Int)) == 3) = (match r with | [_, _] => true | _ => false) := by
  match r with
  | [] => rfl
  | [_] => rfl
  | [_, _] => rfl
  | _ :: _ :: _ :: r =>
    show ((((r.length + 4 : Nat) : Int)) == 3) = false
    rw [beq_eq_false_iff_ne]; omega
/-! ### names -/
def inW (w : List Nat) : Bool := decide (w ∈ WDS)
def isLow (c : Nat) : Bool := decide (c ∈ ABC)
def nmB (w : List Nat) : Bool := decide (1 ≤ w.length) && decide (w.length ≤ 8) && (!inW w && w.all isLow)
def nmP : PV → Bool
  | .str w => nmB w
  | _ => false
theorem any_words (w : List Nat) : ∀ l : List (List Nat), (l.map PV.str).any (fun z => eqF dp z (.str w)) = decide (w ∈ l)
  | [] => by simp
  | x :: l => by
    simp only [List.map_cons, List.any_cons, any_words w l, List.mem_cons]
    have : eqF dp (.str x) (.str w) = (x == w) := rfl
    rw [this]
    by_cases q : x = w
    · subst q; simp
    · simp [q, Ne.symm q]
theorem wordsE : c_WORDS = .tup (WDS.map .str) := rfl
theorem notin_words (w : List Nat) (s : Store) : pyNotIn (.str w) c_WORDS s = .ok (.bl (!inW w)) s := by
  rw [wordsE, pyNotIn_tup rfl (by decide), any_words]; rfl
theorem all_map {α : Type} {s : Store} (l : List α) (p : α → Bool) : bAll [.lst (l.map fun c => PV.bl (p c))] s = .ok (.bl (l.all p)) s := by
  unfold bAll
  simp [blsOf_mapP]
section
variable {tab : List ((Tg × Tg) × Bool)} (K : TabOk tab) {n : Nat} {x : PV}
include K
theorem isname_eq (h : G n x = true) (s : Store) : d_is_name tab [x] s = .ok (.bl (nmP x)) s := by
  have fin : ∀ b, finV s (.bl b) s = .ok (.bl b) s := fun b => finV_data rfl (kept_refl _ _) (by simp)
  have hi := isi_str K (s := s) h
  unfold d_is_name
  rw [runDef_ap]
  unfold m_is_name
  by_cases hs : isStr x = true
  case neg =>
    simp [hi, hs]
    rw [fin]
    cases x <;> first | rfl | (simp [isStr] at hs)
  case pos =>
    cases x <;> first | (simp [isStr] at hs; done) | skip
    rename_i w
    have hw : w.length ≤ 1000 := by cases n <;> simpa [G] using h
    have hz : w.length ≤ sz := by simp only [sz]; omega
    have hg : compGo ⟨w.map fun c => PV.str [c], none⟩ (gName 1) qYes (eOp2 pyIn (eVar 1) (eC c_LETTERS)) [some (.str w), none] (w.map fun c => PV.str [c]) [] s = .ok (w.map fun c => PV.bl (isLow c)) s := by
      rw [compGo_pure (fun _ => true) (fun y => match y with | .str [c] => .bl (isLow c) | _ => .non)]
      · rw [List.filter_eq_self.mpr (by simp), List.nil_append, List.map_map]; rfl
      · intro y hy
        obtain ⟨c, hc, rfl⟩ := List.mem_map.mp hy
        refine ⟨_, rfl, rfl, fun _ => ?_⟩
        have : inP s (.str [c]) c_LETTERS = some (isLow c) := rfl
        simp only [eOp2_ap, eVar_ap, eC_ap]
        simp [pyIn, this]
    simp only [isStr] at hi
    by_cases g1 : 1 ≤ w.length
    · by_cases g2 : w.length ≤ 8
      · have i1 : (1 : Int) ≤ (w.length : Int) := by omega
        have i2 : (w.length : Int) ≤ 8 := by omega
        have am := all_map (s := s) w isLow
        cases hin : inW w
        · simp [hi, bLen_str _ hz, c_MOST_LETTERS, i1, i2, notin_words, hin, iSeq, hz, wipe, hg, am]
          rw [fin]
          simp only [nmP, nmB, g1, g2, hin]
          simp
        · simp [hi, bLen_str _ hz, c_MOST_LETTERS, i1, i2, notin_words, hin]
          rw [fin]
          simp only [nmP, nmB, hin]
          simp
      · have i1 : (1 : Int) ≤ (w.length : Int) := by omega
        have i2 : ¬ (w.length : Int) ≤ 8 := by omega
        simp [hi, bLen_str _ hz, c_MOST_LETTERS, i1, i2]
        rw [fin]
        simp [nmP, nmB, g2]
    · have i1 : ¬ (1 : Int) ≤ (w.length : Int) := by omega
      simp [hi, bLen_str _ hz, c_MOST_LETTERS, i1]
      rw [fin]
      simp only [nmP, nmB, decide_eq_false g1]
      simp
def strOf : PV → List Nat
  | .str w => w
  | _ => []
def ascB (xs : List PV) : Bool := (List.range (xs.length - 1)).all fun k => decide (strOf (xs.getD k .non) < strOf (xs.getD (k + 1) .non))
/-- is this a tuple of names in order -/
def itP : PV → Bool
  | .tup xs => xs.all nmP && ascB xs
  | _ => false
theorem items_eq (h : G (n + 1) x = true) (s : Store) : d_are_items tab [x] s = .ok (.bl (itP x)) s := by
  have fin : ∀ b, finV s (.bl b) s = .ok (.bl b) s := fun b => finV_data rfl (kept_refl _ _) (by simp)
  have hi := isi_tup K (s := s) h
  unfold d_are_items
  rw [runDef_ap]
  unfold m_are_items
  by_cases ht : isTup x = true
  case neg =>
    simp [hi, ht]
    rw [fin]
    cases x <;> first | rfl | (simp [isTup] at ht)
  case pos =>
    cases x <;> first | (simp [isTup] at ht; done) | skip
    rename_i xs
    simp only [G, Bool.and_eq_true, List.all_eq_true, decide_eq_true_eq] at h
    obtain ⟨hl, hx⟩ := h
    have c1 : compGo ⟨xs, none⟩ (gName 2) qYes (eCallK (fun vs _ => d_is_name tab vs) (aCons (eVar 2) aNil) aNil) [some (.tup xs), none, none] xs [] s = .ok (xs.map fun y => PV.bl (nmP y)) s := by
      rw [compGo_pure (fun _ => true) (fun y => .bl (nmP y))]
      · rw [List.filter_eq_self.mpr (by simp)]; simp
      · intro y hy
        refine ⟨_, rfl, rfl, fun _ => ?_⟩
        simp [isname_eq K (hx y hy)]
    have a1 := all_map (s := s) xs nmP
    simp only [isTup] at hi
    cases hn : xs.all nmP
    · rw [hn] at a1
      simp [hi, iSeq, wipe, c1, a1]
      rw [fin]
      simp [itP, hn]
    · rw [hn] at a1
      have st : ∀ k (hk : k < xs.length), ∃ w, xs[k] = .str w := fun k hk => by
        have := List.all_eq_true.mp hn xs[k] (List.getElem_mem hk)
        cases hz : xs[k] <;> rw [hz] at this <;> first | exact ⟨_, rfl⟩ | (simp [nmP] at this)
      have c2 : compGo ⟨(List.range (xs.length - 1)).map fun k => .int (k : Nat), none⟩ (gName 1) qYes (eOp2 pyLt (eOp2 pyIdx (eVar 0) (eVar 1)) (eOp2 pyIdx (eVar 0) (eOp2 pyAdd (eVar 1) (eC (.int 1))))) [some (.tup xs), none, none] ((List.range (xs.length - 1)).map fun k => .int (k : Nat)) [] s = .ok ((List.range (xs.length - 1)).map fun k => PV.bl (decide (strOf (xs.getD k .non) < strOf (xs.getD (k + 1) .non)))) s := by
        rw [compGo_pure (fun _ => true) (fun y => match y with | .int i => .bl (decide (strOf (xs.getD i.toNat .non) < strOf (xs.getD (i.toNat + 1) .non))) | _ => .non)]
        · rw [List.filter_eq_self.mpr (by simp), List.nil_append, List.map_map]; rfl
        · intro y hy
          obtain ⟨k, hk, rfl⟩ := List.mem_map.mp hy
          have hk' := List.mem_range.mp hk
          have b1 : k < xs.length := by omega
          have b2 : k + 1 < xs.length := by omega
          obtain ⟨u, hu⟩ := st k b1
          obtain ⟨v, hv⟩ := st (k + 1) b2
          refine ⟨_, rfl, rfl, fun _ => ?_⟩
          have a1 : atP xs (k : Int) = some (.str u) := atP_of rfl (by rw [List.getElem?_eq_getElem b1, hu])
          have a2 : atP xs ((k : Int) + 1) = some (.str v) := atP_of (j := k + 1) (by omega) (by rw [List.getElem?_eq_getElem b2, hv])
          simp [a1, a2, List.getElem?_eq_getElem b1, List.getElem?_eq_getElem b2, hu, hv, strOf]
      have a2 := all_map (s := s) (List.range (xs.length - 1)) (fun k => decide (strOf (xs.getD k .non) < strOf (xs.getD (k + 1) .non)))
      have e3 : ((xs.length : Int) - 1).toNat = xs.length - 1 := by omega
      have e4 : -4611686018427387904 ≤ (xs.length : Int) - 1 := by omega
      have e5 : (xs.length : Int) - 1 ≤ 16777216 := by omega
      generalize (List.range (xs.length - 1)).map (fun k => PV.bl (decide (strOf (xs.getD k .non) < strOf (xs.getD (k + 1) .non)))) = LL at c2 a2
      simp [hi, iSeq, wipe, c1, a1, iRange1, e3, e4, e5, c2, a2]
      rw [fin]
      simp only [itP, hn, Bool.true_and]
      rfl
/-- .. the name of a kind, or cls -/
def owP : PV → Bool
  | .str w => nmB w || w == sCls
  | _ => false
theorem owner_eq (h : G n x = true) (s : Store) : d_is_owner tab [x] s = .ok (.bl (owP x)) s := by
  have fin : ∀ b, finV s (.bl b) s = .ok (.bl b) s := fun b => finV_data rfl (kept_refl _ _) (by simp)
  have hi := isi_str K (s := s) h
  unfold d_is_owner
  rw [runDef_ap]
  unfold m_is_owner
  have h1 := isname_eq K h s
  cases hb : nmP x
  · rw [hb] at h1
    by_cases hs : isStr x = true
    · cases x <;> first | (simp [isStr] at hs; done) | skip
      rename_i w
      simp only [nmP] at hb
      simp only [isStr] at hi
      simp [-bIsi_ty, h1, hi]
      rw [fin]
      simp [owP, hb]
    · simp [-bIsi_ty, h1, hi, hs]
      rw [fin]
      cases x <;> first | rfl | (simp [isStr] at hs)
  · rw [hb] at h1
    simp [h1]
    rw [fin]
    cases x <;> first | (simp [nmP] at hb; done) | skip
    simp only [nmP] at hb
    simp [owP, hb]
theorem truth_eq (h : G n x = true) (s : Store) : d_is_truth tab [x] s = .ok (.bl (isBl x)) s := by
  have fin : ∀ b, finV s (.bl b) s = .ok (.bl b) s := fun b => finV_data rfl (kept_refl _ _) (by simp)
  unfold d_is_truth
  rw [runDef_ap]
  unfold m_is_truth
  simp [isi_bool K (s := s) h, fin]
def hwP : PV → Bool
  | .tup (.str _ :: _) => true
  | _ => false
theorem word_eq (h : G (n + 1) x = true) (s : Store) : d_has_word tab [x] s = .ok (.bl (hwP x)) s := by
  have fin : ∀ b, finV s (.bl b) s = .ok (.bl b) s := fun b => finV_data rfl (kept_refl _ _) (by simp)
  have hi := isi_tup K (s := s) h
  unfold d_has_word
  rw [runDef_ap]
  unfold m_has_word
  by_cases ht : isTup x = true
  case neg =>
    simp [hi, ht]
    rw [fin]
    cases x <;> first | rfl | (simp [isTup] at ht)
  case pos =>
    cases x <;> first | (simp [isTup] at ht; done) | skip
    rename_i xs
    simp only [G, Bool.and_eq_true, List.all_eq_true, decide_eq_true_eq] at h
    simp only [isTup] at hi
    cases xs with
    | nil => simp [hi]; rw [fin]; rfl
    | cons a r =>
      have h2 := isi_str K (s := s) (h.2 a (by simp))
      have h3 : (0 : Int) < (r.length : Int) + 1 := by omega
      simp [-bIsi_ty, hi, h2, h3]
      rw [fin]
      cases a <;> rfl
/-- what a default may be, for a parameter that holds h -/
def dfP (h : List Nat) : PV → Bool
  | .tup (.str w :: r) => if h == sMark then w == sMark && (match r with
      | [a] => nmP a
      | _ => false)
    else if w == sOnce || w == sAnew then (match r with
      | [a] => itP a
      | _ => false)
    else if w == sEarly then (match r with
      | [a, b] => nmP a && nmP b
      | _ => false)
    else w == sLate && (match r with
      | [a, b] => owP a && nmP b
      | _ => false)
  | _ => false
set_option maxHeartbeats 0 in
theorem default_eq {h : List Nat} (h1 : h.length ≠ 1) (hx : G (n + 2) x = true) (s : Store) : d_is_default tab [.str h, x] s = .ok (.bl (dfP h x)) s := by
  have fin : ∀ b, finV s (.bl b) s = .ok (.bl b) s := fun b => finV_data rfl (kept_refl _ _) (by simp)
  have hw := word_eq K hx s
  unfold d_is_default
  rw [runDef_ap]
  unfold m_is_default
  cases hb : hwP x
  case false =>
    rw [hb] at hw
    simp [hw]
    rw [fin]
    unfold dfP
    split
    · rename_i w r; simp [hwP] at hb
    · rfl
  case true =>
    rw [hb] at hw
    obtain ⟨w, r, rfl⟩ : ∃ w r, x = .tup (.str w :: r) := by
      unfold hwP at hb
      split at hb
      · exact ⟨_, _, rfl⟩
      · cases hb
    simp only [G, Bool.and_eq_true, List.all_eq_true, decide_eq_true_eq] at hx
    obtain ⟨hl, hr⟩ := hx
    have hr' : ∀ y ∈ r, G (n + 1) y = true := fun y hy => hr y (List.mem_cons_of_mem _ hy)
    have pi : pyIn (.str w) (.tup [.str sOnce, .str sAnew]) s = .ok (.bl (w == sOnce || w == sAnew)) s := by
      rw [pyIn_tup rfl rfl]
      simp only [List.any_cons, List.any_nil, Bool.or_false]
      have e1 : eqF dp (.str sOnce) (.str w) = (w == sOnce) := BEq.comm
      have e2 : eqF dp (.str sAnew) (.str w) = (w == sAnew) := BEq.comm
      rw [e1, e2]
    have L2 := len2 (PV.str w) r
    have L3 := len3 (PV.str w) r
    simp only [List.length_cons] at L2 L3
    by_cases hm : h = sMark
    · subst hm
      by_cases q : w = sMark
      · subst q
        match r, hr', L2 with
        | [a], hr', _ => simp [hw, dfP, isname_eq K (hr' a (by simp)), fin]
        | [], _, _ => simp [hw, dfP, fin]
        | a :: b :: r, _, L2 => 
          have : ¬ ((r.length : Int) + 1 + 1 + 1 = 2) := by omega
          simp [hw, dfP, fin, this]
      · have q' : (w == sMark) = false := by simpa using q
        simp [hw, q', fin]
        simp [dfP, q']
    · have hm' : (h == sMark) = false := by simpa using hm
      by_cases q1 : (w == sOnce || w == sAnew) = true
      · rw [q1] at pi
        match r, hr' with
        | [a], hr' => simp [hw, hm', pi, items_eq K (hr' a (by simp)), fin, dfP, q1]
        | [], _ => simp [hw, hm', pi, fin, dfP, q1]
        | a :: b :: r, _ =>
          have : ¬ ((r.length : Int) + 1 + 1 + 1 = 2) := by omega
          simp [hw, hm', pi, this, fin, dfP, q1]
      · simp only [Bool.not_eq_true] at q1
        rw [q1] at pi
        by_cases q2 : w = sEarly
        · subst q2
          match r, hr' with
          | [a, b], hr' =>
            have e1 := isname_eq K (hr' a (by simp)) s
            have e2 := isname_eq K (hr' b (by simp)) s
            cases ha : nmP a <;> rw [ha] at e1 <;> simp [hw, hm', pi, e1, e2, fin, dfP, q1, ha]
          | [], _ => simp [hw, hm', pi, fin, dfP, q1]
          | [_], _ => simp [hw, hm', pi, fin, dfP, q1]
          | a :: b :: c :: r, _ =>
            have : ¬ ((r.length : Int) + 1 + 1 + 1 + 1 = 3) := by omega
            simp [hw, hm', pi, this, fin, dfP, q1]
        · have q2' : (w == sEarly) = false := by simpa using q2
          by_cases q3 : w = sLate
          · subst q3
            match r, hr' with
            | [a, b], hr' =>
              have e1 := owner_eq K (hr' a (by simp)) s
              have e2 := isname_eq K (hr' b (by simp)) s
              cases ha : owP a <;> rw [ha] at e1 <;> simp [hw, hm', pi, e1, e2, fin, dfP, q1, ha]
            | [], _ => simp [hw, hm', pi, fin, dfP, q1]
            | [_], _ => simp [hw, hm', pi, fin, dfP, q1]
            | a :: b :: c :: r, _ =>
              have : ¬ ((r.length : Int) + 1 + 1 + 1 + 1 = 3) := by omega
              simp [hw, hm', pi, this, fin, dfP, q1]
          · have q3' : (w == sLate) = false := by simpa using q3
            simp [hw, hm', pi, q2', q3', fin]
            simp only [dfP, hm', q1, q2', q3', Bool.false_eq_true, if_false, Bool.false_and]
/-- the first fault of a parameter's parts: 0 name, 1 holds, 2 default, 3 named -/
def holdsOk : PV → Bool
  | .str h => h == sMark || h == sBox
  | _ => false
def parFault (nm ho de na : PV) : Option Nat :=
  if nmP nm = false then some 0 else if holdsOk ho = false then some 1 else if (match de with
    | .non => false
    | _ => !dfP (strOf ho) de) = true then some 2 else if isBl na = false then some 3 else none
variable {cN cP : Nat} {tn th td tm : List (Nat × Nat)}
theorem look_ok (h : G n x = true) (hn : nmP x = true) (s : Store) : d_look_name tab cN [x] s = .ok .non s := by
  have h1 := isname_eq K h s
  rw [hn] at h1
  unfold d_look_name
  rw [runDef_ap]
  unfold m_look_name
  simp [h1]
  rw [finV_data rfl (kept_refl _ _) (by simp)]
theorem finX_same {e : PV} {s : Store} (h : lb s.length e = true) : finX s e s = .exc e s := by
  unfold finX
  rw [if_pos ⟨kept_refl _ _, Nat.le_refl _, h⟩, List.take_length]
theorem finX_drop {e : PV} {s r : Store} (h : lb s.length e = true) : finX s e (s ++ r) = .exc e s := by
  unfold finX
  have hk : Kept s.length s (s ++ r) := fun i hi => by left; rw [List.getElem?_append_left hi]
  have hl : s.length ≤ (s ++ r).length := by simp
  rw [if_pos ⟨hk, hl, h⟩]
  simp
theorem look_bad (h : G n x = true) (hn : nmP x = false) (s : Store) : d_look_name tab cN [x] s = .exc (.ins cN [x]) s := by
  have h1 := isname_eq K h s
  rw [hn] at h1
  unfold d_look_name
  rw [runDef_ap]
  unfold m_look_name
  simp [h1]
  exact finX_same K (by simp [G_lb s.length h])
/-- what the making of a parameter comes to -/
def parRes (c0 cN cP : Nat) (nm ho de na : PV) (s : Store) : Res PV := match parFault nm ho de na with
  | some 0 => .exc (.ins cN [nm]) s
  | some 1 => .exc (.ins cP [.str [104, 111, 108, 100, 115]]) s
  | some 2 => .exc (.ins cP [.str [100, 101, 102, 97, 117, 108, 116]]) s
  | some _ => .exc (.ins cP [.str [110, 97, 109, 101, 100]]) s
  | none => .ok (.ins c0 [nm, ho, de, na]) s
structure FldOk (c0 : Nat) (tn th td tm : List (Nat × Nat)) : Prop where
  n : tn.lookup c0 = some 0
  h : th.lookup c0 = some 1
  d : td.lookup c0 = some 2
  m : tm.lookup c0 = some 3
omit K in
theorem isN_some {x : PV} (s : Store) (h : x ≠ .non) : pyIs .non x s = .ok (.bl false) s := by
  cases x <;> first | rfl | exact absurd rfl h
omit K in
theorem isN_non (s : Store) : pyIs .non .non s = .ok (.bl true) s := rfl
theorem notin_mb {h : List Nat} (s : Store) : pyNotIn (.str h) (.tup [.str sMark, .str sBox]) s = .ok (.bl (!(h == sMark || h == sBox))) s := by
  rw [pyNotIn_tup rfl rfl]
  simp only [List.any_cons, List.any_nil, Bool.or_false]
  have e1 : eqF dp (.str sMark) (.str h) = (h == sMark) := BEq.comm
  have e2 : eqF dp (.str sBox) (.str h) = (h == sBox) := BEq.comm
  rw [e1, e2]
set_option maxHeartbeats 0 in
theorem new_par {c0 : Nat} {nm ho de na : PV} (hf : FldOk c0 tn th td tm) (h1 : G 5 nm = true) (h2 : G 5 ho = true) (h3 : G 5 de = true) (h4 : G 5 na = true) (s : Store) :
    newOf c0 finV (fun vs zs => d_Param_init tab cN cP tn th td tm (pickL [0, 1, 2, 3, 4] (vs ++ ([] : List PV) ++ zs))) [nm] [ho, de, na] s = parRes c0 cN cP nm ho de na s := by
  have l1 := fun b => G_lb b h1
  have l2 := fun b => G_lb b h2
  have l3 := fun b => G_lb b h3
  have l4 := fun b => G_lb b h4
  have t4 := truth_eq K h4
  unfold newOf
  simp only [pickL, List.append_nil, List.cons_append, List.nil_append]
  show (match d_Param_init tab cN cP tn th td tm [.loc s.length, nm, ho, de, na] (s ++ [.ins c0 []]) with
    | .ok .non s1 => finV s (.loc s.length) s1
    | .ok _ _ => .stuck
    | .exc e s1 => finX s e s1
    | .stuck => .stuck) = _
  have bad : ∀ c (v : PV), (∀ b, lb b v = true) → d_Param_init tab cN cP tn th td tm [.loc s.length, nm, ho, de, na] (s ++ [.ins c0 []]) = .exc (.ins c [v]) (s ++ [.ins c0 []]) →
      (match d_Param_init tab cN cP tn th td tm [.loc s.length, nm, ho, de, na] (s ++ [.ins c0 []]) with
    | .ok .non s1 => finV s (.loc s.length) s1
    | .ok _ _ => .stuck
    | .exc e s1 => finX s e s1
    | .stuck => .stuck) = .exc (.ins c [v]) s := fun c v hv e => by
    rw [e]
    exact finX_drop K (by simp [hv])
  have body : ∀ r, m_Param_init tab cN cP tn th td tm [some (.loc s.length), some nm, some ho, some de, some na] (s ++ [.ins c0 []]) = r → d_Param_init tab cN cP tn th td tm [.loc s.length, nm, ho, de, na] (s ++ [.ins c0 []]) = (match r with
    | .ok (_, .ret v) s1 => finV (s ++ [.ins c0 []]) v s1
    | .ok (_, .next) s1 => finV (s ++ [.ins c0 []]) .non s1
    | .ok _ _ => .stuck
    | .exc e s1 => finX (s ++ [.ins c0 []]) e s1
    | .stuck => .stuck) := fun r e => by
    unfold d_Param_init
    rw [runDef_ap]
    simp only [List.map_cons, List.map_nil, List.length_cons, List.length_nil, Nat.sub_self, List.replicate_zero, List.append_nil, Nat.reduceAdd]
    rw [e] <;> rfl
  have exc : ∀ c (v : PV), (∀ b, lb b v = true) → m_Param_init tab cN cP tn th td tm [some (.loc s.length), some nm, some ho, some de, some na] (s ++ [.ins c0 []]) = .exc (.ins c [v]) (s ++ [.ins c0 []]) → _ := fun c v hv e => bad c v hv (by rw [body _ e]; exact finX_same K (by simp [hv]))
  unfold parRes parFault
  cases hn : nmP nm
  · simp only [if_true]
    refine exc cN nm l1 ?_
    unfold m_Param_init
    simp [look_bad K h1 hn]
  · simp only [Bool.true_eq_false, if_false]
    have lk := look_ok K (cN := cN) h1 hn
    cases hh : holdsOk ho
    · simp only [if_true]
      refine exc cP _ (by simp) ?_
      unfold m_Param_init
      by_cases hs : isStr ho = true
      · cases ho <;> first | (simp [isStr] at hs; done) | skip
        rename_i w
        have i2 := isi_str K (s := s ++ [.ins c0 []]) h2
        simp only [isStr] at i2
        simp only [holdsOk] at hh
        have nm2 := notin_mb K (h := w) (s ++ [.ins c0 []])
        rw [hh] at nm2
        simp [-bIsi_ty, lk, i2, nm2]
      · have i2 := isi_str K (s := s ++ [.ins c0 []]) h2
        simp [-bIsi_ty, lk, i2, hs]
    · simp only [Bool.true_eq_false, if_false]
      obtain ⟨w, rfl, hw⟩ : ∃ w, ho = .str w ∧ (w == sMark || w == sBox) = true := by
        cases ho <;> first | (simp [holdsOk] at hh; done) | skip
        exact ⟨_, rfl, hh⟩
      have i2 := isi_str K (s := s ++ [.ins c0 []]) h2
      simp only [isStr] at i2
      have nm2 := notin_mb K (h := w) (s ++ [.ins c0 []])
      rw [hw] at nm2
      have wl : w.length ≠ 1 := by
        simp only [Bool.or_eq_true, beq_iff_eq] at hw
        rcases hw with rfl | rfl <;> decide
      by_cases hd : (match de with | .non => false | _ => !dfP (strOf (.str w)) de) = true
      · rw [if_pos hd]
        refine exc cP _ (by simp) ?_
        unfold m_Param_init
        have nd : de ≠ .non := by intro e; subst e; simp at hd
        have hd2 : dfP w de = false := by
          cases de <;> first | exact absurd rfl nd | (simpa [strOf] using hd)
        have df := default_eq K (n := 3) wl h3 (s ++ [.ins c0 []])
        rw [hd2] at df
        simp [-bIsi_ty, lk, i2, nm2, isN_some _ nd, df]
      · rw [if_neg hd]
        have pre : ∀ s' : Store, s' = s ++ [.ins c0 []] → (qAnd (qBl (eNotB (eOp1 (pyIs .non) (eVar 3)))) (qNot (qOf (eCallK (fun vs _ => d_is_default tab vs) (aCons (eVar 2) (aCons (eVar 3) (aNil))) (aNil))))) [some (.loc s.length), some nm, some (.str w), some de, some na] s' = .ok false s' := fun s' es => by
          by_cases nd : de = .non
          · subst nd; simp [isN_non]
          · have hd2 : dfP w de = true := by
              cases de <;> first | exact absurd rfl nd | (simpa [strOf] using hd)
            have df := default_eq K (n := 3) wl h3 s'
            rw [hd2] at df
            simp [isN_some _ nd, df]
        cases hb : isBl na
        · simp only [if_true]
          refine exc cP _ (by simp) ?_
          rw [hb] at t4
          unfold m_Param_init
          have p := pre _ rfl
          rw [sSeq_ap]
          simp [-bIsi_ty, -qAnd_ap, lk, i2, nm2, p, t4]
        · simp only [Bool.true_eq_false, if_false]
          rw [hb] at t4
          have p := pre _ rfl
          have e : m_Param_init tab cN cP tn th td tm [some (.loc s.length), some nm, some (.str w), some de, some na] (s ++ [.ins c0 []]) = .ok ([some (.loc s.length), some nm, some (.str w), some de, some na], .next) (s ++ [.ins c0 [nm, .str w, de, na]]) := by
            unfold m_Param_init
            rw [sSeq_ap]
            simp [-bIsi_ty, -qAnd_ap, lk, i2, nm2, p, t4, hf.n, hf.h, hf.d, hf.m, putF]
          rw [body _ e]
          have f1 : finV (s ++ [.ins c0 []]) .non (s ++ [.ins c0 [nm, .str w, de, na]]) = .ok .non (s ++ [.ins c0 [nm, .str w, de, na]]) := finV_data (by simp) (kept_mid s [] _ _ (by simp [l1, l3, l4])) (by simp)
          simp only [f1]
          exact finV_new rfl (kept_refl _ _) (Nat.le_refl _) (by simp) (by simp [l1, l3, l4])
end
end PL
/-! what the package's functions about rows and methods answer -/
namespace ML
open Mir
structure Cfg where
  tab : List ((Tg × Tg) × Bool)
  c0 : Nat
  c1 : Nat
  cN : Nat
  cP : Nat
  cR : Nat
  cO : Nat
  cT : Nat
  cM : Nat
  t_name : List (Nat × Nat)
  t_holds : List (Nat × Nat)
  t_default : List (Nat × Nat)
  t_named : List (Nat × Nat)
  t_params : List (Nat × Nat)
  t_rows : List (Nat × Nat)
  t_returns : List (Nat × Nat)
  cc_MOST_PARAMS : List (Nat × Int)
  cc_MOST_BOXES : List (Nat × Int)
  cc_MOST_ROWS : List (Nat × Int)
/-- the numbers of the classes and fields are there -/
structure Ok (M : Cfg) : Prop where
  tab : PL.TabOk M.tab
  p : PL.FldOk M.c0 M.t_name M.t_holds M.t_default M.t_named
  mn : M.t_name.lookup M.c1 = some 0
  mp : M.t_params.lookup M.c1 = some 1
  mr : M.t_rows.lookup M.c1 = some 2
  mt : M.t_returns.lookup M.c1 = some 3
  kp : M.cc_MOST_PARAMS.lookup M.c1 = some 4
  kb : M.cc_MOST_BOXES.lookup M.c1 = some 2
  kr : M.cc_MOST_ROWS.lookup M.c1 = some 8
section
def dc_PLAIN_PARTS : List (List Nat × PV) := [([110, 101, 119], .tup [.str [118, 97, 114], .str [105, 116, 101, 109, 115]]), ([110, 97, 109, 101], .tup [.str [118, 97, 114], .str [118, 97, 114]]), ([99, 111, 112, 121], .tup [.str [118, 97, 114], .str [118, 97, 114]]), ([103, 101, 116], .tup [.str [118, 97, 114], .str [111, 119, 110, 101, 114], .str [118, 97, 108, 117, 101]]), ([115, 101, 116], .tup [.str [111, 119, 110, 101, 114], .str [118, 97, 108, 117, 101], .str [118, 97, 114]]), ([97, 100, 100], .tup [.str [118, 97, 114], .str [105, 116, 101, 109, 115]]), ([100, 114, 111, 112], .tup [.str [118, 97, 114], .str [105, 116, 101, 109, 115]]), ([103, 114, 111, 119], .tup [.str [111, 119, 110, 101, 114], .str [118, 97, 108, 117, 101], .str [105, 116, 101, 109, 115]]), ([115, 104, 114, 105, 110, 107], .tup [.str [111, 119, 110, 101, 114], .str [118, 97, 108, 117, 101], .str [105, 116, 101, 109, 115]])]
def dc_TEST_PARTS : List (List Nat × PV) := [([105, 110], .tup [.str [105, 116, 101, 109], .str [118, 97, 114]]), ([101, 113, 117, 97, 108], .tup [.str [118, 97, 114], .str [118, 97, 114]]), ([105, 115], .tup [.str [118, 97, 114], .str [118, 97, 114]])]
def c_ASSIGNING : PV := .tup [.str [110, 101, 119], .str [110, 97, 109, 101], .str [99, 111, 112, 121], .str [103, 101, 116]]
def c_GUARDS : PV := .tup [.str [105, 102], .str [117, 110, 108, 101, 115, 115]]
variable (M : Cfg)
noncomputable def m_test_variables : SM := sRet (eIf (qBl (eOp2 pyEq (eOp2 pyIdx (eVar 0) (eC (.int 0))) (eC (.str [105, 110])))) (eSlice (eVar 0) (oSome (eC (.int 2))) (oNone)) (eSlice (eVar 0) (oSome (eC (.int 1))) (oNone)))
noncomputable def d_test_variables : ON := runDef finV 1 m_test_variables
noncomputable def m_part_fits : SM := sSeq (sIf (qBl (eOp2 pyEq (eVar 0) (eC (.str [105, 116, 101, 109, 115])))) (sRet (eCallK (fun vs _ => PL.d_are_items M.tab vs) (aCons (eVar 1) (aNil)) (aNil))) (sNext)) (sSeq (sIf (qBl (eOp2 pyEq (eVar 0) (eC (.str [111, 119, 110, 101, 114])))) (sRet (eCallK (fun vs _ => PL.d_is_owner M.tab vs) (aCons (eVar 1) (aNil)) (aNil))) (sNext)) (sRet (eCallK (fun vs _ => PL.d_is_name M.tab vs) (aCons (eVar 1) (aNil)) (aNil))))
noncomputable def d_part_fits : ON := runDef finV 2 (m_part_fits M)
noncomputable def m_parts_fit : SM := sSeq (sIf (qOr (qBl (eOp1 (pyIs .non) (eVar 0))) (qBl (eOp2 pyNe (eBlt bLen (aCons (eVar 1) (aNil))) (eOp2 pyAdd (eBlt bLen (aCons (eVar 0) (aNil))) (eC (.int 1)))))) (sRet (eC (.bl false))) (sNext)) (sRet (eBlt bAll (aCons (eLst (aComp (iEnum (eVar 0)) (gTup [2, 3]) (qYes) (eCallK (fun vs _ => (d_part_fits M) vs) (aCons (eVar 3) (aCons (eOp2 pyIdx (eVar 1) (eOp2 pyAdd (eVar 2) (eC (.int 1)))) (aNil))) (aNil)) [2, 3])) (aNil))))
noncomputable def d_parts_fit : ON := runDef finV 4 (m_parts_fit M)
noncomputable def m_is_test : SM := sRet (eAnd (eCallK (fun vs _ => PL.d_has_word M.tab vs) (aCons (eVar 0) (aNil)) (aNil)) (eCallK (fun vs _ => (d_parts_fit M) vs) (aCons (eDGet dc_TEST_PARTS (eOp2 pyIdx (eVar 0) (eC (.int 0)))) (aCons (eVar 0) (aNil))) (aNil)))
noncomputable def d_is_test : ON := runDef finV 1 (m_is_test M)
noncomputable def m_is_result : SM := sSeq (sIf (qNot (qOf (eCallK (fun vs _ => PL.d_has_word M.tab vs) (aCons (eVar 0) (aNil)) (aNil)))) (sRet (eC (.bl false))) (sNext)) (sSeq (sIf (qBl (eOp2 pyEq (eOp2 pyIdx (eVar 0) (eC (.int 0))) (eC (.str [110, 111, 110, 101])))) (sRet (eOp2 pyEq (eBlt bLen (aCons (eVar 0) (aNil))) (eC (.int 1)))) (sNext)) (sSeq (sIf (qBl (eOp2 pyIn (eOp2 pyIdx (eVar 0) (eC (.int 0))) (eTup (aCons (eC (.str [98, 111, 120])) (aCons (eC (.str [99, 111, 112, 121])) (aNil)))))) (sRet (eAnd (eOp2 pyEq (eBlt bLen (aCons (eVar 0) (aNil))) (eC (.int 2))) (eCallK (fun vs _ => PL.d_is_name M.tab vs) (aCons (eOp2 pyIdx (eVar 0) (eC (.int 1))) (aNil)) (aNil)))) (sNext)) (sRet (eAnd (eOp2 pyEq (eOp2 pyIdx (eVar 0) (eC (.int 0))) (eC (.str [116, 101, 115, 116]))) (eAnd (eOp2 pyEq (eBlt bLen (aCons (eVar 0) (aNil))) (eC (.int 2))) (eCallK (fun vs _ => (d_is_test M) vs) (aCons (eOp2 pyIdx (eVar 0) (eC (.int 1))) (aNil)) (aNil)))))))
noncomputable def d_is_result : ON := runDef finV 1 (m_is_result M)
noncomputable def m_result_fits : SM := sSeq (sIf (qNot (qOf (eCallK (fun vs _ => (d_is_result M) vs) (aCons (eVar 1) (aNil)) (aNil)))) (sRet (eC (.bl false))) (sNext)) (sSeq (sIf (qBl (eOp2 pyEq (eOp2 pyIdx (eVar 1) (eC (.int 0))) (eC (.str [116, 101, 115, 116])))) (sRet (eBlt bAll (aCons (eLst (aComp (iSeq (eCallK (fun vs _ => d_test_variables vs) (aCons (eOp2 pyIdx (eVar 1) (eC (.int 1))) (aNil)) (aNil))) (gName 2) (qYes) (eOp2 pyIn (eVar 2) (eVar 0)) [2])) (aNil)))) (sNext)) (sRet (eBlt bAll (aCons (eLst (aComp (iSeq (eSlice (eVar 1) (oSome (eC (.int 1))) (oNone))) (gName 2) (qYes) (eOp2 pyIn (eVar 2) (eVar 0)) [2])) (aNil)))))
noncomputable def d_result_fits : ON := runDef finV 3 (m_result_fits M)
noncomputable def m_used_variables : SM := sSeq (sIf (qBl (eOp2 pyIn (eOp2 pyIdx (eVar 0) (eC (.int 0))) (eTup (aCons (eC (.str [110, 97, 109, 101])) (aCons (eC (.str [99, 111, 112, 121])) (aNil)))))) (sRet (eSlice (eVar 0) (oSome (eC (.int 2))) (oNone))) (sNext)) (sSeq (sIf (qBl (eOp2 pyEq (eOp2 pyIdx (eVar 0) (eC (.int 0))) (eC (.str [115, 101, 116])))) (sRet (eSlice (eVar 0) (oSome (eC (.int 3))) (oNone))) (sNext)) (sRet (eIf (qBl (eOp2 pyIn (eOp2 pyIdx (eVar 0) (eC (.int 0))) (eTup (aCons (eC (.str [97, 100, 100])) (aCons (eC (.str [100, 114, 111, 112])) (aNil)))))) (eSlice (eVar 0) (oSome (eC (.int 1))) (oSome (eC (.int 2)))) (eTup (aNil)))))
noncomputable def d_used_variables : ON := runDef finV 1 m_used_variables
noncomputable def m_parted : SM := sRet (eIf (qBl (eOp2 pyIn (eOp2 pyIdx (eVar 0) (eC (.int 0))) (eC c_GUARDS))) (eTup (aCons (eOp2 pyIdx (eVar 0) (eC (.int 1))) (aCons (eOp2 pyIdx (eVar 0) (eC (.int 2))) (aNil)))) (eTup (aCons (eC .non) (aCons (eVar 0) (aNil)))))
noncomputable def d_parted : ON := runDef finV 1 m_parted
noncomputable def m_is_plain : SM := sRet (eAnd (eCallK (fun vs _ => PL.d_has_word M.tab vs) (aCons (eVar 0) (aNil)) (aNil)) (eCallK (fun vs _ => (d_parts_fit M) vs) (aCons (eDGet dc_PLAIN_PARTS (eOp2 pyIdx (eVar 0) (eC (.int 0)))) (aCons (eVar 0) (aNil))) (aNil)))
noncomputable def d_is_plain : ON := runDef finV 1 (m_is_plain M)
noncomputable def m_is_guarded : SM := sSeq (sIf (qOr (qNot (qOf (eCallK (fun vs _ => PL.d_has_word M.tab vs) (aCons (eVar 0) (aNil)) (aNil)))) (qOr (qBl (eOp2 pyNotIn (eOp2 pyIdx (eVar 0) (eC (.int 0))) (eC c_GUARDS))) (qBl (eOp2 pyNe (eBlt bLen (aCons (eVar 0) (aNil))) (eC (.int 3)))))) (sRet (eC (.bl false))) (sNext)) (sRet (eAnd (eCallK (fun vs _ => (d_is_test M) vs) (aCons (eOp2 pyIdx (eVar 0) (eC (.int 1))) (aNil)) (aNil)) (eCallK (fun vs _ => (d_is_plain M) vs) (aCons (eOp2 pyIdx (eVar 0) (eC (.int 2))) (aNil)) (aNil))))
noncomputable def d_is_guarded : ON := runDef finV 1 (m_is_guarded M)
noncomputable def b_first_bad_row_0 : SM := sSeq (sIf (qAnd (qNot (qOf (eCallK (fun vs _ => (d_is_plain M) vs) (aCons (eVar 6) (aNil)) (aNil)))) (qNot (qOf (eCallK (fun vs _ => (d_is_guarded M) vs) (aCons (eVar 6) (aNil)) (aNil))))) (sRet (eVar 5)) (sNext)) (sSeq (sAsg (eCallK (fun vs _ => d_parted vs) (aCons (eVar 6) (aNil)) (aNil)) (gTup [9, 10])) (sSeq (sAsg (eOp2 pyAdd (eBlt bList (aCons (eCallK (fun vs _ => d_used_variables vs) (aCons (eVar 10) (aNil)) (aNil)) (aNil))) (eBlt bList (aCons (eIf (qBl (eNotB (eOp1 (pyIs .non) (eVar 9)))) (eCallK (fun vs _ => d_test_variables vs) (aCons (eVar 9) (aNil)) (aNil)) (eTup (aNil))) (aNil)))) (gName 7)) (sSeq (sIf (qNot (qOf (eBlt bAll (aCons (eLst (aComp (iSeq (eVar 7)) (gName 11) (qYes) (eOp2 pyIn (eVar 11) (eVar 3)) [11])) (aNil))))) (sRet (eVar 5)) (sNext)) (sIf (qBl (eOp2 pyIn (eOp2 pyIdx (eVar 10) (eC (.int 0))) (eC c_ASSIGNING))) (sSeq (sIf (qOr (qBl (eOp2 pyIn (eOp2 pyIdx (eVar 10) (eC (.int 1))) (eVar 4))) (qAnd (qBl (eNotB (eOp1 (pyIs .non) (eVar 9)))) (qBl (eOp2 pyNotIn (eOp2 pyIdx (eVar 10) (eC (.int 1))) (eVar 3))))) (sRet (eVar 5)) (sNext)) (sExp (eMt mAppend (eVar 3) (aCons (eOp2 pyIdx (eVar 10) (eC (.int 1))) (aNil))))) (sNext)))))
noncomputable def m_first_bad_row : SM := sSeq (sNew (aComp (iSeq (eVar 0)) (gName 8) (qBl (eOp2 pyEq (eFld M.t_holds (eVar 8)) (eC (.str [98, 111, 120])))) (eFld M.t_name (eVar 8)) [8]) 3) (sSeq (sAsg (eLst (aComp (iSeq (eVar 0)) (gName 8) (qBl (eOp2 pyEq (eFld M.t_holds (eVar 8)) (eC (.str [109, 97, 114, 107])))) (eFld M.t_name (eVar 8)) [8])) (gName 4)) (sSeq (sFor (iEnum (eVar 1)) (gTup [5, 6]) ((b_first_bad_row_0 M))) (sRet (eIf (qOf (eCallK (fun vs _ => (d_result_fits M) vs) (aCons (eVar 3) (aCons (eVar 2) (aNil))) (aNil))) (eC .non) (eBlt bLen (aCons (eVar 1) (aNil)))))))
noncomputable def d_first_bad_row : ON := runDef finV 12 (m_first_bad_row M)
noncomputable def b_look_order_0 : SM := sIf (qOf (eFld M.t_named (eVar 3))) (sAsg (eC (.bl true)) (gName 1)) (sIf (qOr (qOf (eVar 1)) (qAnd (qOf (eVar 2)) (qBl (eOp1 (pyIs .non) (eFld M.t_default (eVar 3)))))) (sRaise M.cO (aCons (eFld M.t_name (eVar 3)) (aNil))) (sAsg (eOr (eVar 2) (eNotB (eOp1 (pyIs .non) (eFld M.t_default (eVar 3))))) (gName 2)))
noncomputable def m_look_order : SM := sSeq (sAsg2 (eC (.bl false)) (gName 1) (gName 2)) (sFor (iSeq (eVar 0)) (gName 3) ((b_look_order_0 M)))
noncomputable def d_look_order : ON := runDef finV 4 (m_look_order M)
noncomputable def b_look_twice_0 : SM := sSeq (sIf (qBl (eOp2 pyIn (eVar 3) (eVar 2))) (sRaise M.cT (aCons (eVar 3) (aNil))) (sNext)) (sExp (eMt mAppend (eVar 2) (aCons (eVar 3) (aNil))))
noncomputable def m_look_twice : SM := sSeq (sNew (aItems (eVar 1)) 2) (sFor (iSeq (eVar 0)) (gName 3) ((b_look_twice_0 M)))
noncomputable def d_look_twice : ON := runDef finV 4 (m_look_twice M)
noncomputable def m_Method_init : SM := sSeq (sExp (eCallK (fun vs _ => PL.d_look_name M.tab M.cN vs) (aCons (eVar 1) (aNil)) (aNil))) (sSeq (sExp (eCallK (fun vs zs => (d_look_twice M) (pickL [0, 1] (vs ++ ([(.tup [])] : List PV) ++ zs))) (aCons (eLst (aComp (iSeq (eVar 4)) (gName 6) (qYes) (eFld M.t_name (eVar 6)) [6])) (aNil)) (aNil))) (sSeq (sExp (eCallK (fun vs _ => (d_look_order M) vs) (aCons (eVar 4) (aNil)) (aNil))) (sSeq (sIf (qBl (eOp2 pyGt (eBlt bLen (aCons (eVar 4) (aNil))) (eCCon M.cc_MOST_PARAMS (eVar 0)))) (sRaise M.cM (aCons (eC (.str [112, 97, 114, 97, 109, 115])) (aNil))) (sNext)) (sSeq (sIf (qBl (eOp2 pyGt (eBlt bLen (aCons (eLst (aComp (iSeq (eVar 4)) (gName 6) (qBl (eOp2 pyEq (eFld M.t_holds (eVar 6)) (eC (.str [98, 111, 120])))) (eVar 6) [6])) (aNil))) (eCCon M.cc_MOST_BOXES (eVar 0)))) (sRaise M.cM (aCons (eC (.str [98, 111, 120, 101, 115])) (aNil))) (sNext)) (sSeq (sIf (qNot (qOf (eBlt (bIsi M.tab) (aCons (eVar 2) (aCons (eC (.ty "tuple")) (aNil)))))) (sRaise M.cR (aCons (eOp1 pyNeg (eC (.int 1))) (aNil))) (sNext)) (sSeq (sAsg (eCallK (fun vs _ => (d_first_bad_row M) vs) (aCons (eVar 4) (aCons (eVar 2) (aCons (eVar 3) (aNil)))) (aNil)) (gName 5)) (sSeq (sIf (qBl (eNotB (eOp1 (pyIs .non) (eVar 5)))) (sRaise M.cR (aCons (eVar 5) (aNil))) (sNext)) (sSeq (sIf (qBl (eOp2 pyGt (eBlt bLen (aCons (eVar 2) (aNil))) (eCCon M.cc_MOST_ROWS (eVar 0)))) (sRaise M.cM (aCons (eC (.str [114, 111, 119, 115])) (aNil))) (sNext)) (sSeq (sSetF M.t_name (eVar 0) (eVar 1)) (sSeq (sSetF M.t_params (eVar 0) (eVar 4)) (sSeq (sSetF M.t_rows (eVar 0) (eVar 2)) (sSetF M.t_returns (eVar 0) (eVar 3)))))))))))))
noncomputable def d_Method_init : ON := runDef finV 7 (m_Method_init M)
noncomputable def m_Method_of : SM := sRet (eAtCls 0 M.c1 (eCallK (newOf M.c1 finV (starF 2 (fun vs zs => pickL [0, 1, 2, 3] (vs ++ zs)) (d_Method_init M))) (aCons (eVar 1) (aStar (eVar 2) (aNil))) (aCons (eVar 3) (aCons (eVar 4) (aNil)))))
noncomputable def d_Method_of : ON := runDef finV 5 (m_Method_of M)
end
open PL (G nmP nmB itP owP hwP isTup isStr)
abbrev sItems : List Nat := [105, 116, 101, 109, 115]
abbrev sOwner : List Nat := [111, 119, 110, 101, 114]
/-- does a thing fit a part -/
def pfB (p : List Nat) (x : PV) : Bool := if p == sItems then itP x else if p == sOwner then owP x else nmP x
section
variable {M : Cfg} (K : PL.TabOk M.tab) {n : Nat} {x : PV}
include K
theorem part_eq (p : List Nat) (h : G (n + 1) x = true) (s : Store) : d_part_fits M [.str p, x] s = .ok (.bl (pfB p x)) s := by
  have fin : ∀ b, finV s (.bl b) s = .ok (.bl b) s := fun b => finV_data rfl (kept_refl _ _) (by simp)
  have e1 := PL.items_eq K h s
  have e2 := PL.owner_eq K h s
  have e3 := PL.isname_eq K h s
  unfold d_part_fits pfB
  rw [runDef_ap]
  unfold m_part_fits
  by_cases q1 : p = sItems
  · subst q1
    simp [e1, fin]
  · have q1' : (p == sItems) = false := by simpa using q1
    by_cases q2 : p = sOwner
    · subst q2
      simp [e2, fin]
    · have q2' : (p == sOwner) = false := by simpa using q2
      simp [q1', q2', e3, fin]
def fitsP : List (List Nat) → List PV → Bool
  | [], [] => true
  | p :: ps, x :: xs => pfB p x && fitsP ps xs
  | _, _ => false
omit K in
theorem fitsP_len : ∀ {ps : List (List Nat)} {xs : List PV}, ps.length ≠ xs.length → fitsP ps xs = false
  | [], [], h => absurd rfl h
  | [], _ :: _, _ => rfl
  | _ :: _, [], _ => rfl
  | _ :: ps, _ :: xs, h => by
    simp only [fitsP]
    rw [fitsP_len (by simpa using h)]; simp
/-- what an item of the enumeration comes to -/
def ptV (L : List PV) : PV → Bool
  | .tup [.int k, .str p] => pfB p (L.getD (k + 1).toNat .non)
  | _ => false
omit K in
theorem enum_all : ∀ (ps : List (List Nat)) (pre r : List PV) (m : Nat), pre.length = m + 1 → ps.length = r.length → (enumI m (ps.map .str)).all (ptV (pre ++ r)) = fitsP ps r
  | [], pre, [], m, _, _ => rfl
  | [], _, _ :: _, _, _, h => by simp at h
  | _ :: _, _, [], _, _, h => by simp at h
  | p :: ps, pre, x :: r, m, h1, h2 => by
    simp only [List.map_cons, enumI, List.all_cons, fitsP]
    have e1 : ptV (pre ++ x :: r) (.tup [.int (m : Nat), .str p]) = pfB p x := by
      simp only [ptV]
      have : ((m : Int) + 1).toNat = pre.length := by omega
      rw [this]
      simp
    have e2 := enum_all ps (pre ++ [x]) r (m + 1) (by simp [h1]) (by simpa using h2)
    rw [List.append_assoc] at e2
    rw [e1]
    simp only [List.cons_append, List.nil_append] at e2
    rw [e2]
omit K in
theorem enum_mem : ∀ (ps : List (List Nat)) (m : Nat) (z : PV), z ∈ enumI m (ps.map .str) → ∃ (k : Nat) (p : List Nat), m ≤ k ∧ k < m + ps.length ∧ z = .tup [.int (k : Nat), .str p]
  | [], m, z, h => by simp [enumI] at h
  | p :: ps, m, z, h => by
    simp only [List.map_cons, enumI, List.mem_cons] at h
    rcases h with rfl | h
    · exact ⟨m, p, Nat.le_refl _, by simp, rfl⟩
    · obtain ⟨k, q, h1, h2, rfl⟩ := enum_mem ps (m + 1) z h
      exact ⟨k, q, by omega, by simp; omega, rfl⟩
theorem parts_eq {ps : List (List Nat)} {y : PV} {r : List PV} (hp : ps.length ≤ 100) (h : G (n + 2) (.tup (y :: r)) = true) (s : Store) : d_parts_fit M [.tup (ps.map .str), .tup (y :: r)] s = .ok (.bl (fitsP ps r)) s := by
  have fin : ∀ b, finV s (.bl b) s = .ok (.bl b) s := fun b => finV_data rfl (kept_refl _ _) (by simp)
  have hr := h
  simp only [G, Bool.and_eq_true, List.all_eq_true, decide_eq_true_eq] at hr
  have iz : pyIs .non (.tup (ps.map .str)) s = .ok (.bl false) s := rfl
  unfold d_parts_fit
  rw [runDef_ap]
  unfold m_parts_fit
  by_cases hl : ps.length = r.length
  · have ez : ((r.length : Int) + 1 == (ps.length : Int) + 1) = true := by rw [beq_iff_eq]; omega
    have cg : compGo ⟨enumI 0 (ps.map .str), none⟩ (gTup [2, 3]) qYes (eCallK (fun vs _ => (d_part_fits M) vs) (aCons (eVar 3) (aCons (eOp2 pyIdx (eVar 1) (eOp2 pyAdd (eVar 2) (eC (.int 1)))) (aNil))) (aNil))
        [some (.tup (ps.map .str)), some (.tup (y :: r)), none, none] (enumI 0 (ps.map .str)) [] s = .ok ((enumI 0 (ps.map .str)).map fun z => .bl (ptV (y :: r) z)) s := by
      rw [compGo_pure (fun _ => true) (fun z => .bl (ptV (y :: r) z))]
      · rw [List.filter_eq_self.mpr (by simp)]; simp
      · intro z hz
        obtain ⟨k, p, h1, h2, rfl⟩ := enum_mem ps 0 z hz
        refine ⟨[some (.tup (ps.map .str)), some (.tup (y :: r)), some (.int (k : Nat)), some (.str p)], rfl, rfl, fun _ => ?_⟩
        have hk : k + 1 < (y :: r).length := by simp; omega
        have ix : pyIdx (.tup (y :: r)) (.int ((k : Int) + 1)) s = .ok (y :: r)[k + 1] s := by
          rw [pyIdx_tup, atP_of (j := k + 1) (by simp) (by rw [List.getElem?_eq_getElem hk])]
          rfl
        have pe := part_eq K (n := n) p (hr.2 _ (List.getElem_mem hk)) s
        have ev : ptV (y :: r) (.tup [.int (k : Nat), .str p]) = pfB p (y :: r)[k + 1] := by
          simp only [ptV]
          have : ((k : Int) + 1).toNat = k + 1 := by omega
          rw [this]
          simp only [List.getD_eq_getElem?_getD, List.getElem?_eq_getElem hk, Option.getD_some]
        simp only [List.getElem_cons_succ] at ix pe ev
        simp [-pyIdx_tup, ix, pe, ev]
    have al := enum_all ps [y] r 0 rfl hl
    simp only [List.cons_append, List.nil_append] at al
    have ba : bAll [.lst ((enumI 0 (ps.map .str)).map fun z => .bl (ptV (y :: r) z))] s = .ok (.bl (fitsP ps r)) s := by
      rw [← al]
      unfold bAll
      have : ∀ l : List PV, blsOf (l.map fun z => PV.bl (ptV (y :: r) z)) = some (l.map (ptV (y :: r))) := fun l => by
        induction l with
        | nil => rfl
        | cons a l ih => simp [blsOf, ih]
      simp [this]
    have z4 : r.length ≤ sz := by simp only [sz]; omega
    simp [iz, ez, hl, iEnum, z4, wipe, cg, ba, fin]
  · have ez : ((r.length : Int) + 1 == (ps.length : Int) + 1) = false := by rw [beq_eq_false_iff_ne]; omega
    have ff := fitsP_len hl
    simp [iz, ez, ff, fin]
theorem parts_none {x : PV} (s : Store) : d_parts_fit M [.non, x] s = .ok (.bl false) s := by
  have fin : ∀ b, finV s (.bl b) s = .ok (.bl b) s := fun b => finV_data rfl (kept_refl _ _) (by simp)
  have iz : pyIs .non .non s = .ok (.bl true) s := rfl
  unfold d_parts_fit
  rw [runDef_ap]
  unfold m_parts_fit
  simp [iz, fin]
/-! ### plain rows, tests, guarded rows -/
def rowTab (D : List (List Nat × PV)) : PV → Bool
  | .tup (.str w :: r) => (match D.lookup w with
    | some (.tup ps) => (match strsOf ps with
      | some ps => fitsP ps r
      | none => false)
    | _ => false)
  | _ => false
omit K in
theorem strsOf_map : ∀ l : List (List Nat), strsOf (l.map .str) = some l
  | [] => rfl
  | x :: l => by simp [strsOf, strsOf_map l]
omit K in
theorem lk_mem {w : List Nat} {v : PV} : ∀ {l : List (List Nat × PV)}, l.lookup w = some v → (w, v) ∈ l
  | [], h => by cases h
  | (k, u) :: l, h => by
    simp only [List.lookup] at h
    split at h
    · rename_i e
      cases h
      rw [beq_iff_eq.mp e]; exact List.mem_cons_self ..
    · exact List.mem_cons_of_mem _ (lk_mem h)
/-- the tables hold tuples of words -/
def tabW (D : List (List Nat × PV)) : Prop := ∀ w v, D.lookup w = some v → ∃ ps : List (List Nat), v = .tup (ps.map .str) ∧ ps.length ≤ 100
omit K in
theorem tabW_of {D : List (List Nat × PV)} (h : ∀ q ∈ D, ∃ ps : List (List Nat), q.2 = .tup (ps.map .str) ∧ ps.length ≤ 100) : tabW D := fun w v e => h (w, v) (lk_mem e)
omit K in
theorem tabW_plain : tabW dc_PLAIN_PARTS := tabW_of fun q hq => by
  simp only [dc_PLAIN_PARTS, List.mem_cons, List.not_mem_nil, or_false] at hq
  rcases hq with rfl | rfl | rfl | rfl | rfl | rfl | rfl | rfl | rfl
  all_goals first | exact ⟨[_, _], rfl, by simp⟩ | exact ⟨[_, _, _], rfl, by simp⟩
omit K in
theorem tabW_test : tabW dc_TEST_PARTS := tabW_of fun q hq => by
  simp only [dc_TEST_PARTS, List.mem_cons, List.not_mem_nil, or_false] at hq
  rcases hq with rfl | rfl | rfl
  all_goals exact ⟨[_, _], rfl, by simp⟩
theorem tab_eq {D : List (List Nat × PV)} (hD : tabW D) (h : G (n + 2) x = true) (s : Store) (m : SM) (d : ON) (hd : d = runDef finV 1 m)
    (hm : m = sRet (eAnd (eCallK (fun vs _ => PL.d_has_word M.tab vs) (aCons (eVar 0) (aNil)) (aNil)) (eCallK (fun vs _ => (d_parts_fit M) vs) (aCons (eDGet D (eOp2 pyIdx (eVar 0) (eC (.int 0)))) (aCons (eVar 0) (aNil))) (aNil)))) :
    d [x] s = .ok (.bl (rowTab D x)) s := by
  have fin : ∀ b, finV s (.bl b) s = .ok (.bl b) s := fun b => finV_data rfl (kept_refl _ _) (by simp)
  have hw := PL.word_eq K h s
  subst hd hm
  rw [runDef_ap]
  cases hb : hwP x
  · rw [hb] at hw
    have : rowTab D x = false := by
      unfold rowTab
      split
      · simp [hwP] at hb
      · rfl
    simp [hw, this, fin]
  · rw [hb] at hw
    obtain ⟨w, r, rfl⟩ : ∃ w r, x = .tup (.str w :: r) := by
      unfold hwP at hb
      split at hb
      · exact ⟨_, _, rfl⟩
      · cases hb
    cases hl : D.lookup w with
    | none =>
      have pn := parts_none (M := M) K (x := .tup (.str w :: r)) s
      have : rowTab D (.tup (.str w :: r)) = false := by simp [rowTab, hl]
      simp [hw, hl, pn, this, fin]
    | some v =>
      obtain ⟨ps, rfl, hp⟩ := hD w v hl
      have pe := parts_eq K (n := n) (y := .str w) (r := r) hp h s
      have : rowTab D (.tup (.str w :: r)) = fitsP ps r := by simp [rowTab, hl, strsOf_map]
      simp [hw, hl, pe, this, fin]
theorem plain_eq (h : G (n + 2) x = true) (s : Store) : d_is_plain M [x] s = .ok (.bl (rowTab dc_PLAIN_PARTS x)) s := tab_eq K tabW_plain h s (m_is_plain M) (d_is_plain M) rfl rfl
theorem test_eq (h : G (n + 2) x = true) (s : Store) : d_is_test M [x] s = .ok (.bl (rowTab dc_TEST_PARTS x)) s := tab_eq K tabW_test h s (m_is_test M) (d_is_test M) rfl rfl
abbrev sIf_ : List Nat := [105, 102]
abbrev sUnless : List Nat := [117, 110, 108, 101, 115, 115]
/-- a guarded row -/
def guardP : PV → Bool
  | .tup [.str w, t, p] => (w == sIf_ || w == sUnless) && (rowTab dc_TEST_PARTS t && rowTab dc_PLAIN_PARTS p)
  | _ => false
omit K in
theorem in_str2 (w a b : List Nat) (s : Store) : pyIn (.str w) (.tup [.str a, .str b]) s = .ok (.bl (w == a || w == b)) s := by
  rw [PL.pyIn_tup rfl rfl]
  simp only [List.any_cons, List.any_nil, Bool.or_false]
  have e1 : eqF dp (.str a) (.str w) = (w == a) := BEq.comm
  have e2 : eqF dp (.str b) (.str w) = (w == b) := BEq.comm
  rw [e1, e2]
omit K in
theorem notin_str2 (w a b : List Nat) (s : Store) : pyNotIn (.str w) (.tup [.str a, .str b]) s = .ok (.bl (!(w == a || w == b))) s := by
  rw [PL.pyNotIn_tup rfl rfl]
  simp only [List.any_cons, List.any_nil, Bool.or_false]
  have e1 : eqF dp (.str a) (.str w) = (w == a) := BEq.comm
  have e2 : eqF dp (.str b) (.str w) = (w == b) := BEq.comm
  rw [e1, e2]
omit K in
theorem len3 (w : List Nat) (r : List PV) : (((r.length : Int) + 1 == 3) = true ∧ ∃ a b, r = [a, b]) ∨ (((r.length : Int) + 1 == 3) = false ∧ guardP (.tup (.str w :: r)) = false) := by
  match r with
  | [] => exact .inr ⟨rfl, rfl⟩
  | [_] => exact .inr ⟨rfl, rfl⟩
  | [a, b] => exact .inl ⟨rfl, a, b, rfl⟩
  | _ :: _ :: _ :: r => exact .inr ⟨by rw [beq_eq_false_iff_ne]; simp; omega, rfl⟩
theorem guarded_eq (h : G (n + 3) x = true) (s : Store) : d_is_guarded M [x] s = .ok (.bl (guardP x)) s := by
  have fin : ∀ b, finV s (.bl b) s = .ok (.bl b) s := fun b => finV_data rfl (kept_refl _ _) (by simp)
  have hw := PL.word_eq K h s
  unfold d_is_guarded
  rw [runDef_ap]
  unfold m_is_guarded
  cases hb : hwP x
  · rw [hb] at hw
    have : guardP x = false := by
      unfold guardP
      split
      · simp [hwP] at hb
      · rfl
    simp [hw, this, fin]
  · rw [hb] at hw
    obtain ⟨w, r, rfl⟩ : ∃ w r, x = .tup (.str w :: r) := by
      unfold hwP at hb
      split at hb
      · exact ⟨_, _, rfl⟩
      · cases hb
    have ni := notin_str2 w sIf_ sUnless s
    rcases len3 w r with ⟨l3, a, b, rfl⟩ | ⟨l3, gp⟩
    · have hr := h
      simp only [G, Bool.and_eq_true, List.all_eq_true, decide_eq_true_eq] at hr
      have t1 := test_eq (M := M) K (n := n) (hr.2 a (by simp)) s
      have t2 := plain_eq (M := M) K (n := n) (hr.2 b (by simp)) s
      have gp : guardP (.tup [.str w, a, b]) = ((w == sIf_ || w == sUnless) && (rowTab dc_TEST_PARTS a && rowTab dc_PLAIN_PARTS b)) := rfl
      rw [gp]
      cases q1 : (w == sIf_ || w == sUnless)
      · rw [q1] at ni
        simp [hw, c_GUARDS, ni, fin]
      · rw [q1] at ni
        cases q2 : rowTab dc_TEST_PARTS a
        · rw [q2] at t1
          simp [hw, c_GUARDS, ni, t1, fin]
        · rw [q2] at t1
          simp [hw, c_GUARDS, ni, t1, t2, fin]
    · rw [gp]
      cases q1 : (w == sIf_ || w == sUnless)
      · rw [q1] at ni
        simp [hw, c_GUARDS, ni, fin]
      · rw [q1] at ni
        simp [hw, c_GUARDS, ni, l3, fin]
/-! ### variables -/
abbrev sIn : List Nat := [105, 110]
abbrev sName : List Nat := [110, 97, 109, 101]
abbrev sCopy : List Nat := [99, 111, 112, 121]
abbrev sSet : List Nat := [115, 101, 116]
abbrev sAdd : List Nat := [97, 100, 100]
abbrev sDrop : List Nat := [100, 114, 111, 112]
abbrev sNone : List Nat := [110, 111, 110, 101]
abbrev sBox : List Nat := [98, 111, 120]
abbrev sTest : List Nat := [116, 101, 115, 116]
omit K in
theorem cut_from (L : List PV) (k : Nat) (hL : L.length ≤ 2000) (hk : k ≤ 10) : cutP L (some (k : Int)) none = L.drop k := by
  unfold cutP sIxP
  simp only
  have h1 : ¬ ((k : Int) < 0) := by omega
  simp only [h1, if_false]
  by_cases h : k ≤ L.length
  · exact cut_hi h
  · have h2 : L.drop k = [] := List.drop_of_length_le (by omega)
    rw [h2]
    apply List.take_eq_nil_iff.mpr
    left
    omega
def testV : PV → List PV
  | .tup (.str w :: r) => if w == sIn then r.drop 1 else r
  | _ => []
def usedV : PV → List PV
  | .tup (.str w :: r) => if w == sName || w == sCopy then r.drop 1 else if w == sSet then r.drop 2 else if w == sAdd || w == sDrop then r.take 1 else []
  | _ => []
omit K in
theorem testV_eq (w : List Nat) (r : List PV) (hr : r.length ≤ 1000) (s : Store) (hl : PL.G 6 (.tup (.str w :: r)) = true) : d_test_variables [.tup (.str w :: r)] s = .ok (.tup (testV (.tup (.str w :: r)))) s := by
  have hg := hl
  simp only [G, Bool.and_eq_true, List.all_eq_true, decide_eq_true_eq] at hg
  have c1 : cutP (PV.str w :: r) (some ((1 : Nat) : Int)) none = r := by rw [cut_from _ 1 (by simp; omega) (by omega)]; rfl
  have c2 : cutP (PV.str w :: r) (some ((2 : Nat) : Int)) none = r.drop 1 := by rw [cut_from _ 2 (by simp; omega) (by omega)]; rfl
  have lbr : ∀ b, lbs b r = true := fun b => PL.G_lbs b fun x hx => hg.2 x (List.mem_cons_of_mem _ hx)
  have lbd : ∀ b, lbs b (r.drop 1) = true := fun b => PL.G_lbs b fun x hx => hg.2 x (List.mem_cons_of_mem _ (List.mem_of_mem_drop hx))
  unfold d_test_variables
  rw [runDef_ap]
  unfold m_test_variables
  cases q : w == sIn
  · have f : finV s (.tup r) s = .ok (.tup r) s := finV_data rfl (kept_refl _ _) (by simp [lbr])
    simp [q, sliceV, testV]
    first
      | (simp [c1, f]; done)
      | (rw [show cutP (PV.str w :: r) (some 1) none = r from c1]; exact f)
  · have f : finV s (.tup (r.drop 1)) s = .ok (.tup (r.drop 1)) s := finV_data rfl (kept_refl _ _) (by rw [lb_tup]; exact lbd _)
    simp [q, sliceV, testV]
    rw [show cutP (PV.str w :: r) (some 2) none = r.drop 1 from c2]
    simpa using f
omit K in
theorem cut12 (y : PV) (r : List PV) : cutP (y :: r) (some 1) (some 2) = r.take 1 := by
  cases r with
  | nil => rfl
  | cons a r =>
    unfold cutP sIxP
    have e1 : min ((1 : Int)).toNat (y :: a :: r).length = 1 := by simp
    have e2 : min ((2 : Int)).toNat (y :: a :: r).length = 2 := by simp
    simp only [show ¬ ((1 : Int) < 0) by decide, show ¬ ((2 : Int) < 0) by decide, if_false, e1, e2]
    rfl
omit K in
theorem usedV_eq (w : List Nat) (r : List PV) (s : Store) (hl : PL.G 6 (.tup (.str w :: r)) = true) : d_used_variables [.tup (.str w :: r)] s = .ok (.tup (usedV (.tup (.str w :: r)))) s := by
  have hg := hl
  simp only [G, Bool.and_eq_true, List.all_eq_true, decide_eq_true_eq] at hg
  have hr : r.length ≤ 1000 := by have := hg.1; simp at this; omega
  have c2 : cutP (PV.str w :: r) (some 2) none = r.drop 1 := by have := cut_from (PV.str w :: r) 2 (by simp; omega) (by omega); exact this
  have c3 : cutP (PV.str w :: r) (some 3) none = r.drop 2 := by have := cut_from (PV.str w :: r) 3 (by simp; omega) (by omega); exact this
  have c1 := cut12 (PV.str w) r
  have gm : ∀ {l : List PV}, (∀ x ∈ l, x ∈ r) → ∀ b, lb b (.tup l) = true := fun h b => by rw [lb_tup]; exact PL.G_lbs b fun x hx => hg.2 x (List.mem_cons_of_mem _ (h x hx))
  have fin : ∀ {l : List PV}, (∀ x ∈ l, x ∈ r) → finV s (.tup l) s = .ok (.tup l) s := fun h => finV_data rfl (kept_refl _ _) (gm h _)
  have f1 := fin (l := r.drop 1) fun x hx => List.mem_of_mem_drop hx
  have f2 := fin (l := r.drop 2) fun x hx => List.mem_of_mem_drop hx
  have f3 := fin (l := r.take 1) fun x hx => List.mem_of_mem_take hx
  have f4 := fin (l := []) fun x hx => nomatch hx
  have i1 := in_str2 w sName sCopy s
  have i2 := in_str2 w sAdd sDrop s
  unfold d_used_variables
  rw [runDef_ap]
  unfold m_used_variables
  simp only [usedV]
  cases q1 : (w == sName || w == sCopy)
  · rw [q1] at i1
    cases q2 : w == sSet
    · cases q3 : (w == sAdd || w == sDrop)
      · rw [q3] at i2
        simp [i1, i2, q2, f4]
      · rw [q3] at i2
        simp [i1, i2, q2, sliceV, c1, f3]
    · simp [i1, q2, sliceV, c3, f2]
  · rw [q1] at i1
    simp [-List.drop_one, i1, sliceV, c2, f1]
/-- what a row parts into -/
def partV : PV → PV
  | .tup [.str w, t, p] => if w == sIf_ || w == sUnless then .tup [t, p] else .tup [.non, .tup [.str w, t, p]]
  | x => .tup [.non, x]
/-! ### names twice -/
def dupF : List (List Nat) → List (List Nat) → Option (List Nat)
  | _, [] => none
  | seen, w :: r => if w ∈ seen then some w else dupF (seen ++ [w]) r
omit K in
theorem any_mem (l : List (List Nat)) (w : List Nat) : (l.map PV.str).any (fun z => eqF dp z (.str w)) = decide (w ∈ l) := by
  induction l with
  | nil => rfl
  | cons a l ih =>
    simp only [List.map_cons, List.any_cons, ih]
    show ((a == w) || decide (w ∈ l)) = decide (w ∈ a :: l)
    by_cases h : a = w
    · simp [h]
    · have h2 : (a == w) = false := beq_eq_false_iff_ne.mpr h
      rw [h2, Bool.false_or]
      exact decide_eq_decide.mpr ⟨fun q => List.mem_cons_of_mem _ q, fun q => (List.mem_cons.mp q).resolve_left (Ne.symm h)⟩
omit K in
theorem in_place (l : List (List Nat)) (w : List Nat) (s : Store) (n : Nat) (hn : s[n]? = some (.lst (l.map .str))) : pyIn (.str w) (.loc n) s = .ok (.bl (decide (w ∈ l))) s := by
  have hd : deref s (.loc n) = .lst (l.map .str) := by simp [deref, List.getD_eq_getElem?_getD, hn]
  have hi : itemsOf s (.loc n) = some (l.map .str) := by unfold itemsOf; rw [hd]
  have ha : (l.map PV.str).all (isD dp) = true := by rw [List.all_eq_true]; intro z hz; obtain ⟨w, _, rfl⟩ := List.mem_map.mp hz; rfl
  unfold pyIn inP
  split
  · rename_i heq; cases heq
  · simp only [hi, ha, any_mem]
    rfl
omit K in
theorem twice_go (s : Store) (names : PV) (w : Walk) (hw : w.at_ = none) : ∀ (ns seen : List (List Nat)), seen.length + ns.length < 1000 →
    match dupF seen ns with
    | some d => ∃ seen' : List (List Nat), forGo w (gName 3) (b_look_twice_0 M) (keepAs [some names, some (.tup []), some (.loc s.length), none]) (ns.map .str) [some names, some (.tup []), some (.loc s.length), none] (s ++ [.lst (seen.map .str)]) = .exc (.ins M.cT [.str d]) (s ++ [.lst (seen'.map .str)])
    | none => forGo w (gName 3) (b_look_twice_0 M) (keepAs [some names, some (.tup []), some (.loc s.length), none]) (ns.map .str) [some names, some (.tup []), some (.loc s.length), none] (s ++ [.lst (seen.map .str)]) = .ok ([some names, some (.tup []), some (.loc s.length), none], .next) (s ++ [.lst ((seen ++ ns).map .str)])
  | [], seen, _ => by
    have ok : ∀ s, w.ok s := fun s => by unfold Walk.ok; rw [hw]; trivial
    simp [dupF, forGo, ok]
  | d :: r, seen, hl => by
    have ok : ∀ s, w.ok s := fun s => by unfold Walk.ok; rw [hw]; trivial
    have ip := in_place seen d (s ++ [.lst (seen.map .str)]) s.length (by simp)
    have ih := twice_go s names w hw r (seen ++ [d]) (by simp at hl ⊢; omega)
    unfold dupF
    by_cases h : d ∈ seen
    · rw [if_pos h]
      refine ⟨seen, ?_⟩
      rw [decide_eq_true h] at ip
      rw [List.map_cons]
      unfold forGo
      rw [if_pos (ok _)]
      unfold b_look_twice_0
      simp [ip]
    · rw [if_neg h]
      rw [decide_eq_false h] at ip
      have z : seen.length < sz := by simp only [sz]; simp at hl; omega
      have step : ∀ k : List PV, forGo w (gName 3) (b_look_twice_0 M) (keepAs [some names, some (.tup []), some (.loc s.length), none]) (PV.str d :: k) [some names, some (.tup []), some (.loc s.length), none] (s ++ [.lst (seen.map .str)]) =
          forGo w (gName 3) (b_look_twice_0 M) (keepAs [some names, some (.tup []), some (.loc s.length), none]) k [some names, some (.tup []), some (.loc s.length), none] (s ++ [.lst ((seen ++ [d]).map .str)]) := fun k => by
        rw [forGo]
        rw [if_pos (ok _)]
        unfold b_look_twice_0
        simp [ip, isL, mAppend, z, keepAs]
      rw [List.map_cons, step]
      cases hd : dupF (seen ++ [d]) r with
      | some q => rw [hd] at ih; simp only at ih ⊢; exact ih
      | none => rw [hd] at ih; simp only [List.append_assoc, List.cons_append, List.nil_append] at ih ⊢; exact ih
theorem twice_eq (ns : List (List Nat)) (h : ns.length < 900) (s : Store) : d_look_twice M [.lst (ns.map .str), .tup []] s = (match dupF [] ns with
    | some d => .exc (.ins M.cT [.str d]) s
    | none => .ok .non s) := by
  have g := twice_go (M := M) s (.lst (ns.map .str)) ⟨ns.map .str, none⟩ rfl ns [] (by simp; omega)
  simp only [List.map_nil, List.nil_append] at g
  unfold d_look_twice
  rw [runDef_ap]
  unfold m_look_twice
  cases hd : dupF [] ns with
  | some d =>
    rw [hd] at g
    obtain ⟨seen', e⟩ := g
    simp [iSeq, e]
    exact PL.finX_drop K (by simp)
  | none =>
    rw [hd] at g
    simp only at g
    simp [iSeq, g]
    exact finV_drop (old := s) (new := s) (e := [.lst (ns.map .str)]) rfl (kept_refl _ _) rfl
/-! ### the order of parameters -/
/-- a parameter, as an instance -/
abbrev parV (M : Cfg) (nm ho de na : PV) : PV := .ins M.c0 [nm, ho, de, na]
structure Pa where
  nm : List Nat
  ho : List Nat
  de : PV
  na : Bool
abbrev Pa.v (M : Cfg) (p : Pa) : PV := parV M (.str p.nm) (.str p.ho) p.de (.bl p.na)
def isNon : PV → Bool
  | .non => true
  | _ => false
def ordF : Bool → Bool → List Pa → Option (List Nat)
  | _, _, [] => none
  | bn, bd, p :: r => if p.na = true then ordF true bd r else if bn = true ∨ (bd = true ∧ isNon p.de = true) then some p.nm else ordF bn (bd || !isNon p.de) r
omit K in
theorem isN_eq (x : PV) (s : Store) : pyIs .non x s = .ok (.bl (isNon x)) s := by cases x <;> rfl
omit K in
theorem order_go (hf : PL.FldOk M.c0 M.t_name M.t_holds M.t_default M.t_named) (s : Store) (ps : PV) (w : Walk) (hw : w.at_ = none) : ∀ (l : List Pa) (bn bd : Bool),
    match ordF bn bd l with
    | some d => forGo w (gName 3) (b_look_order_0 M) (keepAs [some ps, some (.bl false), some (.bl false), none]) (l.map (Pa.v M)) [some ps, some (.bl bn), some (.bl bd), none] s = .exc (.ins M.cO [.str d]) s
    | none => ∃ bn' bd', forGo w (gName 3) (b_look_order_0 M) (keepAs [some ps, some (.bl false), some (.bl false), none]) (l.map (Pa.v M)) [some ps, some (.bl bn), some (.bl bd), none] s = .ok ([some ps, some (.bl bn'), some (.bl bd'), none], .next) s
  | [], bn, bd => by
    have ok : ∀ s, w.ok s := fun s => by unfold Walk.ok; rw [hw]; trivial
    simp [ordF, forGo, ok]
  | p :: r, bn, bd => by
    have ok : ∀ s, w.ok s := fun s => by unfold Walk.ok; rw [hw]; trivial
    have isn := isN_eq p.de s
    unfold ordF
    by_cases c1 : p.na = true
    · rw [if_pos c1]
      have ih := order_go hf s ps w hw r true bd
      rw [List.map_cons]
      rw [forGo, if_pos (ok _)]
      unfold b_look_order_0 at ih ⊢
      simp [hf.n, hf.h, hf.d, hf.m, c1, keepAs] at ih ⊢
      exact ih
    · rw [if_neg c1]
      simp only [Bool.not_eq_true] at c1
      by_cases c2 : bn = true ∨ (bd = true ∧ isNon p.de = true)
      · rw [if_pos c2]
        rw [List.map_cons]
        rw [forGo, if_pos (ok _)]
        unfold b_look_order_0
        rcases c2 with rfl | ⟨rfl, h2⟩
        · simp [hf.n, hf.h, hf.d, hf.m, c1]
        · rw [h2] at isn
          cases bn <;> simp [hf.n, hf.h, hf.d, hf.m, c1, isn]
      · rw [if_neg c2]
        have ih := order_go hf s ps w hw r bn (bd || !isNon p.de)
        rw [List.map_cons]
        rw [forGo, if_pos (ok _)]
        have hbn : bn = false := by cases bn <;> simp_all
        subst hbn
        unfold b_look_order_0 at ih ⊢
        cases bd
        · simp [hf.n, hf.h, hf.d, hf.m, c1, isn, keepAs] at ih ⊢
          exact ih
        · have h3 : isNon p.de = false := by cases h : isNon p.de <;> simp_all
          rw [h3] at isn ih
          simp [hf.n, hf.h, hf.d, hf.m, c1, isn, keepAs] at ih ⊢
          exact ih
theorem order_eq (hf : PL.FldOk M.c0 M.t_name M.t_holds M.t_default M.t_named) (l : List Pa) (s : Store) : d_look_order M [.tup (l.map (Pa.v M))] s = (match ordF false false l with
    | some d => .exc (.ins M.cO [.str d]) s
    | none => .ok .non s) := by
  have g := order_go (M := M) hf s (.tup (l.map (Pa.v M))) ⟨l.map (Pa.v M), none⟩ rfl l false false
  unfold d_look_order
  rw [runDef_ap]
  unfold m_look_order
  cases hd : ordF false false l with
  | some d =>
    rw [hd] at g
    simp only at g
    simp [iSeq, g]
    exact PL.finX_same K (by simp)
  | none =>
    rw [hd] at g
    obtain ⟨bn, bd, e⟩ := g
    simp [iSeq, e]
    exact finV_data rfl (kept_refl _ _) (by simp)
/-! ### rows, parted -/
def asg (w : List Nat) : Bool := w == [110, 101, 119] || (w == sName || (w == sCopy || w == [103, 101, 116]))
omit K in
theorem nm_str {x : PV} (h : nmP x = true) : ∃ w, x = .str w := by
  cases x <;> first | exact ⟨_, rfl⟩ | (simp [nmP] at h)
omit K in
theorem plain_form {x : PV} (h : rowTab dc_PLAIN_PARTS x = true) : ∃ w a r, x = .tup (.str w :: a :: r) ∧ (w == sIf_ || w == sUnless) = false ∧ (asg w = true → ∃ a', a = .str a') := by
  unfold rowTab at h
  split at h
  case h_2 => cases h
  rename_i w r
  split at h
  case h_2 => cases h
  rename_i ps hl
  split at h
  case h_2 => cases h
  rename_i qs hs
  have hm := lk_mem hl
  simp only [dc_PLAIN_PARTS, List.mem_cons, List.not_mem_nil, or_false, Prod.mk.injEq, PV.tup.injEq] at hm
  rcases hm with ⟨rfl, rfl⟩ | ⟨rfl, rfl⟩ | ⟨rfl, rfl⟩ | ⟨rfl, rfl⟩ | ⟨rfl, rfl⟩ | ⟨rfl, rfl⟩ | ⟨rfl, rfl⟩ | ⟨rfl, rfl⟩ | ⟨rfl, rfl⟩ <;>
    (simp only [strsOf, Option.map_some, Option.some.injEq] at hs; subst hs
     cases r with
     | nil => simp [fitsP] at h
     | cons a r =>
       refine ⟨_, a, r, rfl, by decide, fun q => ?_⟩
       first
         | (exfalso; revert q; decide)
         | (simp only [fitsP, Bool.and_eq_true] at h; exact nm_str h.1))
omit K in
theorem guard_form {x : PV} (h : guardP x = true) : ∃ w t p, x = .tup [.str w, t, p] ∧ (w == sIf_ || w == sUnless) = true ∧ rowTab dc_TEST_PARTS t = true ∧ rowTab dc_PLAIN_PARTS p = true := by
  unfold guardP at h
  split at h
  · rename_i w t p
    simp only [Bool.and_eq_true] at h
    exact ⟨w, t, p, rfl, h.1, h.2.1, h.2.2⟩
  · cases h
omit K in
theorem test_form {x : PV} (h : rowTab dc_TEST_PARTS x = true) : ∃ w r, x = .tup (.str w :: r) := by
  unfold rowTab at h
  split at h
  · exact ⟨_, _, rfl⟩
  · cases h
omit K in
theorem parted_plain {x : PV} (h : rowTab dc_PLAIN_PARTS x = true) (g : G 7 x = true) (s : Store) : d_parted [x] s = .ok (.tup [.non, x]) s := by
  obtain ⟨w, a, r, rfl, hw, _⟩ := plain_form h
  have lbx := fun b => PL.G_lb b g
  have i1 := in_str2 w sIf_ sUnless s
  rw [hw] at i1
  have f : finV s (.tup [.non, .tup (.str w :: a :: r)]) s = .ok (.tup [.non, .tup (.str w :: a :: r)]) s := finV_data rfl (kept_refl _ _) (by have := lbx s.length; simpa using this)
  unfold d_parted
  rw [runDef_ap]
  unfold m_parted
  simp [c_GUARDS, i1, f]
omit K in
theorem parted_guard {w : List Nat} {t p : PV} (hw : (w == sIf_ || w == sUnless) = true) (g : G 7 (.tup [.str w, t, p]) = true) (s : Store) : d_parted [.tup [.str w, t, p]] s = .ok (.tup [t, p]) s := by
  have lbx := fun b => PL.G_lb b g
  have i1 := in_str2 w sIf_ sUnless s
  rw [hw] at i1
  have f : finV s (.tup [t, p]) s = .ok (.tup [t, p]) s := finV_data rfl (kept_refl _ _) (by have := lbx s.length; simpa using this)
  unfold d_parted
  rw [runDef_ap]
  unfold m_parted
  simp [c_GUARDS, i1, f]
/-! ### the first bad row -/
def memN (l : List (List Nat)) : PV → Bool
  | .str w => decide (w ∈ l)
  | _ => false
omit K in
theorem any_memN (l : List (List Nat)) (y : PV) : (l.map PV.str).any (fun z => eqF dp z y) = memN l y := by
  cases y with
  | str w => exact any_mem l w
  | _ => induction l with
    | nil => rfl
    | cons a l ih => simp only [List.map_cons, List.any_cons, ih]; rfl
omit K in
theorem in_placeP (l : List (List Nat)) {x : PV} (hx : isD dp x = true) (s : Store) (n : Nat) (hn : s[n]? = some (.lst (l.map .str))) : pyIn x (.loc n) s = .ok (.bl (memN l x)) s ∧ pyNotIn x (.loc n) s = .ok (.bl (!memN l x)) s := by
  have hd : deref s (.loc n) = .lst (l.map .str) := by simp [deref, List.getD_eq_getElem?_getD, hn]
  have hi : itemsOf s (.loc n) = some (l.map .str) := by unfold itemsOf; rw [hd]
  have ha : (l.map PV.str).all (isD dp) = true := by rw [List.all_eq_true]; intro z hz; obtain ⟨w, _, rfl⟩ := List.mem_map.mp hz; rfl
  constructor
  · unfold pyIn inP
    split
    · rename_i heq; cases heq
    · simp only [hi, ha, hx, any_memN]; rfl
  · unfold pyNotIn inP
    split
    · rename_i heq; cases heq
    · simp only [hi, ha, hx, any_memN]; rfl
omit K in
theorem in_lstP (l : List (List Nat)) {x : PV} (hx : isD dp x = true) (s : Store) : pyIn x (.lst (l.map .str)) s = .ok (.bl (memN l x)) s := by
  have ha : (l.map PV.str).all (isD dp) = true := by rw [List.all_eq_true]; intro z hz; obtain ⟨w, _, rfl⟩ := List.mem_map.mp hz; rfl
  unfold pyIn inP
  split
  · rename_i heq; cases heq
  · simp only [itemsOf_lst, ha, hx, any_memN]; rfl
def optV : Option PV → List PV
  | some t => testV t
  | none => []
/-- the names behind a row, none if it may not stand there -/
def rowS (us fs : List (List Nat)) (t : Option PV) (p : PV) : Option (List (List Nat)) :=
  if ((usedV p ++ optV t).all (memN us)) = false then none else match p with
  | .tup (.str w :: .str a :: _) => if asg w = true then (if memN fs (.str a) = true ∨ (t.isSome = true ∧ memN us (.str a) = false) then none else some (us ++ [a])) else some us
  | _ => some us
def rowF (us fs : List (List Nat)) (x : PV) : Option (List (List Nat)) :=
  if rowTab dc_PLAIN_PARTS x = true then rowS us fs none x else if guardP x = true then (match x with
    | .tup [_, t, p] => rowS us fs (some t) p
    | _ => none) else none
omit K in
theorem rowS_no (us fs : List (List Nat)) (t : Option PV) {w : List Nat} {a : PV} {r : List PV} (h : asg w = false) (hu : ((usedV (.tup (.str w :: a :: r)) ++ optV t).all (memN us)) = true) : rowS us fs t (.tup (.str w :: a :: r)) = some us := by
  unfold rowS
  rw [if_neg (by rw [hu]; decide)]
  split
  · rename_i heq
    simp only [PV.tup.injEq, List.cons.injEq, PV.str.injEq] at heq
    obtain ⟨rfl, _⟩ := heq
    rw [h]; rfl
  · rfl
noncomputable def q1 (M : Cfg) : SM := sIf (qAnd (qNot (qOf (eCallK (fun vs _ => (d_is_plain M) vs) (aCons (eVar 6) (aNil)) (aNil)))) (qNot (qOf (eCallK (fun vs _ => (d_is_guarded M) vs) (aCons (eVar 6) (aNil)) (aNil))))) (sRet (eVar 5)) (sNext)
noncomputable def q2 : SM := sAsg (eCallK (fun vs _ => d_parted vs) (aCons (eVar 6) (aNil)) (aNil)) (gTup [9, 10])
noncomputable def q3 : SM := sAsg (eOp2 pyAdd (eBlt bList (aCons (eCallK (fun vs _ => d_used_variables vs) (aCons (eVar 10) (aNil)) (aNil)) (aNil))) (eBlt bList (aCons (eIf (qBl (eNotB (eOp1 (pyIs .non) (eVar 9)))) (eCallK (fun vs _ => d_test_variables vs) (aCons (eVar 9) (aNil)) (aNil)) (eTup (aNil))) (aNil)))) (gName 7)
noncomputable def q4 : SM := sIf (qNot (qOf (eBlt bAll (aCons (eLst (aComp (iSeq (eVar 7)) (gName 11) (qYes) (eOp2 pyIn (eVar 11) (eVar 3)) [11])) (aNil))))) (sRet (eVar 5)) (sNext)
noncomputable def q5 : SM := sIf (qBl (eOp2 pyIn (eOp2 pyIdx (eVar 10) (eC (.int 0))) (eC c_ASSIGNING))) (sSeq (sIf (qOr (qBl (eOp2 pyIn (eOp2 pyIdx (eVar 10) (eC (.int 1))) (eVar 4))) (qAnd (qBl (eNotB (eOp1 (pyIs .non) (eVar 9)))) (qBl (eOp2 pyNotIn (eOp2 pyIdx (eVar 10) (eC (.int 1))) (eVar 3))))) (sRet (eVar 5)) (sNext)) (sExp (eMt mAppend (eVar 3) (aCons (eOp2 pyIdx (eVar 10) (eC (.int 1))) (aNil))))) (sNext)
omit K in
theorem q_eq : b_first_bad_row_0 M = sSeq (q1 M) (sSeq q2 (sSeq q3 (sSeq q4 q5))) := rfl
section
variable (P R Z : PV) (s : Store) (fs : List (List Nat)) (k : Int)
abbrev Er (row u t p : Option PV) : Env := [some P, some R, some Z, some (.loc s.length), some (.lst (fs.map .str)), some (.int k), row, u, none, t, p, none]
variable {P R Z s fs k}
omit K in
theorem tail_turn {us : List (List Nat)} (hus : us.length < 1000) (row : Option PV) (t : Option PV) (ht : ∀ x, t = some x → G 6 x = true ∧ ∃ w r, x = .tup (.str w :: r)) {w : List Nat} {a : PV} {r : List PV} (hp : G 6 (.tup (.str w :: a :: r)) = true) (ha : asg w = true → ∃ a', a = .str a') :
    ∃ u, (sSeq q3 (sSeq q4 q5)) (Er P R Z s fs k row none (some (t.getD .non)) (some (.tup (.str w :: a :: r)))) (s ++ [.lst (us.map .str)]) = (match rowS us fs t (.tup (.str w :: a :: r)) with
      | none => .ok (Er P R Z s fs k row u (some (t.getD .non)) (some (.tup (.str w :: a :: r))), .ret (.int k)) (s ++ [.lst (us.map .str)])
      | some us' => .ok (Er P R Z s fs k row u (some (t.getD .non)) (some (.tup (.str w :: a :: r))), .next) (s ++ [.lst (us'.map .str)])) := by
  have hg := hp
  simp only [G, Bool.and_eq_true, List.all_eq_true, decide_eq_true_eq] at hg
  let s1 : Store := s ++ [.lst (us.map .str)]
  have hat : s1[s.length]? = some (.lst (us.map .str)) := by simp [s1]
  let tl : List PV := optV t
  let used : List PV := usedV (.tup (.str w :: a :: r)) ++ tl
  have gu : ∀ x ∈ usedV (.tup (.str w :: a :: r)), G 5 x = true := by
    intro x hx
    have hr : ∀ x ∈ a :: r, G 5 x = true := fun x hx => hg.2 x (List.mem_cons_of_mem _ hx)
    simp only [usedV] at hx
    split at hx
    · exact hr x (List.mem_of_mem_drop hx)
    · split at hx
      · exact hr x (List.mem_of_mem_drop hx)
      · split at hx
        · exact hr x (List.mem_of_mem_take hx)
        · cases hx
  have gt : ∀ x ∈ tl, G 5 x = true := by
    intro x hx
    cases t with
    | none => simp [tl, optV] at hx
    | some tv =>
      obtain ⟨g, w', r', rfl⟩ := ht tv rfl
      simp only [G, Bool.and_eq_true, List.all_eq_true, decide_eq_true_eq] at g
      simp only [tl, optV, testV] at hx
      split at hx
      · exact g.2 x (List.mem_cons_of_mem _ (List.mem_of_mem_drop hx))
      · exact g.2 x (List.mem_cons_of_mem _ hx)
  have g5 : ∀ x ∈ used, isD dp x = true := fun x hx => by
    have : G 5 x = true := by
      rcases List.mem_append.mp hx with h | h
      · exact gu x h
      · exact gt x h
    exact PL.G_isD 12 _ (PL.G_mono _ _ (PL.G_mono _ _ (PL.G_mono _ _ (PL.G_mono _ _ (PL.G_mono _ _ (PL.G_mono _ _ (PL.G_mono _ _ this)))))))
  have hlen : used.length ≤ 3000 := by
    have h1 : (usedV (.tup (.str w :: a :: r))).length ≤ 1000 := by
      have hz : (a :: r).length ≤ 1000 := by have := hg.1; simp at this ⊢; omega
      simp only [usedV]
      split
      · simp at hz ⊢; omega
      · split
        · simp at hz ⊢; omega
        · split
          · simp at hz ⊢
          · simp
    have h2 : tl.length ≤ 1000 := by
      cases t with
      | none => simp [tl, optV]
      | some tv =>
        obtain ⟨g, w', r', rfl⟩ := ht tv rfl
        simp only [G, Bool.and_eq_true, decide_eq_true_eq] at g
        have := g.1
        simp only [tl, optV, testV]
        split <;> simp at this ⊢ <;> omega
    simp only [used, List.length_append]; omega
  have e3 : q3 (Er P R Z s fs k row none (some (t.getD .non)) (some (.tup (.str w :: a :: r)))) s1 = .ok (Er P R Z s fs k row (some (.lst used)) (some (t.getD .non)) (some (.tup (.str w :: a :: r))), .next) s1 := by
    have u1 := usedV_eq w (a :: r) s1 hp
    have ad : ∀ x y : List PV, x.length + y.length ≤ 3000 → pyAdd (.lst x) (.lst y) s1 = .ok (.lst (x ++ y)) s1 := fun x y h => by
      have : x.length + y.length ≤ sz := by simp only [sz]; omega
      simp [pyAdd, this]
    have lt : ∀ x : List PV, bList [.tup x] s1 = .ok (.lst x) s1 := fun _ => rfl
    unfold q3
    cases t with
    | none =>
      have z := isN_eq .non s1
      have a1 := ad (usedV (.tup (.str w :: a :: r))) [] (by simpa [used, tl, optV] using hlen)
      simp [u1, z, isNon, lt, a1, used, tl, optV]
    | some tv =>
      obtain ⟨g, w', r', rfl⟩ := ht tv rfl
      have z := isN_eq (.tup (.str w' :: r')) s1
      have hr' : r'.length ≤ 1000 := by
        simp only [G, Bool.and_eq_true, decide_eq_true_eq] at g
        have := g.1; simp at this; omega
      have t1 := testV_eq w' r' hr' s1 g
      have a1 := ad (usedV (.tup (.str w :: a :: r))) (testV (.tup (.str w' :: r'))) (by simpa [used, tl, optV] using hlen)
      simp [u1, z, isNon, lt, t1, a1, used, tl, optV]
  have cg : compGo ⟨used, none⟩ (gName 11) qYes (eOp2 pyIn (eVar 11) (eVar 3)) (Er P R Z s fs k row (some (.lst used)) (some (t.getD .non)) (some (.tup (.str w :: a :: r)))) used [] s1 = .ok (used.map fun x => .bl (memN us x)) s1 := by
    rw [compGo_pure (fun _ => true) (fun x => .bl (memN us x))]
    · rw [List.filter_eq_self.mpr (by simp)]; simp
    · intro x hx
      refine ⟨_, rfl, rfl, fun _ => ?_⟩
      have := (in_placeP us (g5 x hx) s1 s.length hat).1
      simp [this]
  have ba := PL.all_map (s := s1) used (memN us)
  refine ⟨some (.lst used), ?_⟩
  show (sSeq q3 (sSeq q4 q5)) _ s1 = _
  rw [sSeq_ap, e3]
  simp only [Res.bind_ok]
  cases hb : used.all (memN us)
  · have hr : rowS us fs t (.tup (.str w :: a :: r)) = none := by
      unfold rowS
      rw [if_pos hb]
    rw [hb] at ba
    rw [hr]
    rw [sSeq_ap]
    unfold q4
    simp [iSeq, wipe, cg, ba, s1]
  · rw [hb] at ba
    have e4 : q4 (Er P R Z s fs k row (some (.lst used)) (some (t.getD .non)) (some (.tup (.str w :: a :: r)))) s1 = .ok (Er P R Z s fs k row (some (.lst used)) (some (t.getD .non)) (some (.tup (.str w :: a :: r))), .next) s1 := by
      unfold q4
      simp [iSeq, wipe, cg, ba]
    rw [sSeq_ap, e4]
    simp only [Res.bind_ok]
    have ia : pyIn (.str w) c_ASSIGNING s1 = .ok (.bl (asg w)) s1 := by
      unfold c_ASSIGNING
      rw [PL.pyIn_tup rfl rfl]
      simp only [List.any_cons, List.any_nil, Bool.or_false]
      have ee : ∀ b : List Nat, eqF dp (.str b) (.str w) = (w == b) := fun b => BEq.comm
      rw [ee, ee, ee, ee]
      rfl
    cases hw : asg w
    · rw [hw] at ia
      rw [rowS_no us fs t hw hb]
      unfold q5
      simp [ia]
      rfl
    · rw [hw] at ia
      obtain ⟨a', rfl⟩ := ha hw
      have i1 := in_lstP fs (x := .str a') rfl s1
      have i2 := (in_placeP us (x := .str a') rfl s1 s.length hat).2
      have i3 := isN_eq (t.getD .non) s1
      have hr : rowS us fs t (.tup (.str w :: .str a' :: r)) = (if memN fs (.str a') = true ∨ (t.isSome = true ∧ memN us (.str a') = false) then none else some (us ++ [a'])) := by
        unfold rowS
        rw [if_neg (by rw [show (usedV (.tup (.str w :: .str a' :: r)) ++ optV t).all (memN us) = true from hb]; decide)]
        simp only [hw, if_true]
      have hz : us.length < sz := by simp only [sz]; omega
      rw [hr]
      have ht3 : isNon (t.getD .non) = !t.isSome := by
        cases t with
        | none => rfl
        | some tv => obtain ⟨_, w', r', rfl⟩ := ht tv rfl; rfl
      rw [ht3] at i3
      unfold q5
      cases h1 : memN fs (.str a')
      · rw [h1] at i1
        cases h2 : t.isSome
        · rw [h2] at i3
          simp [ia, i1, i3, isL, hat, mAppend, deref, List.getD_eq_getElem?_getD, s1, hz]
        · rw [h2] at i3
          cases h3 : memN us (.str a')
          · rw [h3] at i2
            simp [ia, i1, i2, i3]
            rfl
          · rw [h3] at i2
            simp [ia, i1, i2, i3, isL, mAppend, deref, List.getD_eq_getElem?_getD, s1, hz]
      · rw [h1] at i1
        simp [ia, i1]
        rfl
theorem row_turn {us : List (List Nat)} (hus : us.length < 1000) {x : PV} (hx : G 6 x = true) :
    ∃ (u t p : Option PV), b_first_bad_row_0 M (Er P R Z s fs k (some x) none none none) (s ++ [.lst (us.map .str)]) = (match rowF us fs x with
      | none => .ok (Er P R Z s fs k (some x) u t p, .ret (.int k)) (s ++ [.lst (us.map .str)])
      | some us' => .ok (Er P R Z s fs k (some x) u t p, .next) (s ++ [.lst (us'.map .str)])) := by
  have pl := plain_eq (M := M) K (n := 4) hx (s ++ [.lst (us.map .str)])
  have gd := guarded_eq (M := M) K (n := 3) hx (s ++ [.lst (us.map .str)])
  rw [q_eq]
  cases h1 : rowTab dc_PLAIN_PARTS x
  · rw [h1] at pl
    cases h2 : guardP x
    · rw [h2] at gd
      refine ⟨none, none, none, ?_⟩
      have hr : rowF us fs x = none := by unfold rowF; rw [if_neg (by rw [h1]; decide), if_neg (by rw [h2]; decide)]
      rw [hr, sSeq_ap]
      unfold q1
      simp [pl, gd]
    · rw [h2] at gd
      obtain ⟨w, t, p, rfl, hw, ht, hp⟩ := guard_form h2
      have hg := hx
      simp only [G, Bool.and_eq_true, List.all_eq_true, decide_eq_true_eq] at hg
      have gt : G 6 t = true := PL.G_mono _ _ (hg.2 t (by simp))
      have gp : G 6 p = true := PL.G_mono _ _ (hg.2 p (by simp))
      obtain ⟨wt, rt, rfl⟩ := test_form ht
      obtain ⟨wp, a, rp, rfl, _, ha⟩ := plain_form hp
      have hr : rowF us fs (.tup [.str w, .tup (.str wt :: rt), .tup (.str wp :: a :: rp)]) = rowS us fs (some (.tup (.str wt :: rt))) (.tup (.str wp :: a :: rp)) := by
        unfold rowF; rw [if_neg (by rw [h1]; decide), if_pos h2]
      have pt := parted_guard (t := .tup (.str wt :: rt)) (p := .tup (.str wp :: a :: rp)) hw (PL.G_mono _ _ hx) (s ++ [.lst (us.map .str)])
      obtain ⟨u, e⟩ := tail_turn (P := P) (R := R) (Z := Z) (s := s) (fs := fs) (k := k) hus (some (.tup [.str w, .tup (.str wt :: rt), .tup (.str wp :: a :: rp)])) (some (.tup (.str wt :: rt))) (fun x h => by cases h; exact ⟨gt, _, _, rfl⟩) gp ha
      refine ⟨u, some (.tup (.str wt :: rt)), some (.tup (.str wp :: a :: rp)), ?_⟩
      have e1 : q1 M (Er P R Z s fs k (some (.tup [.str w, .tup (.str wt :: rt), .tup (.str wp :: a :: rp)])) none none none) (s ++ [.lst (us.map .str)]) = .ok (Er P R Z s fs k (some (.tup [.str w, .tup (.str wt :: rt), .tup (.str wp :: a :: rp)])) none none none, .next) (s ++ [.lst (us.map .str)]) := by
        unfold q1
        simp [pl, gd]
      have e2 : q2 (Er P R Z s fs k (some (.tup [.str w, .tup (.str wt :: rt), .tup (.str wp :: a :: rp)])) none none none) (s ++ [.lst (us.map .str)]) = .ok (Er P R Z s fs k (some (.tup [.str w, .tup (.str wt :: rt), .tup (.str wp :: a :: rp)])) none (some (.tup (.str wt :: rt))) (some (.tup (.str wp :: a :: rp))), .next) (s ++ [.lst (us.map .str)]) := by
        unfold q2
        simp [pt, gTup, gNames]
      rw [sSeq_ap, e1]
      simp only [Res.bind_ok]
      rw [sSeq_ap, e2]
      simp only [Res.bind_ok]
      rw [hr]
      exact e
  · rw [h1] at pl
    obtain ⟨w, a, r, rfl, _, ha⟩ := plain_form h1
    have hr : rowF us fs (.tup (.str w :: a :: r)) = rowS us fs none (.tup (.str w :: a :: r)) := by unfold rowF; rw [if_pos h1]
    have pt := parted_plain h1 (PL.G_mono _ _ hx) (s ++ [.lst (us.map .str)])
    obtain ⟨u, e⟩ := tail_turn (P := P) (R := R) (Z := Z) (s := s) (fs := fs) (k := k) hus (some (.tup (.str w :: a :: r))) none (fun x h => by cases h) hx ha
    refine ⟨u, some .non, some (.tup (.str w :: a :: r)), ?_⟩
    have e1 : q1 M (Er P R Z s fs k (some (.tup (.str w :: a :: r))) none none none) (s ++ [.lst (us.map .str)]) = .ok (Er P R Z s fs k (some (.tup (.str w :: a :: r))) none none none, .next) (s ++ [.lst (us.map .str)]) := by
      unfold q1
      simp [pl]
    have e2 : q2 (Er P R Z s fs k (some (.tup (.str w :: a :: r))) none none none) (s ++ [.lst (us.map .str)]) = .ok (Er P R Z s fs k (some (.tup (.str w :: a :: r))) none (some .non) (some (.tup (.str w :: a :: r))), .next) (s ++ [.lst (us.map .str)]) := by
      unfold q2
      simp [pt, gTup, gNames]
    rw [sSeq_ap, e1]
    simp only [Res.bind_ok]
    rw [sSeq_ap, e2]
    simp only [Res.bind_ok]
    rw [hr]
    exact e
/-- the index of the first bad row, and the names behind -/
def frF (fs : List (List Nat)) : List (List Nat) → Nat → List PV → Option Nat × List (List Nat)
  | us, _, [] => (none, us)
  | us, n, x :: r => match rowF us fs x with
    | none => (some n, us)
    | some us' => frF fs us' (n + 1) r
omit K in
theorem rowS_len {us : List (List Nat)} {t : Option PV} {p : PV} {us' : List (List Nat)} (h : rowS us fs t p = some us') : us'.length ≤ us.length + 1 := by
  unfold rowS at h
  split at h
  · cases h
  · split at h
    · split at h
      · split at h
        · cases h
        · cases h; simp
      · cases h; omega
    · cases h; omega
omit K in
theorem rowF_len {us : List (List Nat)} {x : PV} {us' : List (List Nat)} (h : rowF us fs x = some us') : us'.length ≤ us.length + 1 := by
  unfold rowF at h
  split at h
  · exact rowS_len h
  · split at h
    · split at h
      · exact rowS_len h
      · cases h
    · cases h
abbrev Er0 (P R Z : PV) (s : Store) (fs : List (List Nat)) : Env := [some P, some R, some Z, some (.loc s.length), some (.lst (fs.map .str)), none, none, none, none, none, none, none]
theorem rows_go (w : Walk) (hw : w.at_ = none) : ∀ (rows : List PV) (us : List (List Nat)) (n : Nat), us.length + rows.length < 1000 → (∀ x ∈ rows, G 6 x = true) →
    ∃ σ', forGo w (gTup [5, 6]) (b_first_bad_row_0 M) (keepAs (Er0 P R Z s fs)) (enumI n rows) (Er0 P R Z s fs) (s ++ [.lst (us.map .str)]) = (match (frF fs us n rows).1 with
      | some j => .ok (σ', .ret (.int (j : Nat))) (s ++ [.lst ((frF fs us n rows).2.map .str)])
      | none => .ok (Er0 P R Z s fs, .next) (s ++ [.lst ((frF fs us n rows).2.map .str)]))
  | [], us, n, _, _ => by
    have ok : ∀ s, w.ok s := fun s => by unfold Walk.ok; rw [hw]; trivial
    exact ⟨[], by simp [frF, enumI, forGo, ok]⟩
  | x :: r, us, n, hl, hx => by
    have ok : ∀ s, w.ok s := fun s => by unfold Walk.ok; rw [hw]; trivial
    obtain ⟨u, t, p, e⟩ := row_turn (M := M) K (P := P) (R := R) (Z := Z) (s := s) (fs := fs) (k := (n : Nat)) (us := us) (by simp at hl; omega) (hx x (List.mem_cons_self ..))
    have g : gTup [5, 6] (.tup [.int (n : Nat), x]) (Er0 P R Z s fs) (s ++ [.lst (us.map .str)]) = .ok (Er P R Z s fs (n : Nat) (some x) none none none) (s ++ [.lst (us.map .str)]) := rfl
    simp only [enumI, frF]
    cases hr : rowF us fs x with
    | none =>
      rw [hr] at e
      refine ⟨Er P R Z s fs (n : Nat) (some x) u t p, ?_⟩
      rw [forGo, if_pos (ok _), g]
      simp only [Res.bind_ok]
      rw [e]
      rfl
    | some us' =>
      rw [hr] at e
      have hl' := rowF_len hr
      obtain ⟨σ', ih⟩ := rows_go w hw r us' (n + 1) (by simp at hl; omega) fun y hy => hx y (List.mem_cons_of_mem _ hy)
      refine ⟨σ', ?_⟩
      rw [forGo, if_pos (ok _), g]
      simp only [Res.bind_ok]
      rw [e]
      simp only [Res.bind_ok]
      exact ih
end
/-! ### results -/
def resP : PV → Bool
  | .tup [.str w] => w == sNone
  | .tup [.str w, a] => if w == sNone then false else if (w == sBox || w == sCopy) = true then nmP a else (w == sTest && rowTab dc_TEST_PARTS a)
  | _ => false
omit K in
theorem res_long (w : List Nat) (a b : PV) (r : List PV) : resP (.tup (.str w :: a :: b :: r)) = false := rfl
theorem result_eq (h : G (n + 3) x = true) (s : Store) : d_is_result M [x] s = .ok (.bl (resP x)) s := by
  have fin : ∀ b, finV s (.bl b) s = .ok (.bl b) s := fun b => finV_data rfl (kept_refl _ _) (by simp)
  have hw := PL.word_eq K h s
  unfold d_is_result
  rw [runDef_ap]
  unfold m_is_result
  cases hb : hwP x
  · rw [hb] at hw
    have : resP x = false := by
      unfold resP
      split
      · simp [hwP] at hb
      · simp [hwP] at hb
      · rfl
    simp [hw, this, fin]
  · rw [hb] at hw
    obtain ⟨w, r, rfl⟩ : ∃ w r, x = .tup (.str w :: r) := by
      unfold hwP at hb
      split at hb
      · exact ⟨_, _, rfl⟩
      · cases hb
    have hg := h
    simp only [G, Bool.and_eq_true, List.all_eq_true, decide_eq_true_eq] at hg
    have i1 := in_str2 w sBox sCopy s
    match r, hg, hw with
    | [], hg, hw =>
      cases q1 : w == sNone
      · cases q2 : (w == sBox || w == sCopy)
        · rw [q2] at i1
          cases q3 : w == sTest <;> simp [hw, q1, q3, i1, resP, fin]
        · rw [q2] at i1
          simp [hw, q1, i1, resP, fin]
      · simp [hw, q1, resP, fin]
    | [a], hg, hw =>
      have ga := hg.2 a (by simp)
      have e1 := PL.isname_eq K ga s
      have e2 := test_eq (M := M) K (n := n) ga s
      cases q1 : w == sNone
      · cases q2 : (w == sBox || w == sCopy)
        · rw [q2] at i1
          cases q3 : w == sTest <;> simp [hw, q1, q2, q3, i1, e2, resP, fin]
        · rw [q2] at i1
          simp [hw, q1, q2, i1, e1, resP, fin]
      · simp [hw, q1, resP, fin]
    | a :: b :: r, hg, hw =>
      have l1 : ¬ ((r.length : Int) + 1 + 1 + 1 = 1) := by omega
      have l2 : ¬ ((r.length : Int) + 1 + 1 + 1 = 2) := by omega
      rw [res_long]
      cases q1 : w == sNone
      · cases q2 : (w == sBox || w == sCopy)
        · rw [q2] at i1
          cases q3 : w == sTest <;> simp [hw, q1, q3, i1, l1, l2, fin]
        · rw [q2] at i1
          simp [hw, q1, i1, l2, fin]
      · simp [hw, q1, l1, fin]
def resV : PV → List PV
  | .tup [.str w, a] => if w == sTest then testV a else [a]
  | _ => []
def resF (us : List (List Nat)) (x : PV) : Bool := resP x && (resV x).all (memN us)
omit K in
theorem G6D {x : PV} (h : G 6 x = true) : isD dp x = true := PL.G_isD 12 _ (PL.G_mono _ _ (PL.G_mono _ _ (PL.G_mono _ _ (PL.G_mono _ _ (PL.G_mono _ _ (PL.G_mono _ _ h))))))
omit K in
theorem mem_comp (us : List (List Nat)) (res : PV) (s : Store) (m : Nat) (hat : s[m]? = some (.lst (us.map .str))) (xs : List PV) (hx : ∀ x ∈ xs, isD dp x = true) :
    compGo ⟨xs, none⟩ (gName 2) qYes (eOp2 pyIn (eVar 2) (eVar 0)) [some (.loc m), some res, none] xs [] s = .ok (xs.map fun x => .bl (memN us x)) s := by
  rw [compGo_pure (fun _ => true) (fun x => .bl (memN us x))]
  · rw [List.filter_eq_self.mpr (by simp)]; simp
  · intro x hxx
    refine ⟨_, rfl, rfl, fun _ => ?_⟩
    have := (in_placeP us (hx x hxx) s m hat).1
    simp [this]
theorem fits_eq (us : List (List Nat)) (h : G 6 x = true) (s : Store) (m : Nat) (hat : s[m]? = some (.lst (us.map .str))) : d_result_fits M [.loc m, x] s = .ok (.bl (resF us x)) s := by
  have fin : ∀ b, finV s (.bl b) s = .ok (.bl b) s := fun b => finV_data rfl (kept_refl _ _) (by simp)
  have re := result_eq (M := M) K (n := 3) h s
  have mc := mem_comp us x s m hat
  have am := fun xs => PL.all_map (s := s) xs (memN us)
  unfold d_result_fits resF
  rw [runDef_ap]
  unfold m_result_fits
  cases hr : resP x
  · rw [hr] at re
    simp [re, fin]
  · rw [hr] at re
    have hg := h
    unfold resP at hr
    split at hr
    · rename_i w
      have q3 : (w == sTest) = false := by have := beq_iff_eq.mp hr; subst this; rfl
      have c1 := mc [] (fun _ h => nomatch h)
      have a1 := am []
      simp only [List.map_nil] at c1 a1
      have cut : cutP [PV.str w] (some 1) none = [] := rfl
      simp [re, q3, sliceV, cut, iSeq, wipe, c1, a1, resV, fin]
    · rename_i w a
      simp only [G, Bool.and_eq_true, List.all_eq_true, decide_eq_true_eq] at hg
      have ga : G 5 a = true := hg.2 a (by simp)
      cases q3 : w == sTest
      · have cut : cutP [PV.str w, a] (some 1) none = [a] := rfl
        have c1 := mc [a] (fun y hy => by simp only [List.mem_singleton] at hy; subst hy; exact G6D (PL.G_mono _ _ ga))
        have a1 := am [a]
        simp only [List.map_cons, List.map_nil, List.all_cons, List.all_nil, Bool.and_true] at c1 a1
        simp [re, q3, sliceV, cut, iSeq, wipe, c1, a1, resV, fin]
      · have hw := beq_iff_eq.mp q3
        subst hw
        simp at hr
        obtain ⟨w', r', rfl⟩ := test_form hr
        have hga := ga
        simp only [G, Bool.and_eq_true, List.all_eq_true, decide_eq_true_eq] at hga
        have hr' : r'.length ≤ 1000 := by have := hga.1; simp at this; omega
        have t1 := testV_eq w' r' hr' s (PL.G_mono _ _ ga)
        have c1 := mc (testV (.tup (.str w' :: r'))) (fun y hy => by
          simp only [testV] at hy
          have : y ∈ r' := by
            split at hy
            · exact List.mem_of_mem_drop hy
            · exact hy
          exact G6D (PL.G_mono _ _ (PL.G_mono _ _ (hga.2 y (List.mem_cons_of_mem _ this)))))
        have a1 := am (testV (.tup (.str w' :: r')))
        simp only [resV, beq_self_eq_true, if_true] at *
        generalize testV (.tup (.str w' :: r')) = tv at *
        simp [re, t1, iSeq, wipe, c1, fin]
        simp [a1, fin]
    · cases hr
/-! ### first_bad_row -/
def hoIs (b : List Nat) : PV → Bool
  | .ins _ [_, .str h, _, _] => h == b
  | _ => false
def nmOf : PV → PV
  | .ins _ (n :: _) => n
  | x => x
def namesH (b : List Nat) (l : List Pa) : List (List Nat) := (l.filter fun p => p.ho == b).map (·.nm)
omit K in
theorem namesH_eq (b : List Nat) : ∀ l : List Pa, ((l.map (Pa.v M)).filter (hoIs b)).map nmOf = (namesH b l).map .str
  | [] => rfl
  | p :: l => by
    have ih := namesH_eq b l
    unfold namesH at ih ⊢
    simp only [List.map_cons, List.filter_cons]
    have e : hoIs b (Pa.v M p) = (p.ho == b) := rfl
    rw [e]
    cases p.ho == b
    · simpa using ih
    · simp only [if_true, List.map_cons]
      rw [ih]; rfl
omit K in
theorem ho_comp (hf : PL.FldOk M.c0 M.t_name M.t_holds M.t_default M.t_named) (b : List Nat) (hb : b.length ≠ 1) (l : List Pa) (σ : Env) (hσ : σ.length = 12) (s : Store) :
    compGo ⟨l.map (Pa.v M), none⟩ (gName 8) (qBl (eOp2 pyEq (eFld M.t_holds (eVar 8)) (eC (.str b)))) (eFld M.t_name (eVar 8)) σ (l.map (Pa.v M)) [] s = .ok ((namesH b l).map .str) s := by
  rw [compGo_pure (hoIs b) nmOf]
  · rw [namesH_eq]; simp
  · intro x hx
    obtain ⟨p, _, rfl⟩ := List.mem_map.mp hx
    have hs : (σ.set 8 (some (Pa.v M p)))[8]? = some (some (Pa.v M p)) := by rw [List.getElem?_set_self (by omega)]
    refine ⟨σ.set 8 (some (Pa.v M p)), rfl, ?_, fun _ => ?_⟩
    · simp only [qBl_ap, eOp2_ap, eFld_ap, eVar_ap, hs, eC_ap, Res.bind_ok, deref_ins, hf.h]
      rfl
    · simp only [eFld_ap, eVar_ap, hs, Res.bind_ok, deref_ins, hf.n]
      rfl
theorem first_eq (hf : PL.FldOk M.c0 M.t_name M.t_holds M.t_default M.t_named) (l : List Pa) (hl : l.length < 100) (rows : List PV) (hr : rows.length < 800) (hx : ∀ x ∈ rows, G 6 x = true) {res : PV} (hres : G 6 res = true) (s : Store) :
    d_first_bad_row M [.tup (l.map (Pa.v M)), .tup rows, res] s = .ok (match frF (namesH PL.sMark l) (namesH PL.sBox l) 0 rows with
      | (some j, _) => .int (j : Nat)
      | (none, us) => if resF us res = true then .non else .int rows.length) s := by
  have lb1 : (namesH PL.sBox l).length ≤ l.length := by unfold namesH; rw [List.length_map]; exact List.length_filter_le _ _
  have c1 := ho_comp (M := M) hf PL.sBox (by decide) l [some (.tup (l.map (Pa.v M))), some (.tup rows), some res, none, none, none, none, none, none, none, none, none] rfl s
  have c2 := ho_comp (M := M) hf PL.sMark (by decide) l [some (.tup (l.map (Pa.v M))), some (.tup rows), some res, some (.loc s.length), none, none, none, none, none, none, none, none] rfl (s ++ [.lst ((namesH PL.sBox l).map .str)])
  obtain ⟨σ', g⟩ := rows_go (M := M) K (P := .tup (l.map (Pa.v M))) (R := .tup rows) (Z := res) (s := s) (fs := namesH PL.sMark l) ⟨enumI 0 rows, none⟩ rfl rows (namesH PL.sBox l) 0 (by omega) hx
  have hz : rows.length ≤ sz := by simp only [sz]; omega
  unfold d_first_bad_row
  rw [runDef_ap]
  unfold m_first_bad_row
  have dr : ∀ (v : PV) (us : List (List Nat)), lb s.length v = true → (∀ n, v ≠ .loc n) → finV s v (s ++ [.lst (us.map .str)]) = .ok v s := fun v us h1 _ => finV_drop (old := s) (new := s) (e := [.lst (us.map .str)]) rfl (kept_refl _ _) h1
  cases hq : frF (namesH PL.sMark l) (namesH PL.sBox l) 0 rows with
  | mk o us =>
    rw [hq] at g
    cases o with
    | some j =>
      simp only at g
      have d1 := dr (.int (j : Nat)) us (by simp) (fun _ => by simp)
      simp [iSeq, wipe, c1, c2, iEnum, hz, g, d1]
    | none =>
      simp only at g
      have ft := fits_eq (M := M) K us hres (s ++ [.lst (us.map .str)]) s.length (by simp)
      cases q : resF us res
      · rw [q] at ft
        have d1 := dr (.int rows.length) us (by simp) (fun _ => by simp)
        simp [iSeq, wipe, c1, c2, iEnum, hz, g, ft, d1, q]
      · rw [q] at ft
        have d1 := dr .non us (by simp) (fun _ => by simp)
        simp [iSeq, wipe, c1, c2, iEnum, hz, g, ft, d1, q]
/-! ### making a method -/
abbrev wParams : List Nat := [112, 97, 114, 97, 109, 115]
abbrev wBoxes : List Nat := [98, 111, 120, 101, 115]
abbrev wRows : List Nat := [114, 111, 119, 115]
/-- the first fault of the rows -/
def rowsFault (M : Cfg) (l : List Pa) (rows : List PV) (res : PV) : Option (Nat × PV) := match frF (namesH PL.sMark l) (namesH PL.sBox l) 0 rows with
  | (some j, _) => some (M.cR, .int (j : Nat))
  | (none, us) => if resF us res = true then (if 8 < rows.length then some (M.cM, .str wRows) else none) else some (M.cR, .int rows.length)
def metFault (M : Cfg) (nm : PV) (l : List Pa) (rows : Option (List PV)) (res : PV) : Option (Nat × PV) :=
  if nmP nm = false then some (M.cN, nm) else match dupF [] (l.map (·.nm)) with
    | some d => some (M.cT, .str d)
    | none => match ordF false false l with
      | some d => some (M.cO, .str d)
      | none => if 4 < l.length then some (M.cM, .str wParams) else if 2 < (namesH PL.sBox l).length then some (M.cM, .str wBoxes) else match rows with
        | none => some (M.cR, .int (-1))
        | some rows => rowsFault M l rows res
omit K in
theorem nm_comp (hf : PL.FldOk M.c0 M.t_name M.t_holds M.t_default M.t_named) (l : List Pa) (σ : Env) (hσ : σ.length = 7) (s : Store) :
    compGo ⟨l.map (Pa.v M), none⟩ (gName 6) qYes (eFld M.t_name (eVar 6)) σ (l.map (Pa.v M)) [] s = .ok ((l.map (·.nm)).map .str) s := by
  rw [compGo_pure (fun _ => true) nmOf]
  · rw [List.filter_eq_self.mpr (by simp)]
    simp [nmOf]
  · intro x hx
    obtain ⟨p, _, rfl⟩ := List.mem_map.mp hx
    have hs : (σ.set 6 (some (Pa.v M p)))[6]? = some (some (Pa.v M p)) := by rw [List.getElem?_set_self (by omega)]
    refine ⟨σ.set 6 (some (Pa.v M p)), rfl, rfl, fun _ => ?_⟩
    simp only [eFld_ap, eVar_ap, hs, Res.bind_ok, deref_ins, hf.n]
    rfl
omit K in
theorem bx_comp (hf : PL.FldOk M.c0 M.t_name M.t_holds M.t_default M.t_named) (l : List Pa) (σ : Env) (hσ : σ.length = 7) (s : Store) :
    ∃ ys : List PV, ys.length = (namesH PL.sBox l).length ∧ compGo ⟨l.map (Pa.v M), none⟩ (gName 6) (qBl (eOp2 pyEq (eFld M.t_holds (eVar 6)) (eC (.str PL.sBox)))) (eVar 6) σ (l.map (Pa.v M)) [] s = .ok ys s := by
  refine ⟨((l.map (Pa.v M)).filter (hoIs PL.sBox)).map id, ?_, ?_⟩
  · have := congrArg List.length (namesH_eq (M := M) PL.sBox l)
    simpa using this
  · rw [compGo_pure (hoIs PL.sBox) id]
    · simp
    · intro x hx
      obtain ⟨p, _, rfl⟩ := List.mem_map.mp hx
      have hs : (σ.set 6 (some (Pa.v M p)))[6]? = some (some (Pa.v M p)) := by rw [List.getElem?_set_self (by omega)]
      refine ⟨σ.set 6 (some (Pa.v M p)), rfl, ?_, fun _ => ?_⟩
      · simp only [qBl_ap, eOp2_ap, eFld_ap, eVar_ap, hs, eC_ap, Res.bind_ok, deref_ins, hf.h]
        rfl
      · simp only [eVar_ap, hs]
        rfl
theorem init_eq (ok : Ok M) {nm : PV} (hn : G 5 nm = true) (l : List Pa) (hl : l.length < 100) (hd : ∀ p ∈ l, G 5 p.de = true) (rv : PV) (ro : Option (List PV)) {res : PV} (hres : G 6 res = true) (s : Store)
    (hro : (∃ rows, rv = .tup rows ∧ ro = some rows ∧ rows.length < 800 ∧ ∀ x ∈ rows, G 6 x = true) ∨ (ro = none ∧ bIsi M.tab [rv, .ty "tuple"] (s ++ [.ins M.c1 []]) = .ok (.bl false) (s ++ [.ins M.c1 []])))
    (hlb : ∀ b, lbs b (l.map (Pa.v M)) = true) :
    d_Method_init M [.loc s.length, nm, rv, res, .tup (l.map (Pa.v M))] (s ++ [.ins M.c1 []]) = (match metFault M nm l ro res with
      | some (c, v) => .exc (.ins c [v]) (s ++ [.ins M.c1 []])
      | none => .ok .non (s ++ [.ins M.c1 [nm, .tup (l.map (Pa.v M)), rv, res]])) := by
  have xs : ∀ c v, (∀ b, lb b v = true) → finX (s ++ [.ins M.c1 []]) (.ins c [v]) (s ++ [.ins M.c1 []]) = .exc (.ins c [v]) (s ++ [.ins M.c1 []]) := fun c v hv => PL.finX_same K (by simp [hv])
  have ln := fun b => PL.G_lb b hn
  have lr := fun b => PL.G_lb b hres
  have c1 := nm_comp (M := M) ok.p l [some (.loc s.length), some nm, some rv, some res, some (.tup (l.map (Pa.v M))), none, none] rfl (s ++ [.ins M.c1 []])
  obtain ⟨ys, hys, c2⟩ := bx_comp (M := M) ok.p l [some (.loc s.length), some nm, some rv, some res, some (.tup (l.map (Pa.v M))), none, none] rfl (s ++ [.ins M.c1 []])
  have tw := twice_eq (M := M) K (l.map (·.nm)) (by simp; omega) (s ++ [.ins M.c1 []])
  have od := order_eq (M := M) K ok.p l (s ++ [.ins M.c1 []])
  unfold d_Method_init metFault
  rw [runDef_ap]
  unfold m_Method_init
  cases h1 : nmP nm
  · have lk := PL.look_bad K (cN := M.cN) hn h1 (s ++ [.ins M.c1 []])
    simp [lk, xs _ _ ln]
  · have lk := PL.look_ok K (cN := M.cN) hn h1 (s ++ [.ins M.c1 []])
    cases h2 : dupF [] (l.map (·.nm)) with
    | some d =>
      rw [h2] at tw
      simp only at tw
      have x := xs M.cT (.str d) (by simp)
      simp [-List.map_map, lk, iSeq, wipe, c1, pickL, tw, x]
    | none =>
      rw [h2] at tw
      simp only at tw
      cases h3 : ordF false false l with
      | some d =>
        rw [h3] at od
        simp only at od
        have x := xs M.cO (.str d) (by simp)
        simp [-List.map_map, lk, iSeq, wipe, c1, pickL, tw, od, x]
      | none =>
        rw [h3] at od
        simp only at od
        have kp : (s ++ [PV.ins M.c1 []])[s.length]? = some (.ins M.c1 []) := by simp
        have dself : deref (s ++ [PV.ins M.c1 []]) (.loc s.length) = .ins M.c1 [] := by simp [deref, List.getD_eq_getElem?_getD]
        by_cases q4 : 4 < l.length
        · have x := xs M.cM (.str wParams) (by simp)
          have q4' : (4 : Int) < (l.length : Int) := by omega
          rw [if_pos q4]
          simp [-List.map_map, lk, iSeq, wipe, c1, pickL, tw, od, dself, ok.kp, q4', x]
        · have q4' : ¬ (4 : Int) < (l.length : Int) := by omega
          rw [if_neg q4]
          by_cases q5 : 2 < (namesH PL.sBox l).length
          · have x := xs M.cM (.str wBoxes) (by simp)
            have q5' : (2 : Int) < (ys.length : Int) := by omega
            rw [if_pos q5]
            simp [-List.map_map, lk, iSeq, wipe, c1, c2, pickL, tw, od, dself, ok.kp, ok.kb, q4', q5', x]
          · have q5' : ¬ (2 : Int) < (ys.length : Int) := by omega
            rw [if_neg q5]
            rcases hro with ⟨rows, rfl, rfl, hr, hx⟩ | ⟨rfl, hb⟩
            · have ht : bIsi M.tab [.tup rows, .ty "tuple"] (s ++ [.ins M.c1 []]) = .ok (.bl true) (s ++ [.ins M.c1 []]) := by
                rw [bIsi_ty]; simp only [tgOf_tup, Option.bind_some]; rw [K.t _ (by simp)]; rfl
              have fe := first_eq (M := M) K ok.p l hl rows hr hx hres (s ++ [.ins M.c1 []])
              have lrows : ∀ b, lbs b rows = true := fun b => PL.G_lbs b hx
              unfold rowsFault
              cases hq : frF (namesH PL.sMark l) (namesH PL.sBox l) 0 rows with
              | mk o us =>
                rw [hq] at fe
                cases o with
                | some j =>
                  simp only at fe
                  have x := xs M.cR (.int (j : Nat)) (by simp)
                  have iz : pyIs .non (.int (j : Nat)) (s ++ [.ins M.c1 []]) = .ok (.bl false) (s ++ [.ins M.c1 []]) := rfl
                  simp [-List.map_map, -bIsi_ty, lk, iSeq, wipe, c1, c2, pickL, tw, od, dself, ok.kp, ok.kb, q4', q5', ht, fe, iz, x, hq]
                | none =>
                  simp only at fe
                  cases q6 : resF us res
                  · rw [q6] at fe
                    have x := xs M.cR (.int rows.length) (by simp)
                    have iz : pyIs .non (.int rows.length) (s ++ [.ins M.c1 []]) = .ok (.bl false) (s ++ [.ins M.c1 []]) := rfl
                    simp at fe
                    simp [-List.map_map, -bIsi_ty, lk, iSeq, wipe, c1, c2, pickL, tw, od, dself, ok.kp, ok.kb, q4', q5', ht, fe, iz, x, q6, hq]
                  · rw [q6] at fe
                    simp only [if_true] at fe
                    have iz : pyIs .non .non (s ++ [.ins M.c1 []]) = .ok (.bl true) (s ++ [.ins M.c1 []]) := rfl
                    by_cases q7 : 8 < rows.length
                    · have x := xs M.cM (.str wRows) (by simp)
                      have q7' : (8 : Int) < (rows.length : Int) := by omega
                      simp [-List.map_map, -bIsi_ty, lk, iSeq, wipe, c1, c2, pickL, tw, od, dself, ok.kp, ok.kb, ok.kr, q4', q5', ht, fe, iz, x, q6, q7, q7', hq]
                    · have q7' : ¬ (8 : Int) < (rows.length : Int) := by omega
                      have fin : finV (s ++ [.ins M.c1 []]) .non (s ++ [.ins M.c1 [nm, .tup (l.map (Pa.v M)), .tup rows, res]]) = .ok .non (s ++ [.ins M.c1 [nm, .tup (l.map (Pa.v M)), .tup rows, res]]) := finV_data (by simp) (kept_mid s [] _ _ (by simp [ln, lr, lrows, hlb])) (by simp)
                      simp [-List.map_map, -bIsi_ty, lk, iSeq, wipe, c1, c2, pickL, tw, od, dself, ok.kp, ok.kb, ok.kr, q4', q5', ht, fe, iz, q6, q7, q7', hq, ok.mn, ok.mp, ok.mr, ok.mt, putF]
                      exact fin
            · have x := xs M.cR (.int (-1)) (by simp)
              simp [-List.map_map, -bIsi_ty, lk, iSeq, wipe, c1, c2, pickL, tw, od, dself, ok.kp, ok.kb, q4', q5', hb, x]
omit K in
theorem fault_lb {nm : PV} (hn : G 5 nm = true) {l : List Pa} {ro : Option (List PV)} {res : PV} {c : Nat} {v : PV} (h : metFault M nm l ro res = some (c, v)) (b : Nat) : lb b v = true := by
  have ln := PL.G_lb b hn
  unfold metFault at h
  split at h
  · cases h; exact ln
  · split at h
    · cases h; simp
    · split at h
      · cases h; simp
      · split at h
        · cases h; simp
        · split at h
          · cases h; simp
          · split at h
            · cases h; simp
            · unfold rowsFault at h
              split at h
              · cases h; simp
              · split at h
                · split at h
                  · cases h; simp
                  · cases h
                · cases h; simp
theorem newM_eq (ok : Ok M) {nm : PV} (hn : G 5 nm = true) (l : List Pa) (hl : l.length < 100) (hd : ∀ p ∈ l, G 5 p.de = true) (rows : List PV) (hr : rows.length < 800) (hx : ∀ x ∈ rows, G 6 x = true) {res : PV} (hres : G 6 res = true) (s : Store) (hlb : ∀ b, lbs b (l.map (Pa.v M)) = true) :
    newOf M.c1 finV (starF 2 (fun vs zs => pickL [0, 1, 2, 3] (vs ++ zs)) (d_Method_init M)) (nm :: l.map (Pa.v M)) [.tup rows, res] s = (match metFault M nm l (some rows) res with
      | some (c, v) => .exc (.ins c [v]) s
      | none => .ok (.ins M.c1 [nm, .tup (l.map (Pa.v M)), .tup rows, res]) s) := by
  have e := init_eq (M := M) K ok hn l hl hd (.tup rows) (some rows) hres s (.inl ⟨rows, rfl, rfl, hr, hx⟩) hlb
  have z : (l.map (Pa.v M)).length + 1 + 1 ≤ sz := by simp only [sz, List.length_map]; omega
  have st : starF 2 (fun vs zs => pickL [0, 1, 2, 3] (vs ++ zs)) (d_Method_init M) (.loc s.length :: nm :: l.map (Pa.v M)) [.tup rows, res] (s ++ [.ins M.c1 []]) = d_Method_init M [.loc s.length, nm, .tup rows, res, .tup (l.map (Pa.v M))] (s ++ [.ins M.c1 []]) := by
    unfold starF
    rw [if_pos ⟨by simp, by simpa using z⟩]
    rfl
  unfold newOf
  rw [st, e]
  cases hq : metFault M nm l (some rows) res with
  | some q =>
    obtain ⟨c, v⟩ := q
    exact PL.finX_drop K (by simp [fault_lb hn hq])
  | none =>
    have ln := fun b => PL.G_lb b hn
    have lr := fun b => PL.G_lb b hres
    have lrows : ∀ b, lbs b rows = true := fun b => PL.G_lbs b hx
    exact finV_new rfl (kept_refl _ _) (Nat.le_refl _) (by simp) (by simp [ln, lr, lrows, hlb])
omit K in
theorem pav_lb {l : List Pa} (hd : ∀ p ∈ l, G 5 p.de = true) (b : Nat) : lbs b (l.map (Pa.v M)) = true := by
  rw [lbs_iff]
  intro x hx
  obtain ⟨p, hp, rfl⟩ := List.mem_map.mp hx
  have := PL.G_lb b (hd p hp)
  simp [this]
omit K in
theorem fault_none (nm : PV) (l : List Pa) (res : PV) : metFault M nm l none res ≠ none := by
  unfold metFault
  split
  · simp
  · split
    · simp
    · split
      · simp
      · split
        · simp
        · split <;> simp
theorem newM_any (ok : Ok M) {nm : PV} (hn : G 5 nm = true) (l : List Pa) (hl : l.length < 100) (hd : ∀ p ∈ l, G 5 p.de = true) (rv : PV) (ro : Option (List PV)) {res : PV} (hres : G 6 res = true) (s : Store)
    (hro : (∃ rows, rv = .tup rows ∧ ro = some rows ∧ rows.length < 800 ∧ ∀ x ∈ rows, G 6 x = true) ∨ (ro = none ∧ bIsi M.tab [rv, .ty "tuple"] (s ++ [.ins M.c1 []]) = .ok (.bl false) (s ++ [.ins M.c1 []]))) :
    newOf M.c1 finV (starF 2 (fun vs zs => pickL [0, 1, 2, 3] (vs ++ zs)) (d_Method_init M)) (nm :: l.map (Pa.v M)) [rv, res] s = (match metFault M nm l ro res with
      | some (c, v) => .exc (.ins c [v]) s
      | none => .ok (.ins M.c1 [nm, .tup (l.map (Pa.v M)), rv, res]) s) := by
  have hlb := pav_lb (M := M) hd
  rcases hro with ⟨rows, rfl, rfl, hr, hx⟩ | ⟨rfl, hb⟩
  · exact newM_eq (M := M) K ok hn l hl hd rows hr hx hres s hlb
  · have e := init_eq (M := M) K ok hn l hl hd rv none hres s (.inr ⟨rfl, hb⟩) hlb
    have z : (l.map (Pa.v M)).length + 1 + 1 ≤ sz := by simp only [sz, List.length_map]; omega
    have st : starF 2 (fun vs zs => pickL [0, 1, 2, 3] (vs ++ zs)) (d_Method_init M) (.loc s.length :: nm :: l.map (Pa.v M)) [rv, res] (s ++ [.ins M.c1 []]) = d_Method_init M [.loc s.length, nm, rv, res, .tup (l.map (Pa.v M))] (s ++ [.ins M.c1 []]) := by
      unfold starF
      rw [if_pos ⟨by simp, by simpa using z⟩]
      rfl
    unfold newOf
    rw [st, e]
    cases hq : metFault M nm l none res with
    | some q =>
      obtain ⟨c, v⟩ := q
      exact PL.finX_drop K (by simp [fault_lb hn hq])
    | none => exact absurd hq (fault_none nm l res)
/-- Method.of -/
theorem of_eq (ok : Ok M) {nm : PV} (hn : G 5 nm = true) (l : List Pa) (hl : l.length < 100) (hd : ∀ p ∈ l, G 5 p.de = true) {ps : PV} {s : Store} (hps : itemsOf s ps = some (l.map (Pa.v M))) (rv : PV) (ro : Option (List PV)) {res : PV} (hres : G 6 res = true)
    (hro : (∃ rows, rv = .tup rows ∧ ro = some rows ∧ rows.length < 800 ∧ ∀ x ∈ rows, G 6 x = true) ∨ (ro = none ∧ bIsi M.tab [rv, .ty "tuple"] (s ++ [.ins M.c1 []]) = .ok (.bl false) (s ++ [.ins M.c1 []]))) :
    d_Method_of M [.cls M.c1, nm, ps, rv, res] s = (match metFault M nm l ro res with
      | some (c, v) => .exc (.ins c [v]) s
      | none => .ok (.ins M.c1 [nm, .tup (l.map (Pa.v M)), rv, res]) s) := by
  have e := newM_any (M := M) K ok hn l hl hd rv ro hres s hro
  have hlb := pav_lb (M := M) hd
  unfold d_Method_of
  rw [runDef_ap]
  unfold m_Method_of
  cases hq : metFault M nm l ro res with
  | some q =>
    obtain ⟨c, v⟩ := q
    rw [hq] at e
    simp only at e
    simp [hps, e]
    exact PL.finX_same K (by simp [fault_lb hn hq])
  | none =>
    rw [hq] at e
    simp only at e
    simp [hps, e]
    rcases hro with ⟨rows, rfl, rfl, hr, hx⟩ | ⟨rfl, hb⟩
    · have ln := fun b => PL.G_lb b hn
      have lr := fun b => PL.G_lb b hres
      have lrows : ∀ b, lbs b rows = true := fun b => PL.G_lbs b hx
      exact finV_data rfl (kept_refl _ _) (by simp [ln, lr, lrows, hlb])
    · exact absurd hq (fault_none nm l res)
end
end ML
/-! what is drawn (EL) and what is right (PL) -/
namespace BL
open Mir
open EL (isW bg takeV takeA takeB Nm)
open PL (G nmP nmB itP ascB dfP)
theorem low_iff (c : Nat) : PL.isLow c = true ↔ 97 ≤ c ∧ c ≤ 122 := by
  unfold PL.isLow PL.ABC
  simp; omega
theorem isW_nm {w : List Nat} (h : isW w) : nmB w = true := by
  obtain ⟨h1, h2, h3, h4⟩ := h
  have no : PL.inW w = false := by
    unfold PL.inW
    rw [decide_eq_false_iff_not]
    intro hm
    obtain ⟨x, hx, hq⟩ := h4
    have : ∀ l ∈ PL.WDS, ∀ x ∈ l, ¬ (x = 103 ∨ x = 106 ∨ x = 113 ∨ x = 122) := by decide
    exact this w hm x hx hq
  have al : w.all PL.isLow = true := by
    rw [List.all_eq_true]
    exact fun c hc => (low_iff c).mpr (h3 c hc)
  unfold nmB
  rw [no, al, decide_eq_true h1, decide_eq_true h2]
  rfl
theorem isW_nmP {w : List Nat} (h : isW w) : nmP (.str w) = true := isW_nm h
theorem isW_G {w : List Nat} (h : isW w) (n : Nat) : G n (.str w) = true := by
  have := h.2.1
  cases n <;> simp [G] <;> omega
theorem it_nil : itP (.tup []) = true := rfl
theorem it_one {w : List Nat} (h : isW w) : itP (.tup [.str w]) = true := by
  simp [itP, nmP, isW_nm h, ascB]
end BL
namespace K04
open PySem PySem.Spec PyProof.Rows L2 Mir
/-! ## the text of law_k04_methods_refused -/
def top (i : Nat) : Stmt := PySem.Challenge.pw_oncedefaults_k04_methods_refused.main.body.getD i (.Pass ⟨0, 0, 0, 0⟩)
def sub (i j : Nat) : Stmt := (clsBody (top i)).getD j (.Pass ⟨0, 0, 0, 0⟩)
def caN : List Str := ["Param", "Method", "BadName", "BadParam", "BadRow", "BadOrder", "Twice", "TooMany"]
def flN : List (List Str) := [["name", "holds", "default", "named"], ["name", "params", "rows", "returns"], ["name"], ["part"], ["at"], ["name"], ["name"], ["what"]]
def file0 : Str := PySem.Challenge.pw_oncedefaults_k04_methods_refused.main.file
abbrev tb (K : PySem.W.Frag) : Tb := tbM K caN flN
def c_LETTERS : PV := .str [97, 98, 99, 100, 101, 102, 103, 104, 105, 106, 107, 108, 109, 110, 111, 112, 113, 114, 115, 116, 117, 118, 119, 120, 121, 122]
def c_WORDS : PV := .tup [.str [109, 97, 114, 107, 115], .str [107, 105, 110, 100], .str [118, 97, 108, 117, 101], .str [100, 101, 102], .str [114, 101, 116, 117, 114, 110], .str [110, 111, 110, 101], .str [99, 111, 112, 121], .str [105, 102], .str [117, 110, 108, 101, 115, 115], .str [105, 110], .str [105, 115], .str [109, 97, 114, 107], .str [98, 111, 120], .str [111, 110, 99, 101], .str [97, 110, 101, 119], .str [101, 97, 114, 108, 121], .str [108, 97, 116, 101], .str [99, 108, 115], .str [115, 101, 108, 102], .str [109, 101, 116, 104, 111, 100]]
def c_MOST_LETTERS : PV := .int 8
def c_ASSIGNING : PV := .tup [.str [110, 101, 119], .str [110, 97, 109, 101], .str [99, 111, 112, 121], .str [103, 101, 116]]
def c_GUARDS : PV := .tup [.str [105, 102], .str [117, 110, 108, 101, 115, 115]]
def cc_MOST_ROWS : List (Nat × Int) := [(1, 8)]
def cc_MOST_BOXES : List (Nat × Int) := [(1, 2)]
def cc_MOST_PARAMS : List (Nat × Int) := [(1, 4)]
def dc_TEST_PARTS : List (List Nat × PV) := [([105, 110], .tup [.str [105, 116, 101, 109], .str [118, 97, 114]]), ([101, 113, 117, 97, 108], .tup [.str [118, 97, 114], .str [118, 97, 114]]), ([105, 115], .tup [.str [118, 97, 114], .str [118, 97, 114]])]
def dc_PLAIN_PARTS : List (List Nat × PV) := [([110, 101, 119], .tup [.str [118, 97, 114], .str [105, 116, 101, 109, 115]]), ([110, 97, 109, 101], .tup [.str [118, 97, 114], .str [118, 97, 114]]), ([99, 111, 112, 121], .tup [.str [118, 97, 114], .str [118, 97, 114]]), ([103, 101, 116], .tup [.str [118, 97, 114], .str [111, 119, 110, 101, 114], .str [118, 97, 108, 117, 101]]), ([115, 101, 116], .tup [.str [111, 119, 110, 101, 114], .str [118, 97, 108, 117, 101], .str [118, 97, 114]]), ([97, 100, 100], .tup [.str [118, 97, 114], .str [105, 116, 101, 109, 115]]), ([100, 114, 111, 112], .tup [.str [118, 97, 114], .str [105, 116, 101, 109, 115]]), ([103, 114, 111, 119], .tup [.str [111, 119, 110, 101, 114], .str [118, 97, 108, 117, 101], .str [105, 116, 101, 109, 115]]), ([115, 104, 114, 105, 110, 107], .tup [.str [111, 119, 110, 101, 114], .str [118, 97, 108, 117, 101], .str [105, 116, 101, 109, 115]])]
def t_rows : List (Nat × Nat) := [(1, 2)]
def t_returns : List (Nat × Nat) := [(1, 3)]
def t_params : List (Nat × Nat) := [(1, 1)]
def t_name : List (Nat × Nat) := [(0, 0), (1, 0)]
def t_holds : List (Nat × Nat) := [(0, 1)]
def t_named : List (Nat × Nat) := [(0, 3)]
def t_default : List (Nat × Nat) := [(0, 2)]
def isiT : List ((Tg × Tg) × Bool) := [((.t "NoneType", .t "str"), false), ((.t "bool", .t "str"), false), ((.t "int", .t "str"), false), ((.t "str", .t "str"), true), ((.t "tuple", .t "str"), false), ((.t "list", .t "str"), false), ((.c 0, .t "str"), false), ((.c 1, .t "str"), false), ((.t "NoneType", .t "tuple"), false), ((.t "bool", .t "tuple"), false), ((.t "int", .t "tuple"), false), ((.t "str", .t "tuple"), false), ((.t "tuple", .t "tuple"), true), ((.t "list", .t "tuple"), false), ((.c 0, .t "tuple"), false), ((.c 1, .t "tuple"), false), ((.t "NoneType", .t "bool"), false), ((.t "bool", .t "bool"), true), ((.t "int", .t "bool"), false), ((.t "str", .t "bool"), false), ((.t "tuple", .t "bool"), false), ((.t "list", .t "bool"), false), ((.c 0, .t "bool"), false), ((.c 1, .t "bool"), false)]
@[simp] theorem isi_0 : isiT.lookup (.t "NoneType", .t "str") = some false := by decide
@[simp] theorem isi_1 : isiT.lookup (.t "bool", .t "str") = some false := by decide
@[simp] theorem isi_2 : isiT.lookup (.t "int", .t "str") = some false := by decide
@[simp] theorem isi_3 : isiT.lookup (.t "str", .t "str") = some true := by decide
@[simp] theorem isi_4 : isiT.lookup (.t "tuple", .t "str") = some false := by decide
@[simp] theorem isi_5 : isiT.lookup (.t "list", .t "str") = some false := by decide
@[simp] theorem isi_6 : isiT.lookup (.c 0, .t "str") = some false := by decide
@[simp] theorem isi_7 : isiT.lookup (.c 1, .t "str") = some false := by decide
@[simp] theorem isi_8 : isiT.lookup (.t "NoneType", .t "tuple") = some false := by decide
@[simp] theorem isi_9 : isiT.lookup (.t "bool", .t "tuple") = some false := by decide
@[simp] theorem isi_10 : isiT.lookup (.t "int", .t "tuple") = some false := by decide
@[simp] theorem isi_11 : isiT.lookup (.t "str", .t "tuple") = some false := by decide
@[simp] theorem isi_12 : isiT.lookup (.t "tuple", .t "tuple") = some true := by decide
@[simp] theorem isi_13 : isiT.lookup (.t "list", .t "tuple") = some false := by decide
@[simp] theorem isi_14 : isiT.lookup (.c 0, .t "tuple") = some false := by decide
@[simp] theorem isi_15 : isiT.lookup (.c 1, .t "tuple") = some false := by decide
@[simp] theorem isi_16 : isiT.lookup (.t "NoneType", .t "bool") = some false := by decide
@[simp] theorem isi_17 : isiT.lookup (.t "bool", .t "bool") = some true := by decide
@[simp] theorem isi_18 : isiT.lookup (.t "int", .t "bool") = some false := by decide
@[simp] theorem isi_19 : isiT.lookup (.t "str", .t "bool") = some false := by decide
@[simp] theorem isi_20 : isiT.lookup (.t "tuple", .t "bool") = some false := by decide
@[simp] theorem isi_21 : isiT.lookup (.t "list", .t "bool") = some false := by decide
@[simp] theorem isi_22 : isiT.lookup (.c 0, .t "bool") = some false := by decide
@[simp] theorem isi_23 : isiT.lookup (.c 1, .t "bool") = some false := by decide
/-! ### what the defs do -/
noncomputable section
def N_test_variables : List Str := ["test"]
def m_test_variables : SM := sRet (eIf (qBl (eOp2 pyEq (eOp2 pyIdx (eVar 0) (eC (.int 0))) (eC (.str [105, 110])))) (eSlice (eVar 0) (oSome (eC (.int 2))) (oNone)) (eSlice (eVar 0) (oSome (eC (.int 1))) (oNone)))
def d_test_variables : ON := runDef finV 1 m_test_variables
def N_is_name : List Str := ["thing", "sign"]
def m_is_name : SM := sSeq (sIf (qOr (qNot (qOf (eBlt (bIsi isiT) (aCons (eVar 0) (aCons (eC (.ty "str")) (aNil)))))) (qNot (qBl (eChain pyLe pyLe (eC (.int 1)) (eBlt bLen (aCons (eVar 0) (aNil))) (eC c_MOST_LETTERS))))) (sRet (eC (.bl false))) (sNext)) (sRet (eAnd (eOp2 pyNotIn (eVar 0) (eC c_WORDS)) (eBlt bAll (aCons (eLst (aComp (iSeq (eVar 0)) (gName 1) (qYes) (eOp2 pyIn (eVar 1) (eC c_LETTERS)) [1])) (aNil)))))
def d_is_name : ON := runDef finV 2 m_is_name
def N_is_owner : List Str := ["thing"]
def m_is_owner : SM := sRet (eOr (eCallK (fun vs _ => d_is_name vs) (aCons (eVar 0) (aNil)) (aNil)) (eAnd (eBlt (bIsi isiT) (aCons (eVar 0) (aCons (eC (.ty "str")) (aNil)))) (eOp2 pyEq (eVar 0) (eC (.str [99, 108, 115])))))
def d_is_owner : ON := runDef finV 1 m_is_owner
def N_are_items : List Str := ["thing", "at", "one"]
def m_are_items : SM := sSeq (sIf (qOr (qNot (qOf (eBlt (bIsi isiT) (aCons (eVar 0) (aCons (eC (.ty "tuple")) (aNil)))))) (qNot (qOf (eBlt bAll (aCons (eLst (aComp (iSeq (eVar 0)) (gName 2) (qYes) (eCallK (fun vs _ => d_is_name vs) (aCons (eVar 2) (aNil)) (aNil)) [2])) (aNil)))))) (sRet (eC (.bl false))) (sNext)) (sRet (eBlt bAll (aCons (eLst (aComp (iRange1 (eOp2 pySub (eBlt bLen (aCons (eVar 0) (aNil))) (eC (.int 1)))) (gName 1) (qYes) (eOp2 pyLt (eOp2 pyIdx (eVar 0) (eVar 1)) (eOp2 pyIdx (eVar 0) (eOp2 pyAdd (eVar 1) (eC (.int 1))))) [1])) (aNil))))
def d_are_items : ON := runDef finV 3 m_are_items
def N_part_fits : List Str := ["part", "thing"]
def m_part_fits : SM := sSeq (sIf (qBl (eOp2 pyEq (eVar 0) (eC (.str [105, 116, 101, 109, 115])))) (sRet (eCallK (fun vs _ => d_are_items vs) (aCons (eVar 1) (aNil)) (aNil))) (sNext)) (sSeq (sIf (qBl (eOp2 pyEq (eVar 0) (eC (.str [111, 119, 110, 101, 114])))) (sRet (eCallK (fun vs _ => d_is_owner vs) (aCons (eVar 1) (aNil)) (aNil))) (sNext)) (sRet (eCallK (fun vs _ => d_is_name vs) (aCons (eVar 1) (aNil)) (aNil))))
def d_part_fits : ON := runDef finV 2 m_part_fits
def N_parts_fit : List Str := ["parts", "thing", "at", "part"]
def m_parts_fit : SM := sSeq (sIf (qOr (qBl (eOp1 (pyIs .non) (eVar 0))) (qBl (eOp2 pyNe (eBlt bLen (aCons (eVar 1) (aNil))) (eOp2 pyAdd (eBlt bLen (aCons (eVar 0) (aNil))) (eC (.int 1)))))) (sRet (eC (.bl false))) (sNext)) (sRet (eBlt bAll (aCons (eLst (aComp (iEnum (eVar 0)) (gTup [2, 3]) (qYes) (eCallK (fun vs _ => d_part_fits vs) (aCons (eVar 3) (aCons (eOp2 pyIdx (eVar 1) (eOp2 pyAdd (eVar 2) (eC (.int 1)))) (aNil))) (aNil)) [2, 3])) (aNil))))
def d_parts_fit : ON := runDef finV 4 m_parts_fit
def N_has_word : List Str := ["thing"]
def m_has_word : SM := sRet (eAnd (eBlt (bIsi isiT) (aCons (eVar 0) (aCons (eC (.ty "tuple")) (aNil)))) (eAnd (eOp2 pyGt (eBlt bLen (aCons (eVar 0) (aNil))) (eC (.int 0))) (eBlt (bIsi isiT) (aCons (eOp2 pyIdx (eVar 0) (eC (.int 0))) (aCons (eC (.ty "str")) (aNil))))))
def d_has_word : ON := runDef finV 1 m_has_word
def N_is_test : List Str := ["thing"]
def m_is_test : SM := sRet (eAnd (eCallK (fun vs _ => d_has_word vs) (aCons (eVar 0) (aNil)) (aNil)) (eCallK (fun vs _ => d_parts_fit vs) (aCons (eDGet dc_TEST_PARTS (eOp2 pyIdx (eVar 0) (eC (.int 0)))) (aCons (eVar 0) (aNil))) (aNil)))
def d_is_test : ON := runDef finV 1 m_is_test
def N_is_result : List Str := ["thing"]
def m_is_result : SM := sSeq (sIf (qNot (qOf (eCallK (fun vs _ => d_has_word vs) (aCons (eVar 0) (aNil)) (aNil)))) (sRet (eC (.bl false))) (sNext)) (sSeq (sIf (qBl (eOp2 pyEq (eOp2 pyIdx (eVar 0) (eC (.int 0))) (eC (.str [110, 111, 110, 101])))) (sRet (eOp2 pyEq (eBlt bLen (aCons (eVar 0) (aNil))) (eC (.int 1)))) (sNext)) (sSeq (sIf (qBl (eOp2 pyIn (eOp2 pyIdx (eVar 0) (eC (.int 0))) (eTup (aCons (eC (.str [98, 111, 120])) (aCons (eC (.str [99, 111, 112, 121])) (aNil)))))) (sRet (eAnd (eOp2 pyEq (eBlt bLen (aCons (eVar 0) (aNil))) (eC (.int 2))) (eCallK (fun vs _ => d_is_name vs) (aCons (eOp2 pyIdx (eVar 0) (eC (.int 1))) (aNil)) (aNil)))) (sNext)) (sRet (eAnd (eOp2 pyEq (eOp2 pyIdx (eVar 0) (eC (.int 0))) (eC (.str [116, 101, 115, 116]))) (eAnd (eOp2 pyEq (eBlt bLen (aCons (eVar 0) (aNil))) (eC (.int 2))) (eCallK (fun vs _ => d_is_test vs) (aCons (eOp2 pyIdx (eVar 0) (eC (.int 1))) (aNil)) (aNil)))))))
def d_is_result : ON := runDef finV 1 m_is_result
def N_result_fits : List Str := ["usable", "result", "name"]
def m_result_fits : SM := sSeq (sIf (qNot (qOf (eCallK (fun vs _ => d_is_result vs) (aCons (eVar 1) (aNil)) (aNil)))) (sRet (eC (.bl false))) (sNext)) (sSeq (sIf (qBl (eOp2 pyEq (eOp2 pyIdx (eVar 1) (eC (.int 0))) (eC (.str [116, 101, 115, 116])))) (sRet (eBlt bAll (aCons (eLst (aComp (iSeq (eCallK (fun vs _ => d_test_variables vs) (aCons (eOp2 pyIdx (eVar 1) (eC (.int 1))) (aNil)) (aNil))) (gName 2) (qYes) (eOp2 pyIn (eVar 2) (eVar 0)) [2])) (aNil)))) (sNext)) (sRet (eBlt bAll (aCons (eLst (aComp (iSeq (eSlice (eVar 1) (oSome (eC (.int 1))) (oNone))) (gName 2) (qYes) (eOp2 pyIn (eVar 2) (eVar 0)) [2])) (aNil)))))
def d_result_fits : ON := runDef finV 3 m_result_fits
def N_used_variables : List Str := ["plain"]
def m_used_variables : SM := sSeq (sIf (qBl (eOp2 pyIn (eOp2 pyIdx (eVar 0) (eC (.int 0))) (eTup (aCons (eC (.str [110, 97, 109, 101])) (aCons (eC (.str [99, 111, 112, 121])) (aNil)))))) (sRet (eSlice (eVar 0) (oSome (eC (.int 2))) (oNone))) (sNext)) (sSeq (sIf (qBl (eOp2 pyEq (eOp2 pyIdx (eVar 0) (eC (.int 0))) (eC (.str [115, 101, 116])))) (sRet (eSlice (eVar 0) (oSome (eC (.int 3))) (oNone))) (sNext)) (sRet (eIf (qBl (eOp2 pyIn (eOp2 pyIdx (eVar 0) (eC (.int 0))) (eTup (aCons (eC (.str [97, 100, 100])) (aCons (eC (.str [100, 114, 111, 112])) (aNil)))))) (eSlice (eVar 0) (oSome (eC (.int 1))) (oSome (eC (.int 2)))) (eTup (aNil)))))
def d_used_variables : ON := runDef finV 1 m_used_variables
def N_parted : List Str := ["row"]
def m_parted : SM := sRet (eIf (qBl (eOp2 pyIn (eOp2 pyIdx (eVar 0) (eC (.int 0))) (eC c_GUARDS))) (eTup (aCons (eOp2 pyIdx (eVar 0) (eC (.int 1))) (aCons (eOp2 pyIdx (eVar 0) (eC (.int 2))) (aNil)))) (eTup (aCons (eC .non) (aCons (eVar 0) (aNil)))))
def d_parted : ON := runDef finV 1 m_parted
def N_is_plain : List Str := ["thing"]
def m_is_plain : SM := sRet (eAnd (eCallK (fun vs _ => d_has_word vs) (aCons (eVar 0) (aNil)) (aNil)) (eCallK (fun vs _ => d_parts_fit vs) (aCons (eDGet dc_PLAIN_PARTS (eOp2 pyIdx (eVar 0) (eC (.int 0)))) (aCons (eVar 0) (aNil))) (aNil)))
def d_is_plain : ON := runDef finV 1 m_is_plain
def N_is_guarded : List Str := ["thing"]
def m_is_guarded : SM := sSeq (sIf (qOr (qNot (qOf (eCallK (fun vs _ => d_has_word vs) (aCons (eVar 0) (aNil)) (aNil)))) (qOr (qBl (eOp2 pyNotIn (eOp2 pyIdx (eVar 0) (eC (.int 0))) (eC c_GUARDS))) (qBl (eOp2 pyNe (eBlt bLen (aCons (eVar 0) (aNil))) (eC (.int 3)))))) (sRet (eC (.bl false))) (sNext)) (sRet (eAnd (eCallK (fun vs _ => d_is_test vs) (aCons (eOp2 pyIdx (eVar 0) (eC (.int 1))) (aNil)) (aNil)) (eCallK (fun vs _ => d_is_plain vs) (aCons (eOp2 pyIdx (eVar 0) (eC (.int 2))) (aNil)) (aNil))))
def d_is_guarded : ON := runDef finV 1 m_is_guarded
def N_first_bad_row : List Str := ["params", "rows", "result", "usable", "fixed", "at", "row", "used", "param", "test", "plain", "name"]
def b_first_bad_row_0 : SM := sSeq (sIf (qAnd (qNot (qOf (eCallK (fun vs _ => d_is_plain vs) (aCons (eVar 6) (aNil)) (aNil)))) (qNot (qOf (eCallK (fun vs _ => d_is_guarded vs) (aCons (eVar 6) (aNil)) (aNil))))) (sRet (eVar 5)) (sNext)) (sSeq (sAsg (eCallK (fun vs _ => d_parted vs) (aCons (eVar 6) (aNil)) (aNil)) (gTup [9, 10])) (sSeq (sAsg (eOp2 pyAdd (eBlt bList (aCons (eCallK (fun vs _ => d_used_variables vs) (aCons (eVar 10) (aNil)) (aNil)) (aNil))) (eBlt bList (aCons (eIf (qBl (eNotB (eOp1 (pyIs .non) (eVar 9)))) (eCallK (fun vs _ => d_test_variables vs) (aCons (eVar 9) (aNil)) (aNil)) (eTup (aNil))) (aNil)))) (gName 7)) (sSeq (sIf (qNot (qOf (eBlt bAll (aCons (eLst (aComp (iSeq (eVar 7)) (gName 11) (qYes) (eOp2 pyIn (eVar 11) (eVar 3)) [11])) (aNil))))) (sRet (eVar 5)) (sNext)) (sIf (qBl (eOp2 pyIn (eOp2 pyIdx (eVar 10) (eC (.int 0))) (eC c_ASSIGNING))) (sSeq (sIf (qOr (qBl (eOp2 pyIn (eOp2 pyIdx (eVar 10) (eC (.int 1))) (eVar 4))) (qAnd (qBl (eNotB (eOp1 (pyIs .non) (eVar 9)))) (qBl (eOp2 pyNotIn (eOp2 pyIdx (eVar 10) (eC (.int 1))) (eVar 3))))) (sRet (eVar 5)) (sNext)) (sExp (eMt mAppend (eVar 3) (aCons (eOp2 pyIdx (eVar 10) (eC (.int 1))) (aNil))))) (sNext)))))
def m_first_bad_row : SM := sSeq (sNew (aComp (iSeq (eVar 0)) (gName 8) (qBl (eOp2 pyEq (eFld t_holds (eVar 8)) (eC (.str [98, 111, 120])))) (eFld t_name (eVar 8)) [8]) 3) (sSeq (sAsg (eLst (aComp (iSeq (eVar 0)) (gName 8) (qBl (eOp2 pyEq (eFld t_holds (eVar 8)) (eC (.str [109, 97, 114, 107])))) (eFld t_name (eVar 8)) [8])) (gName 4)) (sSeq (sFor (iEnum (eVar 1)) (gTup [5, 6]) (b_first_bad_row_0)) (sRet (eIf (qOf (eCallK (fun vs _ => d_result_fits vs) (aCons (eVar 3) (aCons (eVar 2) (aNil))) (aNil))) (eC .non) (eBlt bLen (aCons (eVar 1) (aNil)))))))
def d_first_bad_row : ON := runDef finV 12 m_first_bad_row
def N_look_order : List Str := ["params", "is_behind_named", "is_behind_default", "param"]
def b_look_order_0 : SM := sIf (qOf (eFld t_named (eVar 3))) (sAsg (eC (.bl true)) (gName 1)) (sIf (qOr (qOf (eVar 1)) (qAnd (qOf (eVar 2)) (qBl (eOp1 (pyIs .non) (eFld t_default (eVar 3)))))) (sRaise 5 (aCons (eFld t_name (eVar 3)) (aNil))) (sAsg (eOr (eVar 2) (eNotB (eOp1 (pyIs .non) (eFld t_default (eVar 3))))) (gName 2)))
def m_look_order : SM := sSeq (sAsg2 (eC (.bl false)) (gName 1) (gName 2)) (sFor (iSeq (eVar 0)) (gName 3) (b_look_order_0))
def d_look_order : ON := runDef finV 4 m_look_order
def N_look_twice : List Str := ["names", "before", "seen", "name"]
def b_look_twice_0 : SM := sSeq (sIf (qBl (eOp2 pyIn (eVar 3) (eVar 2))) (sRaise 6 (aCons (eVar 3) (aNil))) (sNext)) (sExp (eMt mAppend (eVar 2) (aCons (eVar 3) (aNil))))
def m_look_twice : SM := sSeq (sNew (aItems (eVar 1)) 2) (sFor (iSeq (eVar 0)) (gName 3) (b_look_twice_0))
def d_look_twice : ON := runDef finV 4 m_look_twice
def N_look_name : List Str := ["thing"]
def m_look_name : SM := sIf (qNot (qOf (eCallK (fun vs _ => d_is_name vs) (aCons (eVar 0) (aNil)) (aNil)))) (sRaise 2 (aCons (eVar 0) (aNil))) (sNext)
def d_look_name : ON := runDef finV 1 m_look_name
def N_Method_init : List Str := ["self", "name", "rows", "returns", "params", "bad", "param"]
def m_Method_init : SM := sSeq (sExp (eCallK (fun vs _ => d_look_name vs) (aCons (eVar 1) (aNil)) (aNil))) (sSeq (sExp (eCallK (fun vs zs => d_look_twice (pickL [0, 1] (vs ++ ([(.tup [])] : List PV) ++ zs))) (aCons (eLst (aComp (iSeq (eVar 4)) (gName 6) (qYes) (eFld t_name (eVar 6)) [6])) (aNil)) (aNil))) (sSeq (sExp (eCallK (fun vs _ => d_look_order vs) (aCons (eVar 4) (aNil)) (aNil))) (sSeq (sIf (qBl (eOp2 pyGt (eBlt bLen (aCons (eVar 4) (aNil))) (eCCon cc_MOST_PARAMS (eVar 0)))) (sRaise 7 (aCons (eC (.str [112, 97, 114, 97, 109, 115])) (aNil))) (sNext)) (sSeq (sIf (qBl (eOp2 pyGt (eBlt bLen (aCons (eLst (aComp (iSeq (eVar 4)) (gName 6) (qBl (eOp2 pyEq (eFld t_holds (eVar 6)) (eC (.str [98, 111, 120])))) (eVar 6) [6])) (aNil))) (eCCon cc_MOST_BOXES (eVar 0)))) (sRaise 7 (aCons (eC (.str [98, 111, 120, 101, 115])) (aNil))) (sNext)) (sSeq (sIf (qNot (qOf (eBlt (bIsi isiT) (aCons (eVar 2) (aCons (eC (.ty "tuple")) (aNil)))))) (sRaise 4 (aCons (eOp1 pyNeg (eC (.int 1))) (aNil))) (sNext)) (sSeq (sAsg (eCallK (fun vs _ => d_first_bad_row vs) (aCons (eVar 4) (aCons (eVar 2) (aCons (eVar 3) (aNil)))) (aNil)) (gName 5)) (sSeq (sIf (qBl (eNotB (eOp1 (pyIs .non) (eVar 5)))) (sRaise 4 (aCons (eVar 5) (aNil))) (sNext)) (sSeq (sIf (qBl (eOp2 pyGt (eBlt bLen (aCons (eVar 2) (aNil))) (eCCon cc_MOST_ROWS (eVar 0)))) (sRaise 7 (aCons (eC (.str [114, 111, 119, 115])) (aNil))) (sNext)) (sSeq (sSetF t_name (eVar 0) (eVar 1)) (sSeq (sSetF t_params (eVar 0) (eVar 4)) (sSeq (sSetF t_rows (eVar 0) (eVar 2)) (sSetF t_returns (eVar 0) (eVar 3)))))))))))))
def d_Method_init : ON := runDef finV 7 m_Method_init
def N_Method_of : List Str := ["cls", "name", "params", "rows", "returns"]
def m_Method_of : SM := sRet (eAtCls 0 1 (eCallK (newOf 1 finV (starF 2 (fun vs zs => pickL [0, 1, 2, 3] (vs ++ zs)) d_Method_init)) (aCons (eVar 1) (aStar (eVar 2) (aNil))) (aCons (eVar 3) (aCons (eVar 4) (aNil)))))
def d_Method_of : ON := runDef finV 5 m_Method_of
def N_is_truth : List Str := ["thing"]
def m_is_truth : SM := sRet (eBlt (bIsi isiT) (aCons (eVar 0) (aCons (eC (.ty "bool")) (aNil))))
def d_is_truth : ON := runDef finV 1 m_is_truth
def N_is_default : List Str := ["holds", "thing", "word", "many"]
def m_is_default : SM := sSeq (sIf (qNot (qOf (eCallK (fun vs _ => d_has_word vs) (aCons (eVar 1) (aNil)) (aNil)))) (sRet (eC (.bl false))) (sNext)) (sSeq (sPar (aCons (eOp2 pyIdx (eVar 1) (eC (.int 0))) (aCons (eBlt bLen (aCons (eVar 1) (aNil))) aNil)) 2 3) (sSeq (sIf (qBl (eOp2 pyEq (eVar 0) (eC (.str [109, 97, 114, 107])))) (sRet (eAnd (eOp2 pyEq (eVar 2) (eC (.str [109, 97, 114, 107]))) (eAnd (eOp2 pyEq (eVar 3) (eC (.int 2))) (eCallK (fun vs _ => d_is_name vs) (aCons (eOp2 pyIdx (eVar 1) (eC (.int 1))) (aNil)) (aNil))))) (sNext)) (sSeq (sIf (qBl (eOp2 pyIn (eVar 2) (eTup (aCons (eC (.str [111, 110, 99, 101])) (aCons (eC (.str [97, 110, 101, 119])) (aNil)))))) (sRet (eAnd (eOp2 pyEq (eVar 3) (eC (.int 2))) (eCallK (fun vs _ => d_are_items vs) (aCons (eOp2 pyIdx (eVar 1) (eC (.int 1))) (aNil)) (aNil)))) (sNext)) (sSeq (sIf (qBl (eOp2 pyEq (eVar 2) (eC (.str [101, 97, 114, 108, 121])))) (sRet (eAnd (eOp2 pyEq (eVar 3) (eC (.int 3))) (eAnd (eCallK (fun vs _ => d_is_name vs) (aCons (eOp2 pyIdx (eVar 1) (eC (.int 1))) (aNil)) (aNil)) (eCallK (fun vs _ => d_is_name vs) (aCons (eOp2 pyIdx (eVar 1) (eC (.int 2))) (aNil)) (aNil))))) (sNext)) (sRet (eAnd (eOp2 pyEq (eVar 2) (eC (.str [108, 97, 116, 101]))) (eAnd (eOp2 pyEq (eVar 3) (eC (.int 3))) (eAnd (eCallK (fun vs _ => d_is_owner vs) (aCons (eOp2 pyIdx (eVar 1) (eC (.int 1))) (aNil)) (aNil)) (eCallK (fun vs _ => d_is_name vs) (aCons (eOp2 pyIdx (eVar 1) (eC (.int 2))) (aNil)) (aNil))))))))))
def d_is_default : ON := runDef finV 4 m_is_default
def N_Param_init : List Str := ["self", "name", "holds", "default", "named"]
def m_Param_init : SM := sSeq (sExp (eCallK (fun vs _ => d_look_name vs) (aCons (eVar 1) (aNil)) (aNil))) (sSeq (sIf (qOr (qNot (qOf (eBlt (bIsi isiT) (aCons (eVar 2) (aCons (eC (.ty "str")) (aNil)))))) (qBl (eOp2 pyNotIn (eVar 2) (eTup (aCons (eC (.str [109, 97, 114, 107])) (aCons (eC (.str [98, 111, 120])) (aNil))))))) (sRaise 3 (aCons (eC (.str [104, 111, 108, 100, 115])) (aNil))) (sNext)) (sSeq (sIf (qAnd (qBl (eNotB (eOp1 (pyIs .non) (eVar 3)))) (qNot (qOf (eCallK (fun vs _ => d_is_default vs) (aCons (eVar 2) (aCons (eVar 3) (aNil))) (aNil))))) (sRaise 3 (aCons (eC (.str [100, 101, 102, 97, 117, 108, 116])) (aNil))) (sNext)) (sSeq (sIf (qNot (qOf (eCallK (fun vs _ => d_is_truth vs) (aCons (eVar 4) (aNil)) (aNil)))) (sRaise 3 (aCons (eC (.str [110, 97, 109, 101, 100])) (aNil))) (sNext)) (sSeq (sSetF t_name (eVar 0) (eVar 1)) (sSeq (sSetF t_holds (eVar 0) (eVar 2)) (sSeq (sSetF t_default (eVar 0) (eVar 3)) (sSetF t_named (eVar 0) (eVar 4))))))))
def d_Param_init : ON := runDef finV 5 m_Param_init
def N_law_told : List Str := ["_law_name", "_law_params_here", "_law_listed", "_law_made", "e", "_law_one"]
def m_law_told : SM := sSeq (sAsg (eLst (aComp (iSeq (eVar 1)) (gName 5) (qYes) (eCallK (newOf 0 finV (fun vs zs => d_Param_init (pickL [0, 1, 2, 3, 4] (vs ++ ([] : List PV) ++ zs)))) (aCons (eOp2 pyIdx (eVar 5) (eC (.int 0))) (aNil)) (aCons (eOp2 pyIdx (eVar 5) (eC (.int 1))) (aCons (eOp2 pyIdx (eVar 5) (eC (.int 2))) (aCons (eOp2 pyIdx (eVar 5) (eC (.int 3))) (aNil))))) [5])) (gName 3)) (sSeq (sTry (sExp (eCallK (fun vs zs => onlyN 3 (fun vs zs => d_Method_of (pickL [0, 1, 2, 4, 3] (vs ++ ([(.tup [.str [110, 111, 110, 101]])] : List PV) ++ zs))) (.cls 1 :: vs) zs) (aCons (eVar 0) (aCons (eVar 3) (aNil))) (aCons (eVar 2) (aNil)))) [⟨[(2, true), (3, false), (4, false), (5, false), (6, false), (7, false)], some 4, fun _ vs => sRet (eTup (aCons (eC (.int 0)) (aCons (eXf 0 vs) (aNil))))⟩, ⟨[(2, false), (3, false), (4, false), (5, false), (6, true), (7, false)], some 4, fun _ vs => sRet (eTup (aCons (eC (.int 1)) (aCons (eXf 0 vs) (aNil))))⟩, ⟨[(2, false), (3, false), (4, false), (5, true), (6, false), (7, false)], some 4, fun _ vs => sRet (eTup (aCons (eC (.int 2)) (aCons (eXf 0 vs) (aNil))))⟩, ⟨[(2, false), (3, false), (4, false), (5, false), (6, false), (7, true)], some 4, fun _ vs => sRet (eTup (aCons (eC (.int 3)) (aCons (eXf 0 vs) (aNil))))⟩, ⟨[(2, false), (3, false), (4, true), (5, false), (6, false), (7, false)], some 4, fun _ vs => sRet (eTup (aCons (eC (.int 4)) (aCons (eXf 0 vs) (aNil))))⟩]) (sRet (eC .non)))
def d_law_told : ON := runDef finV 6 m_law_told
def N_law_due : List Str := ["_law_names_here", "_law_params_here", "_law_faults", "_law_name", "_law_at", "_law_seen", "_law_one"]
def b_law_due_0 : SM := sSeq (sIf (qBl (eOp2 pyIn (eOp2 pyIdx (eVar 6) (eC (.int 0))) (eVar 5))) (sRet (eTup (aCons (eC (.int 1)) (aCons (eOp2 pyIdx (eVar 6) (eC (.int 0))) (aNil))))) (sNext)) (sExp (eMt mAppend (eVar 5) (aCons (eOp2 pyIdx (eVar 6) (eC (.int 0))) (aNil))))
def m_law_due : SM := sSeq (sNew (aNil) 5) (sSeq (sIf (qBl (eOp2 pyIn (eC (.int 0)) (eVar 2))) (sRet (eTup (aCons (eC (.int 0)) (aCons (eVar 3) (aNil))))) (sNext)) (sSeq (sFor (iSeq (eVar 1)) (gName 6) (b_law_due_0)) (sSeq (sIf (qBl (eOp2 pyIn (eC (.int 2)) (eVar 2))) (sRet (eTup (aCons (eC (.int 2)) (aCons (eOp2 pyIdx (eVar 0) (eC (.int 3))) (aNil))))) (sNext)) (sSeq (sIf (qBl (eOp2 pyGt (eBlt bLen (aCons (eVar 1) (aNil))) (eC (.int 4)))) (sRet (eTup (aCons (eC (.int 3)) (aCons (eC (.str [112, 97, 114, 97, 109, 115])) (aNil))))) (sNext)) (sSeq (sIf (qBl (eOp2 pyGt (eBlt bLen (aCons (eLst (aComp (iSeq (eVar 1)) (gName 6) (qBl (eOp2 pyEq (eOp2 pyIdx (eVar 6) (eC (.int 1))) (eC (.str [98, 111, 120])))) (eVar 6) [6])) (aNil))) (eC (.int 2)))) (sRet (eTup (aCons (eC (.int 3)) (aCons (eC (.str [98, 111, 120, 101, 115])) (aNil))))) (sNext)) (sSeq (sIf (qBl (eOp2 pyIn (eC (.int 5)) (eVar 2))) (sRet (eTup (aCons (eC (.int 4)) (aCons (eOp1 pyNeg (eC (.int 1))) (aNil))))) (sNext)) (sRet (eIf (qBl (eOp2 pyIn (eC (.int 6)) (eVar 2))) (eTup (aCons (eC (.int 4)) (aCons (eVar 4) (aNil)))) (eTup (aCons (eC (.int 3)) (aCons (eC (.str [114, 111, 119, 115])) (aNil))))))))))))
def d_law_due : ON := runDef finV 7 m_law_due
def N_law_take : List Str := ["_law_bag_here", "_law_many", "_law_digit"]
def m_law_take : SM := sSeq (sIf (qBl (eOp2 pyGt (eOp2 pyIdx (eVar 0) (eC (.int 0))) (eC (.int 0)))) (sSeq (sAsg (eOp2 pyMod (eBlt bInt (aCons (eOp2 pyIdx (eVar 0) (eC (.int 0))) (aNil))) (eVar 1)) (gName 2)) (sSeq (sSetI (eVar 0) (eC (.int 0)) (eOp2 pyFdiv (eOp2 pyIdx (eVar 0) (eC (.int 0))) (eVar 1))) (sRet (eVar 2)))) (sNext)) (sSeq (sSetI (eVar 0) (eC (.int 1)) (eOp2 pyMod (eBlt bInt (aCons (eOp2 pyAdd (eOp2 pyMul (eOp2 pyIdx (eVar 0) (eC (.int 1))) (eC (.int 48271))) (eC (.int 90001))) (aNil))) (eC (.int 2147483629)))) (sRet (eOp2 pyMod (eOp2 pyFdiv (eOp2 pyMod (eBlt bInt (aCons (eOp2 pyMul (eOp2 pyFdiv (eOp2 pyIdx (eVar 0) (eC (.int 1))) (eC (.int 11))) (eC (.int 39373))) (aNil))) (eC (.int 2147483647))) (eC (.int 64))) (eVar 1))))
def d_law_take : ON := runDef finV 3 m_law_take
def N_law_of : List Str := ["_law_bag_here", "_law_some"]
def m_law_of : SM := sRet (eOp2 pyIdx (eVar 1) (eCallK (fun vs _ => d_law_take vs) (aCons (eVar 0) (aCons (eBlt bLen (aCons (eVar 1) (aNil))) (aNil))) (aNil)))
def d_law_of : ON := runDef finV 2 m_law_of
def N_law_params : List Str := ["_law_bag_here", "_law_names_here", "_law_faults", "_law_listed", "_law_turn"]
def b_law_params_0 : SM := sExp (eMt mAppend (eVar 3) (aCons (eTup (aCons (eOp2 pyIdx (eVar 1) (eOp2 pyAdd (eC (.int 14)) (eVar 4))) (aCons (eC (.str [98, 111, 120])) (aCons (eCallK (fun vs _ => d_law_of vs) (aCons (eVar 0) (aCons (eLst (aCons (eC .non) (aCons (eTup (aCons (eC (.str [111, 110, 99, 101])) (aCons (eTup (aNil)) (aNil)))) (aNil)))) (aNil))) (aNil)) (aCons (eC (.bl true)) (aNil)))))) (aNil)))
def b_law_params_1 : SM := sExp (eMt mAppend (eVar 3) (aCons (eTup (aCons (eOp2 pyIdx (eVar 1) (eOp2 pyAdd (eC (.int 9)) (eVar 4))) (aCons (eC (.str [109, 97, 114, 107])) (aCons (eC .non) (aCons (eC (.bl true)) (aNil)))))) (aNil)))
def m_law_params : SM := sSeq (sNew (aCons (eTup (aCons (eOp2 pyIdx (eVar 1) (eC (.int 0))) (aCons (eC (.str [109, 97, 114, 107])) (aCons (eC .non) (aCons (eC (.bl false)) (aNil)))))) (aCons (eTup (aCons (eOp2 pyIdx (eVar 1) (eC (.int 1))) (aCons (eC (.str [98, 111, 120])) (aCons (eC .non) (aCons (eC (.bl false)) (aNil)))))) (aNil))) 3) (sSeq (sIf (qBl (eOp2 pyIn (eC (.int 1)) (eVar 2))) (sExp (eMt mAppend (eVar 3) (aCons (eTup (aCons (eCallK (fun vs _ => d_law_of vs) (aCons (eVar 0) (aCons (eSlice (eVar 1) (oNone) (oSome (eC (.int 2)))) (aNil))) (aNil)) (aCons (eCallK (fun vs _ => d_law_of vs) (aCons (eVar 0) (aCons (eLst (aCons (eC (.str [109, 97, 114, 107])) (aCons (eC (.str [98, 111, 120])) (aNil)))) (aNil))) (aNil)) (aCons (eC .non) (aCons (eC (.bl false)) (aNil)))))) (aNil)))) (sNext)) (sSeq (sIf (qBl (eOp2 pyIn (eC (.int 2)) (eVar 2))) (sIf (qBl (eOp2 pyEq (eCallK (fun vs _ => d_law_take vs) (aCons (eVar 0) (aCons (eC (.int 2)) (aNil))) (aNil)) (eC (.int 0)))) (sSeq (sExp (eMt mAppend (eVar 3) (aCons (eTup (aCons (eOp2 pyIdx (eVar 1) (eC (.int 2))) (aCons (eC (.str [109, 97, 114, 107])) (aCons (eC .non) (aCons (eC (.bl true)) (aNil)))))) (aNil)))) (sExp (eMt mAppend (eVar 3) (aCons (eTup (aCons (eOp2 pyIdx (eVar 1) (eC (.int 3))) (aCons (eC (.str [109, 97, 114, 107])) (aCons (eCallK (fun vs _ => d_law_of vs) (aCons (eVar 0) (aCons (eLst (aCons (eC .non) (aCons (eTup (aCons (eC (.str [109, 97, 114, 107])) (aCons (eOp2 pyIdx (eVar 1) (eC (.int 8))) (aNil)))) (aNil)))) (aNil))) (aNil)) (aCons (eC (.bl false)) (aNil)))))) (aNil))))) (sSeq (sExp (eMt mAppend (eVar 3) (aCons (eTup (aCons (eOp2 pyIdx (eVar 1) (eC (.int 2))) (aCons (eC (.str [109, 97, 114, 107])) (aCons (eTup (aCons (eC (.str [109, 97, 114, 107])) (aCons (eOp2 pyIdx (eVar 1) (eC (.int 8))) (aNil)))) (aCons (eC (.bl false)) (aNil)))))) (aNil)))) (sExp (eMt mAppend (eVar 3) (aCons (eTup (aCons (eOp2 pyIdx (eVar 1) (eC (.int 3))) (aCons (eCallK (fun vs _ => d_law_of vs) (aCons (eVar 0) (aCons (eLst (aCons (eC (.str [109, 97, 114, 107])) (aCons (eC (.str [98, 111, 120])) (aNil)))) (aNil))) (aNil)) (aCons (eC .non) (aCons (eC (.bl false)) (aNil)))))) (aNil)))))) (sNext)) (sSeq (sIf (qBl (eOp2 pyIn (eC (.int 3)) (eVar 2))) (sFor (iRange1 (eOp2 pyAdd (eC (.int 3)) (eCallK (fun vs _ => d_law_take vs) (aCons (eVar 0) (aCons (eC (.int 2)) (aNil))) (aNil)))) (gName 4) (b_law_params_1)) (sNext)) (sSeq (sIf (qBl (eOp2 pyIn (eC (.int 4)) (eVar 2))) (sFor (iRange1 (eC (.int 2))) (gName 4) (b_law_params_0)) (sNext)) (sRet (eVar 3))))))
def d_law_params : ON := runDef finV 5 m_law_params
def N_law_names : List Str := ["_law_bag_here", "_law_many", "_law_one", "_law_turn", "_law_left", "_law_stem", "_law_at", "_law_found", "_law_two"]
def b_law_names_0 : SM := sExp (eMt mAppend (eVar 7) (aCons (eOp2 pyAdd (eOp2 pyAdd (eSlice (eVar 5) (oNone) (oSome (eVar 6))) (eMt mPop (eVar 4) (aCons (eCallK (fun vs _ => d_law_take vs) (aCons (eVar 0) (aCons (eBlt bLen (aCons (eVar 4) (aNil))) (aNil))) (aNil)) (aNil)))) (eSlice (eVar 5) (oSome (eVar 6)) (oNone))) (aNil)))
def b_law_names_1 : SM := sAsg (eOp2 pyAdd (eVar 5) (eCallK (fun vs _ => d_law_of vs) (aCons (eVar 0) (aCons (eC (.str [97, 98, 99, 100, 101, 102, 103, 104, 105, 106, 107, 108, 109, 110, 111, 112, 113, 114, 115, 116, 117, 118, 119, 120, 121, 122])) (aNil))) (aNil))) (gName 5)
def b_law_names_2 : SM := sExp (eMt mExtend (eVar 4) (aCons (eLst (aComp (iSeq (eC (.str [97, 98, 99, 100, 101, 102, 103, 104, 105, 106, 107, 108, 109, 110, 111, 112, 113, 114, 115, 116, 117, 118, 119, 120, 121, 122]))) (gName 8) (qYes) (eOp2 pyAdd (eVar 2) (eVar 8)) [8])) (aNil)))
def m_law_names : SM := sSeq (sPar (aCons (ePl (aNil)) (aCons (eC (.str [])) aNil)) 4 5) (sSeq (sFor (iSeq (eC (.str [103, 106, 113, 122]))) (gName 2) (b_law_names_2)) (sSeq (sFor (iRange1 (eCallK (fun vs _ => d_law_take vs) (aCons (eVar 0) (aCons (eC (.int 7)) (aNil))) (aNil))) (gName 3) (b_law_names_1)) (sSeq (sPar (aCons (eCallK (fun vs _ => d_law_take vs) (aCons (eVar 0) (aCons (eOp2 pyAdd (eBlt bLen (aCons (eVar 5) (aNil))) (eC (.int 1))) (aNil))) (aNil)) (aCons (ePl (aNil)) aNil)) 6 7) (sSeq (sFor (iRange1 (eVar 1)) (gName 3) (b_law_names_0)) (sRet (eVar 7))))))
def d_law_names : ON := runDef finV 9 m_law_names
def N_law_bag : List Str := ["_law_script", "_law_at", "_law_cell", "_law_blend", "_law_k", "_law_each"]
def b_law_bag_0 : SM := sAsg (eOp2 pyMod (eBlt bInt (aCons (eOp2 pyAdd (eOp2 pyAdd (eOp2 pyMul (eVar 3) (eC (.int 44017))) (eOp2 pyMod (eBlt bInt (aCons (eVar 5) (aNil))) (eC (.int 2147483563)))) (eOp2 pyMul (eC (.int 59)) (eVar 4))) (aNil))) (eC (.int 2147483399))) (gName 3)
def m_law_bag : SM := sSeq (sAsg (eIf (qBl (eOp2 pyLt (eVar 1) (eBlt bLen (aCons (eVar 0) (aNil))))) (eOp2 pyIdx (eVar 0) (eVar 1)) (eC (.int 0))) (gName 2)) (sSeq (sAsg (eOp2 pyAdd (eOp2 pyMul (eC (.int 5381)) (eVar 1)) (eC (.int 977))) (gName 3)) (sSeq (sFor (iEnum (eSlice (eVar 0) (oNone) (oSome (eC (.int 63))))) (gTup [4, 5]) (b_law_bag_0)) (sRetL (aCons (eIf (qBl (eOp2 pyGe (eBlt bAbs (aCons (eVar 2) (aNil))) (eOp2 pyPow (eC (.int 10)) (eC (.int 18))))) (eBlt bAbs (aCons (eVar 2) (aNil))) (eC (.int 0))) (aCons (eVar 3) (aNil))))))
def d_law_bag : ON := runDef finL 6 m_law_bag
def N_law : List Str := ["_law_script", "_law_at", "_law_bag_here", "_law_names_here", "_law_turn", "_law_faults", "_law_params_here", "_law_listed", "_law_place", "_law_name", "_law_given", "_law_good", "_law_k"]
def b_law_0 : SM := sSeq (sAsg (eLst (aCons (eCallK (fun vs _ => d_law_take vs) (aCons (eVar 2) (aCons (eC (.int 8)) (aNil))) (aNil)) (aCons (eCallK (fun vs _ => d_law_take vs) (aCons (eVar 2) (aCons (eC (.int 16)) (aNil))) (aNil)) (aNil)))) (gName 5)) (sSeq (sAsg (eCallK (fun vs _ => d_law_params vs) (aCons (eVar 2) (aCons (eVar 3) (aCons (eVar 5) (aNil)))) (aNil)) (gName 6)) (sSeq (sNew (aComp (iRange1 (eCallK (fun vs _ => d_law_take vs) (aCons (eVar 2) (aCons (eC (.int 9)) (aNil))) (aNil))) (gName 12) (qYes) (eTup (aCons (eC (.str [97, 100, 100])) (aCons (eOp2 pyIdx (eVar 3) (eC (.int 1))) (aCons (eTup (aNil)) (aNil))))) [12]) 7) (sSeq (sIf (qBl (eOp2 pyIn (eC (.int 7)) (eVar 5))) (sNew (aComp (iRange1 (eOp2 pyAdd (eC (.int 9)) (eCallK (fun vs _ => d_law_take vs) (aCons (eVar 2) (aCons (eC (.int 2)) (aNil))) (aNil)))) (gName 12) (qYes) (eTup (aCons (eC (.str [97, 100, 100])) (aCons (eOp2 pyIdx (eVar 3) (eC (.int 1))) (aCons (eTup (aCons (eOp2 pyIdx (eVar 3) (eC (.int 8))) (aNil))) (aNil))))) [12]) 7) (sNext)) (sSeq (sAsg (eCallK (fun vs _ => d_law_take vs) (aCons (eVar 2) (aCons (eOp2 pyAdd (eBlt bLen (aCons (eVar 7) (aNil))) (eC (.int 1))) (aNil))) (aNil)) (gName 8)) (sSeq (sIf (qBl (eOp2 pyIn (eC (.int 6)) (eVar 5))) (sExp (eMt mInsert (eVar 7) (aCons (eVar 8) (aCons (eTup (aCons (eC (.str [97, 100, 100])) (aCons (eOp2 pyIdx (eVar 3) (eC (.int 7))) (aCons (eTup (aNil)) (aNil))))) (aNil))))) (sNext)) (sSeq (sAsg (eIf (qBl (eOp2 pyIn (eC (.int 0)) (eVar 5))) (eCallK (fun vs _ => d_law_of vs) (aCons (eVar 2) (aCons (eLst (aCons (eC (.str [])) (aCons (eC (.int 5)) (aCons (eC .non) (aCons (eC (.str [99, 108, 115])) (aCons (eC (.str [65, 122])) (aCons (eC (.str [97, 97, 97, 97, 97, 97, 97, 97, 97])) (aCons (eTup (aCons (eOp2 pyIdx (eVar 3) (eC (.int 6))) (aNil))) (aNil))))))))) (aNil))) (aNil)) (eOp2 pyIdx (eVar 3) (eC (.int 6)))) (gName 9)) (sSeq (sAsg (eIf (qBl (eOp2 pyIn (eC (.int 5)) (eVar 5))) (eVar 7) (eBlt bTuple (aCons (eVar 7) (aNil)))) (gName 10)) (sSeq (sIf (qBl (eOp2 pyNe (eCallK (fun vs _ => d_law_told vs) (aCons (eVar 9) (aCons (eVar 6) (aCons (eVar 10) (aNil)))) (aNil)) (eCallK (fun vs _ => d_law_due vs) (aCons (eVar 3) (aCons (eVar 6) (aCons (eVar 5) (aCons (eVar 9) (aCons (eVar 8) (aNil)))))) (aNil)))) (sRet (eC (.bl false))) (sNext)) (sSeq (sAsg (eCallK (fun vs zs => onlyN 3 (fun vs zs => d_Method_of (pickL [0, 1, 2, 4, 3] (vs ++ ([(.tup [.str [110, 111, 110, 101]])] : List PV) ++ zs))) (.cls 1 :: vs) zs) (aCons (eOp2 pyIdx (eVar 3) (eC (.int 6))) (aCons (eLst (aCons (eCallK (newOf 0 finV (fun vs zs => d_Param_init (pickL [0, 1, 4, 2, 3] (vs ++ ([(.non), (.bl false)] : List PV) ++ zs)))) (aCons (eOp2 pyIdx (eVar 3) (eC (.int 0))) (aNil)) (aCons (eC (.str [109, 97, 114, 107])) (aNil))) (aCons (eCallK (newOf 0 finV (fun vs zs => d_Param_init (pickL [0, 1, 2, 3, 4] (vs ++ ([(.str [98, 111, 120]), (.non), (.bl false)] : List PV) ++ zs)))) (aCons (eOp2 pyIdx (eVar 3) (eC (.int 1))) (aNil)) (aNil)) (aNil)))) (aNil))) (aCons (eSlice (eBlt bTuple (aCons (eSlice (eVar 7) (oNone) (oSome (eVar 8))) (aNil))) (oNone) (oSome (eC (.int 8)))) (aNil))) (gName 11)) (sIf (qBl (eOp2 pyNe (eBlt bLen (aCons (eFld t_rows (eVar 11)) (aNil))) (eBlt bMin (aCons (eVar 8) (aCons (eC (.int 8)) (aNil)))))) (sRet (eC (.bl false))) (sNext)))))))))))
def b_law_1 : SM := sSeq (sAsg (eCallK (fun vs _ => d_law_bag vs) (aCons (eVar 0) (aCons (eVar 1) (aNil))) (aNil)) (gName 2)) (sSeq (sAsg (eCallK (fun vs _ => d_law_names vs) (aCons (eVar 2) (aCons (eC (.int 16)) (aNil))) (aNil)) (gName 3)) (sFor (iRange1 (eC (.int 5))) (gName 4) (b_law_0)))
def m_law : SM := sSeq (sFor (iRange1 (eBlt bMax (aCons (eC (.int 1)) (aCons (eBlt bMin (aCons (eC (.int 6)) (aCons (eBlt bLen (aCons (eVar 0) (aNil))) (aNil)))) (aNil))))) (gName 1) (b_law_1)) (sRet (eC (.bl true)))
def d_law : ON := runDef finV 13 m_law
end
/-! ### facts -/
abbrev s_test_variables : Stmt := top 30
def D_test_variables : He.DefD := ⟨("test_variables", none), "test_variables", "test_variables", defArgs s_test_variables, defBody s_test_variables, defScope s_test_variables, [], []⟩
abbrev s_is_name : Stmt := top 13
def D_is_name : He.DefD := ⟨("is_name", none), "is_name", "is_name", defArgs s_is_name, defBody s_is_name, defScope s_is_name, [], []⟩
abbrev s_is_owner : Stmt := top 15
def D_is_owner : He.DefD := ⟨("is_owner", none), "is_owner", "is_owner", defArgs s_is_owner, defBody s_is_owner, defScope s_is_owner, [], []⟩
abbrev s_are_items : Stmt := top 14
def D_are_items : He.DefD := ⟨("are_items", none), "are_items", "are_items", defArgs s_are_items, defBody s_are_items, defScope s_are_items, [], []⟩
abbrev s_part_fits : Stmt := top 23
def D_part_fits : He.DefD := ⟨("part_fits", none), "part_fits", "part_fits", defArgs s_part_fits, defBody s_part_fits, defScope s_part_fits, [], []⟩
abbrev s_parts_fit : Stmt := top 24
def D_parts_fit : He.DefD := ⟨("parts_fit", none), "parts_fit", "parts_fit", defArgs s_parts_fit, defBody s_parts_fit, defScope s_parts_fit, [], []⟩
abbrev s_has_word : Stmt := top 22
def D_has_word : He.DefD := ⟨("has_word", none), "has_word", "has_word", defArgs s_has_word, defBody s_has_word, defScope s_has_word, [], []⟩
abbrev s_is_test : Stmt := top 26
def D_is_test : He.DefD := ⟨("is_test", none), "is_test", "is_test", defArgs s_is_test, defBody s_is_test, defScope s_is_test, [], []⟩
abbrev s_is_result : Stmt := top 28
def D_is_result : He.DefD := ⟨("is_result", none), "is_result", "is_result", defArgs s_is_result, defBody s_is_result, defScope s_is_result, [], []⟩
abbrev s_result_fits : Stmt := top 34
def D_result_fits : He.DefD := ⟨("result_fits", none), "result_fits", "result_fits", defArgs s_result_fits, defBody s_result_fits, defScope s_result_fits, [], []⟩
abbrev s_used_variables : Stmt := top 31
def D_used_variables : He.DefD := ⟨("used_variables", none), "used_variables", "used_variables", defArgs s_used_variables, defBody s_used_variables, defScope s_used_variables, [], []⟩
abbrev s_parted : Stmt := top 32
def D_parted : He.DefD := ⟨("parted", none), "parted", "parted", defArgs s_parted, defBody s_parted, defScope s_parted, [], []⟩
abbrev s_is_plain : Stmt := top 25
def D_is_plain : He.DefD := ⟨("is_plain", none), "is_plain", "is_plain", defArgs s_is_plain, defBody s_is_plain, defScope s_is_plain, [], []⟩
abbrev s_is_guarded : Stmt := top 27
def D_is_guarded : He.DefD := ⟨("is_guarded", none), "is_guarded", "is_guarded", defArgs s_is_guarded, defBody s_is_guarded, defScope s_is_guarded, [], []⟩
abbrev s_first_bad_row : Stmt := top 33
def D_first_bad_row : He.DefD := ⟨("first_bad_row", none), "first_bad_row", "first_bad_row", defArgs s_first_bad_row, defBody s_first_bad_row, defScope s_first_bad_row, [], []⟩
abbrev s_look_order : Stmt := top 40
def D_look_order : He.DefD := ⟨("look_order", none), "look_order", "look_order", defArgs s_look_order, defBody s_look_order, defScope s_look_order, [], []⟩
abbrev s_look_twice : Stmt := top 38
def D_look_twice : He.DefD := ⟨("look_twice", none), "look_twice", "look_twice", defArgs s_look_twice, defBody s_look_twice, defScope s_look_twice, [.adr (He.dflAt ("look_twice", none) 0)], []⟩
abbrev s_look_name : Stmt := top 37
def D_look_name : He.DefD := ⟨("look_name", none), "look_name", "look_name", defArgs s_look_name, defBody s_look_name, defScope s_look_name, [], []⟩
abbrev s_Method_init : Stmt := sub 41 3
def D_Method_init : He.DefD := ⟨("Method", some "__init__"), "__init__", "Method.__init__", defArgs s_Method_init, defBody s_Method_init, defScope s_Method_init, [], [("rows", .adr (kwAt (fun K => He.fAd K ("Method", some "__init__")) "rows")), ("returns", .glo "NOTHING")]⟩
abbrev s_Method_of : Stmt := sub 41 6
def D_Method_of : He5.DefA := ⟨fun K => He5.wf K (He.ga K "Method") "classmethod" "of", "of", "Method.of", defArgs s_Method_of, defBody s_Method_of, defScope s_Method_of, [], [("rows", .adr (kwAt (fun K => He5.wf K (He.ga K "Method") "classmethod" "of") "rows")), ("returns", .glo "NOTHING")]⟩
abbrev s_is_truth : Stmt := top 16
def D_is_truth : He.DefD := ⟨("is_truth", none), "is_truth", "is_truth", defArgs s_is_truth, defBody s_is_truth, defScope s_is_truth, [], []⟩
abbrev s_is_default : Stmt := top 29
def D_is_default : He.DefD := ⟨("is_default", none), "is_default", "is_default", defArgs s_is_default, defBody s_is_default, defScope s_is_default, [], []⟩
abbrev s_Param_init : Stmt := sub 39 0
def D_Param_init : He.DefD := ⟨("Param", some "__init__"), "__init__", "Param.__init__", defArgs s_Param_init, defBody s_Param_init, defScope s_Param_init, [], [("holds", .str "box"), ("default", .non), ("named", .bl false)]⟩
abbrev s_law_told : Stmt := top 49
def D_law_told : He.DefD := ⟨("_law_told", none), "_law_told", "_law_told", defArgs s_law_told, defBody s_law_told, defScope s_law_told, [], []⟩
abbrev s_law_due : Stmt := top 48
def D_law_due : He.DefD := ⟨("_law_due", none), "_law_due", "_law_due", defArgs s_law_due, defBody s_law_due, defScope s_law_due, [], []⟩
abbrev s_law_take : Stmt := top 44
def D_law_take : He.DefD := ⟨("_law_take", none), "_law_take", "_law_take", defArgs s_law_take, defBody s_law_take, defScope s_law_take, [], []⟩
abbrev s_law_of : Stmt := top 45
def D_law_of : He.DefD := ⟨("_law_of", none), "_law_of", "_law_of", defArgs s_law_of, defBody s_law_of, defScope s_law_of, [], []⟩
abbrev s_law_params : Stmt := top 47
def D_law_params : He.DefD := ⟨("_law_params", none), "_law_params", "_law_params", defArgs s_law_params, defBody s_law_params, defScope s_law_params, [], []⟩
abbrev s_law_names : Stmt := top 46
def D_law_names : He.DefD := ⟨("_law_names", none), "_law_names", "_law_names", defArgs s_law_names, defBody s_law_names, defScope s_law_names, [], []⟩
abbrev s_law_bag : Stmt := top 43
def D_law_bag : He.DefD := ⟨("_law_bag", none), "_law_bag", "_law_bag", defArgs s_law_bag, defBody s_law_bag, defScope s_law_bag, [], []⟩
abbrev s_law : Stmt := top 50
def D_law : He.DefD := ⟨("law", none), "law", "law", defArgs s_law, defBody s_law, defScope s_law, [], []⟩
def fn : List He.DefD := [D_test_variables, D_is_name, D_is_owner, D_are_items, D_part_fits, D_parts_fit, D_has_word, D_is_test, D_is_result, D_result_fits, D_used_variables, D_parted, D_is_plain, D_is_guarded, D_first_bad_row, D_look_order, D_look_twice, D_look_name, D_Method_init, D_is_truth, D_is_default, D_Param_init, D_law_told, D_law_due, D_law_take, D_law_of, D_law_params, D_law_names, D_law_bag, D_law]
def cs : List He5.DefA := [D_Method_of]
abbrev sx_TooMany : Stmt := sub 8 0
def XC_TooMany : XcD := ⟨"TooMany", true, ["what"], ⟨"__init__", "TooMany.__init__", defArgs sx_TooMany, defBody sx_TooMany, defScope sx_TooMany⟩⟩
abbrev sx_BadRow : Stmt := sub 5 0
def XC_BadRow : XcD := ⟨"BadRow", true, ["at"], ⟨"__init__", "BadRow.__init__", defArgs sx_BadRow, defBody sx_BadRow, defScope sx_BadRow⟩⟩
abbrev sx_BadOrder : Stmt := sub 6 0
def XC_BadOrder : XcD := ⟨"BadOrder", true, ["name"], ⟨"__init__", "BadOrder.__init__", defArgs sx_BadOrder, defBody sx_BadOrder, defScope sx_BadOrder⟩⟩
abbrev sx_Twice : Stmt := sub 7 0
def XC_Twice : XcD := ⟨"Twice", true, ["name"], ⟨"__init__", "Twice.__init__", defArgs sx_Twice, defBody sx_Twice, defScope sx_Twice⟩⟩
abbrev sx_BadName : Stmt := sub 3 0
def XC_BadName : XcD := ⟨"BadName", true, ["name"], ⟨"__init__", "BadName.__init__", defArgs sx_BadName, defBody sx_BadName, defScope sx_BadName⟩⟩
abbrev sx_BadParam : Stmt := sub 4 0
def XC_BadParam : XcD := ⟨"BadParam", true, ["part"], ⟨"__init__", "BadParam.__init__", defArgs sx_BadParam, defBody sx_BadParam, defScope sx_BadParam⟩⟩
def fa : List He.Fa := [.glo "TooMany", .glo "BadRow", .glo "test_variables", .keep "test_variables", .glo "is_name", .keep "is_name", .glo "is_owner", .keep "is_owner", .glo "are_items", .keep "are_items", .glo "part_fits", .keep "part_fits", .glo "parts_fit", .keep "parts_fit", .glo "has_word", .keep "has_word", .glo "is_test", .keep "is_test", .glo "is_result", .keep "is_result", .glo "result_fits", .keep "result_fits", .glo "used_variables", .keep "used_variables", .glo "parted", .keep "parted", .glo "is_plain", .keep "is_plain", .glo "is_guarded", .keep "is_guarded", .glo "first_bad_row", .keep "first_bad_row", .glo "BadOrder", .glo "look_order", .keep "look_order", .glo "Twice", .glo "look_twice", .keep "look_twice", .glo "BadName", .glo "look_name", .keep "look_name", .glo "Method", .glo "is_truth", .keep "is_truth", .glo "BadParam", .glo "is_default", .keep "is_default", .glo "Param", .glo "_law_told", .keep "_law_told", .glo "_law_due", .keep "_law_due", .glo "_law_take", .keep "_law_take", .glo "_law_of", .keep "_law_of", .glo "_law_params", .keep "_law_params", .glo "_law_names", .keep "_law_names", .glo "_law_bag", .keep "_law_bag", .glo "law", .free "range", .free "max", .free "min", .free "len", .free "super", .free "all", .free "enumerate", .free "isinstance", .free "str", .free "tuple", .free "list", .free "bool", .free "int", .free "abs", .cls "Param", .mkr "Param", .cls "Method", .mkr "Method", .noat "Method" "rows", .noat "Method" "returns", .noat "Method" "params", .noat "Param" "name", .noat "Method" "name", .noat "Param" "holds", .noat "Param" "named", .noat "Param" "default"]
def ex : Ex := [fun K => conC K "LETTERS" c_LETTERS, fun K => conC K "WORDS" c_WORDS, fun K => conC K "MOST_LETTERS" c_MOST_LETTERS, fun K => conC K "ASSIGNING" c_ASSIGNING, fun K => conC K "GUARDS" c_GUARDS, fun K => insB K (He.ga K "Param"), fun K => insB K (He.ga K "Method"), xcB file0 XC_TooMany, xcB file0 XC_BadRow, xcB file0 XC_BadOrder, xcB file0 XC_Twice, xcB file0 XC_BadName, xcB file0 XC_BadParam, exmB caN "BadRow" [(2, false), (3, false), (4, true), (5, false), (6, false), (7, false)], exmB caN "TooMany" [(2, false), (3, false), (4, false), (5, false), (6, false), (7, true)], exmB caN "BadOrder" [(2, false), (3, false), (4, false), (5, true), (6, false), (7, false)], exmB caN "Twice" [(2, false), (3, false), (4, false), (5, false), (6, true), (7, false)], exmB caN "BadName" [(2, true), (3, false), (4, false), (5, false), (6, false), (7, false)], fun K => xfB1 K "BadRow" "at", fun K => xfB1 K "TooMany" "what", fun K => xfB1 K "BadOrder" "name", fun K => xfB1 K "Twice" "name", fun K => xfB1 K "BadName" "name", ccB "Method" "MOST_ROWS" 8, ccB "Method" "MOST_BOXES" 2, ccB "Method" "MOST_PARAMS" 4, dicB "TEST_PARTS" dc_TEST_PARTS, dicB "PLAIN_PARTS" dc_PLAIN_PARTS, cmB "Method" "of", kitB2 caN isiT, okB (.tup []) (He.dflAt ("look_twice", none) 0), fun K => D_Method_of.ok K, okB (.tup [.str [110, 111, 110, 101]]) (fun K => He.ga K "NOTHING")]
def xs : List XcD := [XC_TooMany, XC_BadRow, XC_BadOrder, XC_Twice, XC_BadName, XC_BadParam]
section
variable {P : Program} {w : World} {K : PySem.W.Frag} {h base : Heap} {mg : Str → Option Value} (c : SaysC P file0 fa fn xs cs ex K) (X : K.In h) (G : h.Ns mainGlobals mg)
include c X G in
theorem hg_TooMany : mg "TooMany" = some (.ref (He.ga K "TooMany")) := He.glo_ok X G (c.d.fact 0 (f := .glo "TooMany") rfl)
include c X G in
theorem hg_BadRow : mg "BadRow" = some (.ref (He.ga K "BadRow")) := He.glo_ok X G (c.d.fact 1 (f := .glo "BadRow") rfl)
include c X G in
theorem hg_test_variables : mg "test_variables" = some (.ref (He.ga K "test_variables")) := He.glo_ok X G (c.d.fact 2 (f := .glo "test_variables") rfl)
include c in
theorem hk_test_variables : PySem.W.keepIn K (.ref (He.ga K "test_variables")) = true := c.d.fact 3 (f := .keep "test_variables") rfl
include c X G in
theorem hg_is_name : mg "is_name" = some (.ref (He.ga K "is_name")) := He.glo_ok X G (c.d.fact 4 (f := .glo "is_name") rfl)
include c in
theorem hk_is_name : PySem.W.keepIn K (.ref (He.ga K "is_name")) = true := c.d.fact 5 (f := .keep "is_name") rfl
include c X G in
theorem hg_is_owner : mg "is_owner" = some (.ref (He.ga K "is_owner")) := He.glo_ok X G (c.d.fact 6 (f := .glo "is_owner") rfl)
include c in
theorem hk_is_owner : PySem.W.keepIn K (.ref (He.ga K "is_owner")) = true := c.d.fact 7 (f := .keep "is_owner") rfl
include c X G in
theorem hg_are_items : mg "are_items" = some (.ref (He.ga K "are_items")) := He.glo_ok X G (c.d.fact 8 (f := .glo "are_items") rfl)
include c in
theorem hk_are_items : PySem.W.keepIn K (.ref (He.ga K "are_items")) = true := c.d.fact 9 (f := .keep "are_items") rfl
include c X G in
theorem hg_part_fits : mg "part_fits" = some (.ref (He.ga K "part_fits")) := He.glo_ok X G (c.d.fact 10 (f := .glo "part_fits") rfl)
include c in
theorem hk_part_fits : PySem.W.keepIn K (.ref (He.ga K "part_fits")) = true := c.d.fact 11 (f := .keep "part_fits") rfl
include c X G in
theorem hg_parts_fit : mg "parts_fit" = some (.ref (He.ga K "parts_fit")) := He.glo_ok X G (c.d.fact 12 (f := .glo "parts_fit") rfl)
include c in
theorem hk_parts_fit : PySem.W.keepIn K (.ref (He.ga K "parts_fit")) = true := c.d.fact 13 (f := .keep "parts_fit") rfl
include c X G in
theorem hg_has_word : mg "has_word" = some (.ref (He.ga K "has_word")) := He.glo_ok X G (c.d.fact 14 (f := .glo "has_word") rfl)
include c in
theorem hk_has_word : PySem.W.keepIn K (.ref (He.ga K "has_word")) = true := c.d.fact 15 (f := .keep "has_word") rfl
include c X G in
theorem hg_is_test : mg "is_test" = some (.ref (He.ga K "is_test")) := He.glo_ok X G (c.d.fact 16 (f := .glo "is_test") rfl)
include c in
theorem hk_is_test : PySem.W.keepIn K (.ref (He.ga K "is_test")) = true := c.d.fact 17 (f := .keep "is_test") rfl
include c X G in
theorem hg_is_result : mg "is_result" = some (.ref (He.ga K "is_result")) := He.glo_ok X G (c.d.fact 18 (f := .glo "is_result") rfl)
include c in
theorem hk_is_result : PySem.W.keepIn K (.ref (He.ga K "is_result")) = true := c.d.fact 19 (f := .keep "is_result") rfl
include c X G in
theorem hg_result_fits : mg "result_fits" = some (.ref (He.ga K "result_fits")) := He.glo_ok X G (c.d.fact 20 (f := .glo "result_fits") rfl)
include c in
theorem hk_result_fits : PySem.W.keepIn K (.ref (He.ga K "result_fits")) = true := c.d.fact 21 (f := .keep "result_fits") rfl
include c X G in
theorem hg_used_variables : mg "used_variables" = some (.ref (He.ga K "used_variables")) := He.glo_ok X G (c.d.fact 22 (f := .glo "used_variables") rfl)
include c in
theorem hk_used_variables : PySem.W.keepIn K (.ref (He.ga K "used_variables")) = true := c.d.fact 23 (f := .keep "used_variables") rfl
include c X G in
theorem hg_parted : mg "parted" = some (.ref (He.ga K "parted")) := He.glo_ok X G (c.d.fact 24 (f := .glo "parted") rfl)
include c in
theorem hk_parted : PySem.W.keepIn K (.ref (He.ga K "parted")) = true := c.d.fact 25 (f := .keep "parted") rfl
include c X G in
theorem hg_is_plain : mg "is_plain" = some (.ref (He.ga K "is_plain")) := He.glo_ok X G (c.d.fact 26 (f := .glo "is_plain") rfl)
include c in
theorem hk_is_plain : PySem.W.keepIn K (.ref (He.ga K "is_plain")) = true := c.d.fact 27 (f := .keep "is_plain") rfl
include c X G in
theorem hg_is_guarded : mg "is_guarded" = some (.ref (He.ga K "is_guarded")) := He.glo_ok X G (c.d.fact 28 (f := .glo "is_guarded") rfl)
include c in
theorem hk_is_guarded : PySem.W.keepIn K (.ref (He.ga K "is_guarded")) = true := c.d.fact 29 (f := .keep "is_guarded") rfl
include c X G in
theorem hg_first_bad_row : mg "first_bad_row" = some (.ref (He.ga K "first_bad_row")) := He.glo_ok X G (c.d.fact 30 (f := .glo "first_bad_row") rfl)
include c in
theorem hk_first_bad_row : PySem.W.keepIn K (.ref (He.ga K "first_bad_row")) = true := c.d.fact 31 (f := .keep "first_bad_row") rfl
include c X G in
theorem hg_BadOrder : mg "BadOrder" = some (.ref (He.ga K "BadOrder")) := He.glo_ok X G (c.d.fact 32 (f := .glo "BadOrder") rfl)
include c X G in
theorem hg_look_order : mg "look_order" = some (.ref (He.ga K "look_order")) := He.glo_ok X G (c.d.fact 33 (f := .glo "look_order") rfl)
include c in
theorem hk_look_order : PySem.W.keepIn K (.ref (He.ga K "look_order")) = true := c.d.fact 34 (f := .keep "look_order") rfl
include c X G in
theorem hg_Twice : mg "Twice" = some (.ref (He.ga K "Twice")) := He.glo_ok X G (c.d.fact 35 (f := .glo "Twice") rfl)
include c X G in
theorem hg_look_twice : mg "look_twice" = some (.ref (He.ga K "look_twice")) := He.glo_ok X G (c.d.fact 36 (f := .glo "look_twice") rfl)
include c in
theorem hk_look_twice : PySem.W.keepIn K (.ref (He.ga K "look_twice")) = true := c.d.fact 37 (f := .keep "look_twice") rfl
include c X G in
theorem hg_BadName : mg "BadName" = some (.ref (He.ga K "BadName")) := He.glo_ok X G (c.d.fact 38 (f := .glo "BadName") rfl)
include c X G in
theorem hg_look_name : mg "look_name" = some (.ref (He.ga K "look_name")) := He.glo_ok X G (c.d.fact 39 (f := .glo "look_name") rfl)
include c in
theorem hk_look_name : PySem.W.keepIn K (.ref (He.ga K "look_name")) = true := c.d.fact 40 (f := .keep "look_name") rfl
include c X G in
theorem hg_Method : mg "Method" = some (.ref (He.ga K "Method")) := He.glo_ok X G (c.d.fact 41 (f := .glo "Method") rfl)
include c X G in
theorem hg_is_truth : mg "is_truth" = some (.ref (He.ga K "is_truth")) := He.glo_ok X G (c.d.fact 42 (f := .glo "is_truth") rfl)
include c in
theorem hk_is_truth : PySem.W.keepIn K (.ref (He.ga K "is_truth")) = true := c.d.fact 43 (f := .keep "is_truth") rfl
include c X G in
theorem hg_BadParam : mg "BadParam" = some (.ref (He.ga K "BadParam")) := He.glo_ok X G (c.d.fact 44 (f := .glo "BadParam") rfl)
include c X G in
theorem hg_is_default : mg "is_default" = some (.ref (He.ga K "is_default")) := He.glo_ok X G (c.d.fact 45 (f := .glo "is_default") rfl)
include c in
theorem hk_is_default : PySem.W.keepIn K (.ref (He.ga K "is_default")) = true := c.d.fact 46 (f := .keep "is_default") rfl
include c X G in
theorem hg_Param : mg "Param" = some (.ref (He.ga K "Param")) := He.glo_ok X G (c.d.fact 47 (f := .glo "Param") rfl)
include c X G in
theorem hg__law_told : mg "_law_told" = some (.ref (He.ga K "_law_told")) := He.glo_ok X G (c.d.fact 48 (f := .glo "_law_told") rfl)
include c in
theorem hk__law_told : PySem.W.keepIn K (.ref (He.ga K "_law_told")) = true := c.d.fact 49 (f := .keep "_law_told") rfl
include c X G in
theorem hg__law_due : mg "_law_due" = some (.ref (He.ga K "_law_due")) := He.glo_ok X G (c.d.fact 50 (f := .glo "_law_due") rfl)
include c in
theorem hk__law_due : PySem.W.keepIn K (.ref (He.ga K "_law_due")) = true := c.d.fact 51 (f := .keep "_law_due") rfl
include c X G in
theorem hg__law_take : mg "_law_take" = some (.ref (He.ga K "_law_take")) := He.glo_ok X G (c.d.fact 52 (f := .glo "_law_take") rfl)
include c in
theorem hk__law_take : PySem.W.keepIn K (.ref (He.ga K "_law_take")) = true := c.d.fact 53 (f := .keep "_law_take") rfl
include c X G in
theorem hg__law_of : mg "_law_of" = some (.ref (He.ga K "_law_of")) := He.glo_ok X G (c.d.fact 54 (f := .glo "_law_of") rfl)
include c in
theorem hk__law_of : PySem.W.keepIn K (.ref (He.ga K "_law_of")) = true := c.d.fact 55 (f := .keep "_law_of") rfl
include c X G in
theorem hg__law_params : mg "_law_params" = some (.ref (He.ga K "_law_params")) := He.glo_ok X G (c.d.fact 56 (f := .glo "_law_params") rfl)
include c in
theorem hk__law_params : PySem.W.keepIn K (.ref (He.ga K "_law_params")) = true := c.d.fact 57 (f := .keep "_law_params") rfl
include c X G in
theorem hg__law_names : mg "_law_names" = some (.ref (He.ga K "_law_names")) := He.glo_ok X G (c.d.fact 58 (f := .glo "_law_names") rfl)
include c in
theorem hk__law_names : PySem.W.keepIn K (.ref (He.ga K "_law_names")) = true := c.d.fact 59 (f := .keep "_law_names") rfl
include c X G in
theorem hg__law_bag : mg "_law_bag" = some (.ref (He.ga K "_law_bag")) := He.glo_ok X G (c.d.fact 60 (f := .glo "_law_bag") rfl)
include c in
theorem hk__law_bag : PySem.W.keepIn K (.ref (He.ga K "_law_bag")) = true := c.d.fact 61 (f := .keep "_law_bag") rfl
include c X G in
theorem hg_law : mg "law" = some (.ref (He.ga K "law")) := He.glo_ok X G (c.d.fact 62 (f := .glo "law") rfl)
include c X G in
theorem hb_range : mg "range" = none := He.free_ok X G (c.d.fact 63 (f := .free "range") rfl)
include c X G in
theorem hb_max : mg "max" = none := He.free_ok X G (c.d.fact 64 (f := .free "max") rfl)
include c X G in
theorem hb_min : mg "min" = none := He.free_ok X G (c.d.fact 65 (f := .free "min") rfl)
include c X G in
theorem hb_len : mg "len" = none := He.free_ok X G (c.d.fact 66 (f := .free "len") rfl)
include c X G in
theorem hb_super : mg "super" = none := He.free_ok X G (c.d.fact 67 (f := .free "super") rfl)
include c X G in
theorem hb_all : mg "all" = none := He.free_ok X G (c.d.fact 68 (f := .free "all") rfl)
include c X G in
theorem hb_enumerate : mg "enumerate" = none := He.free_ok X G (c.d.fact 69 (f := .free "enumerate") rfl)
include c X G in
theorem hb_isinstance : mg "isinstance" = none := He.free_ok X G (c.d.fact 70 (f := .free "isinstance") rfl)
include c X G in
theorem hb_str : mg "str" = none := He.free_ok X G (c.d.fact 71 (f := .free "str") rfl)
include c X G in
theorem hb_tuple : mg "tuple" = none := He.free_ok X G (c.d.fact 72 (f := .free "tuple") rfl)
include c X G in
theorem hb_list : mg "list" = none := He.free_ok X G (c.d.fact 73 (f := .free "list") rfl)
include c X G in
theorem hb_bool : mg "bool" = none := He.free_ok X G (c.d.fact 74 (f := .free "bool") rfl)
include c X G in
theorem hb_int : mg "int" = none := He.free_ok X G (c.d.fact 75 (f := .free "int") rfl)
include c X G in
theorem hb_abs : mg "abs" = none := He.free_ok X G (c.d.fact 76 (f := .free "abs") rfl)
include c X G in
theorem hc_LETTERS : ∃ v u, mg "LETTERS" = some u ∧ RelV v u ∧ ∀ F io, R K (tb K) F io c_LETTERS v := con_ok X G (c.xx 0 (f := fun K => conC K "LETTERS" c_LETTERS) rfl)
include c X G in
theorem hc_WORDS : ∃ v u, mg "WORDS" = some u ∧ RelV v u ∧ ∀ F io, R K (tb K) F io c_WORDS v := con_ok X G (c.xx 1 (f := fun K => conC K "WORDS" c_WORDS) rfl)
include c X G in
theorem hc_MOST_LETTERS : ∃ v u, mg "MOST_LETTERS" = some u ∧ RelV v u ∧ ∀ F io, R K (tb K) F io c_MOST_LETTERS v := con_ok X G (c.xx 2 (f := fun K => conC K "MOST_LETTERS" c_MOST_LETTERS) rfl)
include c X G in
theorem hc_ASSIGNING : ∃ v u, mg "ASSIGNING" = some u ∧ RelV v u ∧ ∀ F io, R K (tb K) F io c_ASSIGNING v := con_ok X G (c.xx 3 (f := fun K => conC K "ASSIGNING" c_ASSIGNING) rfl)
include c X G in
theorem hc_GUARDS : ∃ v u, mg "GUARDS" = some u ∧ RelV v u ∧ ∀ F io, R K (tb K) F io c_GUARDS v := con_ok X G (c.xx 4 (f := fun K => conC K "GUARDS" c_GUARDS) rfl)
include c in
theorem hcl_Param : Cls K (He.ga K "Param") := He.cls_ok (c.d.fact 77 (f := .cls "Param") rfl)
include c in
theorem hmk_Param : Mk K ((tb K).ca 0) (He.ma K (He.ga K "Param") "__init__") := He.mkr_ok (c.d.fact 78 (f := .mkr "Param") rfl)
include c in
theorem hin_Param : InsOk K ((tb K).ca 0) := insB_ok (hcl_Param c) (c.xx 5 (f := fun K => insB K (He.ga K "Param")) rfl)
include c in
theorem hcl_Method : Cls K (He.ga K "Method") := He.cls_ok (c.d.fact 79 (f := .cls "Method") rfl)
include c in
theorem hmk_Method : Mk K ((tb K).ca 1) (He.ma K (He.ga K "Method") "__init__") := He.mkr_ok (c.d.fact 80 (f := .mkr "Method") rfl)
include c in
theorem hin_Method : InsOk K ((tb K).ca 1) := insB_ok (hcl_Method c) (c.xx 6 (f := fun K => insB K (He.ga K "Method")) rfl)
include c in
theorem hR_TooMany : RaiseS P w K (tb K) 7 1 := c.n.raise1 0 (x := XC_TooMany) rfl (j := 7) rfl rfl (f := "what") rfl rfl ⟨rfl, rfl, by decide, rfl, by decide, rfl, rfl⟩ (by decide) (by decide) rfl rfl rfl (fun _ => rfl) (fun _ _ _ _ _ _ _ _ _ => rfl)
include c in
theorem hR_BadRow : RaiseS P w K (tb K) 4 1 := c.n.raise1 1 (x := XC_BadRow) rfl (j := 8) rfl rfl (f := "at") rfl rfl ⟨rfl, rfl, by decide, rfl, by decide, rfl, rfl⟩ (by decide) (by decide) rfl rfl rfl (fun _ => rfl) (fun _ _ _ _ _ _ _ _ _ => rfl)
include c in
theorem hR_BadOrder : RaiseS P w K (tb K) 5 1 := c.n.raise1 2 (x := XC_BadOrder) rfl (j := 9) rfl rfl (f := "name") rfl rfl ⟨rfl, rfl, by decide, rfl, by decide, rfl, rfl⟩ (by decide) (by decide) rfl rfl rfl (fun _ => rfl) (fun _ _ _ _ _ _ _ _ _ => rfl)
include c in
theorem hR_Twice : RaiseS P w K (tb K) 6 1 := c.n.raise1 3 (x := XC_Twice) rfl (j := 10) rfl rfl (f := "name") rfl rfl ⟨rfl, rfl, by decide, rfl, by decide, rfl, rfl⟩ (by decide) (by decide) rfl rfl rfl (fun _ => rfl) (fun _ _ _ _ _ _ _ _ _ => rfl)
include c in
theorem hR_BadName : RaiseS P w K (tb K) 2 1 := c.n.raise1 4 (x := XC_BadName) rfl (j := 11) rfl rfl (f := "name") rfl rfl ⟨rfl, rfl, by decide, rfl, by decide, rfl, rfl⟩ (by decide) (by decide) rfl rfl rfl (fun _ => rfl) (fun _ _ _ _ _ _ _ _ _ => rfl)
include c in
theorem hR_BadParam : RaiseS P w K (tb K) 3 1 := c.n.raise1 5 (x := XC_BadParam) rfl (j := 12) rfl rfl (f := "part") rfl rfl ⟨rfl, rfl, by decide, rfl, by decide, rfl, rfl⟩ (by decide) (by decide) rfl rfl rfl (fun _ => rfl) (fun _ _ _ _ _ _ _ _ _ => rfl)
include c in
theorem hcl_x_BadRow : ∀ q ∈ ([(2, false), (3, false), (4, true), (5, false), (6, false), (7, false)] : List (Nat × Bool)), PySem.W.exmOne K (.ref ((tb K).ca q.1)) (.ref (He.ga K "BadRow")) = some q.2 := exmB_ok (c.xx 13 (f := exmB caN "BadRow" [(2, false), (3, false), (4, true), (5, false), (6, false), (7, false)]) rfl)
include c in
theorem hcl_x_TooMany : ∀ q ∈ ([(2, false), (3, false), (4, false), (5, false), (6, false), (7, true)] : List (Nat × Bool)), PySem.W.exmOne K (.ref ((tb K).ca q.1)) (.ref (He.ga K "TooMany")) = some q.2 := exmB_ok (c.xx 14 (f := exmB caN "TooMany" [(2, false), (3, false), (4, false), (5, false), (6, false), (7, true)]) rfl)
include c in
theorem hcl_x_BadOrder : ∀ q ∈ ([(2, false), (3, false), (4, false), (5, true), (6, false), (7, false)] : List (Nat × Bool)), PySem.W.exmOne K (.ref ((tb K).ca q.1)) (.ref (He.ga K "BadOrder")) = some q.2 := exmB_ok (c.xx 15 (f := exmB caN "BadOrder" [(2, false), (3, false), (4, false), (5, true), (6, false), (7, false)]) rfl)
include c in
theorem hcl_x_Twice : ∀ q ∈ ([(2, false), (3, false), (4, false), (5, false), (6, true), (7, false)] : List (Nat × Bool)), PySem.W.exmOne K (.ref ((tb K).ca q.1)) (.ref (He.ga K "Twice")) = some q.2 := exmB_ok (c.xx 16 (f := exmB caN "Twice" [(2, false), (3, false), (4, false), (5, false), (6, true), (7, false)]) rfl)
include c in
theorem hcl_x_BadName : ∀ q ∈ ([(2, true), (3, false), (4, false), (5, false), (6, false), (7, false)] : List (Nat × Bool)), PySem.W.exmOne K (.ref ((tb K).ca q.1)) (.ref (He.ga K "BadName")) = some q.2 := exmB_ok (c.xx 17 (f := exmB caN "BadName" [(2, true), (3, false), (4, false), (5, false), (6, false), (7, false)]) rfl)
include c in
theorem hxf_BadRow_at : XfC K ((tb K).ca 4) ∧ PySem.W.findIn K (.ref ((tb K).ca 4)) "at" = some none := xfB1_ok (c.xx 18 (f := fun K => xfB1 K "BadRow" "at") rfl)
include c in
theorem hxf_TooMany_what : XfC K ((tb K).ca 7) ∧ PySem.W.findIn K (.ref ((tb K).ca 7)) "what" = some none := xfB1_ok (c.xx 19 (f := fun K => xfB1 K "TooMany" "what") rfl)
include c in
theorem hxf_BadOrder_name : XfC K ((tb K).ca 5) ∧ PySem.W.findIn K (.ref ((tb K).ca 5)) "name" = some none := xfB1_ok (c.xx 20 (f := fun K => xfB1 K "BadOrder" "name") rfl)
include c in
theorem hxf_Twice_name : XfC K ((tb K).ca 6) ∧ PySem.W.findIn K (.ref ((tb K).ca 6)) "name" = some none := xfB1_ok (c.xx 21 (f := fun K => xfB1 K "Twice" "name") rfl)
include c in
theorem hxf_BadName_name : XfC K ((tb K).ca 2) ∧ PySem.W.findIn K (.ref ((tb K).ca 2)) "name" = some none := xfB1_ok (c.xx 22 (f := fun K => xfB1 K "BadName" "name") rfl)
include c in
theorem hcc_MOST_ROWS : ∀ q ∈ cc_MOST_ROWS, ConS K (tb K) "MOST_ROWS" q.1 q.2 := by
  intro q hq
  simp only [cc_MOST_ROWS, List.mem_cons, List.not_mem_nil, or_false] at hq
  rcases hq with rfl
  · exact ⟨hcl_Method c, ccB_ok (c.xx 23 (f := ccB "Method" "MOST_ROWS" 8) rfl), (show ¬ ("MOST_ROWS" : Str) ∈ flN.getD 1 [] by decide)⟩
include c in
theorem hcc_MOST_BOXES : ∀ q ∈ cc_MOST_BOXES, ConS K (tb K) "MOST_BOXES" q.1 q.2 := by
  intro q hq
  simp only [cc_MOST_BOXES, List.mem_cons, List.not_mem_nil, or_false] at hq
  rcases hq with rfl
  · exact ⟨hcl_Method c, ccB_ok (c.xx 24 (f := ccB "Method" "MOST_BOXES" 2) rfl), (show ¬ ("MOST_BOXES" : Str) ∈ flN.getD 1 [] by decide)⟩
include c in
theorem hcc_MOST_PARAMS : ∀ q ∈ cc_MOST_PARAMS, ConS K (tb K) "MOST_PARAMS" q.1 q.2 := by
  intro q hq
  simp only [cc_MOST_PARAMS, List.mem_cons, List.not_mem_nil, or_false] at hq
  rcases hq with rfl
  · exact ⟨hcl_Method c, ccB_ok (c.xx 25 (f := ccB "Method" "MOST_PARAMS" 4) rfl), (show ¬ ("MOST_PARAMS" : Str) ∈ flN.getD 1 [] by decide)⟩
include c X G in
theorem hdc_TEST_PARTS : ∃ a, mg "TEST_PARTS" = some (.ref a) ∧ ∀ h', K.In h' → KTD.TabOf (fun (d : PV) v => okC K d v = true) h' a (dc_TEST_PARTS.map fun p => (St8 p.1, p.2)) := dicB_ok X G (c.xx 26 (f := dicB "TEST_PARTS" dc_TEST_PARTS) rfl)
include c X G in
theorem hdc_PLAIN_PARTS : ∃ a, mg "PLAIN_PARTS" = some (.ref a) ∧ ∀ h', K.In h' → KTD.TabOf (fun (d : PV) v => okC K d v = true) h' a (dc_PLAIN_PARTS.map fun p => (St8 p.1, p.2)) := dicB_ok X G (c.xx 27 (f := dicB "PLAIN_PARTS" dc_PLAIN_PARTS) rfl)
include c in
theorem hcm_Method_of : ClX.CRead K ((tb K).ca 1) (.type "type") ∧ ClX.CMet K ((tb K).ca 1) (.type "type") "of" (He.ma K (He.ga K "Method") "of") (He5.wf K (He.ga K "Method") "classmethod" "of") := cmB_ok (c.xx 28 (f := cmB "Method" "of") rfl)
include c in
theorem hf_rows_Method : FldS K (tb K) "rows" 1 2 := ⟨hcl_Method c, He.noat_ok (c.d.fact 81 (f := .noat "Method" "rows") rfl), (show (flN.getD 1 [])[2]? = some _ by decide), (show (flN.getD 1 []).Nodup by decide), (show (flN.getD 1 []).length ≤ 40 by decide)⟩
include c in
theorem hf_rows : ∀ q ∈ t_rows, FldS K (tb K) "rows" q.1 q.2 := by
  intro q hq
  simp only [t_rows, List.mem_cons, List.not_mem_nil, or_false] at hq
  rcases hq with rfl
  · exact hf_rows_Method c
include c in
theorem hf_returns_Method : FldS K (tb K) "returns" 1 3 := ⟨hcl_Method c, He.noat_ok (c.d.fact 82 (f := .noat "Method" "returns") rfl), (show (flN.getD 1 [])[3]? = some _ by decide), (show (flN.getD 1 []).Nodup by decide), (show (flN.getD 1 []).length ≤ 40 by decide)⟩
include c in
theorem hf_returns : ∀ q ∈ t_returns, FldS K (tb K) "returns" q.1 q.2 := by
  intro q hq
  simp only [t_returns, List.mem_cons, List.not_mem_nil, or_false] at hq
  rcases hq with rfl
  · exact hf_returns_Method c
include c in
theorem hf_params_Method : FldS K (tb K) "params" 1 1 := ⟨hcl_Method c, He.noat_ok (c.d.fact 83 (f := .noat "Method" "params") rfl), (show (flN.getD 1 [])[1]? = some _ by decide), (show (flN.getD 1 []).Nodup by decide), (show (flN.getD 1 []).length ≤ 40 by decide)⟩
include c in
theorem hf_params : ∀ q ∈ t_params, FldS K (tb K) "params" q.1 q.2 := by
  intro q hq
  simp only [t_params, List.mem_cons, List.not_mem_nil, or_false] at hq
  rcases hq with rfl
  · exact hf_params_Method c
include c in
theorem hf_name_Param : FldS K (tb K) "name" 0 0 := ⟨hcl_Param c, He.noat_ok (c.d.fact 84 (f := .noat "Param" "name") rfl), (show (flN.getD 0 [])[0]? = some _ by decide), (show (flN.getD 0 []).Nodup by decide), (show (flN.getD 0 []).length ≤ 40 by decide)⟩
include c in
theorem hf_name_Method : FldS K (tb K) "name" 1 0 := ⟨hcl_Method c, He.noat_ok (c.d.fact 85 (f := .noat "Method" "name") rfl), (show (flN.getD 1 [])[0]? = some _ by decide), (show (flN.getD 1 []).Nodup by decide), (show (flN.getD 1 []).length ≤ 40 by decide)⟩
include c in
theorem hf_name : ∀ q ∈ t_name, FldS K (tb K) "name" q.1 q.2 := by
  intro q hq
  simp only [t_name, List.mem_cons, List.not_mem_nil, or_false] at hq
  rcases hq with rfl | rfl
  · exact hf_name_Param c
  · exact hf_name_Method c
include c in
theorem hf_holds_Param : FldS K (tb K) "holds" 0 1 := ⟨hcl_Param c, He.noat_ok (c.d.fact 86 (f := .noat "Param" "holds") rfl), (show (flN.getD 0 [])[1]? = some _ by decide), (show (flN.getD 0 []).Nodup by decide), (show (flN.getD 0 []).length ≤ 40 by decide)⟩
include c in
theorem hf_holds : ∀ q ∈ t_holds, FldS K (tb K) "holds" q.1 q.2 := by
  intro q hq
  simp only [t_holds, List.mem_cons, List.not_mem_nil, or_false] at hq
  rcases hq with rfl
  · exact hf_holds_Param c
include c in
theorem hf_named_Param : FldS K (tb K) "named" 0 3 := ⟨hcl_Param c, He.noat_ok (c.d.fact 87 (f := .noat "Param" "named") rfl), (show (flN.getD 0 [])[3]? = some _ by decide), (show (flN.getD 0 []).Nodup by decide), (show (flN.getD 0 []).length ≤ 40 by decide)⟩
include c in
theorem hf_named : ∀ q ∈ t_named, FldS K (tb K) "named" q.1 q.2 := by
  intro q hq
  simp only [t_named, List.mem_cons, List.not_mem_nil, or_false] at hq
  rcases hq with rfl
  · exact hf_named_Param c
include c in
theorem hf_default_Param : FldS K (tb K) "default" 0 2 := ⟨hcl_Param c, He.noat_ok (c.d.fact 88 (f := .noat "Param" "default") rfl), (show (flN.getD 0 [])[2]? = some _ by decide), (show (flN.getD 0 []).Nodup by decide), (show (flN.getD 0 []).length ≤ 40 by decide)⟩
include c in
theorem hf_default : ∀ q ∈ t_default, FldS K (tb K) "default" q.1 q.2 := by
  intro q hq
  simp only [t_default, List.mem_cons, List.not_mem_nil, or_false] at hq
  rcases hq with rfl
  · exact hf_default_Param c
include c in
theorem hIns : ∀ n, n < 2 → InsOk K ((tb K).ca n) := by
  intro n hn
  match n, hn with
  | 0, _ => exact hin_Param c
  | 1, _ => exact hin_Method c
include c in
theorem hIsi : IsiS K (tb K) isiT := by
  intro e he
  have h1 := List.all_eq_true.mp (c.xx 29 (f := kitB2 caN isiT) rfl) e he
  refine ⟨by rw [tgA_eq, tgA_eq]; exact of_decide_eq_true h1, fun n hn => ?_⟩
  have h2 : isiT.all (fun e => match e.1.1 with
    | .c n => decide (n < 2)
    | _ => true) = true := by decide
  have h3 := List.all_eq_true.mp h2 e he
  rw [hn] at h3
  exact hIns c n (of_decide_eq_true h3)
theorem sc_test_variables : FnScope N_test_variables ["test"] (defScope s_test_variables) := ⟨rfl, rfl, rfl, by decide +kernel, rfl, by decide +kernel, by decide +kernel⟩
include c X G in
theorem ok_test_variables {fd : FuncData} (F : FunD K D_test_variables.name D_test_variables.qual D_test_variables.params D_test_variables.body D_test_variables.scope (D_test_variables.dvs K) (D_test_variables.kws K) (He.fAd K D_test_variables.at_) fd) : FnOk P w K mg h (L2.CX P w) 1 (He.fAd K D_test_variables.at_) fd ["test"] (spM K (tb K) 1 (d_test_variables)) :=
  fn_ok F sc_test_variables finV_ok rfl fun cdv A outer s H E hr =>
    (ms_one (ms_ret (me_if (qe_cmp (sop_eq (ru hr)) (me_idx (me_var 0 (pv 0)) me_int (fun _ _ => rfl)) (me_str rfl) (nomark _)) (me_slice (me_var 0 (pv 0)) (mo_some me_int) mo_none) (me_slice (me_var 0 (pv 0)) (mo_some me_int) mo_none))))
include c X G in
theorem fs_test_variables : FnS P w K mg h (tb K) 1 (He.fAd K D_test_variables.at_) 1 [] (fun vs _ => d_test_variables vs) := by
  obtain ⟨fd, F⟩ := c.d.def_ 0 (d := D_test_variables) rfl
  exact ⟨fd, _, _, _, ok_test_variables c X G F, callS_plain F rfl (fun _ _ _ _ _ _ us hl => match us, hl with | [_], _ => rfl), rfl⟩
theorem sc_is_name : FnScope N_is_name ["thing"] (defScope s_is_name) := ⟨rfl, rfl, rfl, by decide +kernel, rfl, by decide +kernel, by decide +kernel⟩
include c X G in
theorem ok_is_name {fd : FuncData} (F : FunD K D_is_name.name D_is_name.qual D_is_name.params D_is_name.body D_is_name.scope (D_is_name.dvs K) (D_is_name.kws K) (He.fAd K D_is_name.at_) fd) : FnOk P w K mg h (L2.CX P w) 1 (He.fAd K D_is_name.at_) fd ["thing"] (spM K (tb K) 1 (d_is_name)) :=
  fn_ok F sc_is_name finV_ok rfl fun cdv A outer s H E hr =>
    (ms_cons (ms_if (PW.pt (qw_or (qe_not (qe_of (me_blt (scr_isi (hIsi c)) rfl (hb_isinstance c X G) rfl (ma_cons (me_var 0 (pv 0)) (ma_cons (me_bty (n := "str") rfl (hb_str c X G) rfl) ma_nil))))) (qw_or1 (qe_not (qe_chain sop_le sop_le me_int (me_blt scr_len rfl (hb_len c X G) rfl (ma_cons (me_var 0 (pv 0)) ma_nil)) (me_con rfl (hc_MOST_LETTERS c X G))))))) (ms_one (ms_ret me_bl)) ms_nil) (ms_one (ms_ret (me_and (me_cmp (sop_notIn (ru hr)) (me_var 0 (pv 0)) (me_con rfl (hc_WORDS c X G)) (by with_unfolding_all rfl)) (me_and1 (me_blt (scr_all rfl) rfl (hb_all c X G) rfl (ma_cons (me_fresh (mf_comp (own := [("sign", 1)]) rfl sc_is_name.nd (mi_seq (me_var 0 (pv 0))) (show BlkOk N_is_name (defScope s_is_name) _ [("sign", 1)] from ⟨rfl, by decide +kernel, by decide +kernel, by decide +kernel, by decide +kernel⟩) (fun _ _ _ _ _ => pg_name sc_is_name.nd rfl (Or.inl rfl)) (gin_name (by decide)) (fun _ _ _ _ _ => pts0) (fun _ _ _ _ _ => (me_cmp (sop_in (ru hr)) (me_var 1 (pv 1)) (me_con rfl (hc_LETTERS c X G)) (by with_unfolding_all rfl))))) ma_nil)))))))
include c X G in
theorem fs_is_name : FnS P w K mg h (tb K) 1 (He.fAd K D_is_name.at_) 1 [] (fun vs _ => d_is_name vs) := by
  obtain ⟨fd, F⟩ := c.d.def_ 1 (d := D_is_name) rfl
  exact ⟨fd, _, _, _, ok_is_name c X G F, callS_plain F rfl (fun _ _ _ _ _ _ us hl => match us, hl with | [_], _ => rfl), rfl⟩
theorem sc_is_owner : FnScope N_is_owner ["thing"] (defScope s_is_owner) := ⟨rfl, rfl, rfl, by decide +kernel, rfl, by decide +kernel, by decide +kernel⟩
include c X G in
theorem ok_is_owner {fd : FuncData} (F : FunD K D_is_owner.name D_is_owner.qual D_is_owner.params D_is_owner.body D_is_owner.scope (D_is_owner.dvs K) (D_is_owner.kws K) (He.fAd K D_is_owner.at_) fd) : FnOk P w K mg h (L2.CX P w) 2 (He.fAd K D_is_owner.at_) fd ["thing"] (spM K (tb K) 1 (d_is_owner)) :=
  fn_ok F sc_is_owner finV_ok rfl fun cdv A outer s H E hr =>
    (ms_one (ms_ret (me_or (me_call (fs_is_name (w := w) (P := P) c X G) (hr.mono (by decide)) takesB rfl (hg_is_name c X G) (hk_is_name c) (ma_cons (me_var 0 (pv 0)) ma_nil) (len_cons len_nil) mk_nil len_nil) (me_or1 (me_and (me_blt (scr_isi (hIsi c)) rfl (hb_isinstance c X G) rfl (ma_cons (me_var 0 (pv 0)) (ma_cons (me_bty (n := "str") rfl (hb_str c X G) rfl) ma_nil))) (me_and1 (me_cmp (sop_eq (ru hr)) (me_var 0 (pv 0)) (me_str rfl) (nomark _))))))))
include c X G in
theorem fs_is_owner : FnS P w K mg h (tb K) 2 (He.fAd K D_is_owner.at_) 1 [] (fun vs _ => d_is_owner vs) := by
  obtain ⟨fd, F⟩ := c.d.def_ 2 (d := D_is_owner) rfl
  exact ⟨fd, _, _, _, ok_is_owner c X G F, callS_plain F rfl (fun _ _ _ _ _ _ us hl => match us, hl with | [_], _ => rfl), rfl⟩
theorem sc_are_items : FnScope N_are_items ["thing"] (defScope s_are_items) := ⟨rfl, rfl, rfl, by decide +kernel, rfl, by decide +kernel, by decide +kernel⟩
include c X G in
theorem ok_are_items {fd : FuncData} (F : FunD K D_are_items.name D_are_items.qual D_are_items.params D_are_items.body D_are_items.scope (D_are_items.dvs K) (D_are_items.kws K) (He.fAd K D_are_items.at_) fd) : FnOk P w K mg h (L2.CX P w) 2 (He.fAd K D_are_items.at_) fd ["thing"] (spM K (tb K) 1 (d_are_items)) :=
  fn_ok F sc_are_items finV_ok rfl fun cdv A outer s H E hr =>
    (ms_cons (ms_if (PW.pt (qw_or (qe_not (qe_of (me_blt (scr_isi (hIsi c)) rfl (hb_isinstance c X G) rfl (ma_cons (me_var 0 (pv 0)) (ma_cons (me_bty (n := "tuple") rfl (hb_tuple c X G) rfl) ma_nil))))) (qw_or1 (qe_not (qe_of (me_blt (scr_all rfl) rfl (hb_all c X G) rfl (ma_cons (me_fresh (mf_comp (own := [("one", 2)]) rfl sc_are_items.nd (mi_seq (me_var 0 (pv 0))) (show BlkOk N_are_items (defScope s_are_items) _ [("one", 2)] from ⟨rfl, by decide +kernel, by decide +kernel, by decide +kernel, by decide +kernel⟩) (fun _ _ _ _ _ => pg_name sc_are_items.nd rfl (Or.inl rfl)) (gin_name (by decide)) (fun _ _ _ _ _ => pts0) (fun _ _ _ _ _ => (me_call (fs_is_name (w := w) (P := P) c X G) (hr.mono (by decide)) tkz0 rfl (hg_is_name c X G) (hk_is_name c) (ma_cons (me_var 2 (pv 2)) ma_nil) (len_cons len_nil) mk_nil len_nil)))) ma_nil))))))) (ms_one (ms_ret me_bl)) ms_nil) (ms_one (ms_ret (me_blt (scr_all rfl) rfl (hb_all c X G) rfl (ma_cons (me_fresh (mf_comp (own := [("at", 1)]) rfl sc_are_items.nd (mi_range1 rfl (hb_range c X G) (me_op2 sop_sub (me_blt scr_len rfl (hb_len c X G) rfl (ma_cons (me_var 0 (pv 0)) ma_nil)) me_int)) (show BlkOk N_are_items (defScope s_are_items) _ [("at", 1)] from ⟨rfl, by decide +kernel, by decide +kernel, by decide +kernel, by decide +kernel⟩) (fun _ _ _ _ _ => pg_name sc_are_items.nd rfl (Or.inl rfl)) (gin_name (by decide)) (fun _ _ _ _ _ => pts0) (fun _ _ _ _ _ => (me_cmp sop_lt (me_idx (me_var 0 (pv 0)) (me_var 1 (pv 1)) (fun _ _ => rfl)) (me_idx (me_var 0 (pv 0)) (me_op2 sop_add (me_var 1 (pv 1)) me_int) (fun _ _ => rfl)) (nomark _))))) ma_nil)))))
include c X G in
theorem fs_are_items : FnS P w K mg h (tb K) 2 (He.fAd K D_are_items.at_) 1 [] (fun vs _ => d_are_items vs) := by
  obtain ⟨fd, F⟩ := c.d.def_ 3 (d := D_are_items) rfl
  exact ⟨fd, _, _, _, ok_are_items c X G F, callS_plain F rfl (fun _ _ _ _ _ _ us hl => match us, hl with | [_], _ => rfl), rfl⟩
theorem sc_part_fits : FnScope N_part_fits ["part", "thing"] (defScope s_part_fits) := ⟨rfl, rfl, rfl, by decide +kernel, rfl, by decide +kernel, by decide +kernel⟩
include c X G in
theorem ok_part_fits {fd : FuncData} (F : FunD K D_part_fits.name D_part_fits.qual D_part_fits.params D_part_fits.body D_part_fits.scope (D_part_fits.dvs K) (D_part_fits.kws K) (He.fAd K D_part_fits.at_) fd) : FnOk P w K mg h (L2.CX P w) 3 (He.fAd K D_part_fits.at_) fd ["part", "thing"] (spM K (tb K) 2 (d_part_fits)) :=
  fn_ok F sc_part_fits finV_ok rfl fun cdv A outer s H E hr =>
    (ms_cons (ms_if (qe_cmp (sop_eq (ru hr)) (me_var 0 (pv 0)) (me_str rfl) (nomark _)) (ms_one (ms_ret (me_call (fs_are_items (w := w) (P := P) c X G) (hr.mono (by decide)) takesB rfl (hg_are_items c X G) (hk_are_items c) (ma_cons (me_var 1 (pv 1)) ma_nil) (len_cons len_nil) mk_nil len_nil))) ms_nil) (ms_cons (ms_if (qe_cmp (sop_eq (ru hr)) (me_var 0 (pv 0)) (me_str rfl) (nomark _)) (ms_one (ms_ret (me_call (fs_is_owner (w := w) (P := P) c X G) (hr.mono (by decide)) takesB rfl (hg_is_owner c X G) (hk_is_owner c) (ma_cons (me_var 1 (pv 1)) ma_nil) (len_cons len_nil) mk_nil len_nil))) ms_nil) (ms_one (ms_ret (me_call (fs_is_name (w := w) (P := P) c X G) (hr.mono (by decide)) takesB rfl (hg_is_name c X G) (hk_is_name c) (ma_cons (me_var 1 (pv 1)) ma_nil) (len_cons len_nil) mk_nil len_nil)))))
include c X G in
theorem fs_part_fits : FnS P w K mg h (tb K) 3 (He.fAd K D_part_fits.at_) 2 [] (fun vs _ => d_part_fits vs) := by
  obtain ⟨fd, F⟩ := c.d.def_ 4 (d := D_part_fits) rfl
  exact ⟨fd, _, _, _, ok_part_fits c X G F, callS_plain F rfl (fun _ _ _ _ _ _ us hl => match us, hl with | [_, _], _ => rfl), rfl⟩
theorem sc_parts_fit : FnScope N_parts_fit ["parts", "thing"] (defScope s_parts_fit) := ⟨rfl, rfl, rfl, by decide +kernel, rfl, by decide +kernel, by decide +kernel⟩
include c X G in
theorem ok_parts_fit {fd : FuncData} (F : FunD K D_parts_fit.name D_parts_fit.qual D_parts_fit.params D_parts_fit.body D_parts_fit.scope (D_parts_fit.dvs K) (D_parts_fit.kws K) (He.fAd K D_parts_fit.at_) fd) : FnOk P w K mg h (L2.CX P w) 4 (He.fAd K D_parts_fit.at_) fd ["parts", "thing"] (spM K (tb K) 2 (d_parts_fit)) :=
  fn_ok F sc_parts_fit finV_ok rfl fun cdv A outer s H E hr =>
    (ms_cons (ms_if (PW.pt (qw_or (qe_isN (me_var 0 (pv 0))) (qw_or1 (qe_cmp (sop_ne (ru hr)) (me_blt scr_len rfl (hb_len c X G) rfl (ma_cons (me_var 1 (pv 1)) ma_nil)) (me_op2 sop_add (me_blt scr_len rfl (hb_len c X G) rfl (ma_cons (me_var 0 (pv 0)) ma_nil)) me_int) (nomark _))))) (ms_one (ms_ret me_bl)) ms_nil) (ms_one (ms_ret (me_blt (scr_all rfl) rfl (hb_all c X G) rfl (ma_cons (me_fresh (mf_comp (own := [("at", 2), ("part", 3)]) rfl sc_parts_fit.nd (mi_enum rfl (hb_enumerate c X G) (me_var 0 (pv 0))) (show BlkOk N_parts_fit (defScope s_parts_fit) _ [("at", 2), ("part", 3)] from ⟨rfl, by decide +kernel, by decide +kernel, by decide +kernel, by decide +kernel⟩) (fun _ _ _ _ _ => pg_tup rfl (pgs_cons (pg_name sc_parts_fit.nd rfl (Or.inl rfl)) (pgs_cons (pg_name sc_parts_fit.nd rfl (Or.inl rfl)) pgs_nil)) rfl rfl) (gin_tup (js := [2, 3]) rfl (by decide)) (fun _ _ _ _ _ => pts0) (fun _ _ _ _ _ => (me_call (fs_part_fits (w := w) (P := P) c X G) (hr.mono (by decide)) tkz0 rfl (hg_part_fits c X G) (hk_part_fits c) (ma_cons (me_var 3 (pv 3)) (ma_cons (me_idx (me_var 1 (pv 1)) (me_op2 sop_add (me_var 2 (pv 2)) me_int) (fun _ _ => rfl)) ma_nil)) (len_cons (len_cons len_nil)) mk_nil len_nil)))) ma_nil)))))
include c X G in
theorem fs_parts_fit : FnS P w K mg h (tb K) 4 (He.fAd K D_parts_fit.at_) 2 [] (fun vs _ => d_parts_fit vs) := by
  obtain ⟨fd, F⟩ := c.d.def_ 5 (d := D_parts_fit) rfl
  exact ⟨fd, _, _, _, ok_parts_fit c X G F, callS_plain F rfl (fun _ _ _ _ _ _ us hl => match us, hl with | [_, _], _ => rfl), rfl⟩
theorem sc_has_word : FnScope N_has_word ["thing"] (defScope s_has_word) := ⟨rfl, rfl, rfl, by decide +kernel, rfl, by decide +kernel, by decide +kernel⟩
include c X G in
theorem ok_has_word {fd : FuncData} (F : FunD K D_has_word.name D_has_word.qual D_has_word.params D_has_word.body D_has_word.scope (D_has_word.dvs K) (D_has_word.kws K) (He.fAd K D_has_word.at_) fd) : FnOk P w K mg h (L2.CX P w) 1 (He.fAd K D_has_word.at_) fd ["thing"] (spM K (tb K) 1 (d_has_word)) :=
  fn_ok F sc_has_word finV_ok rfl fun cdv A outer s H E hr =>
    (ms_one (ms_ret (me_and (me_blt (scr_isi (hIsi c)) rfl (hb_isinstance c X G) rfl (ma_cons (me_var 0 (pv 0)) (ma_cons (me_bty (n := "tuple") rfl (hb_tuple c X G) rfl) ma_nil))) (me_and (me_cmp sop_gt (me_blt scr_len rfl (hb_len c X G) rfl (ma_cons (me_var 0 (pv 0)) ma_nil)) me_int (nomark _)) (me_and1 (me_blt (scr_isi (hIsi c)) rfl (hb_isinstance c X G) rfl (ma_cons (me_idx (me_var 0 (pv 0)) me_int (fun _ _ => rfl)) (ma_cons (me_bty (n := "str") rfl (hb_str c X G) rfl) ma_nil))))))))
include c X G in
theorem fs_has_word : FnS P w K mg h (tb K) 1 (He.fAd K D_has_word.at_) 1 [] (fun vs _ => d_has_word vs) := by
  obtain ⟨fd, F⟩ := c.d.def_ 6 (d := D_has_word) rfl
  exact ⟨fd, _, _, _, ok_has_word c X G F, callS_plain F rfl (fun _ _ _ _ _ _ us hl => match us, hl with | [_], _ => rfl), rfl⟩
theorem sc_is_test : FnScope N_is_test ["thing"] (defScope s_is_test) := ⟨rfl, rfl, rfl, by decide +kernel, rfl, by decide +kernel, by decide +kernel⟩
include c X G in
theorem ok_is_test {fd : FuncData} (F : FunD K D_is_test.name D_is_test.qual D_is_test.params D_is_test.body D_is_test.scope (D_is_test.dvs K) (D_is_test.kws K) (He.fAd K D_is_test.at_) fd) : FnOk P w K mg h (L2.CX P w) 5 (He.fAd K D_is_test.at_) fd ["thing"] (spM K (tb K) 1 (d_is_test)) :=
  fn_ok F sc_is_test finV_ok rfl fun cdv A outer s H E hr =>
    (ms_one (ms_ret (me_and (me_call (fs_has_word (w := w) (P := P) c X G) (hr.mono (by decide)) takesB rfl (hg_has_word c X G) (hk_has_word c) (ma_cons (me_var 0 (pv 0)) ma_nil) (len_cons len_nil) mk_nil len_nil) (me_and1 (me_call (fs_parts_fit (w := w) (P := P) c X G) (hr.mono (by decide)) takesB rfl (hg_parts_fit c X G) (hk_parts_fit c) (ma_cons (me_dget rfl (hdc_TEST_PARTS c X G) (me_idx (me_var 0 (pv 0)) me_int (fun _ _ => rfl)) ⟨rfl, rfl, rfl, rfl⟩) (ma_cons (me_var 0 (pv 0)) ma_nil)) (len_cons (len_cons len_nil)) mk_nil len_nil)))))
include c X G in
theorem fs_is_test : FnS P w K mg h (tb K) 5 (He.fAd K D_is_test.at_) 1 [] (fun vs _ => d_is_test vs) := by
  obtain ⟨fd, F⟩ := c.d.def_ 7 (d := D_is_test) rfl
  exact ⟨fd, _, _, _, ok_is_test c X G F, callS_plain F rfl (fun _ _ _ _ _ _ us hl => match us, hl with | [_], _ => rfl), rfl⟩
theorem sc_is_result : FnScope N_is_result ["thing"] (defScope s_is_result) := ⟨rfl, rfl, rfl, by decide +kernel, rfl, by decide +kernel, by decide +kernel⟩
include c X G in
theorem ok_is_result {fd : FuncData} (F : FunD K D_is_result.name D_is_result.qual D_is_result.params D_is_result.body D_is_result.scope (D_is_result.dvs K) (D_is_result.kws K) (He.fAd K D_is_result.at_) fd) : FnOk P w K mg h (L2.CX P w) 6 (He.fAd K D_is_result.at_) fd ["thing"] (spM K (tb K) 1 (d_is_result)) :=
  fn_ok F sc_is_result finV_ok rfl fun cdv A outer s H E hr =>
    (ms_cons (ms_if (qe_not (qe_of (me_call (fs_has_word (w := w) (P := P) c X G) (hr.mono (by decide)) takesB rfl (hg_has_word c X G) (hk_has_word c) (ma_cons (me_var 0 (pv 0)) ma_nil) (len_cons len_nil) mk_nil len_nil))) (ms_one (ms_ret me_bl)) ms_nil) (ms_cons (ms_if (qe_cmp (sop_eq (ru hr)) (me_idx (me_var 0 (pv 0)) me_int (fun _ _ => rfl)) (me_str rfl) (nomark _)) (ms_one (ms_ret (me_cmp (sop_eq (ru hr)) (me_blt scr_len rfl (hb_len c X G) rfl (ma_cons (me_var 0 (pv 0)) ma_nil)) me_int (nomark _)))) ms_nil) (ms_cons (ms_if (qe_cmp (sop_in (ru hr)) (me_idx (me_var 0 (pv 0)) me_int (fun _ _ => rfl)) (me_tup (ma_cons (me_str rfl) (ma_cons (me_str rfl) ma_nil)) (len_cons (len_cons len_nil))) (by with_unfolding_all rfl)) (ms_one (ms_ret (me_and (me_cmp (sop_eq (ru hr)) (me_blt scr_len rfl (hb_len c X G) rfl (ma_cons (me_var 0 (pv 0)) ma_nil)) me_int (nomark _)) (me_and1 (me_call (fs_is_name (w := w) (P := P) c X G) (hr.mono (by decide)) takesB rfl (hg_is_name c X G) (hk_is_name c) (ma_cons (me_idx (me_var 0 (pv 0)) me_int (fun _ _ => rfl)) ma_nil) (len_cons len_nil) mk_nil len_nil))))) ms_nil) (ms_one (ms_ret (me_and (me_cmp (sop_eq (ru hr)) (me_idx (me_var 0 (pv 0)) me_int (fun _ _ => rfl)) (me_str rfl) (nomark _)) (me_and (me_cmp (sop_eq (ru hr)) (me_blt scr_len rfl (hb_len c X G) rfl (ma_cons (me_var 0 (pv 0)) ma_nil)) me_int (nomark _)) (me_and1 (me_call (fs_is_test (w := w) (P := P) c X G) (hr.mono (by decide)) takesB rfl (hg_is_test c X G) (hk_is_test c) (ma_cons (me_idx (me_var 0 (pv 0)) me_int (fun _ _ => rfl)) ma_nil) (len_cons len_nil) mk_nil len_nil)))))))))
include c X G in
theorem fs_is_result : FnS P w K mg h (tb K) 6 (He.fAd K D_is_result.at_) 1 [] (fun vs _ => d_is_result vs) := by
  obtain ⟨fd, F⟩ := c.d.def_ 8 (d := D_is_result) rfl
  exact ⟨fd, _, _, _, ok_is_result c X G F, callS_plain F rfl (fun _ _ _ _ _ _ us hl => match us, hl with | [_], _ => rfl), rfl⟩
theorem sc_result_fits : FnScope N_result_fits ["usable", "result"] (defScope s_result_fits) := ⟨rfl, rfl, rfl, by decide +kernel, rfl, by decide +kernel, by decide +kernel⟩
include c X G in
theorem ok_result_fits {fd : FuncData} (F : FunD K D_result_fits.name D_result_fits.qual D_result_fits.params D_result_fits.body D_result_fits.scope (D_result_fits.dvs K) (D_result_fits.kws K) (He.fAd K D_result_fits.at_) fd) : FnOk P w K mg h (L2.CX P w) 7 (He.fAd K D_result_fits.at_) fd ["usable", "result"] (spM K (tb K) 2 (d_result_fits)) :=
  fn_ok F sc_result_fits finV_ok rfl fun cdv A outer s H E hr =>
    (ms_cons (ms_if (qe_not (qe_of (me_call (fs_is_result (w := w) (P := P) c X G) (hr.mono (by decide)) takesB rfl (hg_is_result c X G) (hk_is_result c) (ma_cons (me_var 1 (pv 1)) ma_nil) (len_cons len_nil) mk_nil len_nil))) (ms_one (ms_ret me_bl)) ms_nil) (ms_cons (ms_if (qe_cmp (sop_eq (ru hr)) (me_idx (me_var 1 (pv 1)) me_int (fun _ _ => rfl)) (me_str rfl) (nomark _)) (ms_one (ms_ret (me_blt (scr_all rfl) rfl (hb_all c X G) rfl (ma_cons (me_fresh (mf_comp (own := [("name", 2)]) rfl sc_result_fits.nd (mi_seq (me_call (fs_test_variables (w := w) (P := P) c X G) (hr.mono (by decide)) takesB rfl (hg_test_variables c X G) (hk_test_variables c) (ma_cons (me_idx (me_var 1 (pv 1)) me_int (fun _ _ => rfl)) ma_nil) (len_cons len_nil) mk_nil len_nil)) (show BlkOk N_result_fits (defScope s_result_fits) _ [("name", 2)] from ⟨rfl, by decide +kernel, by decide +kernel, by decide +kernel, by decide +kernel⟩) (fun _ _ _ _ _ => pg_name sc_result_fits.nd rfl (Or.inl rfl)) (gin_name (by decide)) (fun _ _ _ _ _ => pts0) (fun _ _ _ _ _ => (me_cmp (sop_in (ru hr)) (me_var 2 (pv 2)) (me_var 0 (pv 0)) (by with_unfolding_all rfl))))) ma_nil)))) ms_nil) (ms_one (ms_ret (me_blt (scr_all rfl) rfl (hb_all c X G) rfl (ma_cons (me_fresh (mf_comp (own := [("name", 2)]) rfl sc_result_fits.nd (mi_seq (me_slice (me_var 1 (pv 1)) (mo_some me_int) mo_none)) (show BlkOk N_result_fits (defScope s_result_fits) _ [("name", 2)] from ⟨rfl, by decide +kernel, by decide +kernel, by decide +kernel, by decide +kernel⟩) (fun _ _ _ _ _ => pg_name sc_result_fits.nd rfl (Or.inl rfl)) (gin_name (by decide)) (fun _ _ _ _ _ => pts0) (fun _ _ _ _ _ => (me_cmp (sop_in (ru hr)) (me_var 2 (pv 2)) (me_var 0 (pv 0)) (by with_unfolding_all rfl))))) ma_nil))))))
include c X G in
theorem fs_result_fits : FnS P w K mg h (tb K) 7 (He.fAd K D_result_fits.at_) 2 [] (fun vs _ => d_result_fits vs) := by
  obtain ⟨fd, F⟩ := c.d.def_ 9 (d := D_result_fits) rfl
  exact ⟨fd, _, _, _, ok_result_fits c X G F, callS_plain F rfl (fun _ _ _ _ _ _ us hl => match us, hl with | [_, _], _ => rfl), rfl⟩
theorem sc_used_variables : FnScope N_used_variables ["plain"] (defScope s_used_variables) := ⟨rfl, rfl, rfl, by decide +kernel, rfl, by decide +kernel, by decide +kernel⟩
include c X G in
theorem ok_used_variables {fd : FuncData} (F : FunD K D_used_variables.name D_used_variables.qual D_used_variables.params D_used_variables.body D_used_variables.scope (D_used_variables.dvs K) (D_used_variables.kws K) (He.fAd K D_used_variables.at_) fd) : FnOk P w K mg h (L2.CX P w) 1 (He.fAd K D_used_variables.at_) fd ["plain"] (spM K (tb K) 1 (d_used_variables)) :=
  fn_ok F sc_used_variables finV_ok rfl fun cdv A outer s H E hr =>
    (ms_cons (ms_if (qe_cmp (sop_in (ru hr)) (me_idx (me_var 0 (pv 0)) me_int (fun _ _ => rfl)) (me_tup (ma_cons (me_str rfl) (ma_cons (me_str rfl) ma_nil)) (len_cons (len_cons len_nil))) (by with_unfolding_all rfl)) (ms_one (ms_ret (me_slice (me_var 0 (pv 0)) (mo_some me_int) mo_none))) ms_nil) (ms_cons (ms_if (qe_cmp (sop_eq (ru hr)) (me_idx (me_var 0 (pv 0)) me_int (fun _ _ => rfl)) (me_str rfl) (nomark _)) (ms_one (ms_ret (me_slice (me_var 0 (pv 0)) (mo_some me_int) mo_none))) ms_nil) (ms_one (ms_ret (me_if (qe_cmp (sop_in (ru hr)) (me_idx (me_var 0 (pv 0)) me_int (fun _ _ => rfl)) (me_tup (ma_cons (me_str rfl) (ma_cons (me_str rfl) ma_nil)) (len_cons (len_cons len_nil))) (by with_unfolding_all rfl)) (me_slice (me_var 0 (pv 0)) (mo_some me_int) (mo_some me_int)) (me_tup ma_nil len_nil))))))
include c X G in
theorem fs_used_variables : FnS P w K mg h (tb K) 1 (He.fAd K D_used_variables.at_) 1 [] (fun vs _ => d_used_variables vs) := by
  obtain ⟨fd, F⟩ := c.d.def_ 10 (d := D_used_variables) rfl
  exact ⟨fd, _, _, _, ok_used_variables c X G F, callS_plain F rfl (fun _ _ _ _ _ _ us hl => match us, hl with | [_], _ => rfl), rfl⟩
theorem sc_parted : FnScope N_parted ["row"] (defScope s_parted) := ⟨rfl, rfl, rfl, by decide +kernel, rfl, by decide +kernel, by decide +kernel⟩
include c X G in
theorem ok_parted {fd : FuncData} (F : FunD K D_parted.name D_parted.qual D_parted.params D_parted.body D_parted.scope (D_parted.dvs K) (D_parted.kws K) (He.fAd K D_parted.at_) fd) : FnOk P w K mg h (L2.CX P w) 1 (He.fAd K D_parted.at_) fd ["row"] (spM K (tb K) 1 (d_parted)) :=
  fn_ok F sc_parted finV_ok rfl fun cdv A outer s H E hr =>
    (ms_one (ms_ret (me_if (qe_cmp (sop_in (ru hr)) (me_idx (me_var 0 (pv 0)) me_int (fun _ _ => rfl)) (me_con rfl (hc_GUARDS c X G)) (by with_unfolding_all rfl)) (me_tup (ma_cons (me_idx (me_var 0 (pv 0)) me_int (fun _ _ => rfl)) (ma_cons (me_idx (me_var 0 (pv 0)) me_int (fun _ _ => rfl)) ma_nil)) (len_cons (len_cons len_nil))) (me_tup (ma_cons me_non (ma_cons (me_var 0 (pv 0)) ma_nil)) (len_cons (len_cons len_nil))))))
include c X G in
theorem fs_parted : FnS P w K mg h (tb K) 1 (He.fAd K D_parted.at_) 1 [] (fun vs _ => d_parted vs) := by
  obtain ⟨fd, F⟩ := c.d.def_ 11 (d := D_parted) rfl
  exact ⟨fd, _, _, _, ok_parted c X G F, callS_plain F rfl (fun _ _ _ _ _ _ us hl => match us, hl with | [_], _ => rfl), rfl⟩
theorem sc_is_plain : FnScope N_is_plain ["thing"] (defScope s_is_plain) := ⟨rfl, rfl, rfl, by decide +kernel, rfl, by decide +kernel, by decide +kernel⟩
include c X G in
theorem ok_is_plain {fd : FuncData} (F : FunD K D_is_plain.name D_is_plain.qual D_is_plain.params D_is_plain.body D_is_plain.scope (D_is_plain.dvs K) (D_is_plain.kws K) (He.fAd K D_is_plain.at_) fd) : FnOk P w K mg h (L2.CX P w) 5 (He.fAd K D_is_plain.at_) fd ["thing"] (spM K (tb K) 1 (d_is_plain)) :=
  fn_ok F sc_is_plain finV_ok rfl fun cdv A outer s H E hr =>
    (ms_one (ms_ret (me_and (me_call (fs_has_word (w := w) (P := P) c X G) (hr.mono (by decide)) takesB rfl (hg_has_word c X G) (hk_has_word c) (ma_cons (me_var 0 (pv 0)) ma_nil) (len_cons len_nil) mk_nil len_nil) (me_and1 (me_call (fs_parts_fit (w := w) (P := P) c X G) (hr.mono (by decide)) takesB rfl (hg_parts_fit c X G) (hk_parts_fit c) (ma_cons (me_dget rfl (hdc_PLAIN_PARTS c X G) (me_idx (me_var 0 (pv 0)) me_int (fun _ _ => rfl)) ⟨rfl, rfl, rfl, rfl⟩) (ma_cons (me_var 0 (pv 0)) ma_nil)) (len_cons (len_cons len_nil)) mk_nil len_nil)))))
include c X G in
theorem fs_is_plain : FnS P w K mg h (tb K) 5 (He.fAd K D_is_plain.at_) 1 [] (fun vs _ => d_is_plain vs) := by
  obtain ⟨fd, F⟩ := c.d.def_ 12 (d := D_is_plain) rfl
  exact ⟨fd, _, _, _, ok_is_plain c X G F, callS_plain F rfl (fun _ _ _ _ _ _ us hl => match us, hl with | [_], _ => rfl), rfl⟩
theorem sc_is_guarded : FnScope N_is_guarded ["thing"] (defScope s_is_guarded) := ⟨rfl, rfl, rfl, by decide +kernel, rfl, by decide +kernel, by decide +kernel⟩
include c X G in
theorem ok_is_guarded {fd : FuncData} (F : FunD K D_is_guarded.name D_is_guarded.qual D_is_guarded.params D_is_guarded.body D_is_guarded.scope (D_is_guarded.dvs K) (D_is_guarded.kws K) (He.fAd K D_is_guarded.at_) fd) : FnOk P w K mg h (L2.CX P w) 6 (He.fAd K D_is_guarded.at_) fd ["thing"] (spM K (tb K) 1 (d_is_guarded)) :=
  fn_ok F sc_is_guarded finV_ok rfl fun cdv A outer s H E hr =>
    (ms_cons (ms_if (PW.pt (qw_or (qe_not (qe_of (me_call (fs_has_word (w := w) (P := P) c X G) (hr.mono (by decide)) takesB rfl (hg_has_word c X G) (hk_has_word c) (ma_cons (me_var 0 (pv 0)) ma_nil) (len_cons len_nil) mk_nil len_nil))) (qw_or (qe_cmp (sop_notIn (ru hr)) (me_idx (me_var 0 (pv 0)) me_int (fun _ _ => rfl)) (me_con rfl (hc_GUARDS c X G)) (by with_unfolding_all rfl)) (qw_or1 (qe_cmp (sop_ne (ru hr)) (me_blt scr_len rfl (hb_len c X G) rfl (ma_cons (me_var 0 (pv 0)) ma_nil)) me_int (nomark _)))))) (ms_one (ms_ret me_bl)) ms_nil) (ms_one (ms_ret (me_and (me_call (fs_is_test (w := w) (P := P) c X G) (hr.mono (by decide)) takesB rfl (hg_is_test c X G) (hk_is_test c) (ma_cons (me_idx (me_var 0 (pv 0)) me_int (fun _ _ => rfl)) ma_nil) (len_cons len_nil) mk_nil len_nil) (me_and1 (me_call (fs_is_plain (w := w) (P := P) c X G) (hr.mono (by decide)) takesB rfl (hg_is_plain c X G) (hk_is_plain c) (ma_cons (me_idx (me_var 0 (pv 0)) me_int (fun _ _ => rfl)) ma_nil) (len_cons len_nil) mk_nil len_nil))))))
include c X G in
theorem fs_is_guarded : FnS P w K mg h (tb K) 6 (He.fAd K D_is_guarded.at_) 1 [] (fun vs _ => d_is_guarded vs) := by
  obtain ⟨fd, F⟩ := c.d.def_ 13 (d := D_is_guarded) rfl
  exact ⟨fd, _, _, _, ok_is_guarded c X G F, callS_plain F rfl (fun _ _ _ _ _ _ us hl => match us, hl with | [_], _ => rfl), rfl⟩
theorem sc_first_bad_row : FnScope N_first_bad_row ["params", "rows", "result"] (defScope s_first_bad_row) := ⟨rfl, rfl, rfl, by decide +kernel, rfl, by decide +kernel, by decide +kernel⟩
include c X G in
theorem ok_first_bad_row {fd : FuncData} (F : FunD K D_first_bad_row.name D_first_bad_row.qual D_first_bad_row.params D_first_bad_row.body D_first_bad_row.scope (D_first_bad_row.dvs K) (D_first_bad_row.kws K) (He.fAd K D_first_bad_row.at_) fd) : FnOk P w K mg h (L2.CX P w) 8 (He.fAd K D_first_bad_row.at_) fd ["params", "rows", "result"] (spM K (tb K) 3 (d_first_bad_row)) :=
  fn_ok F sc_first_bad_row finV_ok rfl fun cdv A outer s H E hr =>
    (ms_cons (ms_new (mf_comp (own := [("param", 8)]) rfl sc_first_bad_row.nd (mi_seq (me_var 0 (pv 0))) (show BlkOk N_first_bad_row (defScope s_first_bad_row) _ [("param", 8)] from ⟨rfl, by decide +kernel, by decide +kernel, by decide +kernel, by decide +kernel⟩) (fun _ _ _ _ _ => pg_name sc_first_bad_row.nd rfl (Or.inl rfl)) (gin_name (by decide)) (fun _ _ _ _ _ => pts1 (qe_cmp (sop_eq (ru hr)) (me_fld (me_var 8 (pv 8)) (hf_holds c)) (me_str rfl) (nomark _))) (fun _ _ _ _ _ => (me_fld (me_var 8 (pv 8)) (hf_name c)))) (pg_name sc_first_bad_row.nd rfl (by first | exact Or.inl rfl | exact Or.inr rfl))) (ms_cons (ms_setLc (own := [("param", 8)]) (i := 4) rfl sc_first_bad_row.nd rfl rfl rfl rfl (by decide) (mi_seq (me_var 0 (pv 0))) (show BlkOk N_first_bad_row (defScope s_first_bad_row) _ [("param", 8)] from ⟨rfl, by decide +kernel, by decide +kernel, by decide +kernel, by decide +kernel⟩) (fun _ _ _ _ _ => pg_name sc_first_bad_row.nd rfl (Or.inl rfl)) (gin_name (by decide)) (fun _ _ _ _ _ => pts1 (qe_cmp (sop_eq (ru hr)) (me_fld (me_var 8 (pv 8)) (hf_holds c)) (me_str rfl) (nomark _))) (fun _ _ _ _ _ => (me_fld (me_var 8 (pv 8)) (hf_name c)))) (ms_cons (ms_for passesB rfl (mi_enum rfl (hb_enumerate c X G) (me_var 1 (pv 1))) (mg_tup rfl (mgs_cons (pg_name sc_first_bad_row.nd rfl (by first | exact Or.inl rfl | exact Or.inr rfl)) (mgs_cons (pg_name sc_first_bad_row.nd rfl (by first | exact Or.inl rfl | exact Or.inr rfl)) mgs_nil))) (gok_tup [5, 6]) (ms_cons (ms_if (PW.pt (qw_and (qe_not (qe_of (me_call (fs_is_plain (w := w) (P := P) c X G) (hr.mono (by decide)) takesB rfl (hg_is_plain c X G) (hk_is_plain c) (ma_cons (me_var 6 (pv 6)) ma_nil) (len_cons len_nil) mk_nil len_nil))) (qw_and1 (qe_not (qe_of (me_call (fs_is_guarded (w := w) (P := P) c X G) (hr.mono (by decide)) takesB rfl (hg_is_guarded c X G) (hk_is_guarded c) (ma_cons (me_var 6 (pv 6)) ma_nil) (len_cons len_nil) mk_nil len_nil)))))) (ms_one (ms_ret (me_var 5 (pv 5)))) ms_nil) (ms_cons (ms_asg (me_call (fs_parted (w := w) (P := P) c X G) (hr.mono (by decide)) takesB rfl (hg_parted c X G) (hk_parted c) (ma_cons (me_var 6 (pv 6)) ma_nil) (len_cons len_nil) mk_nil len_nil) (mg_tup rfl (mgs_cons (pg_name sc_first_bad_row.nd rfl (by first | exact Or.inl rfl | exact Or.inr rfl)) (mgs_cons (pg_name sc_first_bad_row.nd rfl (by first | exact Or.inl rfl | exact Or.inr rfl)) mgs_nil))) (gok_tup [9, 10])) (ms_cons (ms_asg (me_op2 sop_add (me_bltT scr_list rfl (hb_list c X G) rfl (ma_cons (me_call (fs_used_variables (w := w) (P := P) c X G) (hr.mono (by decide)) takesB rfl (hg_used_variables c X G) (hk_used_variables c) (ma_cons (me_var 10 (pv 10)) ma_nil) (len_cons len_nil) mk_nil len_nil) ma_nil)) (me_bltT scr_list rfl (hb_list c X G) rfl (ma_cons (me_if (qe_notN (me_var 9 (pv 9))) (me_call (fs_test_variables (w := w) (P := P) c X G) (hr.mono (by decide)) takesB rfl (hg_test_variables c X G) (hk_test_variables c) (ma_cons (me_var 9 (pv 9)) ma_nil) (len_cons len_nil) mk_nil len_nil) (me_tup ma_nil len_nil)) ma_nil))) (mg_name (pg_name sc_first_bad_row.nd rfl (by first | exact Or.inl rfl | exact Or.inr rfl))) (gok_name 7)) (ms_cons (ms_if (qe_not (qe_of (me_blt (scr_all rfl) rfl (hb_all c X G) rfl (ma_cons (me_fresh (mf_comp (own := [("name", 11)]) rfl sc_first_bad_row.nd (mi_seq (me_var 7 (pv 7))) (show BlkOk N_first_bad_row (defScope s_first_bad_row) _ [("name", 11)] from ⟨rfl, by decide +kernel, by decide +kernel, by decide +kernel, by decide +kernel⟩) (fun _ _ _ _ _ => pg_name sc_first_bad_row.nd rfl (Or.inl rfl)) (gin_name (by decide)) (fun _ _ _ _ _ => pts0) (fun _ _ _ _ _ => (me_cmp (sop_in (ru hr)) (me_var 11 (pv 11)) (me_var 3 (pv 3)) (by with_unfolding_all rfl))))) ma_nil)))) (ms_one (ms_ret (me_var 5 (pv 5)))) ms_nil) (ms_one (ms_if (qe_cmp (sop_in (ru hr)) (me_idx (me_var 10 (pv 10)) me_int (fun _ _ => rfl)) (me_con rfl (hc_ASSIGNING c X G)) (by with_unfolding_all rfl)) (ms_cons (ms_if (PW.pt (qw_or (qe_cmp (sop_in (ru hr)) (me_idx (me_var 10 (pv 10)) me_int (fun _ _ => rfl)) (me_var 4 (pv 4)) (by with_unfolding_all rfl)) (qw_or1 (PW.pt (qw_and (qe_notN (me_var 9 (pv 9))) (qw_and1 (qe_cmp (sop_notIn (ru hr)) (me_idx (me_var 10 (pv 10)) me_int (fun _ _ => rfl)) (me_var 3 (pv 3)) (by with_unfolding_all rfl)))))))) (ms_one (ms_ret (me_var 5 (pv 5)))) ms_nil) (ms_one (ms_expr (me_mt PySem.F.slot_list_append PySem.F.type_list_append mt_append smt_append (me_var 3 (pv 3)) (ma_cons (me_idx (me_var 10 (pv 10)) me_int (fun _ _ => rfl)) ma_nil))))) ms_nil))))))) (ms_one (ms_ret (me_if (qe_of (me_call (fs_result_fits (w := w) (P := P) c X G) (hr.mono (by decide)) takesB rfl (hg_result_fits c X G) (hk_result_fits c) (ma_cons (me_var 3 (pv 3)) (ma_cons (me_var 2 (pv 2)) ma_nil)) (len_cons (len_cons len_nil)) mk_nil len_nil)) me_non (me_blt scr_len rfl (hb_len c X G) rfl (ma_cons (me_var 1 (pv 1)) ma_nil))))))))
include c X G in
theorem fs_first_bad_row : FnS P w K mg h (tb K) 8 (He.fAd K D_first_bad_row.at_) 3 [] (fun vs _ => d_first_bad_row vs) := by
  obtain ⟨fd, F⟩ := c.d.def_ 14 (d := D_first_bad_row) rfl
  exact ⟨fd, _, _, _, ok_first_bad_row c X G F, callS_plain F rfl (fun _ _ _ _ _ _ us hl => match us, hl with | [_, _, _], _ => rfl), rfl⟩
theorem sc_look_order : FnScope N_look_order ["params"] (defScope s_look_order) := ⟨rfl, rfl, rfl, by decide +kernel, rfl, by decide +kernel, by decide +kernel⟩
include c X G in
theorem ok_look_order {fd : FuncData} (F : FunD K D_look_order.name D_look_order.qual D_look_order.params D_look_order.body D_look_order.scope (D_look_order.dvs K) (D_look_order.kws K) (He.fAd K D_look_order.at_) fd) : FnOk P w K mg h (L2.CX P w) 1 (He.fAd K D_look_order.at_) fd ["params"] (spM K (tb K) 1 (d_look_order)) :=
  fn_ok F sc_look_order finV_ok rfl fun cdv A outer s H E hr =>
    (ms_cons (ms_asg2 me_bl (pg_name sc_look_order.nd rfl (by first | exact Or.inl rfl | exact Or.inr rfl)) (pg_name sc_look_order.nd rfl (by first | exact Or.inl rfl | exact Or.inr rfl))) (ms_one (ms_for passesB rfl (mi_seq (me_var 0 (pv 0))) (mg_name (pg_name sc_look_order.nd rfl (by first | exact Or.inl rfl | exact Or.inr rfl))) (gok_name 3) (ms_one (ms_if (qe_of (me_fld (me_var 3 (pv 3)) (hf_named c))) (ms_one (ms_asg me_bl (mg_name (pg_name sc_look_order.nd rfl (by first | exact Or.inl rfl | exact Or.inr rfl))) (gok_name 1))) (ms_one (ms_if (PW.pt (qw_or (qe_of (me_var 1 (pv 1))) (qw_or1 (PW.pt (qw_and (qe_of (me_var 2 (pv 2))) (qw_and1 (qe_isN (me_fld (me_var 3 (pv 3)) (hf_default c))))))))) (ms_one (ms_raise (hR_BadOrder (P := P) (w := w) c) (hb_super c X G) hr rfl takesB rfl (hg_BadOrder c X G) (ma_cons (me_fld (me_var 3 (pv 3)) (hf_name c)) ma_nil) (len_cons len_nil))) (ms_one (ms_asg (me_or (me_var 2 (pv 2)) (me_or1 (me_notN (me_fld (me_var 3 (pv 3)) (hf_default c))))) (mg_name (pg_name sc_look_order.nd rfl (by first | exact Or.inl rfl | exact Or.inr rfl))) (gok_name 2))))))))))
include c X G in
theorem fs_look_order : FnS P w K mg h (tb K) 1 (He.fAd K D_look_order.at_) 1 [] (fun vs _ => d_look_order vs) := by
  obtain ⟨fd, F⟩ := c.d.def_ 15 (d := D_look_order) rfl
  exact ⟨fd, _, _, _, ok_look_order c X G F, callS_plain F rfl (fun _ _ _ _ _ _ us hl => match us, hl with | [_], _ => rfl), rfl⟩
theorem sc_look_twice : FnScope N_look_twice ["names", "before"] (defScope s_look_twice) := ⟨rfl, rfl, rfl, by decide +kernel, rfl, by decide +kernel, by decide +kernel⟩
include c X G in
theorem ok_look_twice {fd : FuncData} (F : FunD K D_look_twice.name D_look_twice.qual D_look_twice.params D_look_twice.body D_look_twice.scope (D_look_twice.dvs K) (D_look_twice.kws K) (He.fAd K D_look_twice.at_) fd) : FnOk P w K mg h (L2.CX P w) 1 (He.fAd K D_look_twice.at_) fd ["names", "before"] (spM K (tb K) 2 (d_look_twice)) :=
  fn_ok F sc_look_twice finV_ok rfl fun cdv A outer s H E hr =>
    (ms_cons (ms_new (mf_list rfl (hb_list c X G) rfl (me_var 1 (pv 1))) (pg_name sc_look_twice.nd rfl (by first | exact Or.inl rfl | exact Or.inr rfl))) (ms_one (ms_for passesB rfl (mi_seq (me_var 0 (pv 0))) (mg_name (pg_name sc_look_twice.nd rfl (by first | exact Or.inl rfl | exact Or.inr rfl))) (gok_name 3) (ms_cons (ms_if (qe_cmp (sop_in (ru hr)) (me_var 3 (pv 3)) (me_var 2 (pv 2)) (by with_unfolding_all rfl)) (ms_one (ms_raise (hR_Twice (P := P) (w := w) c) (hb_super c X G) hr rfl takesB rfl (hg_Twice c X G) (ma_cons (me_var 3 (pv 3)) ma_nil) (len_cons len_nil))) ms_nil) (ms_one (ms_expr (me_mt PySem.F.slot_list_append PySem.F.type_list_append mt_append smt_append (me_var 2 (pv 2)) (ma_cons (me_var 3 (pv 3)) ma_nil))))))))
include c X G in
theorem fs_look_twice_1_ : FnS P w K mg h (tb K) 1 (He.fAd K D_look_twice.at_) 1 [] (fun vs zs => d_look_twice (pickL [0, 1] (vs ++ ([(.tup [])] : List PV) ++ zs))) := by
  obtain ⟨fd, F⟩ := c.d.def_ 16 (d := D_look_twice) rfl
  exact ⟨fd, _, _, _, ok_look_twice c X G F, callS_pd (n := 1) (ks := []) (pd := [(.tup [])]) (sel := [0, 1]) F (List.cons_ne_nil _ _) (fun _ _ => (.cons (okB_ok (c.xx 30 (f := okB (.tup []) (He.dflAt ("look_twice", none) 0)) rfl) _ _) .nil)) (by decide) (fun _ _ _ _ _ _ _ us its ws h1 h2 h3 => match us, its, ws, h1, h2, h3 with | [_], [_], [], _, _, _ => ⟨_, rfl, rfl⟩), rfl⟩
theorem sc_look_name : FnScope N_look_name ["thing"] (defScope s_look_name) := ⟨rfl, rfl, rfl, by decide +kernel, rfl, by decide +kernel, by decide +kernel⟩
include c X G in
theorem ok_look_name {fd : FuncData} (F : FunD K D_look_name.name D_look_name.qual D_look_name.params D_look_name.body D_look_name.scope (D_look_name.dvs K) (D_look_name.kws K) (He.fAd K D_look_name.at_) fd) : FnOk P w K mg h (L2.CX P w) 2 (He.fAd K D_look_name.at_) fd ["thing"] (spM K (tb K) 1 (d_look_name)) :=
  fn_ok F sc_look_name finV_ok rfl fun cdv A outer s H E hr =>
    (ms_one (ms_if (qe_not (qe_of (me_call (fs_is_name (w := w) (P := P) c X G) (hr.mono (by decide)) takesB rfl (hg_is_name c X G) (hk_is_name c) (ma_cons (me_var 0 (pv 0)) ma_nil) (len_cons len_nil) mk_nil len_nil))) (ms_one (ms_raise (hR_BadName (P := P) (w := w) c) (hb_super c X G) hr rfl takesB rfl (hg_BadName c X G) (ma_cons (me_var 0 (pv 0)) ma_nil) (len_cons len_nil))) ms_nil))
include c X G in
theorem fs_look_name : FnS P w K mg h (tb K) 2 (He.fAd K D_look_name.at_) 1 [] (fun vs _ => d_look_name vs) := by
  obtain ⟨fd, F⟩ := c.d.def_ 17 (d := D_look_name) rfl
  exact ⟨fd, _, _, _, ok_look_name c X G F, callS_plain F rfl (fun _ _ _ _ _ _ us hl => match us, hl with | [_], _ => rfl), rfl⟩
theorem sc_Method_init : FnScope N_Method_init ["self", "name", "rows", "returns", "params"] (defScope s_Method_init) := ⟨rfl, rfl, rfl, by decide +kernel, rfl, by decide +kernel, by decide +kernel⟩
include c X G in
theorem bd_Method_init : ∀ (cdv : Value) (A : Around) (outer : List PySem.Env) (s : Shared) (H : Hp) (E : XK), Room 8 (A.deeper (envOfC D_Method_init.qual D_Method_init.scope s.heap.objs.size (He.fAd K D_Method_init.at_) cdv)) → PSs (cxB P w K mg h N_Method_init D_Method_init.qual D_Method_init.scope (He.fAd K D_Method_init.at_) cdv A outer s H E) D_Method_init.body (tS K (tb K) (fun c d _ H' => E c d H') m_Method_init) := fun cdv A outer s H E hr =>
    (ms_cons (ms_expr (me_call (fs_look_name (w := w) (P := P) c X G) (hr.mono (by decide)) takesB rfl (hg_look_name c X G) (hk_look_name c) (ma_cons (me_var 1 (pv 1)) ma_nil) (len_cons len_nil) mk_nil len_nil)) (ms_cons (ms_expr (me_call (fs_look_twice_1_ (w := w) (P := P) c X G) (hr.mono (by decide)) takesB rfl (hg_look_twice c X G) (hk_look_twice c) (ma_cons (me_fresh (mf_comp (own := [("param", 6)]) rfl sc_Method_init.nd (mi_seq (me_var 4 (pv 4))) (show BlkOk N_Method_init (defScope s_Method_init) _ [("param", 6)] from ⟨rfl, by decide +kernel, by decide +kernel, by decide +kernel, by decide +kernel⟩) (fun _ _ _ _ _ => pg_name sc_Method_init.nd rfl (Or.inl rfl)) (gin_name (by decide)) (fun _ _ _ _ _ => pts0) (fun _ _ _ _ _ => (me_fld (me_var 6 (pv 6)) (hf_name c))))) ma_nil) (len_cons len_nil) mk_nil len_nil)) (ms_cons (ms_expr (me_call (fs_look_order (w := w) (P := P) c X G) (hr.mono (by decide)) takesB rfl (hg_look_order c X G) (hk_look_order c) (ma_cons (me_var 4 (pv 4)) ma_nil) (len_cons len_nil) mk_nil len_nil)) (ms_cons (ms_if (qe_cmp sop_gt (me_blt scr_len rfl (hb_len c X G) rfl (ma_cons (me_var 4 (pv 4)) ma_nil)) (me_ccon (tab := cc_MOST_PARAMS) (me_var 0 (pv 0)) (hcc_MOST_PARAMS c)) (nomark _)) (ms_one (ms_raise (hR_TooMany (P := P) (w := w) c) (hb_super c X G) hr rfl takesB rfl (hg_TooMany c X G) (ma_cons (me_str rfl) ma_nil) (len_cons len_nil))) ms_nil) (ms_cons (ms_if (qe_cmp sop_gt (me_blt scr_len rfl (hb_len c X G) rfl (ma_cons (me_fresh (mf_comp (own := [("param", 6)]) rfl sc_Method_init.nd (mi_seq (me_var 4 (pv 4))) (show BlkOk N_Method_init (defScope s_Method_init) _ [("param", 6)] from ⟨rfl, by decide +kernel, by decide +kernel, by decide +kernel, by decide +kernel⟩) (fun _ _ _ _ _ => pg_name sc_Method_init.nd rfl (Or.inl rfl)) (gin_name (by decide)) (fun _ _ _ _ _ => pts1 (qe_cmp (sop_eq (ru hr)) (me_fld (me_var 6 (pv 6)) (hf_holds c)) (me_str rfl) (nomark _))) (fun _ _ _ _ _ => (me_var 6 (pv 6))))) ma_nil)) (me_ccon (tab := cc_MOST_BOXES) (me_var 0 (pv 0)) (hcc_MOST_BOXES c)) (nomark _)) (ms_one (ms_raise (hR_TooMany (P := P) (w := w) c) (hb_super c X G) hr rfl takesB rfl (hg_TooMany c X G) (ma_cons (me_str rfl) ma_nil) (len_cons len_nil))) ms_nil) (ms_cons (ms_if (qe_not (qe_of (me_blt (scr_isi (hIsi c)) rfl (hb_isinstance c X G) rfl (ma_cons (me_var 2 (pv 2)) (ma_cons (me_bty (n := "tuple") rfl (hb_tuple c X G) rfl) ma_nil))))) (ms_one (ms_raise (hR_BadRow (P := P) (w := w) c) (hb_super c X G) hr rfl takesB rfl (hg_BadRow c X G) (ma_cons (me_un sop_neg me_int) ma_nil) (len_cons len_nil))) ms_nil) (ms_cons (ms_asg (me_call (fs_first_bad_row (w := w) (P := P) c X G) (hr.mono (by decide)) takesB rfl (hg_first_bad_row c X G) (hk_first_bad_row c) (ma_cons (me_var 4 (pv 4)) (ma_cons (me_var 2 (pv 2)) (ma_cons (me_var 3 (pv 3)) ma_nil))) (len_cons (len_cons (len_cons len_nil))) mk_nil len_nil) (mg_name (pg_name sc_Method_init.nd rfl (by first | exact Or.inl rfl | exact Or.inr rfl))) (gok_name 5)) (ms_cons (ms_if (qe_notN (me_var 5 (pv 5))) (ms_one (ms_raise (hR_BadRow (P := P) (w := w) c) (hb_super c X G) hr rfl takesB rfl (hg_BadRow c X G) (ma_cons (me_var 5 (pv 5)) ma_nil) (len_cons len_nil))) ms_nil) (ms_cons (ms_if (qe_cmp sop_gt (me_blt scr_len rfl (hb_len c X G) rfl (ma_cons (me_var 2 (pv 2)) ma_nil)) (me_ccon (tab := cc_MOST_ROWS) (me_var 0 (pv 0)) (hcc_MOST_ROWS c)) (nomark _)) (ms_one (ms_raise (hR_TooMany (P := P) (w := w) c) (hb_super c X G) hr rfl takesB rfl (hg_TooMany c X G) (ma_cons (me_str rfl) ma_nil) (len_cons len_nil))) ms_nil) (ms_cons (ms_fld (me_var 0 (pv 0)) (me_var 1 (pv 1)) (hf_name c)) (ms_cons (ms_fld (me_var 0 (pv 0)) (me_var 4 (pv 4)) (hf_params c)) (ms_cons (ms_fld (me_var 0 (pv 0)) (me_var 2 (pv 2)) (hf_rows c)) (ms_one (ms_fld (me_var 0 (pv 0)) (me_var 3 (pv 3)) (hf_returns c)))))))))))))))
include c X G in
theorem fs_Method_init_s_rows_returns : FnH P w K mg h (tb K) 9 (He.fAd K D_Method_init.at_) ["rows", "returns"] (starF 2 (fun vs zs => pickL [0, 1, 2, 3] (vs ++ zs)) d_Method_init) := by
  obtain ⟨fd, F⟩ := c.d.def_ 18 (d := D_Method_init) rfl
  exact fn_starP (ps := ["self", "name", "rows", "returns"]) (pv := "params") (sel := [0, 1, 2, 3]) F sc_Method_init finV_ok rfl (by decide) (fun _ _ _ _ _ _ us rest ws h1 h2 => match us, ws, h1, h2 with | [_, _], [_, _], _, _ => by cases rest <;> rfl) (bd_Method_init c X G)
theorem sc_Method_of : FnScope N_Method_of ["cls", "name", "params", "rows", "returns"] (defScope s_Method_of) := ⟨rfl, rfl, rfl, by decide +kernel, rfl, by decide +kernel, by decide +kernel⟩
include c X G in
theorem ok_Method_of {fd : FuncData} (F : FunD K D_Method_of.name D_Method_of.qual D_Method_of.params D_Method_of.body D_Method_of.scope (D_Method_of.dvs K) (D_Method_of.kws K) (D_Method_of.at_ K) fd) : FnOk P w K mg h (L2.CX P w) 11 (D_Method_of.at_ K) fd ["cls", "name", "params", "rows", "returns"] (spM K (tb K) 5 (d_Method_of)) :=
  fn_ok F sc_Method_of finV_ok rfl fun cdv A outer s H E hr =>
    (ms_one (ms_ret (me_newLS (c := 1) (i := 0) finV_ok (hmk_Method c) (fs_Method_init_s_rows_returns (w := w) (P := P) c X G) (hr.mono (by decide)) takesB (fun _ => pv 0) (ma_cons (me_var 1 (pv 1)) (ma_star (me_var 2 (pv 2)) ma_nil)) (mk_cons (me_var 3 (pv 3)) (mk_cons (me_var 4 (pv 4)) mk_nil)) (len_cons (len_cons len_nil)))))
include c X G in
theorem fs_Method_of_3_rows : FnS P w K mg h (tb K) 11 (D_Method_of.at_ K) 3 ["rows"] (fun vs zs => d_Method_of (pickL [0, 1, 2, 4, 3] (vs ++ ([(.tup [.str [110, 111, 110, 101]])] : List PV) ++ zs))) := by
  obtain ⟨fd, F⟩ := c.cm 0 (d := D_Method_of) rfl (j := 31) rfl
  exact ⟨fd, _, _, _, ok_Method_of c X G F, callS_kwo (n := 3) (ks := ["rows"]) (ms := [("returns", .ref (He.ga K "NOTHING"))]) (mp := [(.tup [.str [110, 111, 110, 101]])]) (sel := [0, 1, 2, 4, 3]) F (List.cons_ne_nil _ _) (List.forall_mem_cons.mpr ⟨(.tail _ (.head _)), (fun _ h => nomatch h)⟩) (fun _ _ => (.cons (okB_ok (c.xx 32 (f := okB (.tup [.str [110, 111, 110, 101]]) (fun K => He.ga K "NOTHING")) rfl) _ _) .nil)) (by decide) (fun _ _ _ _ _ _ us mv ws h1 h2 h3 => match us, mv, ws, h1, h2, h3 with | [_, _, _], [_], [_], _, _, _ => ⟨_, _, _, _, _, _, rfl, rfl, rfl⟩), rfl⟩
theorem sc_is_truth : FnScope N_is_truth ["thing"] (defScope s_is_truth) := ⟨rfl, rfl, rfl, by decide +kernel, rfl, by decide +kernel, by decide +kernel⟩
include c X G in
theorem ok_is_truth {fd : FuncData} (F : FunD K D_is_truth.name D_is_truth.qual D_is_truth.params D_is_truth.body D_is_truth.scope (D_is_truth.dvs K) (D_is_truth.kws K) (He.fAd K D_is_truth.at_) fd) : FnOk P w K mg h (L2.CX P w) 1 (He.fAd K D_is_truth.at_) fd ["thing"] (spM K (tb K) 1 (d_is_truth)) :=
  fn_ok F sc_is_truth finV_ok rfl fun cdv A outer s H E hr =>
    (ms_one (ms_ret (me_blt (scr_isi (hIsi c)) rfl (hb_isinstance c X G) rfl (ma_cons (me_var 0 (pv 0)) (ma_cons (me_bty (n := "bool") rfl (hb_bool c X G) rfl) ma_nil)))))
include c X G in
theorem fs_is_truth : FnS P w K mg h (tb K) 1 (He.fAd K D_is_truth.at_) 1 [] (fun vs _ => d_is_truth vs) := by
  obtain ⟨fd, F⟩ := c.d.def_ 19 (d := D_is_truth) rfl
  exact ⟨fd, _, _, _, ok_is_truth c X G F, callS_plain F rfl (fun _ _ _ _ _ _ us hl => match us, hl with | [_], _ => rfl), rfl⟩
theorem sc_is_default : FnScope N_is_default ["holds", "thing"] (defScope s_is_default) := ⟨rfl, rfl, rfl, by decide +kernel, rfl, by decide +kernel, by decide +kernel⟩
include c X G in
theorem ok_is_default {fd : FuncData} (F : FunD K D_is_default.name D_is_default.qual D_is_default.params D_is_default.body D_is_default.scope (D_is_default.dvs K) (D_is_default.kws K) (He.fAd K D_is_default.at_) fd) : FnOk P w K mg h (L2.CX P w) 3 (He.fAd K D_is_default.at_) fd ["holds", "thing"] (spM K (tb K) 2 (d_is_default)) :=
  fn_ok F sc_is_default finV_ok rfl fun cdv A outer s H E hr =>
    (ms_cons (ms_if (qe_not (qe_of (me_call (fs_has_word (w := w) (P := P) c X G) (hr.mono (by decide)) takesB rfl (hg_has_word c X G) (hk_has_word c) (ma_cons (me_var 1 (pv 1)) ma_nil) (len_cons len_nil) mk_nil len_nil))) (ms_one (ms_ret me_bl)) ms_nil) (ms_cons (ms_par rfl sc_is_default.nd rfl rfl (by decide) rfl rfl (ma_cons (me_idx (me_var 1 (pv 1)) me_int (fun _ _ => rfl)) (ma_cons (me_blt scr_len rfl (hb_len c X G) rfl (ma_cons (me_var 1 (pv 1)) ma_nil)) ma_nil)) rfl) (ms_cons (ms_if (qe_cmp (sop_eq (ru hr)) (me_var 0 (pv 0)) (me_str rfl) (nomark _)) (ms_one (ms_ret (me_and (me_cmp (sop_eq (ru hr)) (me_var 2 (pv 2)) (me_str rfl) (nomark _)) (me_and (me_cmp (sop_eq (ru hr)) (me_var 3 (pv 3)) me_int (nomark _)) (me_and1 (me_call (fs_is_name (w := w) (P := P) c X G) (hr.mono (by decide)) takesB rfl (hg_is_name c X G) (hk_is_name c) (ma_cons (me_idx (me_var 1 (pv 1)) me_int (fun _ _ => rfl)) ma_nil) (len_cons len_nil) mk_nil len_nil)))))) ms_nil) (ms_cons (ms_if (qe_cmp (sop_in (ru hr)) (me_var 2 (pv 2)) (me_tup (ma_cons (me_str rfl) (ma_cons (me_str rfl) ma_nil)) (len_cons (len_cons len_nil))) (by with_unfolding_all rfl)) (ms_one (ms_ret (me_and (me_cmp (sop_eq (ru hr)) (me_var 3 (pv 3)) me_int (nomark _)) (me_and1 (me_call (fs_are_items (w := w) (P := P) c X G) (hr.mono (by decide)) takesB rfl (hg_are_items c X G) (hk_are_items c) (ma_cons (me_idx (me_var 1 (pv 1)) me_int (fun _ _ => rfl)) ma_nil) (len_cons len_nil) mk_nil len_nil))))) ms_nil) (ms_cons (ms_if (qe_cmp (sop_eq (ru hr)) (me_var 2 (pv 2)) (me_str rfl) (nomark _)) (ms_one (ms_ret (me_and (me_cmp (sop_eq (ru hr)) (me_var 3 (pv 3)) me_int (nomark _)) (me_and (me_call (fs_is_name (w := w) (P := P) c X G) (hr.mono (by decide)) takesB rfl (hg_is_name c X G) (hk_is_name c) (ma_cons (me_idx (me_var 1 (pv 1)) me_int (fun _ _ => rfl)) ma_nil) (len_cons len_nil) mk_nil len_nil) (me_and1 (me_call (fs_is_name (w := w) (P := P) c X G) (hr.mono (by decide)) takesB rfl (hg_is_name c X G) (hk_is_name c) (ma_cons (me_idx (me_var 1 (pv 1)) me_int (fun _ _ => rfl)) ma_nil) (len_cons len_nil) mk_nil len_nil)))))) ms_nil) (ms_one (ms_ret (me_and (me_cmp (sop_eq (ru hr)) (me_var 2 (pv 2)) (me_str rfl) (nomark _)) (me_and (me_cmp (sop_eq (ru hr)) (me_var 3 (pv 3)) me_int (nomark _)) (me_and (me_call (fs_is_owner (w := w) (P := P) c X G) (hr.mono (by decide)) takesB rfl (hg_is_owner c X G) (hk_is_owner c) (ma_cons (me_idx (me_var 1 (pv 1)) me_int (fun _ _ => rfl)) ma_nil) (len_cons len_nil) mk_nil len_nil) (me_and1 (me_call (fs_is_name (w := w) (P := P) c X G) (hr.mono (by decide)) takesB rfl (hg_is_name c X G) (hk_is_name c) (ma_cons (me_idx (me_var 1 (pv 1)) me_int (fun _ _ => rfl)) ma_nil) (len_cons len_nil) mk_nil len_nil))))))))))))
include c X G in
theorem fs_is_default : FnS P w K mg h (tb K) 3 (He.fAd K D_is_default.at_) 2 [] (fun vs _ => d_is_default vs) := by
  obtain ⟨fd, F⟩ := c.d.def_ 20 (d := D_is_default) rfl
  exact ⟨fd, _, _, _, ok_is_default c X G F, callS_plain F rfl (fun _ _ _ _ _ _ us hl => match us, hl with | [_, _], _ => rfl), rfl⟩
theorem sc_Param_init : FnScope N_Param_init ["self", "name", "holds", "default", "named"] (defScope s_Param_init) := ⟨rfl, rfl, rfl, by decide +kernel, rfl, by decide +kernel, by decide +kernel⟩
include c X G in
theorem ok_Param_init {fd : FuncData} (F : FunD K D_Param_init.name D_Param_init.qual D_Param_init.params D_Param_init.body D_Param_init.scope (D_Param_init.dvs K) (D_Param_init.kws K) (He.fAd K D_Param_init.at_) fd) : FnOk P w K mg h (L2.CX P w) 4 (He.fAd K D_Param_init.at_) fd ["self", "name", "holds", "default", "named"] (spM K (tb K) 5 (d_Param_init)) :=
  fn_ok F sc_Param_init finV_ok rfl fun cdv A outer s H E hr =>
    (ms_cons (ms_expr (me_call (fs_look_name (w := w) (P := P) c X G) (hr.mono (by decide)) takesB rfl (hg_look_name c X G) (hk_look_name c) (ma_cons (me_var 1 (pv 1)) ma_nil) (len_cons len_nil) mk_nil len_nil)) (ms_cons (ms_if (PW.pt (qw_or (qe_not (qe_of (me_blt (scr_isi (hIsi c)) rfl (hb_isinstance c X G) rfl (ma_cons (me_var 2 (pv 2)) (ma_cons (me_bty (n := "str") rfl (hb_str c X G) rfl) ma_nil))))) (qw_or1 (qe_cmp (sop_notIn (ru hr)) (me_var 2 (pv 2)) (me_tup (ma_cons (me_str rfl) (ma_cons (me_str rfl) ma_nil)) (len_cons (len_cons len_nil))) (by with_unfolding_all rfl))))) (ms_one (ms_raise (hR_BadParam (P := P) (w := w) c) (hb_super c X G) hr rfl takesB rfl (hg_BadParam c X G) (ma_cons (me_str rfl) ma_nil) (len_cons len_nil))) ms_nil) (ms_cons (ms_if (PW.pt (qw_and (qe_notN (me_var 3 (pv 3))) (qw_and1 (qe_not (qe_of (me_call (fs_is_default (w := w) (P := P) c X G) (hr.mono (by decide)) takesB rfl (hg_is_default c X G) (hk_is_default c) (ma_cons (me_var 2 (pv 2)) (ma_cons (me_var 3 (pv 3)) ma_nil)) (len_cons (len_cons len_nil)) mk_nil len_nil)))))) (ms_one (ms_raise (hR_BadParam (P := P) (w := w) c) (hb_super c X G) hr rfl takesB rfl (hg_BadParam c X G) (ma_cons (me_str rfl) ma_nil) (len_cons len_nil))) ms_nil) (ms_cons (ms_if (qe_not (qe_of (me_call (fs_is_truth (w := w) (P := P) c X G) (hr.mono (by decide)) takesB rfl (hg_is_truth c X G) (hk_is_truth c) (ma_cons (me_var 4 (pv 4)) ma_nil) (len_cons len_nil) mk_nil len_nil))) (ms_one (ms_raise (hR_BadParam (P := P) (w := w) c) (hb_super c X G) hr rfl takesB rfl (hg_BadParam c X G) (ma_cons (me_str rfl) ma_nil) (len_cons len_nil))) ms_nil) (ms_cons (ms_fld (me_var 0 (pv 0)) (me_var 1 (pv 1)) (hf_name c)) (ms_cons (ms_fld (me_var 0 (pv 0)) (me_var 2 (pv 2)) (hf_holds c)) (ms_cons (ms_fld (me_var 0 (pv 0)) (me_var 3 (pv 3)) (hf_default c)) (ms_one (ms_fld (me_var 0 (pv 0)) (me_var 4 (pv 4)) (hf_named c))))))))))
include c X G in
theorem fs_Param_init_2_ : FnS P w K mg h (tb K) 4 (He.fAd K D_Param_init.at_) 2 [] (fun vs zs => d_Param_init (pickL [0, 1, 2, 3, 4] (vs ++ ([(.str [98, 111, 120]), (.non), (.bl false)] : List PV) ++ zs))) := by
  obtain ⟨fd, F⟩ := c.d.def_ 21 (d := D_Param_init) rfl
  exact ⟨fd, _, _, _, ok_Param_init c X G F, callS_kwo (n := 2) (ks := []) (ms := [("holds", .str "box"), ("default", .non), ("named", .bl false)]) (mp := [(.str [98, 111, 120]), (.non), (.bl false)]) (sel := [0, 1, 2, 3, 4]) F (List.cons_ne_nil _ _) (List.forall_mem_cons.mpr ⟨(.head _), (List.forall_mem_cons.mpr ⟨(.tail _ (.head _)), (List.forall_mem_cons.mpr ⟨(.tail _ (.tail _ (.head _))), (fun _ h => nomatch h)⟩)⟩)⟩) (fun _ _ => (.cons (.str [98, 111, 120]) (.cons .non (.cons (.bl _) .nil)))) (by decide) (fun _ _ _ _ _ _ us mv ws h1 h2 h3 => match us, mv, ws, h1, h2, h3 with | [_, _], [_, _, _], [], _, _, _ => ⟨_, _, _, _, _, _, rfl, rfl, ⟨_, _, _, _, _, _, rfl, rfl, ⟨_, _, _, _, _, _, rfl, rfl, rfl⟩⟩⟩), rfl⟩
include c X G in
theorem fs_Param_init_2_holds : FnS P w K mg h (tb K) 4 (He.fAd K D_Param_init.at_) 2 ["holds"] (fun vs zs => d_Param_init (pickL [0, 1, 4, 2, 3] (vs ++ ([(.non), (.bl false)] : List PV) ++ zs))) := by
  obtain ⟨fd, F⟩ := c.d.def_ 21 (d := D_Param_init) rfl
  exact ⟨fd, _, _, _, ok_Param_init c X G F, callS_kwo (n := 2) (ks := ["holds"]) (ms := [("default", .non), ("named", .bl false)]) (mp := [(.non), (.bl false)]) (sel := [0, 1, 4, 2, 3]) F (List.cons_ne_nil _ _) (List.forall_mem_cons.mpr ⟨(.tail _ (.head _)), (List.forall_mem_cons.mpr ⟨(.tail _ (.tail _ (.head _))), (fun _ h => nomatch h)⟩)⟩) (fun _ _ => (.cons .non (.cons (.bl _) .nil))) (by decide) (fun _ _ _ _ _ _ us mv ws h1 h2 h3 => match us, mv, ws, h1, h2, h3 with | [_, _], [_, _], [_], _, _, _ => ⟨_, _, _, _, _, _, rfl, rfl, ⟨_, _, _, _, _, _, rfl, rfl, rfl⟩⟩), rfl⟩
include c X G in
theorem fs_Param_init_2_holds_default_named : FnS P w K mg h (tb K) 4 (He.fAd K D_Param_init.at_) 2 ["holds", "default", "named"] (fun vs zs => d_Param_init (pickL [0, 1, 2, 3, 4] (vs ++ ([] : List PV) ++ zs))) := by
  obtain ⟨fd, F⟩ := c.d.def_ 21 (d := D_Param_init) rfl
  exact ⟨fd, _, _, _, ok_Param_init c X G F, callS_kwo (n := 2) (ks := ["holds", "default", "named"]) (ms := []) (mp := []) (sel := [0, 1, 2, 3, 4]) F (List.cons_ne_nil _ _) (fun _ h => nomatch h) (fun _ _ => .nil) (by decide) (fun _ _ _ _ _ _ us mv ws h1 h2 h3 => match us, mv, ws, h1, h2, h3 with | [_, _], [], [_, _, _], _, _, _ => rfl), rfl⟩
theorem sc_law_told : FnScope N_law_told ["_law_name", "_law_params_here", "_law_listed"] (defScope s_law_told) := ⟨rfl, rfl, rfl, by decide +kernel, rfl, by decide +kernel, by decide +kernel⟩
include c X G in
theorem ok_law_told {fd : FuncData} (F : FunD K D_law_told.name D_law_told.qual D_law_told.params D_law_told.body D_law_told.scope (D_law_told.dvs K) (D_law_told.kws K) (He.fAd K D_law_told.at_) fd) : FnOk P w K mg h (L2.CX P w) 12 (He.fAd K D_law_told.at_) fd ["_law_name", "_law_params_here", "_law_listed"] (spM K (tb K) 3 (d_law_told)) :=
  fn_ok F sc_law_told finV_ok rfl fun cdv A outer s H E hr =>
    (ms_cons (ms_setLc (own := [("_law_one", 5)]) (i := 3) rfl sc_law_told.nd rfl rfl rfl rfl (by decide) (mi_seq (me_var 1 (pv 1))) (show BlkOk N_law_told (defScope s_law_told) _ [("_law_one", 5)] from ⟨rfl, by decide +kernel, by decide +kernel, by decide +kernel, by decide +kernel⟩) (fun _ _ _ _ _ => pg_name sc_law_told.nd rfl (Or.inl rfl)) (gin_name (by decide)) (fun _ _ _ _ _ => pts0) (fun _ _ _ _ _ => (me_new (c := 0) finV_ok (hmk_Param c) (fs_Param_init_2_holds_default_named (w := w) (P := P) c X G) (hr.mono (by decide)) tkz0 rfl (hg_Param c X G) (ma_cons (me_idx (me_var 5 (pv 5)) me_int (fun _ _ => rfl)) ma_nil) (len_cons len_nil) (mk_cons (me_idx (me_var 5 (pv 5)) me_int (fun _ _ => rfl)) (mk_cons (me_idx (me_var 5 (pv 5)) me_int (fun _ _ => rfl)) (mk_cons (me_idx (me_var 5 (pv 5)) me_int (fun _ _ => rfl)) mk_nil))) (len_cons (len_cons (len_cons len_nil)))))) (ms_cons (ms_try rfl rfl (fun W1 pn1 xe1 tkW => (mx_expr (me_cmethK (pl := _) (c := 1) (hcm_Method_of c).1 (hcm_Method_of c).2 (fs_Method_of_3_rows (w := w) (P := P) c X G).toH (hr.mono (by decide)) tkW rfl (hg_Method c X G) (ma_cons (me_var 0 (pv 0)) (ma_cons (me_var 3 (pv 3)) ma_nil)) (mk_cons (me_var 2 (pv 2)) mk_nil) (len_cons len_nil)))) (cls_as (i := 4) rfl rfl sc_law_told.nd rfl rfl ⟨rfl, by decide, .inl (hg_BadName c X G)⟩ (hcl_x_BadName c) (fun a oe d pn c1 vs ht hz hf => by
      have ec := tab_one (n := 2) (by decide) ht
      subst ec
      exact (ms_one (ms_ret (me_tup (ma_cons me_int (ma_cons (me_xf (j := 0) (c := 2) (hxf_BadName_name c).1 (hxf_BadName_name c).2 rfl (show (flN.getD 2 []).Nodup by decide) hz hf (pv 4)) ma_nil)) (len_cons (len_cons len_nil)))))) (cls_as (i := 4) rfl rfl sc_law_told.nd rfl rfl ⟨rfl, by decide, .inl (hg_Twice c X G)⟩ (hcl_x_Twice c) (fun a oe d pn c1 vs ht hz hf => by
      have ec := tab_one (n := 6) (by decide) ht
      subst ec
      exact (ms_one (ms_ret (me_tup (ma_cons me_int (ma_cons (me_xf (j := 0) (c := 6) (hxf_Twice_name c).1 (hxf_Twice_name c).2 rfl (show (flN.getD 6 []).Nodup by decide) hz hf (pv 4)) ma_nil)) (len_cons (len_cons len_nil)))))) (cls_as (i := 4) rfl rfl sc_law_told.nd rfl rfl ⟨rfl, by decide, .inl (hg_BadOrder c X G)⟩ (hcl_x_BadOrder c) (fun a oe d pn c1 vs ht hz hf => by
      have ec := tab_one (n := 5) (by decide) ht
      subst ec
      exact (ms_one (ms_ret (me_tup (ma_cons me_int (ma_cons (me_xf (j := 0) (c := 5) (hxf_BadOrder_name c).1 (hxf_BadOrder_name c).2 rfl (show (flN.getD 5 []).Nodup by decide) hz hf (pv 4)) ma_nil)) (len_cons (len_cons len_nil)))))) (cls_as (i := 4) rfl rfl sc_law_told.nd rfl rfl ⟨rfl, by decide, .inl (hg_TooMany c X G)⟩ (hcl_x_TooMany c) (fun a oe d pn c1 vs ht hz hf => by
      have ec := tab_one (n := 7) (by decide) ht
      subst ec
      exact (ms_one (ms_ret (me_tup (ma_cons me_int (ma_cons (me_xf (j := 0) (c := 7) (hxf_TooMany_what c).1 (hxf_TooMany_what c).2 rfl (show (flN.getD 7 []).Nodup by decide) hz hf (pv 4)) ma_nil)) (len_cons (len_cons len_nil)))))) (cls_as (i := 4) rfl rfl sc_law_told.nd rfl rfl ⟨rfl, by decide, .inl (hg_BadRow c X G)⟩ (hcl_x_BadRow c) (fun a oe d pn c1 vs ht hz hf => by
      have ec := tab_one (n := 4) (by decide) ht
      subst ec
      exact (ms_one (ms_ret (me_tup (ma_cons me_int (ma_cons (me_xf (j := 0) (c := 4) (hxf_BadRow_at c).1 (hxf_BadRow_at c).2 rfl (show (flN.getD 4 []).Nodup by decide) hz hf (pv 4)) ma_nil)) (len_cons (len_cons len_nil)))))) (cls_nil rfl rfl takesB))))))) (ms_one (ms_ret me_non))))
include c X G in
theorem fs_law_told : FnS P w K mg h (tb K) 12 (He.fAd K D_law_told.at_) 3 [] (fun vs _ => d_law_told vs) := by
  obtain ⟨fd, F⟩ := c.d.def_ 22 (d := D_law_told) rfl
  exact ⟨fd, _, _, _, ok_law_told c X G F, callS_plain F rfl (fun _ _ _ _ _ _ us hl => match us, hl with | [_, _, _], _ => rfl), rfl⟩
theorem sc_law_due : FnScope N_law_due ["_law_names_here", "_law_params_here", "_law_faults", "_law_name", "_law_at"] (defScope s_law_due) := ⟨rfl, rfl, rfl, by decide +kernel, rfl, by decide +kernel, by decide +kernel⟩
include c X G in
theorem ok_law_due {fd : FuncData} (F : FunD K D_law_due.name D_law_due.qual D_law_due.params D_law_due.body D_law_due.scope (D_law_due.dvs K) (D_law_due.kws K) (He.fAd K D_law_due.at_) fd) : FnOk P w K mg h (L2.CX P w) 1 (He.fAd K D_law_due.at_) fd ["_law_names_here", "_law_params_here", "_law_faults", "_law_name", "_law_at"] (spM K (tb K) 5 (d_law_due)) :=
  fn_ok F sc_law_due finV_ok rfl fun cdv A outer s H E hr =>
    (ms_cons (ms_new (mf_lst ma_nil len_nil) (pg_name sc_law_due.nd rfl (by first | exact Or.inl rfl | exact Or.inr rfl))) (ms_cons (ms_if (qe_cmp (sop_in (ru hr)) me_int (me_var 2 (pv 2)) (by with_unfolding_all rfl)) (ms_one (ms_ret (me_tup (ma_cons me_int (ma_cons (me_var 3 (pv 3)) ma_nil)) (len_cons (len_cons len_nil))))) ms_nil) (ms_cons (ms_for passesB rfl (mi_seq (me_var 1 (pv 1))) (mg_name (pg_name sc_law_due.nd rfl (by first | exact Or.inl rfl | exact Or.inr rfl))) (gok_name 6) (ms_cons (ms_if (qe_cmp (sop_in (ru hr)) (me_idx (me_var 6 (pv 6)) me_int (fun _ _ => rfl)) (me_var 5 (pv 5)) (by with_unfolding_all rfl)) (ms_one (ms_ret (me_tup (ma_cons me_int (ma_cons (me_idx (me_var 6 (pv 6)) me_int (fun _ _ => rfl)) ma_nil)) (len_cons (len_cons len_nil))))) ms_nil) (ms_one (ms_expr (me_mt PySem.F.slot_list_append PySem.F.type_list_append mt_append smt_append (me_var 5 (pv 5)) (ma_cons (me_idx (me_var 6 (pv 6)) me_int (fun _ _ => rfl)) ma_nil)))))) (ms_cons (ms_if (qe_cmp (sop_in (ru hr)) me_int (me_var 2 (pv 2)) (by with_unfolding_all rfl)) (ms_one (ms_ret (me_tup (ma_cons me_int (ma_cons (me_idx (me_var 0 (pv 0)) me_int (fun _ _ => rfl)) ma_nil)) (len_cons (len_cons len_nil))))) ms_nil) (ms_cons (ms_if (qe_cmp sop_gt (me_blt scr_len rfl (hb_len c X G) rfl (ma_cons (me_var 1 (pv 1)) ma_nil)) me_int (nomark _)) (ms_one (ms_ret (me_tup (ma_cons me_int (ma_cons (me_str rfl) ma_nil)) (len_cons (len_cons len_nil))))) ms_nil) (ms_cons (ms_if (qe_cmp sop_gt (me_blt scr_len rfl (hb_len c X G) rfl (ma_cons (me_fresh (mf_comp (own := [("_law_one", 6)]) rfl sc_law_due.nd (mi_seq (me_var 1 (pv 1))) (show BlkOk N_law_due (defScope s_law_due) _ [("_law_one", 6)] from ⟨rfl, by decide +kernel, by decide +kernel, by decide +kernel, by decide +kernel⟩) (fun _ _ _ _ _ => pg_name sc_law_due.nd rfl (Or.inl rfl)) (gin_name (by decide)) (fun _ _ _ _ _ => pts1 (qe_cmp (sop_eq (ru hr)) (me_idx (me_var 6 (pv 6)) me_int (fun _ _ => rfl)) (me_str rfl) (nomark _))) (fun _ _ _ _ _ => (me_var 6 (pv 6))))) ma_nil)) me_int (nomark _)) (ms_one (ms_ret (me_tup (ma_cons me_int (ma_cons (me_str rfl) ma_nil)) (len_cons (len_cons len_nil))))) ms_nil) (ms_cons (ms_if (qe_cmp (sop_in (ru hr)) me_int (me_var 2 (pv 2)) (by with_unfolding_all rfl)) (ms_one (ms_ret (me_tup (ma_cons me_int (ma_cons (me_un sop_neg me_int) ma_nil)) (len_cons (len_cons len_nil))))) ms_nil) (ms_one (ms_ret (me_if (qe_cmp (sop_in (ru hr)) me_int (me_var 2 (pv 2)) (by with_unfolding_all rfl)) (me_tup (ma_cons me_int (ma_cons (me_var 4 (pv 4)) ma_nil)) (len_cons (len_cons len_nil))) (me_tup (ma_cons me_int (ma_cons (me_str rfl) ma_nil)) (len_cons (len_cons len_nil)))))))))))))
include c X G in
theorem fs_law_due : FnS P w K mg h (tb K) 1 (He.fAd K D_law_due.at_) 5 [] (fun vs _ => d_law_due vs) := by
  obtain ⟨fd, F⟩ := c.d.def_ 23 (d := D_law_due) rfl
  exact ⟨fd, _, _, _, ok_law_due c X G F, callS_plain F rfl (fun _ _ _ _ _ _ us hl => match us, hl with | [_, _, _, _, _], _ => rfl), rfl⟩
theorem sc_law_take : FnScope N_law_take ["_law_bag_here", "_law_many"] (defScope s_law_take) := ⟨rfl, rfl, rfl, by decide +kernel, rfl, by decide +kernel, by decide +kernel⟩
include c X G in
theorem ok_law_take {fd : FuncData} (F : FunD K D_law_take.name D_law_take.qual D_law_take.params D_law_take.body D_law_take.scope (D_law_take.dvs K) (D_law_take.kws K) (He.fAd K D_law_take.at_) fd) : FnOk P w K mg h (L2.CX P w) 1 (He.fAd K D_law_take.at_) fd ["_law_bag_here", "_law_many"] (spM K (tb K) 2 (d_law_take)) :=
  fn_ok F sc_law_take finV_ok rfl fun cdv A outer s H E hr =>
    (ms_cons (ms_if (qe_cmp sop_gt (me_idx (me_var 0 (pv 0)) me_int (fun _ _ => rfl)) me_int (nomark _)) (ms_cons (ms_asg (me_op2 sop_mod (me_bltT scr_int rfl (hb_int c X G) rfl (ma_cons (me_idx (me_var 0 (pv 0)) me_int (fun _ _ => rfl)) ma_nil)) (me_var 1 (pv 1))) (mg_name (pg_name sc_law_take.nd rfl (by first | exact Or.inl rfl | exact Or.inr rfl))) (gok_name 2)) (ms_cons (ms_setI (me_op2 sop_fdiv (me_idx (me_var 0 (pv 0)) me_int (fun _ _ => rfl)) (me_var 1 (pv 1))) (me_var 0 (pv 0)) me_int) (ms_one (ms_ret (me_var 2 (pv 2)))))) ms_nil) (ms_cons (ms_setI (me_op2 sop_mod (me_bltT scr_int rfl (hb_int c X G) rfl (ma_cons (me_op2 sop_add (me_op2 sop_mul (me_idx (me_var 0 (pv 0)) me_int (fun _ _ => rfl)) me_int) me_int) ma_nil)) me_int) (me_var 0 (pv 0)) me_int) (ms_one (ms_ret (me_op2 sop_mod (me_op2 sop_fdiv (me_op2 sop_mod (me_bltT scr_int rfl (hb_int c X G) rfl (ma_cons (me_op2 sop_mul (me_op2 sop_fdiv (me_idx (me_var 0 (pv 0)) me_int (fun _ _ => rfl)) me_int) me_int) ma_nil)) me_int) me_int) (me_var 1 (pv 1)))))))
include c X G in
theorem fs_law_take : FnS P w K mg h (tb K) 1 (He.fAd K D_law_take.at_) 2 [] (fun vs _ => d_law_take vs) := by
  obtain ⟨fd, F⟩ := c.d.def_ 24 (d := D_law_take) rfl
  exact ⟨fd, _, _, _, ok_law_take c X G F, callS_plain F rfl (fun _ _ _ _ _ _ us hl => match us, hl with | [_, _], _ => rfl), rfl⟩
theorem sc_law_of : FnScope N_law_of ["_law_bag_here", "_law_some"] (defScope s_law_of) := ⟨rfl, rfl, rfl, by decide +kernel, rfl, by decide +kernel, by decide +kernel⟩
include c X G in
theorem ok_law_of {fd : FuncData} (F : FunD K D_law_of.name D_law_of.qual D_law_of.params D_law_of.body D_law_of.scope (D_law_of.dvs K) (D_law_of.kws K) (He.fAd K D_law_of.at_) fd) : FnOk P w K mg h (L2.CX P w) 2 (He.fAd K D_law_of.at_) fd ["_law_bag_here", "_law_some"] (spM K (tb K) 2 (d_law_of)) :=
  fn_ok F sc_law_of finV_ok rfl fun cdv A outer s H E hr =>
    (ms_one (ms_ret (me_idx (me_var 1 (pv 1)) (me_call (fs_law_take (w := w) (P := P) c X G) (hr.mono (by decide)) takesB rfl (hg__law_take c X G) (hk__law_take c) (ma_cons (me_var 0 (pv 0)) (ma_cons (me_blt scr_len rfl (hb_len c X G) rfl (ma_cons (me_var 1 (pv 1)) ma_nil)) ma_nil)) (len_cons (len_cons len_nil)) mk_nil len_nil) (fun _ _ => rfl))))
include c X G in
theorem fs_law_of : FnS P w K mg h (tb K) 2 (He.fAd K D_law_of.at_) 2 [] (fun vs _ => d_law_of vs) := by
  obtain ⟨fd, F⟩ := c.d.def_ 25 (d := D_law_of) rfl
  exact ⟨fd, _, _, _, ok_law_of c X G F, callS_plain F rfl (fun _ _ _ _ _ _ us hl => match us, hl with | [_, _], _ => rfl), rfl⟩
theorem sc_law_params : FnScope N_law_params ["_law_bag_here", "_law_names_here", "_law_faults"] (defScope s_law_params) := ⟨rfl, rfl, rfl, by decide +kernel, rfl, by decide +kernel, by decide +kernel⟩
include c X G in
theorem ok_law_params {fd : FuncData} (F : FunD K D_law_params.name D_law_params.qual D_law_params.params D_law_params.body D_law_params.scope (D_law_params.dvs K) (D_law_params.kws K) (He.fAd K D_law_params.at_) fd) : FnOk P w K mg h (L2.CX P w) 3 (He.fAd K D_law_params.at_) fd ["_law_bag_here", "_law_names_here", "_law_faults"] (spM K (tb K) 3 (d_law_params)) :=
  fn_ok F sc_law_params finV_ok rfl fun cdv A outer s H E hr =>
    (ms_cons (ms_new (mf_lst (ma_cons (me_tup (ma_cons (me_idx (me_var 1 (pv 1)) me_int (fun _ _ => rfl)) (ma_cons (me_str rfl) (ma_cons me_non (ma_cons me_bl ma_nil)))) (len_cons (len_cons (len_cons (len_cons len_nil))))) (ma_cons (me_tup (ma_cons (me_idx (me_var 1 (pv 1)) me_int (fun _ _ => rfl)) (ma_cons (me_str rfl) (ma_cons me_non (ma_cons me_bl ma_nil)))) (len_cons (len_cons (len_cons (len_cons len_nil))))) ma_nil)) (len_cons (len_cons len_nil))) (pg_name sc_law_params.nd rfl (by first | exact Or.inl rfl | exact Or.inr rfl))) (ms_cons (ms_if (qe_cmp (sop_in (ru hr)) me_int (me_var 2 (pv 2)) (by with_unfolding_all rfl)) (ms_one (ms_expr (me_mt PySem.F.slot_list_append PySem.F.type_list_append mt_append smt_append (me_var 3 (pv 3)) (ma_cons (me_tup (ma_cons (me_call (fs_law_of (w := w) (P := P) c X G) (hr.mono (by decide)) takesB rfl (hg__law_of c X G) (hk__law_of c) (ma_cons (me_var 0 (pv 0)) (ma_cons (me_slice (me_var 1 (pv 1)) mo_none (mo_some me_int)) ma_nil)) (len_cons (len_cons len_nil)) mk_nil len_nil) (ma_cons (me_call (fs_law_of (w := w) (P := P) c X G) (hr.mono (by decide)) takesB rfl (hg__law_of c X G) (hk__law_of c) (ma_cons (me_var 0 (pv 0)) (ma_cons (me_fresh (mf_lst (ma_cons (me_str rfl) (ma_cons (me_str rfl) ma_nil)) (len_cons (len_cons len_nil)))) ma_nil)) (len_cons (len_cons len_nil)) mk_nil len_nil) (ma_cons me_non (ma_cons me_bl ma_nil)))) (len_cons (len_cons (len_cons (len_cons len_nil))))) ma_nil)))) ms_nil) (ms_cons (ms_if (qe_cmp (sop_in (ru hr)) me_int (me_var 2 (pv 2)) (by with_unfolding_all rfl)) (ms_one (ms_if (qe_cmp (sop_eq (ru hr)) (me_call (fs_law_take (w := w) (P := P) c X G) (hr.mono (by decide)) takesB rfl (hg__law_take c X G) (hk__law_take c) (ma_cons (me_var 0 (pv 0)) (ma_cons me_int ma_nil)) (len_cons (len_cons len_nil)) mk_nil len_nil) me_int (nomark _)) (ms_cons (ms_expr (me_mt PySem.F.slot_list_append PySem.F.type_list_append mt_append smt_append (me_var 3 (pv 3)) (ma_cons (me_tup (ma_cons (me_idx (me_var 1 (pv 1)) me_int (fun _ _ => rfl)) (ma_cons (me_str rfl) (ma_cons me_non (ma_cons me_bl ma_nil)))) (len_cons (len_cons (len_cons (len_cons len_nil))))) ma_nil))) (ms_one (ms_expr (me_mt PySem.F.slot_list_append PySem.F.type_list_append mt_append smt_append (me_var 3 (pv 3)) (ma_cons (me_tup (ma_cons (me_idx (me_var 1 (pv 1)) me_int (fun _ _ => rfl)) (ma_cons (me_str rfl) (ma_cons (me_call (fs_law_of (w := w) (P := P) c X G) (hr.mono (by decide)) takesB rfl (hg__law_of c X G) (hk__law_of c) (ma_cons (me_var 0 (pv 0)) (ma_cons (me_fresh (mf_lst (ma_cons me_non (ma_cons (me_tup (ma_cons (me_str rfl) (ma_cons (me_idx (me_var 1 (pv 1)) me_int (fun _ _ => rfl)) ma_nil)) (len_cons (len_cons len_nil))) ma_nil)) (len_cons (len_cons len_nil)))) ma_nil)) (len_cons (len_cons len_nil)) mk_nil len_nil) (ma_cons me_bl ma_nil)))) (len_cons (len_cons (len_cons (len_cons len_nil))))) ma_nil))))) (ms_cons (ms_expr (me_mt PySem.F.slot_list_append PySem.F.type_list_append mt_append smt_append (me_var 3 (pv 3)) (ma_cons (me_tup (ma_cons (me_idx (me_var 1 (pv 1)) me_int (fun _ _ => rfl)) (ma_cons (me_str rfl) (ma_cons (me_tup (ma_cons (me_str rfl) (ma_cons (me_idx (me_var 1 (pv 1)) me_int (fun _ _ => rfl)) ma_nil)) (len_cons (len_cons len_nil))) (ma_cons me_bl ma_nil)))) (len_cons (len_cons (len_cons (len_cons len_nil))))) ma_nil))) (ms_one (ms_expr (me_mt PySem.F.slot_list_append PySem.F.type_list_append mt_append smt_append (me_var 3 (pv 3)) (ma_cons (me_tup (ma_cons (me_idx (me_var 1 (pv 1)) me_int (fun _ _ => rfl)) (ma_cons (me_call (fs_law_of (w := w) (P := P) c X G) (hr.mono (by decide)) takesB rfl (hg__law_of c X G) (hk__law_of c) (ma_cons (me_var 0 (pv 0)) (ma_cons (me_fresh (mf_lst (ma_cons (me_str rfl) (ma_cons (me_str rfl) ma_nil)) (len_cons (len_cons len_nil)))) ma_nil)) (len_cons (len_cons len_nil)) mk_nil len_nil) (ma_cons me_non (ma_cons me_bl ma_nil)))) (len_cons (len_cons (len_cons (len_cons len_nil))))) ma_nil))))))) ms_nil) (ms_cons (ms_if (qe_cmp (sop_in (ru hr)) me_int (me_var 2 (pv 2)) (by with_unfolding_all rfl)) (ms_one (ms_for passesB rfl (mi_range1 rfl (hb_range c X G) (me_op2 sop_add me_int (me_call (fs_law_take (w := w) (P := P) c X G) (hr.mono (by decide)) takesB rfl (hg__law_take c X G) (hk__law_take c) (ma_cons (me_var 0 (pv 0)) (ma_cons me_int ma_nil)) (len_cons (len_cons len_nil)) mk_nil len_nil))) (mg_name (pg_name sc_law_params.nd rfl (by first | exact Or.inl rfl | exact Or.inr rfl))) (gok_name 4) (ms_one (ms_expr (me_mt PySem.F.slot_list_append PySem.F.type_list_append mt_append smt_append (me_var 3 (pv 3)) (ma_cons (me_tup (ma_cons (me_idx (me_var 1 (pv 1)) (me_op2 sop_add me_int (me_var 4 (pv 4))) (fun _ _ => rfl)) (ma_cons (me_str rfl) (ma_cons me_non (ma_cons me_bl ma_nil)))) (len_cons (len_cons (len_cons (len_cons len_nil))))) ma_nil)))))) ms_nil) (ms_cons (ms_if (qe_cmp (sop_in (ru hr)) me_int (me_var 2 (pv 2)) (by with_unfolding_all rfl)) (ms_one (ms_for passesB rfl (mi_range1 rfl (hb_range c X G) me_int) (mg_name (pg_name sc_law_params.nd rfl (by first | exact Or.inl rfl | exact Or.inr rfl))) (gok_name 4) (ms_one (ms_expr (me_mt PySem.F.slot_list_append PySem.F.type_list_append mt_append smt_append (me_var 3 (pv 3)) (ma_cons (me_tup (ma_cons (me_idx (me_var 1 (pv 1)) (me_op2 sop_add me_int (me_var 4 (pv 4))) (fun _ _ => rfl)) (ma_cons (me_str rfl) (ma_cons (me_call (fs_law_of (w := w) (P := P) c X G) (hr.mono (by decide)) takesB rfl (hg__law_of c X G) (hk__law_of c) (ma_cons (me_var 0 (pv 0)) (ma_cons (me_fresh (mf_lst (ma_cons me_non (ma_cons (me_tup (ma_cons (me_str rfl) (ma_cons (me_tup ma_nil len_nil) ma_nil)) (len_cons (len_cons len_nil))) ma_nil)) (len_cons (len_cons len_nil)))) ma_nil)) (len_cons (len_cons len_nil)) mk_nil len_nil) (ma_cons me_bl ma_nil)))) (len_cons (len_cons (len_cons (len_cons len_nil))))) ma_nil)))))) ms_nil) (ms_one (ms_ret (me_var 3 (pv 3)))))))))
include c X G in
theorem fs_law_params : FnS P w K mg h (tb K) 3 (He.fAd K D_law_params.at_) 3 [] (fun vs _ => d_law_params vs) := by
  obtain ⟨fd, F⟩ := c.d.def_ 26 (d := D_law_params) rfl
  exact ⟨fd, _, _, _, ok_law_params c X G F, callS_plain F rfl (fun _ _ _ _ _ _ us hl => match us, hl with | [_, _, _], _ => rfl), rfl⟩
theorem sc_law_names : FnScope N_law_names ["_law_bag_here", "_law_many"] (defScope s_law_names) := ⟨rfl, rfl, rfl, by decide +kernel, rfl, by decide +kernel, by decide +kernel⟩
include c X G in
theorem ok_law_names {fd : FuncData} (F : FunD K D_law_names.name D_law_names.qual D_law_names.params D_law_names.body D_law_names.scope (D_law_names.dvs K) (D_law_names.kws K) (He.fAd K D_law_names.at_) fd) : FnOk P w K mg h (L2.CX P w) 3 (He.fAd K D_law_names.at_) fd ["_law_bag_here", "_law_many"] (spM K (tb K) 2 (d_law_names)) :=
  fn_ok F sc_law_names finV_ok rfl fun cdv A outer s H E hr =>
    (ms_cons (ms_par rfl sc_law_names.nd rfl rfl (by decide) rfl rfl (ma_cons (me_pl (mf_lst ma_nil len_nil)) (ma_cons (me_str rfl) ma_nil)) rfl) (ms_cons (ms_for passesB rfl (mi_seq (me_str rfl)) (mg_name (pg_name sc_law_names.nd rfl (by first | exact Or.inl rfl | exact Or.inr rfl))) (gok_name 2) (ms_one (ms_expr (me_mt PySem.F.slot_list_extend PySem.F.type_list_extend mt_extend smt_extend (me_var 4 (pv 4)) (ma_cons (me_fresh (mf_comp (own := [("_law_two", 8)]) rfl sc_law_names.nd (mi_seq (me_str rfl)) (show BlkOk N_law_names (defScope s_law_names) _ [("_law_two", 8)] from ⟨rfl, by decide +kernel, by decide +kernel, by decide +kernel, by decide +kernel⟩) (fun _ _ _ _ _ => pg_name sc_law_names.nd rfl (Or.inl rfl)) (gin_name (by decide)) (fun _ _ _ _ _ => pts0) (fun _ _ _ _ _ => (me_op2 sop_add (me_var 2 (pv 2)) (me_var 8 (pv 8)))))) ma_nil))))) (ms_cons (ms_for passesB rfl (mi_range1 rfl (hb_range c X G) (me_call (fs_law_take (w := w) (P := P) c X G) (hr.mono (by decide)) takesB rfl (hg__law_take c X G) (hk__law_take c) (ma_cons (me_var 0 (pv 0)) (ma_cons me_int ma_nil)) (len_cons (len_cons len_nil)) mk_nil len_nil)) (mg_name (pg_name sc_law_names.nd rfl (by first | exact Or.inl rfl | exact Or.inr rfl))) (gok_name 3) (ms_one (ms_asg (me_op2 sop_add (me_var 5 (pv 5)) (me_call (fs_law_of (w := w) (P := P) c X G) (hr.mono (by decide)) takesB rfl (hg__law_of c X G) (hk__law_of c) (ma_cons (me_var 0 (pv 0)) (ma_cons (me_str rfl) ma_nil)) (len_cons (len_cons len_nil)) mk_nil len_nil)) (mg_name (pg_name sc_law_names.nd rfl (by first | exact Or.inl rfl | exact Or.inr rfl))) (gok_name 5)))) (ms_cons (ms_par rfl sc_law_names.nd rfl rfl (by decide) rfl rfl (ma_cons (me_call (fs_law_take (w := w) (P := P) c X G) (hr.mono (by decide)) takesB rfl (hg__law_take c X G) (hk__law_take c) (ma_cons (me_var 0 (pv 0)) (ma_cons (me_op2 sop_add (me_blt scr_len rfl (hb_len c X G) rfl (ma_cons (me_var 5 (pv 5)) ma_nil)) me_int) ma_nil)) (len_cons (len_cons len_nil)) mk_nil len_nil) (ma_cons (me_pl (mf_lst ma_nil len_nil)) ma_nil)) rfl) (ms_cons (ms_for passesB rfl (mi_range1 rfl (hb_range c X G) (me_var 1 (pv 1))) (mg_name (pg_name sc_law_names.nd rfl (by first | exact Or.inl rfl | exact Or.inr rfl))) (gok_name 3) (ms_one (ms_expr (me_mt PySem.F.slot_list_append PySem.F.type_list_append mt_append smt_append (me_var 7 (pv 7)) (ma_cons (me_op2 sop_add (me_op2 sop_add (me_slice (me_var 5 (pv 5)) mo_none (mo_some (me_var 6 (pv 6)))) (me_mt PySem.F.slot_list_pop PySem.F.type_list_pop mt_popAt smt_pop (me_var 4 (pv 4)) (ma_cons (me_call (fs_law_take (w := w) (P := P) c X G) (hr.mono (by decide)) takesB rfl (hg__law_take c X G) (hk__law_take c) (ma_cons (me_var 0 (pv 0)) (ma_cons (me_blt scr_len rfl (hb_len c X G) rfl (ma_cons (me_var 4 (pv 4)) ma_nil)) ma_nil)) (len_cons (len_cons len_nil)) mk_nil len_nil) ma_nil))) (me_slice (me_var 5 (pv 5)) (mo_some (me_var 6 (pv 6))) mo_none)) ma_nil))))) (ms_one (ms_ret (me_var 7 (pv 7)))))))))
include c X G in
theorem fs_law_names : FnS P w K mg h (tb K) 3 (He.fAd K D_law_names.at_) 2 [] (fun vs _ => d_law_names vs) := by
  obtain ⟨fd, F⟩ := c.d.def_ 27 (d := D_law_names) rfl
  exact ⟨fd, _, _, _, ok_law_names c X G F, callS_plain F rfl (fun _ _ _ _ _ _ us hl => match us, hl with | [_, _], _ => rfl), rfl⟩
theorem sc_law_bag : FnScope N_law_bag ["_law_script", "_law_at"] (defScope s_law_bag) := ⟨rfl, rfl, rfl, by decide +kernel, rfl, by decide +kernel, by decide +kernel⟩
include c X G in
theorem ok_law_bag {fd : FuncData} (F : FunD K D_law_bag.name D_law_bag.qual D_law_bag.params D_law_bag.body D_law_bag.scope (D_law_bag.dvs K) (D_law_bag.kws K) (He.fAd K D_law_bag.at_) fd) : FnOk P w K mg h (L2.CX P w) 1 (He.fAd K D_law_bag.at_) fd ["_law_script", "_law_at"] (spM K (tb K) 2 (d_law_bag)) :=
  fn_ok F sc_law_bag finL_ok rfl fun cdv A outer s H E hr =>
    (ms_cons (ms_asg (me_if (qe_cmp sop_lt (me_var 1 (pv 1)) (me_blt scr_len rfl (hb_len c X G) rfl (ma_cons (me_var 0 (pv 0)) ma_nil)) (nomark _)) (me_idx (me_var 0 (pv 0)) (me_var 1 (pv 1)) (fun _ _ => rfl)) me_int) (mg_name (pg_name sc_law_bag.nd rfl (by first | exact Or.inl rfl | exact Or.inr rfl))) (gok_name 2)) (ms_cons (ms_asg (me_op2 sop_add (me_op2 sop_mul me_int (me_var 1 (pv 1))) me_int) (mg_name (pg_name sc_law_bag.nd rfl (by first | exact Or.inl rfl | exact Or.inr rfl))) (gok_name 3)) (ms_cons (ms_for passesB rfl (mi_enum rfl (hb_enumerate c X G) (me_slice (me_var 0 (pv 0)) mo_none (mo_some me_int))) (mg_tup rfl (mgs_cons (pg_name sc_law_bag.nd rfl (by first | exact Or.inl rfl | exact Or.inr rfl)) (mgs_cons (pg_name sc_law_bag.nd rfl (by first | exact Or.inl rfl | exact Or.inr rfl)) mgs_nil))) (gok_tup [4, 5]) (ms_one (ms_asg (me_op2 sop_mod (me_bltT scr_int rfl (hb_int c X G) rfl (ma_cons (me_op2 sop_add (me_op2 sop_add (me_op2 sop_mul (me_var 3 (pv 3)) me_int) (me_op2 sop_mod (me_bltT scr_int rfl (hb_int c X G) rfl (ma_cons (me_var 5 (pv 5)) ma_nil)) me_int)) (me_op2 sop_mul me_int (me_var 4 (pv 4)))) ma_nil)) me_int) (mg_name (pg_name sc_law_bag.nd rfl (by first | exact Or.inl rfl | exact Or.inr rfl))) (gok_name 3)))) (ms_one (ms_retL (mf_lst (ma_cons (me_if (qe_cmp sop_ge (me_blt scr_abs rfl (hb_abs c X G) rfl (ma_cons (me_var 2 (pv 2)) ma_nil)) (me_op2 sop_pow me_int me_int) (nomark _)) (me_blt scr_abs rfl (hb_abs c X G) rfl (ma_cons (me_var 2 (pv 2)) ma_nil)) me_int) (ma_cons (me_var 3 (pv 3)) ma_nil)) (len_cons (len_cons len_nil))))))))
include c X G in
theorem fs_law_bag : FnS P w K mg h (tb K) 1 (He.fAd K D_law_bag.at_) 2 [] (fun vs _ => d_law_bag vs) := by
  obtain ⟨fd, F⟩ := c.d.def_ 28 (d := D_law_bag) rfl
  exact ⟨fd, _, _, _, ok_law_bag c X G F, callS_plain F rfl (fun _ _ _ _ _ _ us hl => match us, hl with | [_, _], _ => rfl), rfl⟩
theorem sc_law : FnScope N_law ["_law_script"] (defScope s_law) := ⟨rfl, rfl, rfl, by decide +kernel, rfl, by decide +kernel, by decide +kernel⟩
include c X G in
theorem ok_law {fd : FuncData} (F : FunD K D_law.name D_law.qual D_law.params D_law.body D_law.scope (D_law.dvs K) (D_law.kws K) (He.fAd K D_law.at_) fd) : FnOk P w K mg h (L2.CX P w) 13 (He.fAd K D_law.at_) fd ["_law_script"] (spM K (tb K) 1 (d_law)) :=
  fn_ok F sc_law finV_ok rfl fun cdv A outer s H E hr =>
    (ms_cons (ms_for passesB rfl (mi_range1 rfl (hb_range c X G) (me_blt (scr_max rfl) rfl (hb_max c X G) rfl (ma_cons me_int (ma_cons (me_blt (scr_min rfl) rfl (hb_min c X G) rfl (ma_cons me_int (ma_cons (me_blt scr_len rfl (hb_len c X G) rfl (ma_cons (me_var 0 (pv 0)) ma_nil)) ma_nil))) ma_nil)))) (mg_name (pg_name sc_law.nd rfl (by first | exact Or.inl rfl | exact Or.inr rfl))) (gok_name 1) (ms_cons (ms_asg (me_call (fs_law_bag (w := w) (P := P) c X G) (hr.mono (by decide)) takesB rfl (hg__law_bag c X G) (hk__law_bag c) (ma_cons (me_var 0 (pv 0)) (ma_cons (me_var 1 (pv 1)) ma_nil)) (len_cons (len_cons len_nil)) mk_nil len_nil) (mg_name (pg_name sc_law.nd rfl (by first | exact Or.inl rfl | exact Or.inr rfl))) (gok_name 2)) (ms_cons (ms_asg (me_call (fs_law_names (w := w) (P := P) c X G) (hr.mono (by decide)) takesB rfl (hg__law_names c X G) (hk__law_names c) (ma_cons (me_var 2 (pv 2)) (ma_cons me_int ma_nil)) (len_cons (len_cons len_nil)) mk_nil len_nil) (mg_name (pg_name sc_law.nd rfl (by first | exact Or.inl rfl | exact Or.inr rfl))) (gok_name 3)) (ms_one (ms_for passesB rfl (mi_range1 rfl (hb_range c X G) me_int) (mg_name (pg_name sc_law.nd rfl (by first | exact Or.inl rfl | exact Or.inr rfl))) (gok_name 4) (ms_cons (ms_asg (me_fresh (mf_lst (ma_cons (me_call (fs_law_take (w := w) (P := P) c X G) (hr.mono (by decide)) takesB rfl (hg__law_take c X G) (hk__law_take c) (ma_cons (me_var 2 (pv 2)) (ma_cons me_int ma_nil)) (len_cons (len_cons len_nil)) mk_nil len_nil) (ma_cons (me_call (fs_law_take (w := w) (P := P) c X G) (hr.mono (by decide)) takesB rfl (hg__law_take c X G) (hk__law_take c) (ma_cons (me_var 2 (pv 2)) (ma_cons me_int ma_nil)) (len_cons (len_cons len_nil)) mk_nil len_nil) ma_nil)) (len_cons (len_cons len_nil)))) (mg_name (pg_name sc_law.nd rfl (by first | exact Or.inl rfl | exact Or.inr rfl))) (gok_name 5)) (ms_cons (ms_asg (me_call (fs_law_params (w := w) (P := P) c X G) (hr.mono (by decide)) takesB rfl (hg__law_params c X G) (hk__law_params c) (ma_cons (me_var 2 (pv 2)) (ma_cons (me_var 3 (pv 3)) (ma_cons (me_var 5 (pv 5)) ma_nil))) (len_cons (len_cons (len_cons len_nil))) mk_nil len_nil) (mg_name (pg_name sc_law.nd rfl (by first | exact Or.inl rfl | exact Or.inr rfl))) (gok_name 6)) (ms_cons (ms_newLc (own := [("_law_k", 12)]) (i := 7) rfl sc_law.nd rfl rfl rfl rfl (by decide) (mi_range1 rfl (hb_range c X G) (me_call (fs_law_take (w := w) (P := P) c X G) (hr.mono (by decide)) takesB rfl (hg__law_take c X G) (hk__law_take c) (ma_cons (me_var 2 (pv 2)) (ma_cons me_int ma_nil)) (len_cons (len_cons len_nil)) mk_nil len_nil)) (show BlkOk N_law (defScope s_law) _ [("_law_k", 12)] from ⟨rfl, by decide +kernel, by decide +kernel, by decide +kernel, by decide +kernel⟩) (fun _ _ _ _ _ => pg_name sc_law.nd rfl (Or.inl rfl)) (gin_name (by decide)) (fun _ _ _ _ _ => pts0) (fun _ _ _ _ _ => (me_tup (ma_cons (me_str rfl) (ma_cons (me_idx (me_var 3 (pv 3)) me_int (fun _ _ => rfl)) (ma_cons (me_tup ma_nil len_nil) ma_nil))) (len_cons (len_cons (len_cons len_nil)))))) (ms_cons (ms_if (qe_cmp (sop_in (ru hr)) me_int (me_var 5 (pv 5)) (by with_unfolding_all rfl)) (ms_one (ms_newLc (own := [("_law_k", 12)]) (i := 7) rfl sc_law.nd rfl rfl rfl rfl (by decide) (mi_range1 rfl (hb_range c X G) (me_op2 sop_add me_int (me_call (fs_law_take (w := w) (P := P) c X G) (hr.mono (by decide)) takesB rfl (hg__law_take c X G) (hk__law_take c) (ma_cons (me_var 2 (pv 2)) (ma_cons me_int ma_nil)) (len_cons (len_cons len_nil)) mk_nil len_nil))) (show BlkOk N_law (defScope s_law) _ [("_law_k", 12)] from ⟨rfl, by decide +kernel, by decide +kernel, by decide +kernel, by decide +kernel⟩) (fun _ _ _ _ _ => pg_name sc_law.nd rfl (Or.inl rfl)) (gin_name (by decide)) (fun _ _ _ _ _ => pts0) (fun _ _ _ _ _ => (me_tup (ma_cons (me_str rfl) (ma_cons (me_idx (me_var 3 (pv 3)) me_int (fun _ _ => rfl)) (ma_cons (me_tup (ma_cons (me_idx (me_var 3 (pv 3)) me_int (fun _ _ => rfl)) ma_nil) (len_cons len_nil)) ma_nil))) (len_cons (len_cons (len_cons len_nil))))))) ms_nil) (ms_cons (ms_asg (me_call (fs_law_take (w := w) (P := P) c X G) (hr.mono (by decide)) takesB rfl (hg__law_take c X G) (hk__law_take c) (ma_cons (me_var 2 (pv 2)) (ma_cons (me_op2 sop_add (me_blt scr_len rfl (hb_len c X G) rfl (ma_cons (me_var 7 (pv 7)) ma_nil)) me_int) ma_nil)) (len_cons (len_cons len_nil)) mk_nil len_nil) (mg_name (pg_name sc_law.nd rfl (by first | exact Or.inl rfl | exact Or.inr rfl))) (gok_name 8)) (ms_cons (ms_if (qe_cmp (sop_in (ru hr)) me_int (me_var 5 (pv 5)) (by with_unfolding_all rfl)) (ms_one (ms_expr (me_mt PySem.F.slot_list_insert PySem.F.type_list_insert mt_insert smt_insert (me_var 7 (pv 7)) (ma_cons (me_var 8 (pv 8)) (ma_cons (me_tup (ma_cons (me_str rfl) (ma_cons (me_idx (me_var 3 (pv 3)) me_int (fun _ _ => rfl)) (ma_cons (me_tup ma_nil len_nil) ma_nil))) (len_cons (len_cons (len_cons len_nil)))) ma_nil))))) ms_nil) (ms_cons (ms_asg (me_if (qe_cmp (sop_in (ru hr)) me_int (me_var 5 (pv 5)) (by with_unfolding_all rfl)) (me_call (fs_law_of (w := w) (P := P) c X G) (hr.mono (by decide)) takesB rfl (hg__law_of c X G) (hk__law_of c) (ma_cons (me_var 2 (pv 2)) (ma_cons (me_fresh (mf_lst (ma_cons (me_str rfl) (ma_cons me_int (ma_cons me_non (ma_cons (me_str rfl) (ma_cons (me_str rfl) (ma_cons (me_str rfl) (ma_cons (me_tup (ma_cons (me_idx (me_var 3 (pv 3)) me_int (fun _ _ => rfl)) ma_nil) (len_cons len_nil)) ma_nil))))))) (len_cons (len_cons (len_cons (len_cons (len_cons (len_cons (len_cons len_nil))))))))) ma_nil)) (len_cons (len_cons len_nil)) mk_nil len_nil) (me_idx (me_var 3 (pv 3)) me_int (fun _ _ => rfl))) (mg_name (pg_name sc_law.nd rfl (by first | exact Or.inl rfl | exact Or.inr rfl))) (gok_name 9)) (ms_cons (ms_asg (me_if (qe_cmp (sop_in (ru hr)) me_int (me_var 5 (pv 5)) (by with_unfolding_all rfl)) (me_var 7 (pv 7)) (me_bltT scr_tuple rfl (hb_tuple c X G) rfl (ma_cons (me_var 7 (pv 7)) ma_nil))) (mg_name (pg_name sc_law.nd rfl (by first | exact Or.inl rfl | exact Or.inr rfl))) (gok_name 10)) (ms_cons (ms_if (qe_cmp (sop_ne (ru hr)) (me_call (fs_law_told (w := w) (P := P) c X G) (hr.mono (by decide)) takesB rfl (hg__law_told c X G) (hk__law_told c) (ma_cons (me_var 9 (pv 9)) (ma_cons (me_var 6 (pv 6)) (ma_cons (me_var 10 (pv 10)) ma_nil))) (len_cons (len_cons (len_cons len_nil))) mk_nil len_nil) (me_call (fs_law_due (w := w) (P := P) c X G) (hr.mono (by decide)) takesB rfl (hg__law_due c X G) (hk__law_due c) (ma_cons (me_var 3 (pv 3)) (ma_cons (me_var 6 (pv 6)) (ma_cons (me_var 5 (pv 5)) (ma_cons (me_var 9 (pv 9)) (ma_cons (me_var 8 (pv 8)) ma_nil))))) (len_cons (len_cons (len_cons (len_cons (len_cons len_nil))))) mk_nil len_nil) (nomark _)) (ms_one (ms_ret me_bl)) ms_nil) (ms_cons (ms_asg (me_cmethK (pl := _) (c := 1) (hcm_Method_of c).1 (hcm_Method_of c).2 (fs_Method_of_3_rows (w := w) (P := P) c X G).toH (hr.mono (by decide)) takesB rfl (hg_Method c X G) (ma_cons (me_idx (me_var 3 (pv 3)) me_int (fun _ _ => rfl)) (ma_cons (me_fresh (mf_lst (ma_cons (me_new (c := 0) finV_ok (hmk_Param c) (fs_Param_init_2_holds (w := w) (P := P) c X G) (hr.mono (by decide)) takesB rfl (hg_Param c X G) (ma_cons (me_idx (me_var 3 (pv 3)) me_int (fun _ _ => rfl)) ma_nil) (len_cons len_nil) (mk_cons (me_str rfl) mk_nil) (len_cons len_nil)) (ma_cons (me_new (c := 0) finV_ok (hmk_Param c) (fs_Param_init_2_ (w := w) (P := P) c X G) (hr.mono (by decide)) takesB rfl (hg_Param c X G) (ma_cons (me_idx (me_var 3 (pv 3)) me_int (fun _ _ => rfl)) ma_nil) (len_cons len_nil) mk_nil len_nil) ma_nil)) (len_cons (len_cons len_nil)))) ma_nil)) (mk_cons (me_slice (me_bltT scr_tuple rfl (hb_tuple c X G) rfl (ma_cons (me_slice (me_var 7 (pv 7)) mo_none (mo_some (me_var 8 (pv 8)))) ma_nil)) mo_none (mo_some me_int)) mk_nil) (len_cons len_nil)) (mg_name (pg_name sc_law.nd rfl (by first | exact Or.inl rfl | exact Or.inr rfl))) (gok_name 11)) (ms_one (ms_if (qe_cmp (sop_ne (ru hr)) (me_blt scr_len rfl (hb_len c X G) rfl (ma_cons (me_fld (me_var 11 (pv 11)) (hf_rows c)) ma_nil)) (me_blt (scr_min rfl) rfl (hb_min c X G) rfl (ma_cons (me_var 8 (pv 8)) (ma_cons me_int ma_nil))) (nomark _)) (ms_one (ms_ret me_bl)) ms_nil))))))))))))))))) (ms_one (ms_ret me_bl)))
include c X G in
theorem fs_law : FnS P w K mg h (tb K) 13 (He.fAd K D_law.at_) 1 [] (fun vs _ => d_law vs) := by
  obtain ⟨fd, F⟩ := c.d.def_ 29 (d := D_law) rfl
  exact ⟨fd, _, _, _, ok_law c X G F, callS_plain F rfl (fun _ _ _ _ _ _ us hl => match us, hl with | [_], _ => rfl), rfl⟩
end
end K04
namespace K04
open Mir
def M : ML.Cfg := ⟨isiT, 0, 1, 2, 3, 4, 5, 6, 7, t_name, t_holds, t_default, t_named, t_params, t_rows, t_returns, cc_MOST_PARAMS, cc_MOST_BOXES, cc_MOST_ROWS⟩
theorem ofE : d_Method_of = ML.d_Method_of M := rfl
theorem initE : d_Method_init = ML.d_Method_init M := rfl
theorem parE : d_Param_init = PL.d_Param_init isiT 2 3 t_name t_holds t_default t_named := rfl
theorem tabOk : PL.TabOk isiT := ⟨by decide, by decide, by decide⟩
theorem ok : ML.Ok M := ⟨tabOk, ⟨rfl, rfl, rfl, rfl⟩, rfl, rfl, rfl, rfl, rfl, rfl, rfl⟩
theorem takeE : d_law_take = EL.d_law_take := rfl
theorem bagE : d_law_bag = EL.d_law_bag := rfl
theorem namesE : d_law_names = EL.d_law_names := rfl
theorem lofE : d_law_of = EL.d_law_of := rfl
end K04
namespace K04
open Mir
open EL (isW bg takeV takeA takeB Nm)
open ML (Pa metFault dupF ordF namesH rowsFault frF resF)
open PL (G nmP)
abbrev row (p : Pa) : PV := .tup [.str p.nm, .str p.ho, p.de, .bl p.na]
structure Good (l : List Pa) : Prop where
  len : l.length < 50
  ok : ∀ p ∈ l, PL.nmB p.nm = true ∧ (p.ho = PL.sMark ∨ p.ho = PL.sBox) ∧ G 4 p.de = true ∧ (p.de = .non ∨ PL.dfP p.ho p.de = true)
def code (c : Nat) : Int := if c = 2 then 0 else if c = 6 then 1 else if c = 5 then 2 else if c = 7 then 3 else 4
def toldV : Option (Nat × PV) → PV
  | some (c, v) => .tup [.int (code c), v]
  | none => .non
abbrev NONE : PV := .tup [.str [110, 111, 110, 101]]
theorem par_ok {p : Pa} (h : PL.nmB p.nm = true ∧ (p.ho = PL.sMark ∨ p.ho = PL.sBox) ∧ G 4 p.de = true ∧ (p.de = .non ∨ PL.dfP p.ho p.de = true)) : PL.parFault (.str p.nm) (.str p.ho) p.de (.bl p.na) = none := by
  obtain ⟨h1, h2, h3, h4⟩ := h
  have hh : PL.holdsOk (.str p.ho) = true := by rcases h2 with e | e <;> rw [e] <;> rfl
  unfold PL.parFault
  rw [if_neg (by simp [nmP, h1]), if_neg (by simp [hh])]
  rcases h4 with e | e
  · rw [e]; rfl
  · rw [if_neg (by cases hd : p.de <;> rw [hd] at e <;> simp [PL.strOf, e])]; rfl
theorem gN {w : List Nat} (h : PL.nmB w = true) : w.length ≤ 8 := by
  unfold PL.nmB at h
  simp only [Bool.and_eq_true, decide_eq_true_eq] at h
  exact h.1.2
def toV : PV → PV
  | .tup xs => .ins 0 xs
  | v => v
theorem made_comp (l : List Pa) (g : Good l) (σ : Env) (hσ : σ.length = 6) (s : Store) :
    compGo ⟨l.map row, none⟩ (gName 5) qYes (eCallK (newOf 0 finV (fun vs zs => d_Param_init (pickL [0, 1, 2, 3, 4] (vs ++ ([] : List PV) ++ zs)))) (aCons (eOp2 pyIdx (eVar 5) (eC (.int 0))) (aNil)) (aCons (eOp2 pyIdx (eVar 5) (eC (.int 1))) (aCons (eOp2 pyIdx (eVar 5) (eC (.int 2))) (aCons (eOp2 pyIdx (eVar 5) (eC (.int 3))) (aNil))))) σ (l.map row) [] s = .ok (l.map (Pa.v M)) s := by
  rw [compGo_pure (fun _ => true) toV]
  · rw [List.filter_eq_self.mpr (by simp), List.map_map]; rfl
  · intro x hx
    obtain ⟨p, hp, rfl⟩ := List.mem_map.mp hx
    have hs : (σ.set 5 (some (row p)))[5]? = some (some (row p)) := by rw [List.getElem?_set_self (by omega)]
    refine ⟨σ.set 5 (some (row p)), rfl, rfl, fun _ => ?_⟩
    have k := g.ok p hp
    have l8 := gN k.1
    have ho : p.ho.length ≤ 10 := by rcases k.2.1 with e | e <;> rw [e] <;> decide
    have nw := PL.new_par (cN := 2) (cP := 3) (c0 := 0) tabOk ok.p (nm := .str p.nm) (ho := .str p.ho) (de := p.de) (na := .bl p.na) (by simp [G]; omega) (by simp [G]; omega) (PL.G_mono _ _ k.2.2.1) rfl s
    unfold PL.parRes at nw
    rw [par_ok k] at nw
    simp only at nw
    simp only [eCallK_ap, aCons_ap, aNil_ap, eOp2_ap, eVar_ap, hs, eC_ap, Res.bind_ok, pyIdx_tup, atP_zero, atP_one, atP_two, atP_three, ofO_some, noX_ok]
    rw [parE]
    exact nw
theorem fault_code {nm : PV} {l : List Pa} {ro : Option (List PV)} {res : PV} {c : Nat} {v : PV} (h : metFault M nm l ro res = some (c, v)) : c = 2 ∨ c = 6 ∨ c = 5 ∨ c = 7 ∨ c = 4 := by
  unfold metFault at h
  split at h
  · cases h; exact .inl rfl
  · split at h
    · cases h; exact .inr (.inl rfl)
    · split at h
      · cases h; exact .inr (.inr (.inl rfl))
      · split at h
        · cases h; exact .inr (.inr (.inr (.inl rfl)))
        · split at h
          · cases h; exact .inr (.inr (.inr (.inl rfl)))
          · split at h
            · cases h; exact .inr (.inr (.inr (.inr rfl)))
            · unfold rowsFault at h
              split at h
              · cases h; exact .inr (.inr (.inr (.inr rfl)))
              · split at h
                · split at h
                  · cases h; exact .inr (.inr (.inr (.inl rfl)))
                  · cases h
                · cases h; exact .inr (.inr (.inr (.inr rfl)))
theorem told_eq {nm : PV} (hn : G 5 nm = true) (l : List Pa) (g : Good l) (rv : PV) (ro : Option (List PV)) (s : Store)
    (hro : (∃ rows, rv = .tup rows ∧ ro = some rows ∧ rows.length < 800 ∧ ∀ x ∈ rows, G 6 x = true) ∨ (ro = none ∧ bIsi M.tab [rv, .ty "tuple"] (s ++ [.ins M.c1 []]) = .ok (.bl false) (s ++ [.ins M.c1 []]))) :
    d_law_told [nm, .lst (l.map row), rv] s = .ok (toldV (metFault M nm l ro NONE)) s := by
  have mc := made_comp l g [some nm, some (.lst (l.map row)), some rv, none, none, none] rfl s
  have of := ML.of_eq (M := M) tabOk ok hn l (Nat.lt_of_lt_of_le g.len (by decide)) (fun p hp => PL.G_mono _ _ (g.ok p hp).2.2.1) (ps := .lst (l.map (Pa.v M))) (s := s) rfl rv ro (res := NONE) rfl hro
  have st : ∀ (b : SM) (hs : List Hd) (σ : Env) (s : Store), sTry b hs σ s = (match b σ s with
    | .ok r s1 => .ok r s1
    | .exc (.ins c vs) s1 => tryHs hs c vs σ s1
    | _ => .stuck) := fun _ _ _ _ => rfl
  rw [show (.cls M.c1 : PV) = .cls 1 from rfl, ← ofE] at of
  simp only [List.append_nil] at mc
  have pk : ∀ a b c d e : PV, pickL [0, 1, 2, 4, 3] [a, b, c, d, e] = [a, b, c, e, d] := fun _ _ _ _ _ => rfl
  unfold d_law_told
  rw [runDef_ap]
  unfold m_law_told
  cases hq : metFault M nm l ro NONE with
  | some q =>
    obtain ⟨c, v⟩ := q
    rw [hq] at of
    simp only at of
    have lv := ML.fault_lb hn hq
    have fin : ∀ i : Int, finV s (.tup [.int i, v]) s = .ok (.tup [.int i, v]) s := fun i => finV_data rfl (kept_refl _ _) (by simp [lv])
    rcases fault_code hq with rfl | rfl | rfl | rfl | rfl <;>
      simp [iSeq, wipe, mc, onlyN, pk, st, of, tryHs, List.lookup, slotIn, offSlot, fin, toldV, code]
  | none =>
    rw [hq] at of
    simp only at of
    have fin : finV s .non s = .ok .non s := finV_data rfl (kept_refl _ _) (by simp)
    simp [iSeq, wipe, mc, onlyN, pk, st, of, fin, toldV]
/-! ### what is due -/
abbrev has (f1 f2 j : Int) : Bool := f1 == j || f2 == j
theorem in_two (j p q : Int) (s : Store) : pyIn (.int j) (.lst [.int p, .int q]) s = .ok (.bl (has p q j)) s := by
  unfold pyIn inP
  simp [isD, eqF, dp]
def dueV (N3 : List Nat) (l : List Pa) (f1 f2 : Int) (nm : PV) (pl : Int) : PV :=
  if has f1 f2 0 = true then .tup [.int 0, nm] else match dupF [] (l.map (·.nm)) with
    | some d => .tup [.int 1, .str d]
    | none => if has f1 f2 2 = true then .tup [.int 2, .str N3] else if 4 < l.length then .tup [.int 3, .str ML.wParams] else if 2 < (namesH PL.sBox l).length then .tup [.int 3, .str ML.wBoxes]
      else if has f1 f2 5 = true then .tup [.int 4, .int (-1)] else if has f1 f2 6 = true then .tup [.int 4, .int pl] else .tup [.int 3, .str ML.wRows]
section
variable (s : Store) (N P F nm : PV) (pl : Int)
abbrev Ed : Env := [some N, some P, some F, some nm, some (.int pl), some (.loc s.length), none]
theorem due_go (w : Walk) (hw : w.at_ = none) : ∀ (l : List Pa) (seen : List (List Nat)), seen.length + l.length < 1000 →
    match dupF seen (l.map (·.nm)) with
    | some d => ∃ (σ : Env) (seen' : List (List Nat)), forGo w (gName 6) b_law_due_0 (keepAs (Ed s N P F nm pl)) (l.map row) (Ed s N P F nm pl) (s ++ [.lst (seen.map .str)]) = .ok (σ, .ret (.tup [.int 1, .str d])) (s ++ [.lst (seen'.map .str)])
    | none => forGo w (gName 6) b_law_due_0 (keepAs (Ed s N P F nm pl)) (l.map row) (Ed s N P F nm pl) (s ++ [.lst (seen.map .str)]) = .ok (Ed s N P F nm pl, .next) (s ++ [.lst ((seen ++ l.map (·.nm)).map .str)])
  | [], seen, _ => by
    have ok : ∀ s, w.ok s := fun s => by unfold Walk.ok; rw [hw]; trivial
    simp [dupF, forGo, ok]
  | d :: r, seen, hl => by
    have ok : ∀ s, w.ok s := fun s => by unfold Walk.ok; rw [hw]; trivial
    have ip := ML.in_place seen d.nm (s ++ [.lst (seen.map .str)]) s.length (by simp)
    have ih := due_go w hw r (seen ++ [d.nm]) (by simp at hl ⊢; omega)
    rw [List.map_cons]
    unfold dupF
    by_cases h : d.nm ∈ seen
    · rw [if_pos h]
      rw [decide_eq_true h] at ip
      refine ⟨[some N, some P, some F, some nm, some (.int pl), some (.loc s.length), some (row d)], seen, ?_⟩
      rw [List.map_cons]
      unfold forGo
      rw [if_pos (ok _)]
      unfold b_law_due_0
      simp [ip]
    · rw [if_neg h]
      rw [decide_eq_false h] at ip
      have z : seen.length < sz := by simp only [sz]; simp at hl; omega
      have step : ∀ k : List PV, forGo w (gName 6) b_law_due_0 (keepAs (Ed s N P F nm pl)) (row d :: k) (Ed s N P F nm pl) (s ++ [.lst (seen.map .str)]) =
          forGo w (gName 6) b_law_due_0 (keepAs (Ed s N P F nm pl)) k (Ed s N P F nm pl) (s ++ [.lst ((seen ++ [d.nm]).map .str)]) := fun k => by
        rw [forGo]
        rw [if_pos (ok _)]
        unfold b_law_due_0
        simp [ip, isL, mAppend, z, keepAs]
      rw [List.map_cons, step]
      cases hd : dupF (seen ++ [d.nm]) (r.map (·.nm)) with
      | some q => rw [hd] at ih; simp only at ih ⊢; exact ih
      | none => rw [hd] at ih; simp only [List.append_assoc, List.cons_append, List.nil_append, List.map_cons] at ih ⊢; exact ih
def boxR : PV → Bool
  | .tup [_, .str h, _, _] => h == PL.sBox
  | _ => false
theorem box_len : ∀ l : List Pa, (((l.map row).filter boxR).map id).length = (namesH PL.sBox l).length
  | [] => rfl
  | p :: l => by
    have ih := box_len l
    unfold namesH at ih ⊢
    simp only [List.map_cons, List.filter_cons]
    have e : boxR (row p) = (p.ho == PL.sBox) := rfl
    rw [e]
    cases p.ho == PL.sBox
    · simpa using ih
    · simpa using ih
theorem box_comp (l : List Pa) (σ : Env) (hσ : σ.length = 7) (s : Store) : ∃ ys : List PV, ys.length = (namesH PL.sBox l).length ∧
    compGo ⟨l.map row, none⟩ (gName 6) (qBl (eOp2 pyEq (eOp2 pyIdx (eVar 6) (eC (.int 1))) (eC (.str [98, 111, 120])))) (eVar 6) σ (l.map row) [] s = .ok ys s := by
  refine ⟨((l.map row).filter boxR).map id, box_len l, ?_⟩
  rw [compGo_pure boxR id]
  · simp
  · intro x hx
    obtain ⟨p, hp, rfl⟩ := List.mem_map.mp hx
    have hs : (σ.set 6 (some (row p)))[6]? = some (some (row p)) := by rw [List.getElem?_set_self (by omega)]
    refine ⟨σ.set 6 (some (row p)), rfl, ?_, fun _ => ?_⟩
    · simp only [qBl_ap, eOp2_ap, eVar_ap, hs, eC_ap, Res.bind_ok, pyIdx_tup, atP_one, ofO_some, noX_ok, pyEq_str]
      rfl
    · simp only [eVar_ap, hs]
      rfl
end
theorem due_eq (Ns : List (List Nat)) (N3 : List Nat) (h3 : Ns[3]? = some N3) (l : List Pa) (hl : l.length < 50) (f1 f2 : Int) {nm : PV} (hn : G 5 nm = true) (pl : Int) (s : Store) :
    d_law_due [.lst (Ns.map .str), .lst (l.map row), .lst [.int f1, .int f2], nm, .int pl] s = .ok (dueV N3 l f1 f2 nm pl) s := by
  have q := fun j s => in_two j f1 f2 s
  have ln := fun b => PL.G_lb b hn
  have go := due_go s (.lst (Ns.map .str)) (.lst (l.map row)) (.lst [.int f1, .int f2]) nm pl ⟨l.map row, none⟩ rfl l [] (by simp; omega)
  obtain ⟨ys, hys, bc⟩ := box_comp l (Ed s (.lst (Ns.map .str)) (.lst (l.map row)) (.lst [.int f1, .int f2]) nm pl) rfl (s ++ [.lst ((l.map (·.nm)).map .str)])
  have fin : ∀ v e, (∀ b, lb b v = true) → finV s v (s ++ [e]) = .ok v s := fun v e hv => by
    have := finV_drop (old := s) (new := s) (e := [e]) (v := v) rfl (kept_refl _ _) (hv _)
    exact this
  have a3 : atP (Ns.map PV.str) 3 = some (.str N3) := atP_of (j := 3) rfl (by rw [List.getElem?_map, h3]; rfl)
  unfold d_law_due
  rw [runDef_ap]
  unfold m_law_due dueV
  cases h0 : has f1 f2 0
  case true =>
    simp [q, h0]
    exact fin _ _ (by simp [ln])
  case false =>
    cases hd : dupF [] (l.map (·.nm)) with
    | some d =>
      rw [hd] at go
      obtain ⟨σ, seen', e⟩ := go
      simp only [List.map_nil] at e
      simp [-List.map_map, q, h0, iSeq, e]
      exact fin _ _ (by simp)
    | none =>
      rw [hd] at go
      simp only [List.map_nil, List.nil_append] at go
      cases h2 : has f1 f2 2
      case true =>
        simp [-List.map_map, q, h0, iSeq, go, h2, a3]
        exact fin _ _ (by simp)
      case false =>
        by_cases c4 : 4 < l.length
        · have c4' : (4 : Int) < (l.length : Int) := by omega
          simp [-List.map_map, q, h0, iSeq, go, h2, c4, c4']
          exact fin _ _ (by simp)
        · have c4' : ¬ (4 : Int) < (l.length : Int) := by omega
          by_cases c2 : 2 < (namesH PL.sBox l).length
          · have c2' : (2 : Int) < (ys.length : Int) := by omega
            simp [-List.map_map, q, h0, iSeq, go, h2, c4, c4', wipe, bc, c2, c2']
            exact fin _ _ (by simp)
          · have c2' : ¬ (2 : Int) < (ys.length : Int) := by omega
            cases h5 : has f1 f2 5
            case true =>
              simp [-List.map_map, q, h0, iSeq, go, h2, c4, c4', wipe, bc, c2, c2', h5]
              exact fin _ _ (by simp)
            case false =>
              cases h6 : has f1 f2 6
              · simp [-List.map_map, q, h0, iSeq, go, h2, c4, c4', wipe, bc, c2, c2', h5, h6]
                exact fin _ _ (by simp)
              · simp [-List.map_map, q, h0, iSeq, go, h2, c4, c4', wipe, bc, c2, c2', h5, h6]
                exact fin _ _ (by simp)
end K04
namespace K04
open Mir
open EL (isW bg takeV takeA takeB Nm)
open ML (Pa metFault dupF ordF namesH rowsFault frF resF)
open PL (G nmP)
noncomputable def p1 : SM := sNew (aCons (eTup (aCons (eOp2 pyIdx (eVar 1) (eC (.int 0))) (aCons (eC (.str [109, 97, 114, 107])) (aCons (eC .non) (aCons (eC (.bl false)) (aNil)))))) (aCons (eTup (aCons (eOp2 pyIdx (eVar 1) (eC (.int 1))) (aCons (eC (.str [98, 111, 120])) (aCons (eC .non) (aCons (eC (.bl false)) (aNil)))))) (aNil))) 3
noncomputable def p2 : SM := sIf (qBl (eOp2 pyIn (eC (.int 1)) (eVar 2))) (sExp (eMt mAppend (eVar 3) (aCons (eTup (aCons (eCallK (fun vs _ => d_law_of vs) (aCons (eVar 0) (aCons (eSlice (eVar 1) (oNone) (oSome (eC (.int 2)))) (aNil))) (aNil)) (aCons (eCallK (fun vs _ => d_law_of vs) (aCons (eVar 0) (aCons (eLst (aCons (eC (.str [109, 97, 114, 107])) (aCons (eC (.str [98, 111, 120])) (aNil)))) (aNil))) (aNil)) (aCons (eC .non) (aCons (eC (.bl false)) (aNil)))))) (aNil)))) (sNext)
noncomputable def p3 : SM := sIf (qBl (eOp2 pyIn (eC (.int 2)) (eVar 2))) (sIf (qBl (eOp2 pyEq (eCallK (fun vs _ => d_law_take vs) (aCons (eVar 0) (aCons (eC (.int 2)) (aNil))) (aNil)) (eC (.int 0)))) (sSeq (sExp (eMt mAppend (eVar 3) (aCons (eTup (aCons (eOp2 pyIdx (eVar 1) (eC (.int 2))) (aCons (eC (.str [109, 97, 114, 107])) (aCons (eC .non) (aCons (eC (.bl true)) (aNil)))))) (aNil)))) (sExp (eMt mAppend (eVar 3) (aCons (eTup (aCons (eOp2 pyIdx (eVar 1) (eC (.int 3))) (aCons (eC (.str [109, 97, 114, 107])) (aCons (eCallK (fun vs _ => d_law_of vs) (aCons (eVar 0) (aCons (eLst (aCons (eC .non) (aCons (eTup (aCons (eC (.str [109, 97, 114, 107])) (aCons (eOp2 pyIdx (eVar 1) (eC (.int 8))) (aNil)))) (aNil)))) (aNil))) (aNil)) (aCons (eC (.bl false)) (aNil)))))) (aNil))))) (sSeq (sExp (eMt mAppend (eVar 3) (aCons (eTup (aCons (eOp2 pyIdx (eVar 1) (eC (.int 2))) (aCons (eC (.str [109, 97, 114, 107])) (aCons (eTup (aCons (eC (.str [109, 97, 114, 107])) (aCons (eOp2 pyIdx (eVar 1) (eC (.int 8))) (aNil)))) (aCons (eC (.bl false)) (aNil)))))) (aNil)))) (sExp (eMt mAppend (eVar 3) (aCons (eTup (aCons (eOp2 pyIdx (eVar 1) (eC (.int 3))) (aCons (eCallK (fun vs _ => d_law_of vs) (aCons (eVar 0) (aCons (eLst (aCons (eC (.str [109, 97, 114, 107])) (aCons (eC (.str [98, 111, 120])) (aNil)))) (aNil))) (aNil)) (aCons (eC .non) (aCons (eC (.bl false)) (aNil)))))) (aNil)))))) (sNext)
noncomputable def p4 : SM := sIf (qBl (eOp2 pyIn (eC (.int 3)) (eVar 2))) (sFor (iRange1 (eOp2 pyAdd (eC (.int 3)) (eCallK (fun vs _ => d_law_take vs) (aCons (eVar 0) (aCons (eC (.int 2)) (aNil))) (aNil)))) (gName 4) (b_law_params_1)) (sNext)
noncomputable def p5 : SM := sIf (qBl (eOp2 pyIn (eC (.int 4)) (eVar 2))) (sFor (iRange1 (eC (.int 2))) (gName 4) (b_law_params_0)) (sNext)
noncomputable def p6 : SM := sRet (eVar 3)
theorem p_eq : m_law_params = sSeq p1 (sSeq p2 (sSeq p3 (sSeq p4 (sSeq p5 p6)))) := rfl
theorem gE (pre e : Store) (x y : PV) : (pre ++ x :: (e ++ [y]))[pre.length + (e.length + 1)]? = some y := by simp
theorem sE (pre e : Store) (x y z : PV) : (pre ++ x :: (e ++ [y])).set (pre.length + (e.length + 1)) z = pre ++ x :: (e ++ [z]) := by
  simp
theorem dE (pre e : Store) (x y : PV) : deref (pre ++ x :: (e ++ [y])) (.loc (pre.length + (e.length + 1))) = y := by
  simp [deref, List.getD_eq_getElem?_getD]
/-- a drawn parameter that is right, and is not named w7 -/
structure OkP (w7 : List Nat) (p : Pa) : Prop where
  ok : PL.nmB p.nm = true ∧ (p.ho = PL.sMark ∨ p.ho = PL.sBox) ∧ G 4 p.de = true ∧ (p.de = .non ∨ PL.dfP p.ho p.de = true)
  no : p.nm ≠ w7
section
variable (pre e : Store) (f1 f2 : Int) (w0 w1 w2 w3 w4 w5 w6 w7 w8 w9 w10 w11 w12 w13 w14 w15 : List Nat)
abbrev NN : List PV := [.str w0, .str w1, .str w2, .str w3, .str w4, .str w5, .str w6, .str w7, .str w8, .str w9, .str w10, .str w11, .str w12, .str w13, .str w14, .str w15]
abbrev Ev : Env := [some (.loc pre.length), some (.lst (NN w0 w1 w2 w3 w4 w5 w6 w7 w8 w9 w10 w11 w12 w13 w14 w15)), some (.lst [.int f1, .int f2]), some (.loc (pre.length + (e.length + 1))), none]
abbrev St (a b : Int) (l : List Pa) : Store := pre ++ bg a b :: (e ++ [.lst (l.map row)])
variable {pre e f1 f2 w0 w1 w2 w3 w4 w5 w6 w7 w8 w9 w10 w11 w12 w13 w14 w15}
theorem p2_eq (a b : Int) (l : List Pa) (hl : l.length < 40) : ∃ l1 a' b', (has f1 f2 1 = false → l1 = []) ∧ (has f1 f2 1 = true → ∃ x ho, (x = w0 ∨ x = w1) ∧ (ho = PL.sMark ∨ ho = PL.sBox) ∧ l1 = [⟨x, ho, .non, false⟩]) ∧
    p2 (Ev pre e f1 f2 w0 w1 w2 w3 w4 w5 w6 w7 w8 w9 w10 w11 w12 w13 w14 w15) (St pre e a b l) = .ok (Ev pre e f1 f2 w0 w1 w2 w3 w4 w5 w6 w7 w8 w9 w10 w11 w12 w13 w14 w15, .next) (St pre e a' b' (l ++ l1)) := by
  have q := fun s => in_two 1 f1 f2 s
  cases hc : has f1 f2 1
  · refine ⟨[], a, b, fun _ => rfl, fun h => (by cases h), ?_⟩
    unfold p2
    simp [q, hc]
  · obtain ⟨v1, a1, b1, m1, e1⟩ := EL.of_lst pre (e ++ [.lst (l.map row)]) a b (xs := [.str w0, .str w1]) (by simp) (by simp) (fun x hx n => by
      simp only [List.mem_cons, List.not_mem_nil, or_false] at hx
      rcases hx with rfl | rfl <;> simp)
    obtain ⟨x, hx, rfl⟩ : ∃ x, (x = w0 ∨ x = w1) ∧ v1 = .str x := by
      simp only [List.mem_cons, List.not_mem_nil, or_false] at m1
      rcases m1 with rfl | rfl
      · exact ⟨_, .inl rfl, rfl⟩
      · exact ⟨_, .inr rfl, rfl⟩
    obtain ⟨v2, a2, b2, m2, e2⟩ := EL.of_lst pre (e ++ [.lst (l.map row)]) a1 b1 (xs := [.str PL.sMark, .str PL.sBox]) (by simp) (by simp) (fun x hx n => by
      simp only [List.mem_cons, List.not_mem_nil, or_false] at hx
      rcases hx with rfl | rfl <;> simp)
    obtain ⟨ho, hh, rfl⟩ : ∃ x, (x = PL.sMark ∨ x = PL.sBox) ∧ v2 = .str x := by
      simp only [List.mem_cons, List.not_mem_nil, or_false] at m2
      rcases m2 with rfl | rfl
      · exact ⟨_, .inl rfl, rfl⟩
      · exact ⟨_, .inr rfl, rfl⟩
    refine ⟨[⟨x, ho, .non, false⟩], a2, b2, fun h => (by cases h), fun _ => ⟨x, ho, hx, hh, rfl⟩, ?_⟩
    have z : l.length < sz := by simp only [sz]; omega
    have cu : sliceV (St pre e a b l) (.lst (NN w0 w1 w2 w3 w4 w5 w6 w7 w8 w9 w10 w11 w12 w13 w14 w15)) none (some 2) = some (.lst [.str w0, .str w1]) := rfl
    simp only [PL.sMark, PL.sBox] at e2
    unfold p2
    simp [q, hc, cu, lofE, e1, e2, isL, gE, sE, dE, mAppend, z]
theorem p3_eq (a b : Int) (l : List Pa) (hl : l.length < 40) (h8 : isW w8) : ∃ l1 a' b', (has f1 f2 2 = false → l1 = []) ∧ (has f1 f2 2 = true → (∃ d, (d = .non ∨ d = .tup [.str PL.sMark, .str w8]) ∧ l1 = [⟨w2, PL.sMark, .non, true⟩, ⟨w3, PL.sMark, d, false⟩]) ∨
      (∃ ho, (ho = PL.sMark ∨ ho = PL.sBox) ∧ l1 = [⟨w2, PL.sMark, .tup [.str PL.sMark, .str w8], false⟩, ⟨w3, ho, .non, false⟩])) ∧
    p3 (Ev pre e f1 f2 w0 w1 w2 w3 w4 w5 w6 w7 w8 w9 w10 w11 w12 w13 w14 w15) (St pre e a b l) = .ok (Ev pre e f1 f2 w0 w1 w2 w3 w4 w5 w6 w7 w8 w9 w10 w11 w12 w13 w14 w15, .next) (St pre e a' b' (l ++ l1)) := by
  have q := fun s => in_two 2 f1 f2 s
  cases hc : has f1 f2 2
  · refine ⟨[], a, b, fun _ => rfl, fun h => (by cases h), ?_⟩
    unfold p3
    simp [q, hc]
  · have t1 := EL.take_eq pre (e ++ [.lst (l.map row)]) a b 2 (by omega) (by omega)
    generalize takeV a b 2 = v at t1
    generalize takeA a 2 = a1 at t1
    generalize takeB a b = b1 at t1
    have z : l.length < sz := by simp only [sz]; omega
    have z1 : l.length + 1 < sz := by simp only [sz]; omega
    have i2 : atP (NN w0 w1 w2 w3 w4 w5 w6 w7 w8 w9 w10 w11 w12 w13 w14 w15) 2 = some (.str w2) := rfl
    have i3 : atP (NN w0 w1 w2 w3 w4 w5 w6 w7 w8 w9 w10 w11 w12 w13 w14 w15) 3 = some (.str w3) := rfl
    have i8 : atP (NN w0 w1 w2 w3 w4 w5 w6 w7 w8 w9 w10 w11 w12 w13 w14 w15) 8 = some (.str w8) := rfl
    cases hv : v == 0
    · have hv' : (v = 0) = False := by simpa using hv
      obtain ⟨v2, a2, b2, m2, e2⟩ := EL.of_lst pre (e ++ [.lst ((l ++ [(⟨w2, PL.sMark, .tup [.str PL.sMark, .str w8], false⟩ : Pa)]).map row)]) a1 b1 (xs := [.str PL.sMark, .str PL.sBox]) (by simp) (by simp) (fun x hx n => by
        simp only [List.mem_cons, List.not_mem_nil, or_false] at hx
        rcases hx with rfl | rfl <;> simp)
      obtain ⟨ho, hh, rfl⟩ : ∃ x, (x = PL.sMark ∨ x = PL.sBox) ∧ v2 = .str x := by
        simp only [List.mem_cons, List.not_mem_nil, or_false] at m2
        rcases m2 with rfl | rfl
        · exact ⟨_, .inl rfl, rfl⟩
        · exact ⟨_, .inr rfl, rfl⟩
      refine ⟨_, a2, b2, fun h => (by cases h), fun _ => .inr ⟨ho, hh, rfl⟩, ?_⟩
      simp at e2
      unfold p3
      simp [q, hc, takeE, t1, hv', i2, i3, i8, isL, gE, sE, dE, mAppend, z, z1, lofE, e2]
    · have hv' : (v = 0) = True := by simpa using hv
      have l8 := h8.2.1
      obtain ⟨v2, a2, b2, m2, e2⟩ := EL.of_lst pre (e ++ [.lst ((l ++ [(⟨w2, PL.sMark, .non, true⟩ : Pa)]).map row)]) a1 b1 (xs := [.non, .tup [.str PL.sMark, .str w8]]) (by simp) (by simp) (fun x hx n => by
        simp only [List.mem_cons, List.not_mem_nil, or_false] at hx
        rcases hx with rfl | rfl <;> simp)
      simp only [List.mem_cons, List.not_mem_nil, or_false] at m2
      refine ⟨_, a2, b2, fun h => (by cases h), fun _ => .inl ⟨v2, m2, rfl⟩, ?_⟩
      simp at e2
      unfold p3
      simp [q, hc, takeE, t1, hv', i2, i3, i8, isL, gE, sE, dE, mAppend, z, z1, lofE, e2]
abbrev np (w : List Nat) : Pa := ⟨w, PL.sMark, .non, true⟩
theorem p4_eq (a b : Int) (l : List Pa) (hl : l.length < 40) : ∃ l1 a' b', (has f1 f2 3 = false → l1 = []) ∧ (has f1 f2 3 = true → l1 = [np w9, np w10, np w11] ∨ l1 = [np w9, np w10, np w11, np w12]) ∧
    p4 (Ev pre e f1 f2 w0 w1 w2 w3 w4 w5 w6 w7 w8 w9 w10 w11 w12 w13 w14 w15) (St pre e a b l) = .ok (Ev pre e f1 f2 w0 w1 w2 w3 w4 w5 w6 w7 w8 w9 w10 w11 w12 w13 w14 w15, .next) (St pre e a' b' (l ++ l1)) := by
  have q := fun s => in_two 3 f1 f2 s
  cases hc : has f1 f2 3
  · refine ⟨[], a, b, fun _ => rfl, fun h => (by cases h), ?_⟩
    unfold p4
    simp [q, hc]
  · have t1 := EL.take_eq pre (e ++ [.lst (l.map row)]) a b 2 (by omega) (by omega)
    obtain ⟨u1, u2⟩ := EL.takeV_lt (a := a) (b := b) (m := 2) (by omega)
    generalize takeV a b 2 = v at t1 u1 u2
    generalize takeA a 2 = a1 at t1
    generalize takeB a b = b1 at t1
    have z : l.length < sz := by simp only [sz]; omega
    have z1 : l.length + 1 < sz := by simp only [sz]; omega
    have z2 : l.length + 2 < sz := by simp only [sz]; omega
    have z3 : l.length + 3 < sz := by simp only [sz]; omega
    have ok : ∀ (xs : List PV) s, Walk.ok ⟨xs, none⟩ s := fun _ s => by unfold Walk.ok; trivial
    have i9 : atP (NN w0 w1 w2 w3 w4 w5 w6 w7 w8 w9 w10 w11 w12 w13 w14 w15) 9 = some (.str w9) := rfl
    have i10 : atP (NN w0 w1 w2 w3 w4 w5 w6 w7 w8 w9 w10 w11 w12 w13 w14 w15) 10 = some (.str w10) := rfl
    have i11 : atP (NN w0 w1 w2 w3 w4 w5 w6 w7 w8 w9 w10 w11 w12 w13 w14 w15) 11 = some (.str w11) := rfl
    have i12 : atP (NN w0 w1 w2 w3 w4 w5 w6 w7 w8 w9 w10 w11 w12 w13 w14 w15) 12 = some (.str w12) := rfl
    obtain rfl | rfl : v = 0 ∨ v = 1 := by omega
    · refine ⟨_, a1, b1, fun h => (by cases h), fun _ => .inl rfl, ?_⟩
      have r3 : (List.range 3).map (fun k => PV.int (k : Nat)) = [.int 0, .int 1, .int 2] := rfl
      unfold p4 b_law_params_1
      simp [q, hc, takeE, t1, iRange1, r3, forGo, ok, i9, i10, i11, isL, gE, sE, dE, mAppend, z, z1, z2, keepAs]
    · refine ⟨_, a1, b1, fun h => (by cases h), fun _ => .inr rfl, ?_⟩
      have r4 : (List.range 4).map (fun k => PV.int (k : Nat)) = [.int 0, .int 1, .int 2, .int 3] := rfl
      unfold p4 b_law_params_1
      simp [q, hc, takeE, t1, iRange1, r4, forGo, ok, i9, i10, i11, i12, isL, gE, sE, dE, mAppend, z, z1, z2, z3, keepAs]
abbrev bp (w : List Nat) (d : PV) : Pa := ⟨w, PL.sBox, d, true⟩
def dOk (d : PV) : Prop := d = .non ∨ d = .tup [.str PL.sOnce, .tup []]
theorem p5_eq (a b : Int) (l : List Pa) (hl : l.length < 40) : ∃ l1 a' b', (has f1 f2 4 = false → l1 = []) ∧ (has f1 f2 4 = true → ∃ d d', dOk d ∧ dOk d' ∧ l1 = [bp w14 d, bp w15 d']) ∧
    p5 (Ev pre e f1 f2 w0 w1 w2 w3 w4 w5 w6 w7 w8 w9 w10 w11 w12 w13 w14 w15) (St pre e a b l) = .ok (Ev pre e f1 f2 w0 w1 w2 w3 w4 w5 w6 w7 w8 w9 w10 w11 w12 w13 w14 w15, .next) (St pre e a' b' (l ++ l1)) := by
  have q := fun s => in_two 4 f1 f2 s
  cases hc : has f1 f2 4
  · refine ⟨[], a, b, fun _ => rfl, fun h => (by cases h), ?_⟩
    unfold p5
    simp [q, hc]
  · have z : l.length < sz := by simp only [sz]; omega
    have z1 : l.length + 1 < sz := by simp only [sz]; omega
    have ok : ∀ (xs : List PV) s, Walk.ok ⟨xs, none⟩ s := fun _ s => by unfold Walk.ok; trivial
    have i14 : atP (NN w0 w1 w2 w3 w4 w5 w6 w7 w8 w9 w10 w11 w12 w13 w14 w15) 14 = some (.str w14) := rfl
    have i15 : atP (NN w0 w1 w2 w3 w4 w5 w6 w7 w8 w9 w10 w11 w12 w13 w14 w15) 15 = some (.str w15) := rfl
    have hx : ∀ x ∈ ([.non, .tup [.str PL.sOnce, .tup []]] : List PV), ∀ n, lb n x = true := fun x hx n => by
      simp only [List.mem_cons, List.not_mem_nil, or_false] at hx
      rcases hx with rfl | rfl <;> simp
    obtain ⟨d, a1, b1, m1, e1⟩ := EL.of_lst pre (e ++ [.lst (l.map row)]) a b (xs := [.non, .tup [.str PL.sOnce, .tup []]]) (by simp) (by simp) hx
    obtain ⟨d', a2, b2, m2, e2⟩ := EL.of_lst pre (e ++ [.lst ((l ++ [bp w14 d]).map row)]) a1 b1 (xs := [.non, .tup [.str PL.sOnce, .tup []]]) (by simp) (by simp) hx
    simp only [List.mem_cons, List.not_mem_nil, or_false] at m1 m2
    refine ⟨_, a2, b2, fun h => (by cases h), fun _ => ⟨d, d', m1, m2, rfl⟩, ?_⟩
    have r2 : (List.range 2).map (fun k => PV.int (k : Nat)) = [.int 0, .int 1] := rfl
    simp at e1 e2
    unfold p5 b_law_params_0
    simp [q, hc, iRange1, r2, forGo, ok, i14, i15, lofE, e1, e2, isL, gE, sE, dE, mAppend, z, z1, keepAs]
end
end K04
namespace K04
open Mir
open EL (isW bg takeV takeA takeB Nm)
open ML (Pa metFault dupF ordF namesH rowsFault frF resF)
open PL (G nmP)
/-- what the drawn parameters are -/
structure Drawn (f1 f2 : Int) (w1 w3 w7 : List Nat) (l : List Pa) : Prop where
  good : Good l
  dup : has f1 f2 1 = true → dupF [] (l.map (·.nm)) ≠ none
  ord : dupF [] (l.map (·.nm)) = none → ordF false false l = if has f1 f2 2 = true then some w3 else none
  many : has f1 f2 3 = true → 4 < l.length
  boxes : has f1 f2 4 = true → 2 < (namesH PL.sBox l).length
  in1 : w1 ∈ namesH PL.sBox l
  no7 : w7 ∉ namesH PL.sBox l
theorem ord_named : ∀ (l : List Pa) (bn bd : Bool), (∀ p ∈ l, p.na = true) → ordF bn bd l = none
  | [], _, _, _ => rfl
  | p :: r, bn, bd, h => by
    unfold ordF
    rw [if_pos (h p (List.mem_cons_self ..))]
    exact ord_named r true bd fun q hq => h q (List.mem_cons_of_mem _ hq)
theorem names_app (b : List Nat) (l r : List Pa) : namesH b (l ++ r) = namesH b l ++ namesH b r := by
  unfold namesH; rw [List.filter_append, List.map_append]
theorem names_mem {b w : List Nat} {l : List Pa} : w ∈ namesH b l ↔ ∃ p ∈ l, p.ho = b ∧ p.nm = w := by
  unfold namesH
  rw [List.mem_map]
  constructor
  · rintro ⟨p, hp, e⟩
    obtain ⟨h1, h2⟩ := List.mem_filter.mp hp
    exact ⟨p, h1, by simpa using h2, e⟩
  · rintro ⟨p, h1, h2, h3⟩
    exact ⟨p, List.mem_filter.mpr ⟨h1, by simpa using h2⟩, h3⟩
section
variable {f1 f2 : Int} {w0 w1 w2 w3 w7 w8 w9 w10 w11 w12 w14 w15 : List Nat} {l1 l2 l3 l4 : List Pa}
theorem drawn (h0 : isW w0) (h1 : isW w1) (h2 : isW w2) (h3 : isW w3) (h8 : isW w8) (h9 : isW w9) (h10 : isW w10) (h11 : isW w11) (h12 : isW w12) (h14 : isW w14) (h15 : isW w15)
    (n0 : w0 ≠ w7) (n1 : w1 ≠ w7) (n3 : w3 ≠ w7) (n14 : w14 ≠ w7) (n15 : w15 ≠ w7)
    (a1 : (has f1 f2 1 = false → l1 = [])) (b1 : (has f1 f2 1 = true → ∃ x ho, (x = w0 ∨ x = w1) ∧ (ho = PL.sMark ∨ ho = PL.sBox) ∧ l1 = [⟨x, ho, .non, false⟩]))
    (a2 : (has f1 f2 2 = false → l2 = [])) (b2 : (has f1 f2 2 = true → (∃ d, (d = .non ∨ d = .tup [.str PL.sMark, .str w8]) ∧ l2 = [⟨w2, PL.sMark, .non, true⟩, ⟨w3, PL.sMark, d, false⟩]) ∨
      (∃ ho, (ho = PL.sMark ∨ ho = PL.sBox) ∧ l2 = [⟨w2, PL.sMark, .tup [.str PL.sMark, .str w8], false⟩, ⟨w3, ho, .non, false⟩])))
    (a3 : (has f1 f2 3 = false → l3 = [])) (b3 : (has f1 f2 3 = true → l3 = [np w9, np w10, np w11] ∨ l3 = [np w9, np w10, np w11, np w12]))
    (a4 : (has f1 f2 4 = false → l4 = [])) (b4 : (has f1 f2 4 = true → ∃ d d', dOk d ∧ dOk d' ∧ l4 = [bp w14 d, bp w15 d'])) :
    Drawn f1 f2 w1 w3 w7 ([⟨w0, PL.sMark, .non, false⟩, ⟨w1, PL.sBox, .non, false⟩] ++ l1 ++ l2 ++ l3 ++ l4) := by
  have gd : G 4 (.tup [.str PL.sMark, .str w8]) = true := by have := h8.2.1; simp [G]; omega
  have fd : PL.dfP PL.sMark (.tup [.str PL.sMark, .str w8]) = true := by simp [PL.dfP, BL.isW_nmP h8]
  have dg : ∀ d, dOk d → G 4 d = true ∧ (d = .non ∨ PL.dfP PL.sBox d = true) := by
    rintro d (rfl | rfl)
    · exact ⟨rfl, .inl rfl⟩
    · exact ⟨rfl, .inr rfl⟩
  have k1 : l1.length ≤ 1 ∧ ∀ p ∈ l1, OkP w7 p := by
    cases hc : has f1 f2 1
    · rw [a1 hc]; simp
    · obtain ⟨x, ho, hx, hh, rfl⟩ := b1 hc
      refine ⟨by simp, fun p hp => ?_⟩
      simp only [List.mem_cons, List.not_mem_nil, or_false] at hp
      subst hp
      rcases hx with rfl | rfl
      · exact ⟨⟨BL.isW_nm h0, hh, rfl, .inl rfl⟩, n0⟩
      · exact ⟨⟨BL.isW_nm h1, hh, rfl, .inl rfl⟩, n1⟩
  have k2 : l2.length ≤ 2 ∧ ∀ p ∈ l2, (PL.nmB p.nm = true ∧ (p.ho = PL.sMark ∨ p.ho = PL.sBox) ∧ G 4 p.de = true ∧ (p.de = .non ∨ PL.dfP p.ho p.de = true)) ∧ (p.ho = PL.sBox → p.nm ≠ w7) := by
    cases hc : has f1 f2 2
    · rw [a2 hc]; simp
    · rcases b2 hc with ⟨d, hd, rfl⟩ | ⟨ho, hh, rfl⟩
      · refine ⟨by simp, fun p hp => ?_⟩
        simp only [List.mem_cons, List.not_mem_nil, or_false] at hp
        rcases hp with rfl | rfl
        · exact ⟨⟨BL.isW_nm h2, .inl rfl, rfl, .inl rfl⟩, fun h => by cases h⟩
        · rcases hd with rfl | rfl
          · exact ⟨⟨BL.isW_nm h3, .inl rfl, rfl, .inl rfl⟩, fun _ => n3⟩
          · exact ⟨⟨BL.isW_nm h3, .inl rfl, gd, .inr fd⟩, fun _ => n3⟩
      · refine ⟨by simp, fun p hp => ?_⟩
        simp only [List.mem_cons, List.not_mem_nil, or_false] at hp
        rcases hp with rfl | rfl
        · exact ⟨⟨BL.isW_nm h2, .inl rfl, gd, .inr fd⟩, fun h => by cases h⟩
        · exact ⟨⟨BL.isW_nm h3, hh, rfl, .inl rfl⟩, fun _ => n3⟩
  have k3 : l3.length ≤ 4 ∧ (∀ p ∈ l3, p.na = true) ∧ ∀ p ∈ l3, (PL.nmB p.nm = true ∧ (p.ho = PL.sMark ∨ p.ho = PL.sBox) ∧ G 4 p.de = true ∧ (p.de = .non ∨ PL.dfP p.ho p.de = true)) ∧ (p.ho = PL.sBox → p.nm ≠ w7) := by
    have one : ∀ w, isW w → (PL.nmB (np w).nm = true ∧ ((np w).ho = PL.sMark ∨ (np w).ho = PL.sBox) ∧ G 4 (np w).de = true ∧ ((np w).de = .non ∨ PL.dfP (np w).ho (np w).de = true)) ∧ ((np w).ho = PL.sBox → (np w).nm ≠ w7) := fun w hw => ⟨⟨BL.isW_nm hw, .inl rfl, rfl, .inl rfl⟩, fun h => by cases h⟩
    cases hc : has f1 f2 3
    · rw [a3 hc]; simp
    · rcases b3 hc with rfl | rfl
      · refine ⟨by simp, ?_, ?_⟩ <;> intro p hp <;> simp only [List.mem_cons, List.not_mem_nil, or_false] at hp
        · rcases hp with rfl | rfl | rfl <;> rfl
        · rcases hp with rfl | rfl | rfl
          · exact one _ h9
          · exact one _ h10
          · exact one _ h11
      · refine ⟨by simp, ?_, ?_⟩ <;> intro p hp <;> simp only [List.mem_cons, List.not_mem_nil, or_false] at hp
        · rcases hp with rfl | rfl | rfl | rfl <;> rfl
        · rcases hp with rfl | rfl | rfl | rfl
          · exact one _ h9
          · exact one _ h10
          · exact one _ h11
          · exact one _ h12
  have k4 : l4.length ≤ 2 ∧ (∀ p ∈ l4, p.na = true) ∧ ∀ p ∈ l4, (PL.nmB p.nm = true ∧ (p.ho = PL.sMark ∨ p.ho = PL.sBox) ∧ G 4 p.de = true ∧ (p.de = .non ∨ PL.dfP p.ho p.de = true)) ∧ (p.ho = PL.sBox → p.nm ≠ w7) := by
    cases hc : has f1 f2 4
    · rw [a4 hc]; simp
    · obtain ⟨d, d', hd, hd', rfl⟩ := b4 hc
      refine ⟨by simp, ?_, ?_⟩ <;> intro p hp <;> simp only [List.mem_cons, List.not_mem_nil, or_false] at hp
      · rcases hp with rfl | rfl <;> rfl
      · rcases hp with rfl | rfl
        · exact ⟨⟨BL.isW_nm h14, .inr rfl, (dg _ hd).1, (dg _ hd).2⟩, fun _ => n14⟩
        · exact ⟨⟨BL.isW_nm h15, .inr rfl, (dg _ hd').1, (dg _ hd').2⟩, fun _ => n15⟩
  refine ⟨⟨by simp; omega, ?_⟩, ?_, ?_, ?_, ?_, ?_, ?_⟩
  · intro p hp
    simp only [List.mem_append, List.mem_cons, List.not_mem_nil, or_false] at hp
    rcases hp with (((hp | hp) | hp) | hp) | hp
    · rcases hp with rfl | rfl
      · exact ⟨BL.isW_nm h0, .inl rfl, rfl, .inl rfl⟩
      · exact ⟨BL.isW_nm h1, .inr rfl, rfl, .inl rfl⟩
    · exact (k1.2 p hp).ok
    · exact (k2.2 p hp).1
    · exact (k3.2.2 p hp).1
    · exact (k4.2.2 p hp).1
  · intro hc
    obtain ⟨x, ho, hx, hh, rfl⟩ := b1 hc
    simp only [List.cons_append, List.nil_append, List.map_cons, dupF, List.not_mem_nil, if_false]
    by_cases q : w1 ∈ [w0]
    · rw [if_pos q]; simp
    · rw [if_neg q, if_pos (by rcases hx with rfl | rfl <;> simp)]; simp
  · intro hd
    have hc : has f1 f2 1 = false := by
      cases hc : has f1 f2 1
      · rfl
      · obtain ⟨x, ho, hx, hh, rfl⟩ := b1 hc
        simp only [List.cons_append, List.nil_append, List.map_cons, dupF, List.not_mem_nil, if_false] at hd
        by_cases q : w1 ∈ [w0]
        · rw [if_pos q] at hd; cases hd
        · rw [if_neg q, if_pos (by rcases hx with rfl | rfl <;> simp)] at hd; cases hd
    rw [a1 hc]
    cases h2 : has f1 f2 2
    · rw [a2 h2]
      simp only [List.cons_append, List.nil_append, List.append_nil, ordF, Bool.false_eq_true, if_false, false_and, or_false]
      exact ord_named _ _ _ fun p hp => by
        rcases List.mem_append.mp hp with q | q
        · exact k3.2.1 p q
        · exact k4.2.1 p q
    · rcases b2 h2 with ⟨d, hd, rfl⟩ | ⟨ho, hh, rfl⟩
      · simp [ordF]
      · simp [ordF, ML.isNon]
  · intro hc
    rcases b3 hc with rfl | rfl <;> simp <;> omega
  · intro hc
    obtain ⟨d, d', hd, hd', rfl⟩ := b4 hc
    rw [names_app, names_app, names_app, names_app]
    have e1 : namesH PL.sBox [⟨w0, PL.sMark, .non, false⟩, ⟨w1, PL.sBox, .non, false⟩] = [w1] := rfl
    have e2 : namesH PL.sBox [bp w14 d, bp w15 d'] = [w14, w15] := rfl
    rw [e1, e2]
    simp
    omega
  · exact names_mem.mpr ⟨⟨w1, PL.sBox, .non, false⟩, by simp, rfl, rfl⟩
  · intro hm
    obtain ⟨p, hp, hb, hn⟩ := names_mem.mp hm
    simp only [List.mem_append, List.mem_cons, List.not_mem_nil, or_false] at hp
    rcases hp with (((hp | hp) | hp) | hp) | hp
    · rcases hp with rfl | rfl
      · cases hb
      · exact n1 hn
    · exact (k1.2 p hp).no hn
    · exact (k2.2 p hp).2 hb hn
    · exact (k3.2.2 p hp).2 hb hn
    · exact (k4.2.2 p hp).2 hb hn
end
section
variable {f1 f2 : Int} {w0 w1 w2 w3 w4 w5 w6 w7 w8 w9 w10 w11 w12 w13 w14 w15 : List Nat}
theorem params_eq (pre e : Store) (a b : Int) (hN : Nm 16 [w0, w1, w2, w3, w4, w5, w6, w7, w8, w9, w10, w11, w12, w13, w14, w15]) :
    ∃ l a' b', Drawn f1 f2 w1 w3 w7 l ∧ d_law_params [.loc pre.length, .lst (NN w0 w1 w2 w3 w4 w5 w6 w7 w8 w9 w10 w11 w12 w13 w14 w15), .lst [.int f1, .int f2]] (pre ++ bg a b :: e) = .ok (.lst (l.map row)) (pre ++ bg a' b' :: e) := by
  have hw := hN.w
  simp only [List.mem_cons, List.not_mem_nil, or_false, forall_eq_or_imp, forall_eq] at hw
  obtain ⟨h0, h1, h2, h3, h4, h5, h6, h7, h8, h9, h10, h11, h12, h13, h14, h15⟩ := hw
  have n0 : w0 ≠ w7 := by rintro rfl; exact absurd hN.nd (by simp)
  have n1 : w1 ≠ w7 := by rintro rfl; exact absurd hN.nd (by simp)
  have n3 : w3 ≠ w7 := by rintro rfl; exact absurd hN.nd (by simp)
  have n14 : w14 ≠ w7 := by rintro rfl; exact absurd hN.nd (by simp)
  have n15 : w15 ≠ w7 := by rintro rfl; exact absurd hN.nd (by simp)
  obtain ⟨l1, a1, b1, p1a, p1b, e1⟩ := p2_eq (pre := pre) (e := e) (f1 := f1) (f2 := f2) (w0 := w0) (w1 := w1) (w2 := w2) (w3 := w3) (w4 := w4) (w5 := w5) (w6 := w6) (w7 := w7) (w8 := w8) (w9 := w9) (w10 := w10) (w11 := w11) (w12 := w12) (w13 := w13) (w14 := w14) (w15 := w15) a b [⟨w0, PL.sMark, .non, false⟩, ⟨w1, PL.sBox, .non, false⟩] (by simp)
  have c1 : l1.length ≤ 1 := by
    cases hc : has f1 f2 1
    · rw [p1a hc]; simp
    · obtain ⟨x, ho, hx, hh, rfl⟩ := p1b hc; simp
  obtain ⟨l2, a2, b2, p2a, p2b, e2⟩ := p3_eq (pre := pre) (e := e) (f1 := f1) (f2 := f2) (w0 := w0) (w1 := w1) (w2 := w2) (w3 := w3) (w4 := w4) (w5 := w5) (w6 := w6) (w7 := w7) (w8 := w8) (w9 := w9) (w10 := w10) (w11 := w11) (w12 := w12) (w13 := w13) (w14 := w14) (w15 := w15) a1 b1 ([⟨w0, PL.sMark, .non, false⟩, ⟨w1, PL.sBox, .non, false⟩] ++ l1) (by simp; omega) h8
  have c2 : l2.length ≤ 2 := by
    cases hc : has f1 f2 2
    · rw [p2a hc]; simp
    · rcases p2b hc with ⟨d, hd, rfl⟩ | ⟨ho, hh, rfl⟩ <;> simp
  obtain ⟨l3, a3, b3, p3a, p3b, e3⟩ := p4_eq (pre := pre) (e := e) (f1 := f1) (f2 := f2) (w0 := w0) (w1 := w1) (w2 := w2) (w3 := w3) (w4 := w4) (w5 := w5) (w6 := w6) (w7 := w7) (w8 := w8) (w9 := w9) (w10 := w10) (w11 := w11) (w12 := w12) (w13 := w13) (w14 := w14) (w15 := w15) a2 b2 ([⟨w0, PL.sMark, .non, false⟩, ⟨w1, PL.sBox, .non, false⟩] ++ l1 ++ l2) (by simp; omega)
  have c3 : l3.length ≤ 4 := by
    cases hc : has f1 f2 3
    · rw [p3a hc]; simp
    · rcases p3b hc with rfl | rfl <;> simp
  obtain ⟨l4, a4, b4, p4a, p4b, e4⟩ := p5_eq (pre := pre) (e := e) (f1 := f1) (f2 := f2) (w0 := w0) (w1 := w1) (w2 := w2) (w3 := w3) (w4 := w4) (w5 := w5) (w6 := w6) (w7 := w7) (w8 := w8) (w9 := w9) (w10 := w10) (w11 := w11) (w12 := w12) (w13 := w13) (w14 := w14) (w15 := w15) a3 b3 ([⟨w0, PL.sMark, .non, false⟩, ⟨w1, PL.sBox, .non, false⟩] ++ l1 ++ l2 ++ l3) (by simp; omega)
  have D := drawn (f1 := f1) (f2 := f2) (w7 := w7) h0 h1 h2 h3 h8 h9 h10 h11 h12 h14 h15 n0 n1 n3 n14 n15 p1a p1b p2a p2b p3a p3b p4a p4b
  refine ⟨_, a4, b4, D, ?_⟩
  unfold d_law_params
  rw [runDef_ap, p_eq]
  have e0 : p1 [some (.loc pre.length), some (.lst (NN w0 w1 w2 w3 w4 w5 w6 w7 w8 w9 w10 w11 w12 w13 w14 w15)), some (.lst [.int f1, .int f2]), none, none] (pre ++ bg a b :: e) = .ok (Ev pre e f1 f2 w0 w1 w2 w3 w4 w5 w6 w7 w8 w9 w10 w11 w12 w13 w14 w15, .next) (St pre e a b [⟨w0, PL.sMark, .non, false⟩, ⟨w1, PL.sBox, .non, false⟩]) := by
    unfold p1
    simp
  have e5 : ∀ S, p6 (Ev pre e f1 f2 w0 w1 w2 w3 w4 w5 w6 w7 w8 w9 w10 w11 w12 w13 w14 w15) S = .ok (Ev pre e f1 f2 w0 w1 w2 w3 w4 w5 w6 w7 w8 w9 w10 w11 w12 w13 w14 w15, .ret (.loc (pre.length + (e.length + 1)))) S := fun S => by unfold p6; simp
  have en : ([PV.loc pre.length, .lst (NN w0 w1 w2 w3 w4 w5 w6 w7 w8 w9 w10 w11 w12 w13 w14 w15), .lst [.int f1, .int f2]].map some ++ List.replicate (5 - [PV.loc pre.length, .lst (NN w0 w1 w2 w3 w4 w5 w6 w7 w8 w9 w10 w11 w12 w13 w14 w15), .lst [.int f1, .int f2]].length) none : Env) = [some (.loc pre.length), some (.lst (NN w0 w1 w2 w3 w4 w5 w6 w7 w8 w9 w10 w11 w12 w13 w14 w15)), some (.lst [.int f1, .int f2]), none, none] := rfl
  rw [en]
  simp only [sSeq_ap, e0, e1, e2, e3, e4, e5, Res.bind_ok]
  have lr : ∀ n (l : List Pa), Good l → lbs n (l.map row) = true := fun n l g => by
    rw [lbs_iff]
    intro x hx
    obtain ⟨p, hp, rfl⟩ := List.mem_map.mp hx
    have := PL.G_lb n (g.ok p hp).2.2.1
    simp [this]
  have f := finV_new (old := pre ++ bg a b :: e) (new := pre ++ bg a4 b4 :: e) (e := [.lst ((([⟨w0, PL.sMark, .non, false⟩, ⟨w1, PL.sBox, .non, false⟩] ++ l1 ++ l2 ++ l3 ++ l4 : List Pa)).map row)]) (n := pre.length + (e.length + 1)) (c := .lst ((([⟨w0, PL.sMark, .non, false⟩, ⟨w1, PL.sBox, .non, false⟩] ++ l1 ++ l2 ++ l3 ++ l4 : List Pa)).map row)) (by simp) (kept_mid pre e _ _ (by simp)) (by simp)
    (by rw [List.append_assoc]; exact gE pre e _ _) (by rw [lb_lst]; exact lr _ _ D.good)
  rw [List.append_assoc] at f
  exact f
end
end K04
namespace K04
open Mir
open EL (isW bg takeV takeA takeB Nm)
open ML (Pa metFault dupF ordF namesH rowsFault frF resF)
open PL (G nmP)
noncomputable def s1 : SM := sAsg (eLst (aCons (eCallK (fun vs _ => d_law_take vs) (aCons (eVar 2) (aCons (eC (.int 8)) (aNil))) (aNil)) (aCons (eCallK (fun vs _ => d_law_take vs) (aCons (eVar 2) (aCons (eC (.int 16)) (aNil))) (aNil)) (aNil)))) (gName 5)
noncomputable def s2 : SM := sAsg (eCallK (fun vs _ => d_law_params vs) (aCons (eVar 2) (aCons (eVar 3) (aCons (eVar 5) (aNil)))) (aNil)) (gName 6)
noncomputable def s3 : SM := sNew (aComp (iRange1 (eCallK (fun vs _ => d_law_take vs) (aCons (eVar 2) (aCons (eC (.int 9)) (aNil))) (aNil))) (gName 12) (qYes) (eTup (aCons (eC (.str [97, 100, 100])) (aCons (eOp2 pyIdx (eVar 3) (eC (.int 1))) (aCons (eTup (aNil)) (aNil))))) [12]) 7
noncomputable def s4 : SM := sIf (qBl (eOp2 pyIn (eC (.int 7)) (eVar 5))) (sNew (aComp (iRange1 (eOp2 pyAdd (eC (.int 9)) (eCallK (fun vs _ => d_law_take vs) (aCons (eVar 2) (aCons (eC (.int 2)) (aNil))) (aNil)))) (gName 12) (qYes) (eTup (aCons (eC (.str [97, 100, 100])) (aCons (eOp2 pyIdx (eVar 3) (eC (.int 1))) (aCons (eTup (aCons (eOp2 pyIdx (eVar 3) (eC (.int 8))) (aNil))) (aNil))))) [12]) 7) (sNext)
noncomputable def s5 : SM := sAsg (eCallK (fun vs _ => d_law_take vs) (aCons (eVar 2) (aCons (eOp2 pyAdd (eBlt bLen (aCons (eVar 7) (aNil))) (eC (.int 1))) (aNil))) (aNil)) (gName 8)
noncomputable def s6 : SM := sIf (qBl (eOp2 pyIn (eC (.int 6)) (eVar 5))) (sExp (eMt mInsert (eVar 7) (aCons (eVar 8) (aCons (eTup (aCons (eC (.str [97, 100, 100])) (aCons (eOp2 pyIdx (eVar 3) (eC (.int 7))) (aCons (eTup (aNil)) (aNil))))) (aNil))))) (sNext)
noncomputable def s7 : SM := sAsg (eIf (qBl (eOp2 pyIn (eC (.int 0)) (eVar 5))) (eCallK (fun vs _ => d_law_of vs) (aCons (eVar 2) (aCons (eLst (aCons (eC (.str [])) (aCons (eC (.int 5)) (aCons (eC .non) (aCons (eC (.str [99, 108, 115])) (aCons (eC (.str [65, 122])) (aCons (eC (.str [97, 97, 97, 97, 97, 97, 97, 97, 97])) (aCons (eTup (aCons (eOp2 pyIdx (eVar 3) (eC (.int 6))) (aNil))) (aNil))))))))) (aNil))) (aNil)) (eOp2 pyIdx (eVar 3) (eC (.int 6)))) (gName 9)
noncomputable def s8 : SM := sAsg (eIf (qBl (eOp2 pyIn (eC (.int 5)) (eVar 5))) (eVar 7) (eBlt bTuple (aCons (eVar 7) (aNil)))) (gName 10)
noncomputable def s9 : SM := sIf (qBl (eOp2 pyNe (eCallK (fun vs _ => d_law_told vs) (aCons (eVar 9) (aCons (eVar 6) (aCons (eVar 10) (aNil)))) (aNil)) (eCallK (fun vs _ => d_law_due vs) (aCons (eVar 3) (aCons (eVar 6) (aCons (eVar 5) (aCons (eVar 9) (aCons (eVar 8) (aNil)))))) (aNil)))) (sRet (eC (.bl false))) (sNext)
noncomputable def s10 : SM := sAsg (eCallK (fun vs zs => onlyN 3 (fun vs zs => d_Method_of (pickL [0, 1, 2, 4, 3] (vs ++ ([(.tup [.str [110, 111, 110, 101]])] : List PV) ++ zs))) (.cls 1 :: vs) zs) (aCons (eOp2 pyIdx (eVar 3) (eC (.int 6))) (aCons (eLst (aCons (eCallK (newOf 0 finV (fun vs zs => d_Param_init (pickL [0, 1, 4, 2, 3] (vs ++ ([(.non), (.bl false)] : List PV) ++ zs)))) (aCons (eOp2 pyIdx (eVar 3) (eC (.int 0))) (aNil)) (aCons (eC (.str [109, 97, 114, 107])) (aNil))) (aCons (eCallK (newOf 0 finV (fun vs zs => d_Param_init (pickL [0, 1, 2, 3, 4] (vs ++ ([(.str [98, 111, 120]), (.non), (.bl false)] : List PV) ++ zs)))) (aCons (eOp2 pyIdx (eVar 3) (eC (.int 1))) (aNil)) (aNil)) (aNil)))) (aNil))) (aCons (eSlice (eBlt bTuple (aCons (eSlice (eVar 7) (oNone) (oSome (eVar 8))) (aNil))) (oNone) (oSome (eC (.int 8)))) (aNil))) (gName 11)
noncomputable def s11 : SM := sIf (qBl (eOp2 pyNe (eBlt bLen (aCons (eFld t_rows (eVar 11)) (aNil))) (eBlt bMin (aCons (eVar 8) (aCons (eC (.int 8)) (aNil)))))) (sRet (eC (.bl false))) (sNext)
theorem s_eq : b_law_0 = sSeq s1 (sSeq s2 (sSeq s3 (sSeq s4 (sSeq s5 (sSeq s6 (sSeq s7 (sSeq s8 (sSeq s9 (sSeq s10 s11))))))))) := rfl
abbrev addR (w : List Nat) (its : PV) : PV := .tup [.str ML.sAdd, .str w, its]
theorem add_tab {w : List Nat} {its : PV} : ML.rowTab ML.dc_PLAIN_PARTS (addR w its) = (nmP (.str w) && PL.itP its) := by
  show (ML.pfB [118, 97, 114] (.str w) && (ML.pfB ML.sItems its && true)) = _
  have e1 : ML.pfB [118, 97, 114] (.str w) = nmP (.str w) := rfl
  have e2 : ML.pfB ML.sItems its = PL.itP its := rfl
  rw [e1, e2, Bool.and_true]
theorem rowF_add {us fs : List (List Nat)} {w : List Nat} {its : PV} (hw : nmP (.str w) = true) (hi : PL.itP its = true) (hu : w ∈ us) : ML.rowF us fs (addR w its) = some us := by
  unfold ML.rowF
  rw [if_pos (by rw [add_tab, hw, hi]; rfl)]
  exact ML.rowS_no us fs none (by decide) (by simp [ML.usedV, ML.optV, ML.memN, hu])
theorem rowF_bad {us fs : List (List Nat)} {w : List Nat} {its : PV} (hw : nmP (.str w) = true) (hi : PL.itP its = true) (hu : w ∉ us) : ML.rowF us fs (addR w its) = none := by
  unfold ML.rowF
  rw [if_pos (by rw [add_tab, hw, hi]; rfl)]
  unfold ML.rowS
  rw [if_pos (by simp [ML.usedV, ML.optV, ML.memN, hu])]
theorem frF_good {fs us : List (List Nat)} : ∀ (rows : List PV) (n : Nat), (∀ x ∈ rows, ML.rowF us fs x = some us) → frF fs us n rows = (none, us)
  | [], _, _ => rfl
  | x :: r, n, h => by
    unfold frF
    rw [h x (List.mem_cons_self ..)]
    exact frF_good r (n + 1) fun y hy => h y (List.mem_cons_of_mem _ hy)
theorem frF_bad {fs us : List (List Nat)} {y : PV} (hy : ML.rowF us fs y = none) (B : List PV) : ∀ (A : List PV) (n : Nat), (∀ x ∈ A, ML.rowF us fs x = some us) → frF fs us n (A ++ y :: B) = (some (n + A.length), us)
  | [], n, _ => by
    show frF fs us n (y :: B) = _
    unfold frF
    rw [hy]; rfl
  | x :: r, n, h => by
    show frF fs us n (x :: (r ++ y :: B)) = _
    unfold frF
    rw [h x (List.mem_cons_self ..)]
    simp only
    rw [frF_bad hy B r (n + 1) fun z hz => h z (List.mem_cons_of_mem _ hz)]
    simp; omega
/-- a row that is right -/
def GoodR (w1 : List Nat) (x : PV) : Prop := ∃ its, PL.itP its = true ∧ G 4 its = true ∧ x = addR w1 its
theorem GoodR.G {w1 : List Nat} (h : isW w1) {x : PV} (g : GoodR w1 x) : G 6 x = true := by
  obtain ⟨its, h1, h2, rfl⟩ := g
  have := h.2.1
  have := PL.G_mono _ _ h2
  simp [PL.G, this]
  omega
theorem resN (us : List (List Nat)) : resF us NONE = true := rfl
section
variable {f1 f2 : Int} {w1 w3 w7 : List Nat} {l : List Pa}
theorem agree (hf : 0 ≤ f1 ∧ f1 < 8) (h1 : isW w1) (h7 : isW w7) (D : Drawn f1 f2 w1 w3 w7 l) {nm : PV} (hnm : nmP nm = !has f1 f2 0) {rows : List PV} {pl : Nat}
    (hb : has f1 f2 6 = true → ∃ A B, rows = A ++ addR w7 (.tup []) :: B ∧ A.length = pl ∧ ∀ x ∈ A, GoodR w1 x) (hg : has f1 f2 6 = false → ∀ x ∈ rows, GoodR w1 x) (hm : has f1 f2 7 = true → 8 < rows.length) :
    toldV (metFault M nm l (if has f1 f2 5 = true then none else some rows) NONE) = dueV w3 l f1 f2 nm pl := by
  unfold metFault dueV
  cases c0 : has f1 f2 0
  case true => rw [c0] at hnm; rw [if_pos (show nmP nm = false by rw [hnm]; rfl)]; rfl
  case false =>
    rw [c0] at hnm
    rw [if_neg (show ¬ nmP nm = false by rw [hnm]; decide), if_neg (show ¬ (false = true) by decide)]
    cases hd : dupF [] (l.map (·.nm)) with
    | some d => rfl
    | none =>
      have ho := D.ord hd
      simp only [ho]
      cases c2 : has f1 f2 2
      case true => rfl
      case false =>
        simp only [Bool.false_eq_true, if_false]
        by_cases c4 : 4 < l.length
        · simp only [if_pos c4]; rfl
        · simp only [if_neg c4]
          by_cases c5 : 2 < (namesH PL.sBox l).length
          · simp only [if_pos c5]; rfl
          · simp only [if_neg c5]
            cases c6 : has f1 f2 5
            case true => rfl
            case false =>
              simp only [Bool.false_eq_true, if_false]
              have gr : ∀ fs x, GoodR w1 x → ML.rowF (namesH PL.sBox l) fs x = some (namesH PL.sBox l) := by
                rintro fs x ⟨its, i1, i2, rfl⟩
                exact rowF_add (BL.isW_nmP h1) i1 D.in1
              unfold rowsFault
              cases c7 : has f1 f2 6
              case true =>
                obtain ⟨A, B, rfl, hl, hA⟩ := hb c7
                rw [frF_bad (rowF_bad (BL.isW_nmP h7) rfl D.no7) B A 0 fun x hx => gr _ x (hA x hx)]
                simp only [Nat.zero_add, hl, if_true]
                rfl
              case false =>
                rw [frF_good rows 0 fun x hx => gr _ x (hg c7 x hx)]
                simp only [resN, if_true, Bool.false_eq_true, if_false]
                have e1 : has f1 f2 1 = false := by
                  cases c : has f1 f2 1
                  · rfl
                  · exact absurd hd (D.dup c)
                have e3 : has f1 f2 3 = false := by
                  cases c : has f1 f2 3
                  · rfl
                  · exact absurd (D.many c) c4
                have e4 : has f1 f2 4 = false := by
                  cases c : has f1 f2 4
                  · rfl
                  · exact absurd (D.boxes c) c5
                have e7 : f1 = 7 := by
                  simp only [has, Bool.or_eq_false_iff, beq_eq_false_iff_ne] at c0 c2 c6 c7 e1 e3 e4
                  omega
                rw [if_pos (hm (by simp [has, e7]))]
                rfl
end
end K04
namespace K04
open Mir
open EL (isW bg takeV takeA takeB Nm)
open ML (Pa metFault dupF ordF namesH rowsFault frF resF)
open PL (G nmP)
theorem rows_comp {its : PV} {me : EM} (w1 : List Nat) (σ : Env) (hσ : σ.length = 13) (s : Store) (h : ∀ x, me (σ.set 12 (some x)) s = .ok (addR w1 its) s) (k : Nat) :
    compGo ⟨(List.range k).map fun k => .int (k : Nat), none⟩ (gName 12) qYes me σ ((List.range k).map fun k => .int (k : Nat)) [] s = .ok (List.replicate k (addR w1 its)) s := by
  rw [compGo_pure (fun _ => true) (fun _ => addR w1 its)]
  · rw [List.filter_eq_self.mpr (by simp), List.map_map, List.nil_append]
    show Res.ok (List.map (fun _ => addR w1 its) (List.range k)) s = _
    rw [List.map_const', List.length_range]
  · intro x hx
    exact ⟨_, rfl, rfl, fun _ => h x⟩
section
variable (N : PV) (at_ tn : PV) (pre : Store) (w0 w1 w2 w3 w4 w5 w6 w7 w8 w9 w10 w11 w12 w13 w14 w15 : List Nat)
abbrev En (f p r pl n g d k : Option PV) : Env := [some N, some at_, some (.loc pre.length), some (.lst (NN w0 w1 w2 w3 w4 w5 w6 w7 w8 w9 w10 w11 w12 w13 w14 w15)), some tn, f, p, r, pl, n, g, d, k]
variable {N at_ tn pre w0 w1 w2 w3 w4 w5 w6 w7 w8 w9 w10 w11 w12 w13 w14 w15}
theorem i1 : atP (NN w0 w1 w2 w3 w4 w5 w6 w7 w8 w9 w10 w11 w12 w13 w14 w15) 1 = some (.str w1) := rfl
theorem i6 : atP (NN w0 w1 w2 w3 w4 w5 w6 w7 w8 w9 w10 w11 w12 w13 w14 w15) 6 = some (.str w6) := rfl
theorem i7 : atP (NN w0 w1 w2 w3 w4 w5 w6 w7 w8 w9 w10 w11 w12 w13 w14 w15) 7 = some (.str w7) := rfl
theorem i8 : atP (NN w0 w1 w2 w3 w4 w5 w6 w7 w8 w9 w10 w11 w12 w13 w14 w15) 8 = some (.str w8) := rfl
/-- the rows that are drawn -/
theorem s34_eq (h1 : isW w1) (h8 : isW w8) (f1 f2 : Int) (p : Option PV) (e : Store) (a b : Int) :
    ∃ (rows : List PV) (e' : Store) (a' b' : Int), (∀ x ∈ rows, GoodR w1 x) ∧ (has f1 f2 7 = true → 8 < rows.length) ∧ rows.length ≤ 10 ∧
      (sSeq s3 s4) (En N at_ tn pre w0 w1 w2 w3 w4 w5 w6 w7 w8 w9 w10 w11 w12 w13 w14 w15 (some (.lst [.int f1, .int f2])) p none none none none none none) (pre ++ bg a b :: e) = .ok (En N at_ tn pre w0 w1 w2 w3 w4 w5 w6 w7 w8 w9 w10 w11 w12 w13 w14 w15 (some (.lst [.int f1, .int f2])) p (some (.loc (pre.length + (e'.length + 1)))) none none none none none, .next) (pre ++ bg a' b' :: (e' ++ [.lst rows])) := by
  have q := fun s => in_two 7 f1 f2 s
  have t1 := EL.take_eq pre e a b 9 (by omega) (by omega)
  obtain ⟨u1, u2⟩ := EL.takeV_lt (a := a) (b := b) (m := 9) (by omega)
  generalize takeV a b 9 = v at t1 u1 u2
  generalize takeA a 9 = a1 at t1
  generalize takeB a b = b1 at t1
  have v1 : -4611686018427387904 ≤ v := by omega
  have v2 : v ≤ 16777216 := by omega
  have g0 : PL.itP (.tup []) = true := rfl
  have c1 := rows_comp (its := .tup []) (me := eTup (aCons (eC (.str [97, 100, 100])) (aCons (eOp2 pyIdx (eVar 3) (eC (.int 1))) (aCons (eTup (aNil)) (aNil))))) w1
    (En N at_ tn pre w0 w1 w2 w3 w4 w5 w6 w7 w8 w9 w10 w11 w12 w13 w14 w15 (some (.lst [.int f1, .int f2])) p none none none none none none) rfl (pre ++ bg a1 b1 :: e) (fun x => by simp [i1]) v.toNat
  cases hc : has f1 f2 7
  · refine ⟨List.replicate v.toNat (addR w1 (.tup [])), e, a1, b1, fun x hx => ?_, fun h => (by cases h), by simp; omega, ?_⟩
    · exact ⟨.tup [], rfl, rfl, (List.mem_replicate.mp hx).2⟩
    · unfold s3 s4
      simp [q, hc, takeE, t1, iRange1, v1, v2, wipe, c1]
  · have t2 := EL.take_eq pre (e ++ [.lst (List.replicate v.toNat (addR w1 (.tup [])))]) a1 b1 2 (by omega) (by omega)
    obtain ⟨u3, u4⟩ := EL.takeV_lt (a := a1) (b := b1) (m := 2) (by omega)
    generalize takeV a1 b1 2 = u at t2 u3 u4
    generalize takeA a1 2 = a2 at t2
    generalize takeB a1 b1 = b2 at t2
    have v3 : -4611686018427387904 ≤ 9 + u := by omega
    have v4 : 9 + u ≤ 16777216 := by omega
    have c2 := rows_comp (its := .tup [.str w8]) (me := eTup (aCons (eC (.str [97, 100, 100])) (aCons (eOp2 pyIdx (eVar 3) (eC (.int 1))) (aCons (eTup (aCons (eOp2 pyIdx (eVar 3) (eC (.int 8))) (aNil))) (aNil))))) w1
      (En N at_ tn pre w0 w1 w2 w3 w4 w5 w6 w7 w8 w9 w10 w11 w12 w13 w14 w15 (some (.lst [.int f1, .int f2])) p (some (.loc (pre.length + (e.length + 1)))) none none none none none) rfl (pre ++ bg a2 b2 :: (e ++ [.lst (List.replicate v.toNat (addR w1 (.tup [])))])) (fun x => by simp [i1, i8]) (9 + u).toNat
    refine ⟨List.replicate (9 + u).toNat (addR w1 (.tup [.str w8])), e ++ [.lst (List.replicate v.toNat (addR w1 (.tup [])))], a2, b2, fun x hx => ?_, fun _ => by simp; omega, by simp; omega, ?_⟩
    · have := h8.2.1
      exact ⟨.tup [.str w8], BL.it_one h8, by simp [G]; omega, (List.mem_replicate.mp hx).2⟩
    · unfold s3 s4
      simp [q, hc, takeE, t1, t2, iRange1, v1, v2, v3, v4, wipe, c1, c2]
/-- where the wrong row goes -/
theorem s56_eq (h1 : isW w1) (f1 f2 : Int) (p : Option PV) (e : Store) (rows : List PV) (hg : ∀ x ∈ rows, GoodR w1 x) (hl : rows.length ≤ 10) (h7 : has f1 f2 7 = true → 8 < rows.length) (a b : Int) :
    ∃ (rows' : List PV) (pl : Nat) (a' b' : Int), (has f1 f2 6 = true → ∃ A B, rows' = A ++ addR w7 (.tup []) :: B ∧ A.length = pl ∧ (∀ x ∈ A, GoodR w1 x) ∧ ∀ x ∈ B, GoodR w1 x) ∧ (has f1 f2 6 = false → ∀ x ∈ rows', GoodR w1 x) ∧ (has f1 f2 7 = true → 8 < rows'.length) ∧
      rows'.length ≤ 11 ∧ pl ≤ rows'.length ∧ (∀ x ∈ rows'.take pl, GoodR w1 x) ∧
      (sSeq s5 s6) (En N at_ tn pre w0 w1 w2 w3 w4 w5 w6 w7 w8 w9 w10 w11 w12 w13 w14 w15 (some (.lst [.int f1, .int f2])) p (some (.loc (pre.length + (e.length + 1)))) none none none none none) (pre ++ bg a b :: (e ++ [.lst rows])) =
        .ok (En N at_ tn pre w0 w1 w2 w3 w4 w5 w6 w7 w8 w9 w10 w11 w12 w13 w14 w15 (some (.lst [.int f1, .int f2])) p (some (.loc (pre.length + (e.length + 1)))) (some (.int pl)) none none none none, .next) (pre ++ bg a' b' :: (e ++ [.lst rows'])) := by
  have q := fun s => in_two 6 f1 f2 s
  have t1 := EL.take_eq pre (e ++ [.lst rows]) a b ((rows.length : Int) + 1) (by omega) (by omega)
  obtain ⟨u1, u2⟩ := EL.takeV_lt (a := a) (b := b) (m := (rows.length : Int) + 1) (by omega)
  generalize takeV a b ((rows.length : Int) + 1) = v at t1 u1 u2
  generalize takeA a ((rows.length : Int) + 1) = a1 at t1
  generalize takeB a b = b1 at t1
  obtain ⟨pl, rfl⟩ : ∃ k : Nat, v = k := ⟨v.toNat, by omega⟩
  have hp : pl ≤ rows.length := by omega
  have ln : ∀ S : Store, ∀ n, deref S (.loc n) = .lst rows → bLen [.loc n] S = .ok (.int rows.length) S := fun S n h => by
    simp [bLen, lenP, itemsOf, h]
  cases hc : has f1 f2 6
  · refine ⟨rows, pl, a1, b1, fun h => (by cases h), fun _ => hg, h7, by omega, hp, fun x hx => hg x (List.mem_of_mem_take hx), ?_⟩
    unfold s5 s6
    simp [q, hc, takeE, ln _ _ (dE _ _ _ _), t1]
  · have z : rows.length < sz := by simp only [sz]; omega
    have z2 : (pl : Int) < 4611686018427387904 := by omega
    refine ⟨rows.take pl ++ addR w7 (.tup []) :: rows.drop pl, pl, a1, b1, fun _ => ⟨rows.take pl, rows.drop pl, rfl, by simp; omega, fun x hx => hg x (List.mem_of_mem_take hx), fun x hx => hg x (List.mem_of_mem_drop hx)⟩, fun h => (by cases h), fun h => by have := h7 h; simp; omega, by simp; omega, by simp; omega, fun x hx => ?_, ?_⟩
    · rw [List.take_append_of_le_length (by simp; omega), List.take_take] at hx
      exact hg x (List.mem_of_mem_take hx)
    · unfold s5 s6
      simp [q, hc, takeE, ln _ _ (dE _ _ _ _), t1, i7, isL, dE, mInsert, gE, sE, z, z2]
end
end K04
namespace K04
open Mir
open EL (isW bg takeV takeA takeB Nm)
open ML (Pa metFault dupF ordF namesH rowsFault frF resF)
open PL (G nmP)
theorem dpG {x : PV} (h : G 5 x = true) : isD 11 x = true := PL.G_isD _ _ (PL.G_le (by decide) h)
theorem ne_same {v : PV} (h : isD dp v = true) (s : Store) (hv : deref s v = v) : pyNe v v s = .ok (.bl false) s := by
  unfold pyNe
  rw [hv, h]
  simp [eqF_refl _ _ h]
theorem due_data {N3 : List Nat} {l : List Pa} {f1 f2 : Int} {nm : PV} (hn : G 5 nm = true) {pl : Int} : ∃ xs, dueV N3 l f1 f2 nm pl = .tup xs ∧ isD dp (.tup xs) = true := by
  have := dpG hn
  unfold dueV
  repeat' split
  all_goals exact ⟨_, rfl, by simp [isD, dp, this]⟩
section
variable {N : PV} {at_ tn : PV} {pre : Store} {w0 w1 w2 w3 w4 w5 w6 w7 w8 w9 w10 w11 w12 w13 w14 w15 : List Nat}
theorem s7_eq (h6 : isW w6) (f1 f2 : Int) (p r pl : Option PV) (e : Store) (a b : Int) : ∃ nm a' b', nmP nm = (!has f1 f2 0) ∧ G 5 nm = true ∧
    s7 (En N at_ tn pre w0 w1 w2 w3 w4 w5 w6 w7 w8 w9 w10 w11 w12 w13 w14 w15 (some (.lst [.int f1, .int f2])) p r pl none none none none) (pre ++ bg a b :: e) = .ok (En N at_ tn pre w0 w1 w2 w3 w4 w5 w6 w7 w8 w9 w10 w11 w12 w13 w14 w15 (some (.lst [.int f1, .int f2])) p r pl (some nm) none none none, .next) (pre ++ bg a' b' :: e) := by
  have q := fun s => in_two 0 f1 f2 s
  have g6 := BL.isW_G h6
  cases hc : has f1 f2 0
  · refine ⟨.str w6, a, b, BL.isW_nmP h6, g6 5, ?_⟩
    unfold s7
    simp [q, hc, i6]
  · let L : List PV := [.str [], .int 5, .non, .str [99, 108, 115], .str [65, 122], .str [97, 97, 97, 97, 97, 97, 97, 97, 97], .tup [.str w6]]
    have gL : ∀ y ∈ L, nmP y = false ∧ G 5 y = true := by
      intro y hy
      simp only [L, List.mem_cons, List.not_mem_nil, or_false] at hy
      rcases hy with rfl | rfl | rfl | rfl | rfl | rfl | rfl
      · exact ⟨by decide, rfl⟩
      · exact ⟨rfl, rfl⟩
      · exact ⟨rfl, rfl⟩
      · exact ⟨by decide, rfl⟩
      · exact ⟨by decide, rfl⟩
      · exact ⟨by decide, rfl⟩
      · exact ⟨rfl, by simp [G, g6]; have := h6.2.1; omega⟩
    obtain ⟨y, a1, b1, m1, e1⟩ := EL.of_lst pre e a b (xs := L) (by simp [L]) (by simp [L]) (fun x hx n => PL.G_lb n (gL x hx).2)
    refine ⟨y, a1, b1, (gL y m1).1, (gL y m1).2, ?_⟩
    simp only [L] at e1
    unfold s7
    simp [q, hc, i6, lofE, e1]
theorem s89_eq {f1 f2 : Int} (hf : 0 ≤ f1 ∧ f1 < 8) (h1 : isW w1) (h7 : isW w7) {l : List Pa} (D : Drawn f1 f2 w1 w3 w7 l) {nm : PV} (hn : G 5 nm = true) (hnm : nmP nm = !has f1 f2 0) {rows : List PV} {pl : Nat} (hr : rows.length ≤ 11)
    (hb : has f1 f2 6 = true → ∃ A B, rows = A ++ addR w7 (.tup []) :: B ∧ A.length = pl ∧ (∀ x ∈ A, GoodR w1 x) ∧ ∀ x ∈ B, GoodR w1 x) (hg : has f1 f2 6 = false → ∀ x ∈ rows, GoodR w1 x) (hm : has f1 f2 7 = true → 8 < rows.length) (e : Store) (a b : Int) :
    ∃ g, (sSeq s8 s9) (En N at_ tn pre w0 w1 w2 w3 w4 w5 w6 w7 w8 w9 w10 w11 w12 w13 w14 w15 (some (.lst [.int f1, .int f2])) (some (.lst (l.map row))) (some (.loc (pre.length + (e.length + 1)))) (some (.int pl)) (some nm) none none none) (pre ++ bg a b :: (e ++ [.lst rows])) =
      .ok (En N at_ tn pre w0 w1 w2 w3 w4 w5 w6 w7 w8 w9 w10 w11 w12 w13 w14 w15 (some (.lst [.int f1, .int f2])) (some (.lst (l.map row))) (some (.loc (pre.length + (e.length + 1)))) (some (.int pl)) (some nm) g none none, .next) (pre ++ bg a b :: (e ++ [.lst rows])) := by
  have q := fun s => in_two 5 f1 f2 s
  have ag := agree hf h1 h7 D hnm (rows := rows) (pl := pl) (fun h => by obtain ⟨A, B, q1, q2, q3, _⟩ := hb h; exact ⟨A, B, q1, q2, q3⟩) hg hm
  have du := due_eq [w0, w1, w2, w3, w4, w5, w6, w7, w8, w9, w10, w11, w12, w13, w14, w15] w3 rfl l D.good.len f1 f2 hn pl (pre ++ bg a b :: (e ++ [.lst rows]))
  obtain ⟨xs, hx, hxd⟩ := due_data (N3 := w3) (l := l) (f1 := f1) (f2 := f2) hn (pl := (pl : Int))
  rw [hx] at ag du
  simp only [List.map_cons, List.map_nil] at du
  have ns := ne_same hxd (pre ++ bg a b :: (e ++ [.lst rows])) rfl
  have gr : ∀ x ∈ rows, G 6 x = true := by
    intro x hx
    cases hc : has f1 f2 6
    · exact (hg hc x hx).G h1
    · obtain ⟨A, B, rfl, q2, q3, q4⟩ := hb hc
      rcases List.mem_append.mp hx with k | k
      · exact (q3 x k).G h1
      · rcases List.mem_cons.mp k with rfl | k
        · have := h7.2.1
          simp [G]; omega
        · exact (q4 x k).G h1
  cases hc : has f1 f2 5
  · rw [hc] at ag
    simp only [Bool.false_eq_true, if_false] at ag
    have to := told_eq hn l D.good (.tup rows) (some rows) (pre ++ bg a b :: (e ++ [.lst rows])) (.inl ⟨rows, rfl, rfl, by omega, gr⟩)
    rw [ag] at to
    have it : itemsOf (pre ++ bg a b :: (e ++ [.lst rows])) (.loc (pre.length + (e.length + 1))) = some rows := by unfold itemsOf; rw [dE]
    refine ⟨some (.tup rows), ?_⟩
    unfold s8 s9
    simp [q, hc, bTuple, it, to, du, ns]
  · rw [hc] at ag
    simp only [if_true] at ag
    have dd : ∀ r, deref (pre ++ bg a b :: (e ++ [.lst rows]) ++ r) (.loc (pre.length + (e.length + 1))) = .lst rows := fun r => by
      simp [deref, List.getD_eq_getElem?_getD]
    generalize hS : (pre ++ bg a b :: (e ++ [.lst rows]) : Store) = S at dd du ns ⊢
    have bi : bIsi M.tab [.loc (pre.length + (e.length + 1)), .ty "tuple"] (S ++ [.ins M.c1 []]) = .ok (.bl false) (S ++ [.ins M.c1 []]) := by
      have t : tgOf (S ++ [.ins M.c1 []]) (.loc (pre.length + (e.length + 1))) = some (.t "list") := by
        unfold tgOf; rw [dd]
      rw [bIsi_ty, t]
      simp only [Option.bind_some]
      rw [show M.tab = isiT from rfl, tabOk.t "list" (by simp)]
      rfl
    have to := told_eq hn l D.good (.loc (pre.length + (e.length + 1))) none S (.inr ⟨rfl, bi⟩)
    rw [ag] at to
    refine ⟨some (.loc (pre.length + (e.length + 1))), ?_⟩
    unfold s8 s9
    simp [q, hc, to, du, ns]
theorem s1011_eq (h0 : isW w0) (h1 : isW w1) (h6 : isW w6) (n01 : w0 ≠ w1) {rows : List PV} {pl : Nat} (hr : rows.length ≤ 11) (hp : pl ≤ rows.length) (hg : ∀ x ∈ rows.take pl, GoodR w1 x) (f p n g : Option PV) (e : Store) (a b : Int) :
    ∃ d, (sSeq s10 s11) (En N at_ tn pre w0 w1 w2 w3 w4 w5 w6 w7 w8 w9 w10 w11 w12 w13 w14 w15 f p (some (.loc (pre.length + (e.length + 1)))) (some (.int pl)) n g none none) (pre ++ bg a b :: (e ++ [.lst rows])) = .ok (En N at_ tn pre w0 w1 w2 w3 w4 w5 w6 w7 w8 w9 w10 w11 w12 w13 w14 w15 f p (some (.loc (pre.length + (e.length + 1)))) (some (.int pl)) n g d none, .next) (pre ++ bg a b :: (e ++ [.lst rows])) := by
  generalize hS : (pre ++ bg a b :: (e ++ [.lst rows]) : Store) = S
  have dS : deref S (.loc (pre.length + (e.length + 1))) = .lst rows := by rw [← hS]; exact dE ..
  have p0 := PL.new_par (cN := 2) (cP := 3) (c0 := 0) tabOk ok.p (nm := .str w0) (ho := .str PL.sMark) (de := .non) (na := .bl false) (BL.isW_G h0 5) rfl rfl rfl S
  have p1 := PL.new_par (cN := 2) (cP := 3) (c0 := 0) tabOk ok.p (nm := .str w1) (ho := .str PL.sBox) (de := .non) (na := .bl false) (BL.isW_G h1 5) rfl rfl rfl S
  have k0 : PL.parFault (.str w0) (.str PL.sMark) .non (.bl false) = none := par_ok (p := ⟨w0, PL.sMark, .non, false⟩) ⟨BL.isW_nm h0, .inl rfl, rfl, .inl rfl⟩
  have k1 : PL.parFault (.str w1) (.str PL.sBox) .non (.bl false) = none := par_ok (p := ⟨w1, PL.sBox, .non, false⟩) ⟨BL.isW_nm h1, .inr rfl, rfl, .inl rfl⟩
  unfold PL.parRes at p0 p1
  rw [k0] at p0
  rw [k1] at p1
  simp only at p0 p1
  have q0 : newOf 0 finV (fun vs zs => d_Param_init (pickL [0, 1, 4, 2, 3] (vs ++ ([(.non), (.bl false)] : List PV) ++ zs))) [.str w0] [.str [109, 97, 114, 107]] S = .ok (.ins 0 [.str w0, .str PL.sMark, .non, .bl false]) S := p0
  have q1 : newOf 0 finV (fun vs zs => d_Param_init (pickL [0, 1, 2, 3, 4] (vs ++ ([(.str [98, 111, 120]), (.non), (.bl false)] : List PV) ++ zs))) [.str w1] [] S = .ok (.ins 0 [.str w1, .str PL.sBox, .non, .bl false]) S := p1
  simp only [List.append_assoc, List.cons_append, List.nil_append] at q0 q1
  let l2 : List Pa := [⟨w0, PL.sMark, .non, false⟩, ⟨w1, PL.sBox, .non, false⟩]
  have gr : ∀ x ∈ (rows.take pl).take 8, G 6 x = true := fun x hx => (hg x (List.mem_of_mem_take hx)).G h1
  have ll : ((rows.take pl).take 8).length = min 8 pl := by simp; omega
  have fe : metFault M (.str w6) l2 (some ((rows.take pl).take 8)) NONE = none := by
    unfold metFault
    rw [if_neg (show ¬ nmP (.str w6) = false by rw [BL.isW_nmP h6]; decide)]
    have hd : dupF [] (l2.map (·.nm)) = none := by simp [l2, dupF, n01, Ne.symm n01]
    rw [hd]
    have ho : ordF false false l2 = none := by simp [l2, ordF]
    simp only [ho]
    have hb : namesH PL.sBox l2 = [w1] := rfl
    rw [if_neg (by simp [l2]), hb, if_neg (by simp)]
    unfold rowsFault
    rw [hb, frF_good _ 0 fun x hx => by
      obtain ⟨its, j1, j2, rfl⟩ := hg x (List.mem_of_mem_take hx)
      exact rowF_add (BL.isW_nmP h1) j1 (by simp)]
    simp only [resN, if_true]
    rw [if_neg (by rw [ll]; omega)]
  have of := ML.of_eq (M := M) tabOk ok (BL.isW_G h6 5) l2 (by simp [l2]) (fun p hp => by
    simp only [l2, List.mem_cons, List.not_mem_nil, or_false] at hp
    rcases hp with rfl | rfl <;> rfl) (ps := .lst (l2.map (Pa.v M))) (s := S) rfl (.tup ((rows.take pl).take 8)) (some ((rows.take pl).take 8)) (res := NONE) rfl (.inl ⟨_, rfl, rfl, by rw [ll]; omega, gr⟩)
  rw [fe] at of
  simp only at of
  have of2 : d_Method_of [.cls 1, .str w6, .lst [.ins 0 [.str w0, .str PL.sMark, .non, .bl false], .ins 0 [.str w1, .str PL.sBox, .non, .bl false]], .tup ((rows.take pl).take 8), .tup [.str [110, 111, 110, 101]]] S = .ok (.ins 1 [.str w6, .tup (l2.map (Pa.v M)), .tup ((rows.take pl).take 8), NONE]) S := of
  have pk : ∀ a b c d e : PV, pickL [0, 1, 2, 4, 3] [a, b, c, d, e] = [a, b, c, e, d] := fun _ _ _ _ _ => rfl
  have s1 : sliceV S (.loc (pre.length + (e.length + 1))) none (some (pl : Int)) = some (.lst (rows.take pl)) := by
    have : cutP rows none (some (pl : Int)) = rows.take pl := cut_lo hp
    unfold sliceV
    simp only [dS, this]
  have s2 : ∀ xs : List PV, cutP xs none (some 8) = xs.take 8 := fun xs => by
    show (xs.drop 0).take (min 8 xs.length - 0) = _
    rw [List.drop_zero, Nat.sub_zero]
    by_cases h : 8 ≤ xs.length
    · rw [Nat.min_eq_left h]
    · rw [Nat.min_eq_right (by omega), List.take_of_length_le (Nat.le_refl _), List.take_of_length_le (by omega)]
  have s3 : ∀ xs : List PV, sliceV S (.tup xs) none (some 8) = some (.tup (xs.take 8)) := fun xs => by
    unfold sliceV
    simp only [s2]
  have tr : t_rows.lookup 1 = some 2 := rfl
  have mn : bMin [.int (pl : Int), .int 8] S = .ok (.int ((min 8 pl : Nat) : Int)) S := by
    unfold bMin
    simp only
    congr 2
    split <;> omega
  have ll2 : (min 8 (min pl rows.length) : Nat) = min 8 pl := by omega
  refine ⟨some (.ins 1 [.str w6, .tup (l2.map (Pa.v M)), .tup ((rows.take pl).take 8), NONE]), ?_⟩
  unfold s10 s11
  simp [i1, i6, q0, q1, onlyN, pk, s1, s3, of2, bTuple, tr, mn, ll2]
end
end K04
namespace K04
open Mir
open EL (isW bg takeV takeA takeB Nm)
open ML (Pa metFault dupF ordF namesH rowsFault frF resF)
open PL (G nmP)
theorem seqA {a b c : SM} : sSeq a (sSeq b c) = sSeq (sSeq a b) c := by
  funext σ s
  simp only [sSeq_ap]
  cases a σ s with
  | ok r s1 =>
    obtain ⟨σ1, f⟩ := r
    cases f <;> rfl
  | _ => rfl
theorem seq_ok {a b : SM} {σ σ1 : Env} {s s1 : Store} (h : a σ s = .ok (σ1, .next) s1) : sSeq a b σ s = b σ1 s1 := by
  rw [sSeq_ap, h]; rfl
section
variable {N : PV} {at_ tn : PV} {pre : Store} {w0 w1 w2 w3 w4 w5 w6 w7 w8 w9 w10 w11 w12 w13 w14 w15 : List Nat}
theorem turn (hN : Nm 16 [w0, w1, w2, w3, w4, w5, w6, w7, w8, w9, w10, w11, w12, w13, w14, w15]) (e : Store) (a b : Int) :
    ∃ (f p r pl n g d k : Option PV) (e' : Store) (a' b' : Int), b_law_0 (En N at_ tn pre w0 w1 w2 w3 w4 w5 w6 w7 w8 w9 w10 w11 w12 w13 w14 w15 none none none none none none none none) (pre ++ bg a b :: e) = .ok (En N at_ tn pre w0 w1 w2 w3 w4 w5 w6 w7 w8 w9 w10 w11 w12 w13 w14 w15 f p r pl n g d k, .next) (pre ++ bg a' b' :: e') := by
  have hw := hN.w
  simp only [List.mem_cons, List.not_mem_nil, or_false, forall_eq_or_imp, forall_eq] at hw
  obtain ⟨h0, h1, h2, h3, h4, h5, h6, h7, h8, h9, h10, h11, h12, h13, h14, h15⟩ := hw
  have n01 : w0 ≠ w1 := by rintro rfl; exact absurd hN.nd (by simp)
  have t1 := EL.take_eq pre e a b 8 (by omega) (by omega)
  have tl1 := EL.takeV_lt (a := a) (b := b) (m := 8) (by omega)
  generalize takeV a b 8 = f1 at t1 tl1
  generalize takeA a 8 = a1 at t1
  generalize takeB a b = b1 at t1
  have t2 := EL.take_eq pre e a1 b1 16 (by omega) (by omega)
  generalize takeV a1 b1 16 = f2 at t2
  generalize takeA a1 16 = a2 at t2
  generalize takeB a1 b1 = b2 at t2
  have e1 : s1 (En N at_ tn pre w0 w1 w2 w3 w4 w5 w6 w7 w8 w9 w10 w11 w12 w13 w14 w15 none none none none none none none none) (pre ++ bg a b :: e) = .ok (En N at_ tn pre w0 w1 w2 w3 w4 w5 w6 w7 w8 w9 w10 w11 w12 w13 w14 w15 (some (.lst [.int f1, .int f2])) none none none none none none none, .next) (pre ++ bg a2 b2 :: e) := by
    unfold s1
    simp [takeE, t1, t2]
  obtain ⟨l, a3, b3, D, pe⟩ := params_eq (f1 := f1) (f2 := f2) pre e a2 b2 hN
  have e2 : s2 (En N at_ tn pre w0 w1 w2 w3 w4 w5 w6 w7 w8 w9 w10 w11 w12 w13 w14 w15 (some (.lst [.int f1, .int f2])) none none none none none none none) (pre ++ bg a2 b2 :: e) = .ok (En N at_ tn pre w0 w1 w2 w3 w4 w5 w6 w7 w8 w9 w10 w11 w12 w13 w14 w15 (some (.lst [.int f1, .int f2])) (some (.lst (l.map row))) none none none none none none, .next) (pre ++ bg a3 b3 :: e) := by
    unfold s2
    simp [pe]
  obtain ⟨rows, ex, a4, b4, g1, g2, g3, e34⟩ := s34_eq (N := N) (at_ := at_) (tn := tn) (pre := pre) (w0 := w0) (w1 := w1) (w2 := w2) (w3 := w3) (w4 := w4) (w5 := w5) (w6 := w6) (w7 := w7) (w8 := w8) (w9 := w9) (w10 := w10) (w11 := w11) (w12 := w12) (w13 := w13) (w14 := w14) (w15 := w15) h1 h8 f1 f2 (some (.lst (l.map row))) e a3 b3
  obtain ⟨rows', pl, a5, b5, k1, k2, k3, k4, k5, k6, e56⟩ := s56_eq (N := N) (at_ := at_) (tn := tn) (pre := pre) (w0 := w0) (w1 := w1) (w2 := w2) (w3 := w3) (w4 := w4) (w5 := w5) (w6 := w6) (w7 := w7) (w8 := w8) (w9 := w9) (w10 := w10) (w11 := w11) (w12 := w12) (w13 := w13) (w14 := w14) (w15 := w15) h1 f1 f2 (some (.lst (l.map row))) ex rows g1 g3 g2 a4 b4
  obtain ⟨nm, a6, b6, m1, m2, e7⟩ := s7_eq (N := N) (at_ := at_) (tn := tn) (pre := pre) (w0 := w0) (w1 := w1) (w2 := w2) (w3 := w3) (w4 := w4) (w5 := w5) (w6 := w6) (w7 := w7) (w8 := w8) (w9 := w9) (w10 := w10) (w11 := w11) (w12 := w12) (w13 := w13) (w14 := w14) (w15 := w15) h6 f1 f2 (some (.lst (l.map row))) (some (.loc (pre.length + (ex.length + 1)))) (some (.int pl)) (ex ++ [.lst rows']) a5 b5
  obtain ⟨g, e89⟩ := s89_eq (N := N) (at_ := at_) (tn := tn) (pre := pre) (w0 := w0) (w2 := w2) (w4 := w4) (w5 := w5) (w6 := w6) (w8 := w8) (w9 := w9) (w10 := w10) (w11 := w11) (w12 := w12) (w13 := w13) (w14 := w14) (w15 := w15) tl1 h1 h7 D m2 m1 k4 k1 k2 k3 ex a6 b6
  obtain ⟨d, e10⟩ := s1011_eq (N := N) (at_ := at_) (tn := tn) (pre := pre) (w2 := w2) (w3 := w3) (w4 := w4) (w5 := w5) (w7 := w7) (w8 := w8) (w9 := w9) (w10 := w10) (w11 := w11) (w12 := w12) (w13 := w13) (w14 := w14) (w15 := w15) h0 h1 h6 n01 k4 k5 k6 (some (.lst [.int f1, .int f2])) (some (.lst (l.map row))) (some nm) g ex a6 b6
  refine ⟨some (.lst [.int f1, .int f2]), some (.lst (l.map row)), some (.loc (pre.length + (ex.length + 1))), some (.int pl), some nm, g, d, none, ex ++ [.lst rows'], a6, b6, ?_⟩
  rw [s_eq, seq_ok e1, seq_ok e2, seqA, seq_ok e34, seqA, seq_ok e56, seq_ok e7, seqA, seq_ok e89, e10]
end
theorem outer (ns : List Int) (hl : ns.length ≤ 63) (pre : Store) (k : Nat) (hk : k < 100) : ∃ (r : List (Option PV)) (s' : Store), r.length = 11 ∧ b_law_1 [some (.ro (ns.map .int)), some (.int k), none, none, none, none, none, none, none, none, none, none, none] pre = .ok (some (.ro (ns.map .int)) :: some (.int k) :: r, .next) s' := by
  obtain ⟨a0, b0, e0⟩ := EL.bag_eq pre hl k hk
  obtain ⟨l, a1, b1, hN, e1⟩ := EL.names_eq 16 (by omega) pre a0 b0
  have hlen := hN.len
  obtain ⟨w0, w1, w2, w3, w4, w5, w6, w7, w8, w9, w10, w11, w12, w13, w14, w15, rfl⟩ : ∃ w0 w1 w2 w3 w4 w5 w6 w7 w8 w9 w10 w11 w12 w13 w14 w15, l = [w0, w1, w2, w3, w4, w5, w6, w7, w8, w9, w10, w11, w12, w13, w14, w15] := by
    match l, hlen with
    | [a, b, c, d, e, f, g, h, i, j, k, l, m, n, o, p], _ => exact ⟨a, b, c, d, e, f, g, h, i, j, k, l, m, n, o, p, rfl⟩
  generalize hE : ([some (.ro (ns.map .int)), some (.int k), some (.loc pre.length), some (.lst (NN w0 w1 w2 w3 w4 w5 w6 w7 w8 w9 w10 w11 w12 w13 w14 w15)), none, none, none, none, none, none, none, none, none] : Env) = E0
  obtain ⟨σ', s', f1, I1⟩ := forGo_inv (g := gName 4) (b := b_law_0) (keep := keepAs E0) (w := ⟨(List.range 5).map fun k => .int (k : Nat), none⟩)
    (fun n xs σ s => σ = E0 ∧ ∃ a b e, s = pre ++ bg a b :: e) ((List.range 5).map fun k => .int (k : Nat)) 0 E0 (pre ++ [bg a1 b1]) ⟨rfl, _, _, _, rfl⟩ (fun _ _ _ _ h => by trivial) (by
      rintro n y ys σ s ⟨rfl, a, b, e, rfl⟩
      subst hE
      obtain ⟨f, p, r, pl, n, g, d, k, e', a', b', eb⟩ := turn (N := .ro (ns.map .int)) (at_ := .int k) (tn := y) (pre := pre) hN e a b
      exact ⟨_, _, _, .next, _, rfl, eb, .inl rfl, by simp [keepAs], a', b', e', rfl⟩)
  obtain ⟨rfl, a', b', e', rfl⟩ := I1
  refine ⟨[some (.loc pre.length), some (.lst (NN w0 w1 w2 w3 w4 w5 w6 w7 w8 w9 w10 w11 w12 w13 w14 w15)), none, none, none, none, none, none, none, none, none], pre ++ bg a' b' :: e', rfl, ?_⟩
  · have r5 : iRange1 (eC (.int 5)) = fun σ s => .ok ⟨(List.range 5).map fun k => .int (k : Nat), none⟩ s := rfl
    unfold b_law_1
    have e1' : EL.d_law_names [PV.loc pre.length, PV.int 16] (pre ++ [bg a0 b0]) = Res.ok (PV.lst (NN w0 w1 w2 w3 w4 w5 w6 w7 w8 w9 w10 w11 w12 w13 w14 w15)) (pre ++ [bg a1 b1]) := e1
    simp only [bagE, namesE] at *
    simp [e0, e1', r5, hE]
    rw [f1, ← hE]
theorem plain (ns : List Int) (h : ns.length ≤ 63) : ∃ s', d_law [.ro (ns.map PV.int)] [] = .ok (.bl true) s' := by
  unfold d_law
  rw [runDef_ap]
  unfold m_law
  obtain ⟨i, j, hj, hi, hj2⟩ : ∃ (i : Int) (j : Nat), j ≤ 6 ∧ bMin [.int 6, .int (ns.length : Int)] [] = .ok (.int i) [] ∧ bMax [.int 1, .int i] [] = .ok (.int (j : Int)) [] := by
    by_cases q1 : (ns.length : Int) < 6
    · by_cases q2 : (ns.length : Int) > 1
      · exact ⟨ns.length, ns.length, by omega, by simp only [bMin, q1, if_true], by simp only [bMax, q2, if_true]⟩
      · exact ⟨ns.length, 1, by omega, by simp only [bMin, q1, if_true], by simp only [bMax, q2, if_false]; rfl⟩
    · exact ⟨6, 6, by omega, by simp only [bMin, q1, if_false], by rfl⟩
  have v1 : -4611686018427387904 ≤ (j : Int) := by omega
  have v2 : (j : Int) ≤ 16777216 := by omega
  generalize hE : ([some (.ro (ns.map .int)), none, none, none, none, none, none, none, none, none, none, none, none] : Env) = E0
  obtain ⟨σ', s', e, I1⟩ := forGo_inv (g := gName 1) (b := b_law_1) (keep := keepAs E0) (w := ⟨(List.range j).map fun k => .int (k : Nat), none⟩)
    (fun n xs σ s => σ = E0 ∧ ∀ x ∈ xs, ∃ k : Nat, k < 100 ∧ x = .int k) ((List.range j).map fun k => .int (k : Nat)) 0 E0 [] ⟨rfl, fun x hx => by
      obtain ⟨k, hk, rfl⟩ := List.mem_map.mp hx
      have := List.mem_range.mp hk
      exact ⟨k, by omega, rfl⟩⟩ (fun _ _ _ _ h => by trivial) (by
      rintro n y ys σ s ⟨rfl, hy⟩
      subst hE
      obtain ⟨k, hk, rfl⟩ := hy y (List.mem_cons_self ..)
      obtain ⟨r, s1, hr, eb⟩ := outer ns h s k hk
      refine ⟨_, _, _, .next, s1, rfl, eb, .inl rfl, ?_, fun x hx => hy x (List.mem_cons_of_mem _ hx)⟩
      match r, hr with
      | [r2, r3, r4, r5, r6, r7, r8, r9, r10, r11, r12], _ => simp [keepAs])
  obtain ⟨rfl, _⟩ := I1
  have f : finV [] (.bl true) s' = .ok (.bl true) [] := by
    unfold finV
    rw [if_pos ⟨fun i hi => absurd hi (Nat.not_lt_zero i), Nat.zero_le _⟩]
    simp
  refine ⟨[], ?_⟩
  subst hE
  simp [iRange1, hi, hj2, v1, v2, e, f]
end K04
set_option maxHeartbeats 0
namespace K04
open PySem PySem.Spec PyProof.Rows L2 Mir
abbrev R0 : PySem.W.OpenRow := PySem.W.OpenLaw.row PySem.Challenge.rw_oncedefaults_k04_methods_refused
abbrev hk : PySem.W.Hook := hookC 6 fa fn xs cs ex
def ob (s : PySem.W.SharedT) : AlC := obsCG 6 fa fn xs cs ex (HandSHeadRun.getT s)
theorem ob_eq (s : PySem.W.SharedT) : ob s = hk.obs s.abs := obsCG_eq (HandSHeadRun.getT_eq s)
def names : List Str := [("_wall" : Str), ("_wall" : Str), ("PartError" : Str), ("BadName" : Str), ("BadParam" : Str), ("BadRow" : Str), ("BadOrder" : Str), ("Twice" : Str), ("TooMany" : Str), ("LETTERS" : Str), ("MOST_LETTERS" : Str), ("WORDS" : Str), ("is_name" : Str), ("are_items" : Str), ("is_owner" : Str), ("is_truth" : Str), ("PLAIN_PARTS" : Str), ("TEST_PARTS" : Str), ("ASSIGNING" : Str), ("GUARDS" : Str), ("has_word" : Str), ("part_fits" : Str), ("parts_fit" : Str), ("is_plain" : Str), ("is_test" : Str), ("is_guarded" : Str), ("is_result" : Str), ("is_default" : Str), ("test_variables" : Str), ("used_variables" : Str), ("parted" : Str), ("first_bad_row" : Str), ("result_fits" : Str), ("NOTHING" : Str), ("look_name" : Str), ("look_twice" : Str), ("Param" : Str), ("look_order" : Str), ("Method" : Str), ("_law_bag" : Str), ("_law_take" : Str), ("_law_of" : Str), ("_law_names" : Str), ("_law_params" : Str), ("_law_due" : Str), ("_law_told" : Str)]
theorem runF (w : World) : HandSHeadRun.RunEq R0 (PySem.W.view R0.prog [50]) hk ob 40000 names (w.withFollow "special-get-raises" false) := by
  intro os
  kernel_rfl
theorem runT (w : World) : HandSHeadRun.RunEq R0 (PySem.W.view R0.prog [50]) hk ob 40000 names (w.withFollow "special-get-raises" true) := by
  intro os
  kernel_rfl
theorem run (w : World) : HandSHeadRun.RunEq R0 (PySem.W.view R0.prog [50]) hk ob 40000 names w := PySem.W.byRow2 "special-get-raises" runF runT w
end K04
set_option maxHeartbeats 0
namespace K04
open PySem PySem.Spec PyProof.Rows L2 Mir
theorem facts {P : Program} {w : World} {K : PySem.W.Frag} {h : Heap} {mg : Str → Option Value} {f : Addr} (X : K.In h) (G : h.Ns mainGlobals mg) (hfa : mg ("law" : Str) = some (.ref f)) (c : SaysC P file0 fa fn xs cs ex K) :
    ∃ fd : FuncData, (∀ (s : Shared) (v : Value), BindsTo s fd ⟨[v], []⟩ [("_law_script", v)]) ∧ ∀ base : Heap, K.In base → base.Ns mainGlobals mg → FnOk P w K mg base (L2.CX P w) 13 f fd ["_law_script"] (spM K (tb K) 1 d_law) := by
  obtain ⟨fd, F⟩ := c.d.def_ (fn.length - 1) (d := D_law) rfl
  have e := hfa.symm.trans (hg_law c X G)
  cases e
  have b := FunD.bindsA (ps := ["_law_script"]) F fun _ _ _ _ _ _ us hl => match us, hl with | [_], _ => rfl
  exact ⟨fd, fun s v => b s [v] rfl, fun base X2 G2 => ok_law c X2 G2 F⟩
end K04
open PySem PySem.W PySem.Calls PyProof.Rows
theorem PySem.Challenge.cw_oncedefaults_k04_methods_refused_holds : PySem.Challenge.rw_oncedefaults_k04_methods_refused.Holds := by
  w_on; o_law
  refine HandSHeadRun.head_any (r := K04.R0) (q := view K04.R0.prog [50]) (H := K04.hk) (ob := K04.ob) (M := 40000) (loose := K04.names) (d := HandSHeadRun.topDef K04.R0.prog 50) (kwd := []) K04.ob_eq
    (by kernel_rfl) (fun s => by kernel_rfl) K04.run (by kernel_rfl) (by kernel_rfl) (by kernel_rfl) (by rfl) (by first | assumption | decide +kernel) (by decide +kernel) ⟨rfl, rfl, rfl, rfl, rfl, by decide +kernel⟩ ?hw ?hc
  case hw => w_witness2
  case hc =>
    refine Mir.walk_ofM (l := PySem.Challenge.rw_oncedefaults_k04_methods_refused) (n := 63) (k := 13) (x := "_law_script") (CX := fun w => L2.CX (PySem.Challenge.rw_oncedefaults_k04_methods_refused).prog w) rfl (by decide) (by kernel_rfl) ⟨rfl, by decide, by decide⟩ ?F (fun _ _ _ _ _ z => Mir.cx_none z)
    intro w mg fa h Y G hmg0
    obtain ⟨K, KX, c⟩ := Y
    have hmg : mg ("law" : PySem.Str) = some (.ref fa) := by
      have e : (HandSHeadRun.topDef K04.R0.prog 50).name = ("law" : PySem.Str) := by kernel_rfl
      rw [← e]
      exact hmg0
    obtain ⟨fd, hb, hF⟩ := K04.facts (P := (PySem.Challenge.rw_oncedefaults_k04_methods_refused).prog) (w := w) KX G hmg ⟨c, rfl, by kernel_rfl⟩
    exact ⟨K, fd, Mir.spM K (K04.tb K) 1 K04.d_law, KX, hb, fun H a ns hl _ hS => Mir.law_sp hS (K04.plain ns hl), hF⟩
