import PyProof.Rows.All
import Wide.All
import OpenK.AllK
import Wide.FinOn
import HandS.ForMost
import HandS.Exc
import HandS.Lambda
import HandS.TupAny
import HandS.TupMul
import HandS.IsInst
import HandS.Style
import HandS.Text
import HandS.Iter
import HandS.Zip
import KE.GoesEnum
import HandS.ExcOwn
import HandS.TryMany
import HandS.Codes
import HandS.Defaults
import HandS.Nested
import HandS.OwnEq
import HandS.EndBits
import HandS.EndTab
import HandS.Head0
import HandS.Head1
import HandS.Head2
import HandS.HeadHook1
import HandS.HeadHook2
import HandS.HeadHook3
import HandS.HeadHook4
import KE.KStateDown
import HandS.Conv
import PyProof.Fits
import Lean
import PySem.Challenge.RW_polderkeep_k14_whole_cheapest_plans
section
set_option Elab.async false
set_option linter.all false
set_option maxRecDepth 100000
set_option maxHeartbeats 4000000
/-! GL, the core: plain values, a store, what the Python words of our laws do to them, and the reading of the syntax. -/
namespace GL
open PySem

/-- a plain value: tuples are data; fz: a list that stays for ever (the script); tl, td, ts: a list, dict, set that was just made and that nobody changes; ref: an object of the store; gl: a def or class of the module; hx: the exception that is handled; clo: a lambda with what it captured -/
inductive G where
  | non | bl (b : Bool) | int (i : Int) | str (s : Str)
  | tup (l : List G) | fz (l : List G) | tl (l : List G) | td (l : List (G × G)) | ts (l : List G)
  | ref (n : Nat) | gl (x : Str) | ty (n : String)
  | hx (c : Str) (fs : List (Str × G))
  | clo (ln cl : Nat) (cap : List G)
  deriving Inhabited
/-- an object of the store: a list (w: it may be changed), a dict, an instance -/
inductive GO where
  | lst (w : Bool) (l : List G)
  | dic (z : Bool) (l : List (G × G))
  | ins (c : Str) (fs : List (Str × G))
  deriving Inhabited
abbrev Sto := List GO
abbrev Loc := List (Option G)
inductive R (a : Type) where
  | ok (x : a) (S : Sto)
  | exc (c : Str) (fs : List (Str × G)) (S : Sto)
  | bad
inductive SR where
  | nx (l : Loc) (S : Sto)
  | rt (g : G) (S : Sto)
  | bk (l : Loc) (S : Sto)
  | ct (l : Loc) (S : Sto)
  | exc (c : Str) (fs : List (Str × G)) (l : Loc) (S : Sto)
  | bad
def rb {a b : Type} (r : R a) (k : a → Sto → R b) : R b := match r with
  | .ok x S => k x S
  | .exc c fs S => .exc c fs S
  | .bad => .bad
/-- what is called: a def, a method, a lambda -/
inductive FK where
  | fn (x : Str) | me (c m : Str) | la (ln cl : Nat)
  deriving DecidableEq
abbrev Calls := FK → List G → Sto → R G
abbrev Ev := Loc → Sto → R G
abbrev As := Loc → Sto → R (List G)
abbrev Te := Loc → Sto → R Bool
abbrev StM := Loc → Sto → SR

/-! ### expressions -/
def eBad : Ev := fun _ _ => .bad
def eC (g : G) : Ev := fun _ S => .ok g S
def eV (i : Nat) : Ev := fun l S => match l[i]? with
  | some (some g) => .ok g S
  | _ => .bad
def ro (o : Option G) (S : Sto) : R G := match o with
  | some g => .ok g S
  | none => .bad
def e1 (f : G → Sto → Option G) (a : Ev) : Ev := fun l S => rb (a l S) fun x S => ro (f x S) S
def e2 (f : G → G → Sto → Option G) (a b : Ev) : Ev := fun l S => rb (a l S) fun x S => rb (b l S) fun y S => ro (f x y S) S
def aNil : As := fun _ S => .ok [] S
def aCons (a : Ev) (r : As) : As := fun l S => rb (a l S) fun x S => rb (r l S) fun xs S => .ok (x :: xs) S
def eA (f : List G → Sto → Option G) (a : As) : Ev := fun l S => rb (a l S) fun xs S => ro (f xs S) S
def eMt (f : G → List G → Sto → Option G) (o : Ev) (a : As) : Ev := fun l S => rb (o l S) fun x S => rb (a l S) fun xs S => ro (f x xs S) S
/-- a method that changes its object -/
def eMu (f : G → List G → Sto → Option (G × Sto)) (o : Ev) (a : As) : Ev := fun l S => rb (o l S) fun x S => rb (a l S) fun xs S => match f x xs S with
  | some (g, S) => .ok g S
  | none => .bad
def eCl (call : Calls) (k : FK) (a : As) : Ev := fun l S => rb (a l S) fun xs S => call k xs S
def bof {a : Type} (g : G) (k : Bool → R a) : R a := match g with
  | .bl b => k b
  | _ => .bad
def tV (a : Ev) : Te := fun l S => rb (a l S) fun x S => bof x fun b => .ok b S
def tAnd (a b : Te) : Te := fun l S => rb (a l S) fun x S => if x = true then b l S else .ok false S
def tOr (a b : Te) : Te := fun l S => rb (a l S) fun x S => if x = true then .ok true S else b l S
def tNot (a : Te) : Te := fun l S => rb (a l S) fun x S => .ok (!x) S
def tBad : Te := fun _ _ => .bad
def eAnd (a b : Ev) : Ev := fun l S => rb (a l S) fun x S => bof x fun c => if c = true then b l S else .ok (.bl false) S
def eOr (a b : Ev) : Ev := fun l S => rb (a l S) fun x S => bof x fun c => if c = true then .ok (.bl true) S else b l S
def eNot (a : Te) : Ev := fun l S => rb (a l S) fun x S => .ok (.bl (!x)) S
def eIf (c : Te) (a b : Ev) : Ev := fun l S => rb (c l S) fun x S => if x = true then a l S else b l S
/-- a op b op' c -/
def eCh (f g : G → G → Sto → Option G) (a b c : Ev) : Ev := fun l S => rb (a l S) fun x S => rb (b l S) fun y S => rb (ro (f x y S) S) fun z S => bof z fun k =>
  if k = true then rb (c l S) fun w S => ro (g y w S) S else .ok (.bl false) S

/-! ### statements -/
def sBad : StM := fun _ _ => .bad
def sNx : StM := fun l S => .nx l S
def sSeq (a b : StM) : StM := fun l S => match a l S with
  | .nx l S => b l S
  | .rt g S => .rt g S
  | .bk l S => .bk l S
  | .ct l S => .ct l S
  | .exc c fs l S => .exc c fs l S
  | .bad => .bad
def sr {a : Type} (l : Loc) (r : R a) (k : a → Sto → SR) : SR := match r with
  | .ok x S => k x S
  | .exc c fs S => .exc c fs l S
  | .bad => .bad
def sSet (i : Nat) (e : Ev) : StM := fun l S => sr l (e l S) fun g S => .nx (l.set i (some g)) S
def sDrop (e : Ev) : StM := fun l S => sr l (e l S) fun _ S => .nx l S
def sRet (e : Ev) : StM := fun l S => sr l (e l S) fun g S => .rt g S
def sRetN : StM := fun _ S => .rt .non S
def sBrk : StM := fun l S => .bk l S
def sCnt : StM := fun l S => .ct l S
def sIf (t : Te) (a b : StM) : StM := fun l S => sr l (t l S) fun x S => if x = true then a l S else b l S
/-- targets: places of names; a tuple of them -/
inductive Tg where
  | nm (i : Nat)
  | tp (is : List Nat)
def setAll : List Nat → List G → Loc → Loc
  | i :: is, g :: gs, l => setAll is gs (l.set i (some g))
  | _, _, l => l
def tgSet (t : Tg) (g : G) (l : Loc) : Option Loc := match t with
  | .nm i => some (l.set i (some g))
  | .tp is => (match g with
    | .tup gs => if gs.length = is.length then some (setAll is gs l) else none
    | _ => none)
def sTg (t : Tg) (e : Ev) : StM := fun l S => sr l (e l S) fun g S => match tgSet t g l with
  | some l' => .nx l' S
  | none => .bad
/-- a, b = x, y -/
def sPar (i j : Nat) (a b : Ev) : StM := fun l S => sr l (a l S) fun x S => sr l (b l S) fun y S => .nx ((l.set i (some x)).set j (some y)) S
/-- the while's turns: at most so many -/
def wGo (t : Te) (b : StM) : Nat → StM
  | 0 => sBad
  | n + 1 => fun l S => sr l (t l S) fun x S => if x = true then (match b l S with
    | .nx l S => wGo t b n l S
    | .ct l S => wGo t b n l S
    | .bk l S => .nx l S
    | .rt g S => .rt g S
    | .exc c fs l S => .exc c fs l S
    | .bad => .bad) else .nx l S
/-- numbers that no check of types unfolds -/
noncomputable def big : Int := Classical.choose (⟨1000000, rfl⟩ : ∃ n : Int, n = 1000000)
theorem big_eq : big = 1000000 := Classical.choose_spec (⟨1000000, rfl⟩ : ∃ n : Int, n = 1000000)
noncomputable def b64 : Int := Classical.choose (⟨2 ^ 64, rfl⟩ : ∃ n : Int, n = 2 ^ 64)
theorem b64_eq : b64 = 2 ^ 64 := Classical.choose_spec (⟨2 ^ 64, rfl⟩ : ∃ n : Int, n = 2 ^ 64)
noncomputable def b30 : Int := Classical.choose (⟨1073741824, rfl⟩ : ∃ n : Int, n = 1073741824)
theorem b30_eq : b30 = 1073741824 := Classical.choose_spec (⟨1073741824, rfl⟩ : ∃ n : Int, n = 1073741824)
/-- the most turns: a number that no check of types unfolds -/
noncomputable def wMax : Nat := Classical.choose (⟨1000000, rfl⟩ : ∃ n : Nat, n = 1000000)
theorem wMax_eq : wMax = 1000000 := Classical.choose_spec (⟨1000000, rfl⟩ : ∃ n : Nat, n = 1000000)
noncomputable section
def sWhile (t : Te) (b : StM) : StM := wGo t b wMax
/-- what is walked: items that stand, or a list of the store -/
inductive It where
  | fix (l : List G)
  | dyn (n : Nat)
def fTurn (g : Tg) (b : StM) (x : G) (k : StM) : StM := fun l S => match tgSet g x l with
  | none => .bad
  | some l => (match b l S with
    | .nx l S => k l S
    | .ct l S => k l S
    | .bk l S => .nx l S
    | .rt v S => .rt v S
    | .exc c fs l S => .exc c fs l S
    | .bad => .bad)
def fGo (g : Tg) (b : StM) : List G → StM
  | [] => sNx
  | x :: xs => fTurn g b x (fGo g b xs)
def lstAt (S : Sto) (n : Nat) : Option (List G) := match S[n]? with
  | some (.lst _ l) => some l
  | _ => none
def fDyn (g : Tg) (b : StM) (n : Nat) : Nat → Nat → StM
  | 0, _ => sBad
  | m + 1, i => fun l S => match lstAt S n with
    | none => .bad
    | some xs => (match xs[i]? with
      | none => .nx l S
      | some x => fTurn g b x (fDyn g b n m (i + 1)) l S)
def sFor (it : Loc → Sto → R It) (g : Tg) (b : StM) : StM := fun l S => sr l (it l S) fun i S => match i with
  | .fix xs => fGo g b xs l S
  | .dyn n => fDyn g b n wMax 0 l S
/-! ### comprehensions: the own names' places are forgotten within -/
def wipeL (l : Loc) : List Nat → Loc
  | [] => l
  | v :: vs => (wipeL l vs).set v none
/-- within a comprehension nothing is raised -/
def rbN {a b : Type} (r : R a) (k : a → Sto → R b) : R b := match r with
  | .ok x S => k x S
  | _ => .bad
def lcGo (g : Tg) (t : Te) (e : Ev) (l : Loc) : List G → List G → Sto → R (List G)
  | [], acc, S => .ok acc S
  | x :: xs, acc, S => (match tgSet g x l with
    | none => .bad
    | some l' => rbN (t l' S) fun k S => if k = true then rbN (e l' S) fun y S => lcGo g t e l xs (acc ++ [y]) S else lcGo g t e l xs acc S)
def lcDyn (g : Tg) (t : Te) (e : Ev) (l : Loc) (n : Nat) : Nat → Nat → List G → Sto → R (List G)
  | 0, _, _, _ => .bad
  | m + 1, i, acc, S => (match lstAt S n with
    | none => .bad
    | some xs => (match xs[i]? with
      | none => .ok acc S
      | some x => (match tgSet g x l with
        | none => .bad
        | some l' => rbN (t l' S) fun k S => if k = true then rbN (e l' S) fun y S => if acc.length < sizeLine then lcDyn g t e l n m (i + 1) (acc ++ [y]) S else .bad else lcDyn g t e l n m (i + 1) acc S)))
def tYes : Te := fun _ S => .ok true S
/-- the items of a list comprehension -/
def lcV (it : Loc → Sto → R It) (own : List Nat) (g : Tg) (t : Te) (e : Ev) : Loc → Sto → R (List G) := fun l S => rb (it l S) fun i S => match i with
  | .fix xs => lcGo g t e (wipeL l own) xs [] S
  | .dyn n => lcDyn g t e (wipeL l own) n wMax 0 [] S
def eLc (it : Loc → Sto → R It) (own : List Nat) (g : Tg) (t : Te) (e : Ev) : Ev := fun l S => rb (lcV it own g t e l S) fun xs S => .ok (.tl xs) S
end
end GL

end

section
set_option Elab.async false
set_option linter.all false
set_option maxRecDepth 100000
set_option maxHeartbeats 4000000
/-! GL: how plain values and the store lie in the abstract heap. -/
namespace GL
open PySem PySem.Spec PyProof.Rows L2

/-- the object at a is o and stays so -/
def fixO (a : Addr) (o : Obj) : HO := .ext fun h => h.get? a = some o
/-- what the representation leans on: the written part, the module's names, the exception that is handled, what the function object of a lambda is -/
structure RP where
  K : PySem.W.Frag
  mg : Str → Option Value
  hp : Option (Addr × Obj)
  isClo : Nat → Nat → Obj → List Addr → Addr → Str → Prop
  /-- addresses that no value names: the lists that comprehensions are making -/
  hid : List Addr
def Out (r : RP) (m : List Addr) (p : Addr) : Prop := p ∉ m ∧ p ∉ r.hid
def KTup (K : PySem.W.Frag) (p : Addr) (vs : List V) : Prop := ∃ (o : Obj) (its : Array Value) (n : Nat), K.lookup p = some o ∧ o.cls = .type "tuple" ∧ o.data = .seq its n ∧ its.size ≤ sizeLine ∧ Vals vs its.toList
def KLst (K : PySem.W.Frag) (a : Addr) (xs : List V) : Prop := ∃ (o : Obj) (its : Array Value) (n : Nat), K.lookup a = some o ∧ o.cls = .type "list" ∧ o.dict = none ∧ o.data = .seq its n ∧ its.size ≤ sizeLine ∧ Vals xs its.toList
mutual
inductive RepV (r : RP) (m : List Addr) (H : Hp) : G → V → Prop
  | non : RepV r m H .non .non
  | bl (b : Bool) : RepV r m H (.bl b) (.bl b)
  | int (i : Int) : RepV r m H (.int i) (.int i)
  | str (s : Str) : RepV r m H (.str s) (.str s)
  | ty (n : String) : RepV r m H (.ty n) (.ty n)
  | tup {p : Addr} {vs : List V} {l : List G} : (Out r m p ∧ H p = some (.tup vs)) ∨ KTup r.K p vs → vs.length ≤ sizeLine → RepVs r m H l vs → RepV r m H (.tup l) (.ref p)
  | fz {p : Addr} {vs : List V} {l : List G} : (Out r m p ∧ ∃ o, H p = some (.frz o (.lst vs))) ∨ KLst r.K p vs → vs.length ≤ sizeLine → RepVs r m H l vs → RepV r m H (.fz l) (.ref p)
  | tl {p : Addr} {vs : List V} {l : List G} : Out r m p → H p = some (.lst vs) → vs.length ≤ sizeLine → RepVs r m H l vs → RepV r m H (.tl l) (.ref p)
  | ref {n : Nat} {a : Addr} : m[n]? = some a → RepV r m H (.ref n) (.ref a)
  | gl {x : Str} {a : Addr} : r.mg x = some (.ref a) → RepV r m H (.gl x) (.ref a)
  | hx {p : Addr × Obj} {c : Str} {C : Addr} {fs : List (Str × G)} : r.hp = some p → p.2.cls = .ref C → r.mg c = some (.ref C) → RepX r m H fs p.2.dict → RepV r m H (.hx c fs) (.ref p.1)
  | clo {f c' : Addr} {o : Obj} {q : Str} {ln cl : Nat} {cs : List Addr} {cap : List G} : Out r m f → H f = some (fixO f o) → r.isClo ln cl o cs c' q → Out r m c' → H c' = some (LamX.CodeO c' q) → RepCs r m H cap cs → RepV r m H (.clo ln cl cap) (.ref f)
inductive RepVs (r : RP) (m : List Addr) (H : Hp) : List G → List V → Prop
  | nil : RepVs r m H [] []
  | cons {g : G} {v : V} {gs : List G} {vs : List V} : RepV r m H g v → RepVs r m H gs vs → RepVs r m H (g :: gs) (v :: vs)
inductive RepFs (r : RP) (m : List Addr) (H : Hp) : List (Str × G) → List (Str × V) → Prop
  | nil : RepFs r m H [] []
  | cons {f : Str} {g : G} {v : V} {gs : List (Str × G)} {vs : List (Str × V)} : RepV r m H g v → RepFs r m H gs vs → RepFs r m H ((f, g) :: gs) ((f, v) :: vs)
inductive RepX (r : RP) (m : List Addr) (H : Hp) : List (Str × G) → Option Addr → Prop
  | none : RepX r m H [] none
  | some {d : Addr} {fs : List (Str × G)} {vs : List (Str × V)} : Out r m d → H d = some (.xd vs) → RepFs r m H fs vs → RepX r m H fs (some d)
inductive RepCs (r : RP) (m : List Addr) (H : Hp) : List G → List Addr → Prop
  | nil : RepCs r m H [] []
  | cons {g : G} {v : V} {u : Value} {c : Addr} {o : Obj} {gs : List G} {cs : List Addr} : Out r m c → H c = some (fixO c o) → o.data = .cell (some u) → RelV v u → RepV r m H g v → RepCs r m H gs cs → RepCs r m H (g :: gs) (c :: cs)
end
/-- .. but for what is hidden -/
structure ExtB (hid : List Addr) (m : List Addr) (H : Hp) (m' : List Addr) (H' : Hp) : Prop where
  pre : ∃ r, m' = m ++ r ∧ ∀ a ∈ r, H a = none
  keep : ∀ a o, a ∉ m → a ∉ hid → (∀ ps, o ≠ .tbl ps) → H a = some o → H' a = some o
  grow : ∀ a, H' a = none → H a = none
theorem ExtB.get {hid m m' : List Addr} {H H' : Hp} (e : ExtB hid m H m' H') {n : Nat} {a : Addr} (h : m[n]? = some a) : m'[n]? = some a := by
  obtain ⟨r, e1, _⟩ := e.pre
  rw [e1, List.getElem?_append_left (List.getElem?_eq_some_iff.mp h).1]
  exact h
theorem ExtB.out {r : RP} {hid m m' : List Addr} {H H' : Hp} (e : ExtB hid m H m' H') {a : Addr} {o : HO} (h : H a = some o) (n : Out r m a) : Out r m' a := by
  refine ⟨fun q => ?_, n.2⟩
  obtain ⟨r, e1, n1⟩ := e.pre
  rw [e1] at q
  rcases List.mem_append.mp q with q | q
  · exact n.1 q
  · rw [n1 a q] at h; cases h
/-- what stands later: the store's addresses grow by new ones; what is not the store's stays (but for code tables) -/
structure Ext (m : List Addr) (H : Hp) (m' : List Addr) (H' : Hp) : Prop where
  pre : ∃ r, m' = m ++ r ∧ ∀ a ∈ r, H a = none
  keep : ∀ a o, a ∉ m → (∀ ps, o ≠ .tbl ps) → H a = some o → H' a = some o
  grow : ∀ a, H' a = none → H a = none
theorem Ext.refl (m : List Addr) (H : Hp) : Ext m H m H := ⟨⟨[], by simp, by simp⟩, fun _ _ _ _ h => h, fun _ h => h⟩
theorem Ext.trans {m m1 m2 : List Addr} {H H1 H2 : Hp} (a : Ext m H m1 H1) (b : Ext m1 H1 m2 H2) : Ext m H m2 H2 := by
  obtain ⟨r1, e1, n1⟩ := a.pre
  obtain ⟨r2, e2, n2⟩ := b.pre
  refine ⟨⟨r1 ++ r2, by rw [e2, e1, List.append_assoc], fun x hx => ?_⟩, fun x o hx hn h => ?_, fun x h => a.grow x (b.grow x h)⟩
  · rcases List.mem_append.mp hx with q | q
    · exact n1 x q
    · exact a.grow x (n2 x q)
  · refine b.keep x o ?_ hn (a.keep x o hx hn h)
    rw [e1]
    intro q
    rcases List.mem_append.mp q with q | q
    · exact hx q
    · rw [n1 x q] at h; cases h
theorem Ext.get {m m' : List Addr} {H H' : Hp} (e : Ext m H m' H') {n : Nat} {a : Addr} (h : m[n]? = some a) : m'[n]? = some a := by
  obtain ⟨r, e1, _⟩ := e.pre
  rw [e1, List.getElem?_append_left (List.getElem?_eq_some_iff.mp h).1]
  exact h
theorem Ext.notIn {m m' : List Addr} {H H' : Hp} (e : Ext m H m' H') {a : Addr} {o : HO} (h : H a = some o) (n : a ∉ m) : a ∉ m' := by
  obtain ⟨r, e1, n1⟩ := e.pre
  rw [e1]
  intro q
  rcases List.mem_append.mp q with q | q
  · exact n q
  · rw [n1 a q] at h; cases h
theorem Ext.out {r : RP} {m m' : List Addr} {H H' : Hp} (e : Ext m H m' H') {a : Addr} {o : HO} (h : H a = some o) (n : Out r m a) : Out r m' a := ⟨e.notIn h n.1, n.2⟩
theorem Ext.toB {hid m m' : List Addr} {H H' : Hp} (e : Ext m H m' H') : ExtB hid m H m' H' := ⟨e.pre, fun a o n _ => e.keep a o n, e.grow⟩
theorem Ext.transB {hid m m1 m2 : List Addr} {H H1 H2 : Hp} (a : Ext m H m1 H1) (b : ExtB hid m1 H1 m2 H2) : ExtB hid m H m2 H2 := by
  obtain ⟨r1, e1, n1⟩ := a.pre
  obtain ⟨r2, e2, n2⟩ := b.pre
  refine ⟨⟨r1 ++ r2, by rw [e2, e1, List.append_assoc], fun x hx => ?_⟩, fun x o hx hh hn h => ?_, fun x h => a.grow x (b.grow x h)⟩
  · rcases List.mem_append.mp hx with q | q
    · exact n1 x q
    · exact a.grow x (n2 x q)
  · refine b.keep x o ?_ hh hn (a.keep x o hx hn h)
    rw [e1]
    intro q
    rcases List.mem_append.mp q with q | q
    · exact hx q
    · rw [n1 x q] at h; cases h
theorem ExtB.transB {hid m m1 m2 : List Addr} {H H1 H2 : Hp} (a : ExtB hid m H m1 H1) (b : ExtB hid m1 H1 m2 H2) : ExtB hid m H m2 H2 := by
  obtain ⟨r1, e1, n1⟩ := a.pre
  obtain ⟨r2, e2, n2⟩ := b.pre
  refine ⟨⟨r1 ++ r2, by rw [e2, e1, List.append_assoc], fun x hx => ?_⟩, fun x o hx hh hn h => ?_, fun x h => a.grow x (b.grow x h)⟩
  · rcases List.mem_append.mp hx with q | q
    · exact n1 x q
    · exact a.grow x (n2 x q)
  · refine b.keep x o ?_ hh hn (a.keep x o hx hh hn h)
    rw [e1]
    intro q
    rcases List.mem_append.mp q with q | q
    · exact hx q
    · rw [n1 x q] at h; cases h
theorem ExtB.behind {hid m m' : List Addr} {H H' : Hp} {D : Addr} {o : HO} (e : ExtB hid m H m' H') (hD : D ∈ hid) (hn : ∃ u, H D = some u) : ExtB hid m H m' (upd H' D o) := by
  refine ⟨e.pre, fun a v h1 h2 h3 h4 => ?_, fun a h => ?_⟩
  · rw [upd_ne (fun z => h2 (by rw [z]; exact hD))]; exact e.keep a v h1 h2 h3 h4
  · by_cases c : a = D
    · subst c
      rw [upd_same] at h; cases h
    · rw [upd_ne c] at h; exact e.grow a h
theorem fix_ne {a : Addr} {o : Obj} (ps : Array Value) : fixO a o ≠ .tbl ps := fun z => by unfold fixO at z; cases z
section
variable {r : RP} {m m' : List Addr} {H H' : Hp}
mutual
theorem RepV.ext (e : Ext m H m' H') : ∀ {g : G} {v : V}, RepV r m H g v → RepV r m' H' g v
  | _, _, .non => .non
  | _, _, .bl b => .bl b
  | _, _, .int i => .int i
  | _, _, .str s => .str s
  | _, _, .ty n => .ty n
  | _, _, .tup h z t => .tup (h.imp (fun q => ⟨e.out q.2 q.1, e.keep _ _ q.1.1 (fun _ z => by cases z) q.2⟩) id) z (RepVs.ext e t)
  | _, _, .fz h z t => .fz (h.imp (fun ⟨q1, o, q2⟩ => ⟨e.out q2 q1, o, e.keep _ _ q1.1 (fun _ z => by cases z) q2⟩) id) z (RepVs.ext e t)
  | _, _, .tl n h z t => .tl (e.out h n) (e.keep _ _ n.1 (fun _ z => by cases z) h) z (RepVs.ext e t)
  | _, _, .ref h => .ref (e.get h)
  | _, _, .gl h => .gl h
  | _, _, .hx a b c x => .hx a b c (RepX.ext e x)
  | _, _, .clo n1 h1 k n2 h2 t => .clo (e.out h1 n1) (e.keep _ _ n1.1 fix_ne h1) k (e.out h2 n2) (e.keep _ _ n2.1 LamX.codeO_ne h2) (RepCs.ext e t)
theorem RepVs.ext (e : Ext m H m' H') : ∀ {g : List G} {v : List V}, RepVs r m H g v → RepVs r m' H' g v
  | _, _, .nil => .nil
  | _, _, .cons a b => .cons (RepV.ext e a) (RepVs.ext e b)
theorem RepFs.ext (e : Ext m H m' H') : ∀ {g : List (Str × G)} {v : List (Str × V)}, RepFs r m H g v → RepFs r m' H' g v
  | _, _, .nil => .nil
  | _, _, .cons a b => .cons (RepV.ext e a) (RepFs.ext e b)
theorem RepX.ext (e : Ext m H m' H') : ∀ {g : List (Str × G)} {d : Option Addr}, RepX r m H g d → RepX r m' H' g d
  | _, _, .none => .none
  | _, _, .some n h t => .some (e.out h n) (e.keep _ _ n.1 (fun _ z => by cases z) h) (RepFs.ext e t)
theorem RepCs.ext (e : Ext m H m' H') : ∀ {g : List G} {d : List Addr}, RepCs r m H g d → RepCs r m' H' g d
  | _, _, .nil => .nil
  | _, _, .cons n h d u a b => .cons (e.out h n) (e.keep _ _ n.1 fix_ne h) d u (RepV.ext e a) (RepCs.ext e b)
end
variable {hid : List Addr}
mutual
theorem RepV.extB (e : ExtB hid m H m' H') (hs : ∀ a ∈ hid, a ∈ r.hid) : ∀ {g : G} {v : V}, RepV r m H g v → RepV r m' H' g v
  | _, _, .non => .non
  | _, _, .bl b => .bl b
  | _, _, .int i => .int i
  | _, _, .str s => .str s
  | _, _, .ty n => .ty n
  | _, _, .tup h z t => .tup (h.imp (fun q => ⟨e.out q.2 q.1, e.keep _ _ q.1.1 (fun z => q.1.2 (hs _ z)) (fun _ z => by cases z) q.2⟩) id) z (RepVs.extB e hs t)
  | _, _, .fz h z t => .fz (h.imp (fun ⟨q1, o, q2⟩ => ⟨e.out q2 q1, o, e.keep _ _ q1.1 (fun z => q1.2 (hs _ z)) (fun _ z => by cases z) q2⟩) id) z (RepVs.extB e hs t)
  | _, _, .tl n h z t => .tl (e.out h n) (e.keep _ _ n.1 (fun z => n.2 (hs _ z)) (fun _ z => by cases z) h) z (RepVs.extB e hs t)
  | _, _, .ref h => .ref (e.get h)
  | _, _, .gl h => .gl h
  | _, _, .hx a b c x => .hx a b c (RepX.extB e hs x)
  | _, _, .clo n1 h1 k n2 h2 t => .clo (e.out h1 n1) (e.keep _ _ n1.1 (fun z => n1.2 (hs _ z)) fix_ne h1) k (e.out h2 n2) (e.keep _ _ n2.1 (fun z => n2.2 (hs _ z)) LamX.codeO_ne h2) (RepCs.extB e hs t)
theorem RepVs.extB (e : ExtB hid m H m' H') (hs : ∀ a ∈ hid, a ∈ r.hid) : ∀ {g : List G} {v : List V}, RepVs r m H g v → RepVs r m' H' g v
  | _, _, .nil => .nil
  | _, _, .cons a b => .cons (RepV.extB e hs a) (RepVs.extB e hs b)
theorem RepFs.extB (e : ExtB hid m H m' H') (hs : ∀ a ∈ hid, a ∈ r.hid) : ∀ {g : List (Str × G)} {v : List (Str × V)}, RepFs r m H g v → RepFs r m' H' g v
  | _, _, .nil => .nil
  | _, _, .cons a b => .cons (RepV.extB e hs a) (RepFs.extB e hs b)
theorem RepX.extB (e : ExtB hid m H m' H') (hs : ∀ a ∈ hid, a ∈ r.hid) : ∀ {g : List (Str × G)} {d : Option Addr}, RepX r m H g d → RepX r m' H' g d
  | _, _, .none => .none
  | _, _, .some n h t => .some (e.out h n) (e.keep _ _ n.1 (fun z => n.2 (hs _ z)) (fun _ z => by cases z) h) (RepFs.extB e hs t)
theorem RepCs.extB (e : ExtB hid m H m' H') (hs : ∀ a ∈ hid, a ∈ r.hid) : ∀ {g : List G} {d : List Addr}, RepCs r m H g d → RepCs r m' H' g d
  | _, _, .nil => .nil
  | _, _, .cons n h d u a b => .cons (e.out h n) (e.keep _ _ n.1 (fun z => n.2 (hs _ z)) fix_ne h) d u (RepV.extB e hs a) (RepCs.extB e hs b)
end
theorem RepVs.length : ∀ {gs : List G} {vs : List V}, RepVs r m H gs vs → gs.length = vs.length
  | _, _, .nil => rfl
  | _, _, .cons _ t => by simp [RepVs.length t]
theorem RepVs.get : ∀ {gs : List G} {vs : List V} {i : Nat} {g : G}, RepVs r m H gs vs → gs[i]? = some g → ∃ v, vs[i]? = some v ∧ RepV r m H g v
  | _, _, _, _, .nil, e => by simp at e
  | _, _, 0, _, .cons a _, e => by simp at e; subst e; exact ⟨_, rfl, a⟩
  | _, _, i + 1, g, .cons _ t, e => by
    obtain ⟨v, h1, h2⟩ := RepVs.get (i := i) (g := g) t (by simpa using e)
    exact ⟨v, by simpa using h1, h2⟩
theorem RepVs.getV : ∀ {gs : List G} {vs : List V} {i : Nat} {v : V}, RepVs r m H gs vs → vs[i]? = some v → ∃ g, gs[i]? = some g ∧ RepV r m H g v
  | _, _, _, _, .nil, e => by simp at e
  | _, _, 0, _, .cons a _, e => by simp at e; subst e; exact ⟨_, rfl, a⟩
  | _, _, i + 1, g, .cons _ t, e => by
    obtain ⟨v, h1, h2⟩ := RepVs.getV (i := i) (v := g) t (by simpa using e)
    exact ⟨v, by simpa using h1, h2⟩
theorem RepVs.append : ∀ {gs gs' : List G} {vs vs' : List V}, RepVs r m H gs vs → RepVs r m H gs' vs' → RepVs r m H (gs ++ gs') (vs ++ vs')
  | _, _, _, _, .nil, t => t
  | _, _, _, _, .cons a b, t => .cons a (RepVs.append b t)
theorem RepVs.take : ∀ {gs : List G} {vs : List V} (n : Nat), RepVs r m H gs vs → RepVs r m H (gs.take n) (vs.take n)
  | _, _, 0, _ => .nil
  | _, _, _ + 1, .nil => .nil
  | _, _, n + 1, .cons a b => .cons a (RepVs.take n b)
theorem RepVs.drop : ∀ {gs : List G} {vs : List V} (n : Nat), RepVs r m H gs vs → RepVs r m H (gs.drop n) (vs.drop n)
  | _, _, 0, t => t
  | _, _, _ + 1, .nil => .nil
  | _, _, n + 1, .cons a b => RepVs.drop n b
theorem RepVs.set {g : G} {v : V} (a : RepV r m H g v) : ∀ {gs : List G} {vs : List V} (n : Nat), RepVs r m H gs vs → RepVs r m H (gs.set n g) (vs.set n v)
  | _, _, _, .nil => .nil
  | _, _, 0, .cons _ t => .cons a t
  | _, _, n + 1, .cons q t => .cons q (RepVs.set a n t)
theorem RepVs.reverse {gs : List G} {vs : List V} (t : RepVs r m H gs vs) : RepVs r m H gs.reverse vs.reverse := by
  induction gs generalizing vs with
  | nil => cases t; exact .nil
  | cons g gs ih =>
    cases t with
    | cons a b =>
      rw [List.reverse_cons, List.reverse_cons]
      exact (ih b).append (.cons a .nil)
theorem RepFs.lookup : ∀ {fs : List (Str × G)} {vs : List (Str × V)} {f : Str} {g : G}, RepFs r m H fs vs → fs.lookup f = some g → ∃ v, vs.lookup f = some v ∧ RepV r m H g v
  | _, _, _, _, .nil, e => by simp at e
  | _, _, f, g, .cons (f := f') a t, e => by
    rw [List.lookup_cons] at e
    rw [List.lookup_cons]
    cases q : (f == f') with
    | true => rw [q] at e; cases e; exact ⟨_, rfl, a⟩
    | false => rw [q] at e; exact RepFs.lookup t e
theorem RepFs.lookupN : ∀ {fs : List (Str × G)} {vs : List (Str × V)} {f : Str}, RepFs r m H fs vs → fs.lookup f = none → vs.lookup f = none
  | _, _, _, .nil, e => rfl
  | _, _, f, .cons (f := f') a t, e => by
    rw [List.lookup_cons] at e
    rw [List.lookup_cons]
    cases q : (f == f') with
    | true => rw [q] at e; cases e
    | false => rw [q] at e; exact RepFs.lookupN t e
theorem RepFs.length : ∀ {fs : List (Str × G)} {vs : List (Str × V)}, RepFs r m H fs vs → fs.length = vs.length
  | _, _, .nil => rfl
  | _, _, .cons _ t => by simp [RepFs.length t]
def putG (f : Str) (g : G) : List (Str × G) → List (Str × G)
  | [] => [(f, g)]
  | (k, x) :: r => if k = f then (k, g) :: r else (k, x) :: putG f g r
end
def gK : L2.Key → G
  | .inl i => .int i
  | .inr s => .str s
inductive RepKs (r : RP) (m : List Addr) (H : Hp) : List (G × G) → List (L2.Key × V) → Prop
  | nil : RepKs r m H [] []
  | cons {k : L2.Key} {g : G} {v : V} {gs : List (G × G)} {vs : List (L2.Key × V)} : RepV r m H g v → RepKs r m H gs vs → RepKs r m H ((gK k, g) :: gs) ((k, v) :: vs)
theorem RepKs.imp {r r' : RP} {m m' : List Addr} {H H' : Hp} (i : ∀ {g : G} {v : V}, RepV r m H g v → RepV r' m' H' g v) : ∀ {gs : List (G × G)} {vs : List (L2.Key × V)}, RepKs r m H gs vs → RepKs r' m' H' gs vs
  | _, _, .nil => .nil
  | _, _, .cons a b => .cons (i a) (RepKs.imp i b)
/-- an object of the store at its address -/
def RepO (r : RP) (m : List Addr) (H : Hp) (a : Addr) : GO → Prop
  | .lst true l => ∃ vs, H a = some (.lst vs) ∧ vs.length ≤ sizeLine ∧ RepVs r m H l vs
  | .lst false l => ∃ vs, Rd H a (.lst vs) ∧ vs.length ≤ sizeLine ∧ RepVs r m H l vs
  | .ins c fs => ∃ C dx vs, r.mg c = some (.ref C) ∧ H a = some (.ins C dx vs) ∧ RepFs r m H fs vs
  | .dic z l => ∃ kvs : List (L2.Key × V), (if z = true then ∃ o, H a = some (.frz o (.dK kvs)) else H a = some (.dK kvs)) ∧ RepKs r m H l kvs
structure Rep (r : RP) (T : List (Addr × Str)) (m : List Addr) (S : Sto) (H : Hp) : Prop where
  len : m.length = S.length
  nd : m.Nodup
  obj : ∀ (n : Nat) (a : Addr) (o : GO), m[n]? = some a → S[n]? = some o → RepO r m H a o
  tabs : LamX.Tabs T H
  hid : ∀ a ∈ r.hid, a ∉ m ∧ ∃ xs, H a = some (.lst xs)
/-- the frame's slots -/
structure RepL (r : RP) (m : List Addr) (H : Hp) (l : Loc) (s : L2.St) : Prop where
  len : l.length = s.length
  get : ∀ (i : Nat) (g : G), l[i]? = some (some g) → ∃ v, s[i]? = some (some v) ∧ RepV r m H g v
theorem RepL.ext {r : RP} {m m' : List Addr} {H H' : Hp} {l : Loc} {s : L2.St} (e : Ext m H m' H') (h : RepL r m H l s) : RepL r m' H' l s :=
  ⟨h.len, fun i g q => let ⟨v, a, b⟩ := h.get i g q; ⟨v, a, b.ext e⟩⟩
theorem RepL.set {r : RP} {m : List Addr} {H : Hp} {l : Loc} {s : L2.St} {g : G} {v : V} (h : RepL r m H l s) (i : Nat) (a : RepV r m H g v) : RepL r m H (l.set i (some g)) (s.set i (some v)) := by
  refine ⟨by simp [h.len], fun j g' q => ?_⟩
  by_cases e : i = j
  · subst e
    have hi : i < l.length := by
      by_cases hi : i < l.length
      · exact hi
      · rw [List.getElem?_eq_none (by simp; omega)] at q; cases q
    rw [List.getElem?_set_self hi] at q
    cases q
    exact ⟨v, by rw [List.getElem?_set_self (by rw [← h.len]; exact hi)], a⟩
  · rw [List.getElem?_set_ne e] at q
    obtain ⟨v', a', b'⟩ := h.get j g' q
    exact ⟨v', by rw [List.getElem?_set_ne e]; exact a', b'⟩
theorem RepL.wipe {r : RP} {m : List Addr} {H : Hp} {l : Loc} {s : L2.St} (h : RepL r m H l s) : ∀ vs : List Nat, RepL r m H (wipeL l vs) (L2.wipe s vs)
  | [] => h
  | v :: vs => by
    have ih := RepL.wipe h vs
    refine ⟨by simp [wipeL, L2.wipe, ih.len], fun j g q => ?_⟩
    unfold wipeL at q
    unfold L2.wipe
    by_cases e : v = j
    · subst e
      by_cases hv : v < (wipeL l vs).length
      · rw [List.getElem?_set_self hv] at q; cases q
      · rw [List.getElem?_eq_none (by simpa using hv)] at q; cases q
    · rw [List.getElem?_set_ne e] at q
      obtain ⟨v', a', b'⟩ := ih.get j g q
      exact ⟨v', by rw [List.getElem?_set_ne e]; exact a', b'⟩
section
variable {r : RP} {T : List (Addr × Str)} {m m' : List Addr} {S : Sto} {H H' : Hp} {a p : Addr} {o : GO}
theorem RepO.tracked (h : RepO r m H a o) : ∃ u, H a = some u := by
  cases o with
  | lst w l =>
    cases w with
    | true => obtain ⟨vs, h, _⟩ := h; exact ⟨_, h⟩
    | false =>
      obtain ⟨vs, h, _⟩ := h
      rcases h with h | ⟨_, h⟩
      · exact ⟨_, h⟩
      · exact ⟨_, h⟩
  | ins c fs => obtain ⟨_, _, _, _, h, _⟩ := h; exact ⟨_, h⟩
  | dic z l =>
    obtain ⟨kvs, h, _⟩ := h
    cases z with
    | true => obtain ⟨o, h⟩ := h; exact ⟨_, h⟩
    | false => exact ⟨_, h⟩
theorem RepO.ext (e : Ext m H m' H') (k : H' a = H a) (h : RepO r m H a o) : RepO r m' H' a o := by
  cases o with
  | lst w l =>
    cases w with
    | true => obtain ⟨vs, h1, z, t⟩ := h; exact ⟨vs, k.trans h1, z, t.ext e⟩
    | false =>
      obtain ⟨vs, h1, z, t⟩ := h
      refine ⟨vs, ?_, z, t.ext e⟩
      rcases h1 with h1 | ⟨ob, h1⟩
      · exact .inl (k.trans h1)
      · exact .inr ⟨ob, k.trans h1⟩
  | ins c fs => obtain ⟨C, dx, vs, g, h1, t⟩ := h; exact ⟨C, dx, vs, g, k.trans h1, t.ext e⟩
  | dic z l =>
    obtain ⟨kvs, h, t⟩ := h
    refine ⟨kvs, ?_, t.imp (RepV.ext e)⟩
    cases z with
    | true => obtain ⟨o, h⟩ := h; exact ⟨o, k.trans h⟩
    | false => exact k.trans h
theorem Rep.at (hR : Rep r T m S H) {n : Nat} (h : m[n]? = some a) : ∃ o, S[n]? = some o ∧ RepO r m H a o := by
  have hn : n < S.length := by rw [← hR.len]; exact (List.getElem?_eq_some_iff.mp h).1
  exact ⟨S[n], by simp [hn], hR.obj n a _ h (by simp [hn])⟩
theorem Rep.mem (hR : Rep r T m S H) (h : a ∈ m) : ∃ u, H a = some u := by
  obtain ⟨n, hn⟩ := List.getElem?_of_mem h
  obtain ⟨o, _, q⟩ := hR.at hn
  exact q.tracked
theorem Ext.new (hp : H p = none) (o : HO) : Ext m H m (upd H p o) := by
  refine ⟨⟨[], by simp, by simp⟩, fun b u _ _ h => ?_, fun b h => ?_⟩
  · rw [upd_ne (ne_of_none h hp)]; exact h
  · by_cases e : b = p
    · rw [e]; exact hp
    · rw [upd_ne e] at h; exact h
/-- a new object that is not the store's -/
theorem Rep.fresh (hR : Rep r T m S H) (hp : H p = none) (o : HO) : Rep r T m S (upd H p o) := by
  refine ⟨hR.len, hR.nd, fun n b ob h1 h2 => ?_, hR.tabs.ext fun b u h => ?_, fun b hb => ?_⟩
  · have q := hR.obj n b ob h1 h2
    obtain ⟨u, hu⟩ := q.tracked
    exact q.ext (Ext.new hp o) (upd_ne (ne_of_none hu hp))
  · rw [upd_ne (ne_of_none h hp)]; exact h
  · obtain ⟨x1, xs, x2⟩ := hR.hid b hb
    exact ⟨x1, xs, by rw [upd_ne (ne_of_none x2 hp)]; exact x2⟩
theorem tabs_upd {u o : HO} (t : LamX.Tabs T H) (h : H a = some u) (n1 : ∀ ps, u ≠ .tbl ps) (n2 : ∀ c q, u ≠ LamX.CodeO c q) : LamX.Tabs T (upd H a o) := fun x hx => by
  obtain ⟨ps, e1, e2, e3⟩ := t x hx
  refine ⟨ps, ?_, e2, fun pos cv hc => ?_⟩
  · rw [upd_ne (fun z => by rw [z, h] at e1; exact n1 ps (Option.some.inj e1))]; exact e1
  · obtain ⟨c, f1, f2⟩ := e3 pos cv hc
    refine ⟨c, f1, ?_⟩
    rw [upd_ne (fun z => by subst z; rw [h] at f2; exact n2 _ _ (Option.some.inj f2))]; exact f2
theorem Ext.write {u o : HO} (hm : a ∈ m) (h : H a = some u) : Ext m H m (upd H a o) := by
  refine ⟨⟨[], by simp, by simp⟩, fun b v hb _ q => ?_, fun b q => ?_⟩
  · rw [upd_ne (fun z => hb (by rw [z]; exact hm))]; exact q
  · by_cases e : b = a
    · rw [e, upd_same] at q; cases q
    · rw [upd_ne e] at q; exact q
/-- an object of the store is changed -/
theorem Rep.write {u o : HO} {n : Nat} {go : GO} (hR : Rep r T m S H) (hn : m[n]? = some a) (h : H a = some u) (n1 : ∀ ps, u ≠ .tbl ps) (n2 : ∀ c q, u ≠ LamX.CodeO c q)
    (new : RepO r m (upd H a o) a go) : Rep r T m (S.set n go) (upd H a o) := by
  have hm : a ∈ m := List.mem_of_getElem? hn
  refine ⟨by rw [List.length_set]; exact hR.len, hR.nd, fun i b ob h1 h2 => ?_, tabs_upd hR.tabs h n1 n2, fun b hb => by
    obtain ⟨x1, xs, x2⟩ := hR.hid b hb
    exact ⟨x1, xs, by rw [upd_ne (fun z => x1 (by rw [z]; exact hm))]; exact x2⟩⟩
  by_cases e : i = n
  · subst e
    rw [hn] at h1; cases h1
    have hi : i < S.length := by rw [← hR.len]; exact (List.getElem?_eq_some_iff.mp hn).1
    rw [List.getElem?_set_self hi] at h2; cases h2
    exact new
  · rw [List.getElem?_set_ne (Ne.symm e)] at h2
    have hb : b ≠ a := fun z => e (by
      subst z
      obtain ⟨h3, e3⟩ := List.getElem?_eq_some_iff.mp h1
      obtain ⟨h4, e4⟩ := List.getElem?_eq_some_iff.mp hn
      exact (List.getElem_inj hR.nd).mp (e3.trans e4.symm))
    exact (hR.obj i b ob h1 h2).ext (Ext.write hm h) (upd_ne hb)
theorem Ext.alloc (hp : H p = none) (o : HO) : Ext m H (m ++ [p]) (upd H p o) := by
  refine ⟨⟨[p], rfl, by simpa using hp⟩, fun b u _ _ h => ?_, fun b h => ?_⟩
  · rw [upd_ne (ne_of_none h hp)]; exact h
  · by_cases e : b = p
    · rw [e]; exact hp
    · rw [upd_ne e] at h; exact h
theorem Rep.notIn (hR : Rep r T m S H) (hp : H p = none) : Out r m p := ⟨fun z => (by obtain ⟨u, hu⟩ := hR.mem z; rw [hp] at hu; cases hu), fun z => (by obtain ⟨_, xs, hu⟩ := hR.hid p z; rw [hp] at hu; cases hu)⟩
theorem Rep.newTup {l : List G} {vs : List V} (hR : Rep r T m S H) (hp : H p = none) (z : vs.length ≤ sizeLine) (t : RepVs r m H l vs) : RepV r m (upd H p (.tup vs)) (.tup l) (.ref p) :=
  .tup (.inl ⟨hR.notIn hp, upd_same⟩) z (t.ext (Ext.new hp _))
theorem Rep.newTl {l : List G} {vs : List V} (hR : Rep r T m S H) (hp : H p = none) (z : vs.length ≤ sizeLine) (t : RepVs r m H l vs) : RepV r m (upd H p (.lst vs)) (.tl l) (.ref p) :=
  .tl (hR.notIn hp) upd_same z (t.ext (Ext.new hp _))
/-- a new object of the store -/
theorem Rep.alloc {ho : HO} {go : GO} (hR : Rep r T m S H) (hp : H p = none) (new : RepO r (m ++ [p]) (upd H p ho) p go) : Rep r T (m ++ [p]) (S ++ [go]) (upd H p ho) := by
  have npm : p ∉ m := (hR.notIn hp).1
  refine ⟨by simp [hR.len], ?_, fun i b ob h1 h2 => ?_, hR.tabs.ext fun b u h => ?_, fun b hb => by
    obtain ⟨x1, xs, x2⟩ := hR.hid b hb
    have nb := ne_of_none x2 hp
    exact ⟨by simp [x1, nb], xs, by rw [upd_ne nb]; exact x2⟩⟩
  · rw [List.nodup_append]
    exact ⟨hR.nd, by simp, fun x hx y hy => by simp at hy; subst hy; exact fun z => npm (by rw [← z]; exact hx)⟩
  · by_cases hi : i < m.length
    · rw [List.getElem?_append_left hi] at h1
      rw [List.getElem?_append_left (by rw [← hR.len]; exact hi)] at h2
      have q := hR.obj i b ob h1 h2
      obtain ⟨u, hu⟩ := q.tracked
      exact q.ext (Ext.alloc hp ho) (upd_ne (ne_of_none hu hp))
    · rw [List.getElem?_append_right (Nat.le_of_not_lt hi)] at h1
      rw [List.getElem?_append_right (by rw [← hR.len]; exact Nat.le_of_not_lt hi)] at h2
      have e0 : i - m.length = 0 := by
        have := (List.getElem?_eq_some_iff.mp h1).1
        simp at this; omega
      rw [e0] at h1
      rw [← hR.len, e0] at h2
      simp at h1 h2
      subst h1 h2
      exact new
  · rw [upd_ne (ne_of_none h hp)]; exact h
end
/-! ### a list that is being made is hidden -/
def RP.hides (r : RP) (hs : List Addr) : RP := { r with hid := hs ++ r.hid }
abbrev RP.hide (r : RP) (D : Addr) : RP := r.hides [D]
section
variable {r : RP} {m : List Addr} {H : Hp} {D : Addr} {o : HO} {hs : List Addr}
theorem out_hide {p : Addr} {u : HO} (hD : ∀ a ∈ hs, H a = none) (h : H p = some u) (n : Out r m p) : Out (r.hides hs) m p :=
  ⟨n.1, fun z => (List.mem_append.mp z).elim (fun z => by rw [hD p z] at h; cases h) n.2⟩
mutual
theorem RepV.hides (hD : ∀ a ∈ hs, H a = none) : ∀ {g : G} {v : V}, RepV r m H g v → RepV (r.hides hs) m H g v
  | _, _, .non => .non
  | _, _, .bl b => .bl b
  | _, _, .int i => .int i
  | _, _, .str s => .str s
  | _, _, .ty n => .ty n
  | _, _, .tup h z t => .tup (h.imp (fun q => ⟨out_hide hD q.2 q.1, q.2⟩) id) z (RepVs.hides hD t)
  | _, _, .fz h z t => .fz (h.imp (fun ⟨q1, o, q2⟩ => ⟨out_hide hD q2 q1, o, q2⟩) id) z (RepVs.hides hD t)
  | _, _, .tl n h z t => .tl (out_hide hD h n) h z (RepVs.hides hD t)
  | _, _, .ref h => .ref h
  | _, _, .gl h => .gl h
  | _, _, .hx a b c x => .hx a b c (RepX.hides hD x)
  | _, _, .clo n1 h1 k n2 h2 t => .clo (out_hide hD h1 n1) h1 k (out_hide hD h2 n2) h2 (RepCs.hides hD t)
theorem RepVs.hides (hD : ∀ a ∈ hs, H a = none) : ∀ {g : List G} {v : List V}, RepVs r m H g v → RepVs (r.hides hs) m H g v
  | _, _, .nil => .nil
  | _, _, .cons a b => .cons (RepV.hides hD a) (RepVs.hides hD b)
theorem RepFs.hides (hD : ∀ a ∈ hs, H a = none) : ∀ {g : List (Str × G)} {v : List (Str × V)}, RepFs r m H g v → RepFs (r.hides hs) m H g v
  | _, _, .nil => .nil
  | _, _, .cons a b => .cons (RepV.hides hD a) (RepFs.hides hD b)
theorem RepX.hides (hD : ∀ a ∈ hs, H a = none) : ∀ {g : List (Str × G)} {d : Option Addr}, RepX r m H g d → RepX (r.hides hs) m H g d
  | _, _, .none => .none
  | _, _, .some n h t => .some (out_hide hD h n) h (RepFs.hides hD t)
theorem RepCs.hides (hD : ∀ a ∈ hs, H a = none) : ∀ {g : List G} {d : List Addr}, RepCs r m H g d → RepCs (r.hides hs) m H g d
  | _, _, .nil => .nil
  | _, _, .cons n h d u a b => .cons (out_hide hD h n) h d u (RepV.hides hD a) (RepCs.hides hD b)
end
theorem one_none (hD : H D = none) : ∀ a ∈ [D], H a = none := fun a h => by simp at h; rw [h]; exact hD
theorem RepV.hide (hD : H D = none) {g : G} {v : V} (h : RepV r m H g v) : RepV (r.hide D) m (upd H D o) g v := (h.hides (one_none hD)).ext (Ext.new hD o)
theorem RepVs.hide (hD : H D = none) {g : List G} {v : List V} (h : RepVs r m H g v) : RepVs (r.hide D) m (upd H D o) g v := (h.hides (one_none hD)).ext (Ext.new hD o)
theorem RepFs.hide (hD : H D = none) {g : List (Str × G)} {v : List (Str × V)} (h : RepFs r m H g v) : RepFs (r.hide D) m (upd H D o) g v := (h.hides (one_none hD)).ext (Ext.new hD o)
theorem out_un {p : Addr} (n : Out (r.hide D) m p) : Out r m p := ⟨n.1, fun z => n.2 (List.mem_append_right _ z)⟩
mutual
theorem RepV.unhide : ∀ {g : G} {v : V}, RepV (r.hide D) m H g v → RepV r m H g v
  | _, _, .non => .non
  | _, _, .bl b => .bl b
  | _, _, .int i => .int i
  | _, _, .str s => .str s
  | _, _, .ty n => .ty n
  | _, _, .tup h z t => .tup (h.imp (fun q => ⟨out_un q.1, q.2⟩) id) z (RepVs.unhide t)
  | _, _, .fz h z t => .fz (h.imp (fun ⟨q1, o, q2⟩ => ⟨out_un q1, o, q2⟩) id) z (RepVs.unhide t)
  | _, _, .tl n h z t => .tl (out_un n) h z (RepVs.unhide t)
  | _, _, .ref h => .ref h
  | _, _, .gl h => .gl h
  | _, _, .hx a b c x => .hx a b c (RepX.unhide x)
  | _, _, .clo n1 h1 k n2 h2 t => .clo (out_un n1) h1 k (out_un n2) h2 (RepCs.unhide t)
theorem RepVs.unhide : ∀ {g : List G} {v : List V}, RepVs (r.hide D) m H g v → RepVs r m H g v
  | _, _, .nil => .nil
  | _, _, .cons a b => .cons (RepV.unhide a) (RepVs.unhide b)
theorem RepFs.unhide : ∀ {g : List (Str × G)} {v : List (Str × V)}, RepFs (r.hide D) m H g v → RepFs r m H g v
  | _, _, .nil => .nil
  | _, _, .cons a b => .cons (RepV.unhide a) (RepFs.unhide b)
theorem RepX.unhide : ∀ {g : List (Str × G)} {d : Option Addr}, RepX (r.hide D) m H g d → RepX r m H g d
  | _, _, .none => .none
  | _, _, .some n h t => .some (out_un n) h (RepFs.unhide t)
theorem RepCs.unhide : ∀ {g : List G} {d : List Addr}, RepCs (r.hide D) m H g d → RepCs r m H g d
  | _, _, .nil => .nil
  | _, _, .cons n h d u a b => .cons (out_un n) h d u (RepV.unhide a) (RepCs.unhide b)
end
theorem out_ne (hD : D ∈ r.hid) {p : Addr} (n : Out r m p) : p ≠ D := fun z => n.2 (by rw [z]; exact hD)
mutual
/-- a hidden list is changed: no value sees it -/
theorem RepV.behind (hD : D ∈ r.hid) : ∀ {g : G} {v : V}, RepV r m H g v → RepV r m (upd H D o) g v
  | _, _, .non => .non
  | _, _, .bl b => .bl b
  | _, _, .int i => .int i
  | _, _, .str s => .str s
  | _, _, .ty n => .ty n
  | _, _, .tup h z t => .tup (h.imp (fun q => ⟨q.1, by rw [upd_ne (out_ne hD q.1)]; exact q.2⟩) id) z (RepVs.behind hD t)
  | _, _, .fz h z t => .fz (h.imp (fun ⟨q1, o, q2⟩ => ⟨q1, o, by rw [upd_ne (out_ne hD q1)]; exact q2⟩) id) z (RepVs.behind hD t)
  | _, _, .tl n h z t => .tl n (by rw [upd_ne (out_ne hD n)]; exact h) z (RepVs.behind hD t)
  | _, _, .ref h => .ref h
  | _, _, .gl h => .gl h
  | _, _, .hx a b c x => .hx a b c (RepX.behind hD x)
  | _, _, .clo n1 h1 k n2 h2 t => .clo n1 (by rw [upd_ne (out_ne hD n1)]; exact h1) k n2 (by rw [upd_ne (out_ne hD n2)]; exact h2) (RepCs.behind hD t)
theorem RepVs.behind (hD : D ∈ r.hid) : ∀ {g : List G} {v : List V}, RepVs r m H g v → RepVs r m (upd H D o) g v
  | _, _, .nil => .nil
  | _, _, .cons a b => .cons (RepV.behind hD a) (RepVs.behind hD b)
theorem RepFs.behind (hD : D ∈ r.hid) : ∀ {g : List (Str × G)} {v : List (Str × V)}, RepFs r m H g v → RepFs r m (upd H D o) g v
  | _, _, .nil => .nil
  | _, _, .cons a b => .cons (RepV.behind hD a) (RepFs.behind hD b)
theorem RepX.behind (hD : D ∈ r.hid) : ∀ {g : List (Str × G)} {d : Option Addr}, RepX r m H g d → RepX r m (upd H D o) g d
  | _, _, .none => .none
  | _, _, .some n h t => .some n (by rw [upd_ne (out_ne hD n)]; exact h) (RepFs.behind hD t)
theorem RepCs.behind (hD : D ∈ r.hid) : ∀ {g : List G} {d : List Addr}, RepCs r m H g d → RepCs r m (upd H D o) g d
  | _, _, .nil => .nil
  | _, _, .cons n h d u a b => .cons n (by rw [upd_ne (out_ne hD n)]; exact h) d u (RepV.behind hD a) (RepCs.behind hD b)
end
end
section
variable {r : RP} {T : List (Addr × Str)} {m m' : List Addr} {S : Sto} {H H' : Hp} {D : Addr} {l : Loc} {s : L2.St}
theorem RepL.hide {o : HO} (hD : H D = none) (h : RepL r m H l s) : RepL (r.hide D) m (upd H D o) l s := ⟨h.len, fun i g q => let ⟨v, a, b⟩ := h.get i g q; ⟨v, a, b.hide hD⟩⟩
theorem RepL.behind {o : HO} (hD : D ∈ r.hid) (h : RepL r m H l s) : RepL r m (upd H D o) l s := ⟨h.len, fun i g q => let ⟨v, a, b⟩ := h.get i g q; ⟨v, a, b.behind hD⟩⟩
theorem RepO.hide {a : Addr} {go : GO} {o : HO} (hD : H D = none) (h : RepO r m H a go) : RepO (r.hide D) m (upd H D o) a go := by
  obtain ⟨u, hu⟩ := h.tracked
  have ne := ne_of_none hu hD
  cases go with
  | lst w l =>
    cases w with
    | true => obtain ⟨vs, h1, z, t⟩ := h; exact ⟨vs, by rw [upd_ne ne]; exact h1, z, t.hide hD⟩
    | false =>
      obtain ⟨vs, h1, z, t⟩ := h
      exact ⟨vs, h1.imp (fun q => by rw [upd_ne ne]; exact q) (fun ⟨ob, q⟩ => ⟨ob, by rw [upd_ne ne]; exact q⟩), z, t.hide hD⟩
  | ins c fs => obtain ⟨C, dx, vs, g, h1, t⟩ := h; exact ⟨C, dx, vs, g, by rw [upd_ne ne]; exact h1, t.hide hD⟩
  | dic z l =>
    obtain ⟨kvs, h, t⟩ := h
    refine ⟨kvs, ?_, t.imp (RepV.hide hD)⟩
    cases z with
    | true => obtain ⟨o, h⟩ := h; exact ⟨o, by rw [upd_ne ne]; exact h⟩
    | false => exact (upd_ne ne).trans h
theorem RepO.unhide {a : Addr} {go : GO} (h : RepO (r.hide D) m H a go) : RepO r m H a go := by
  cases go with
  | lst w l =>
    cases w with
    | true => obtain ⟨vs, h1, z, t⟩ := h; exact ⟨vs, h1, z, t.unhide⟩
    | false => obtain ⟨vs, h1, z, t⟩ := h; exact ⟨vs, h1, z, t.unhide⟩
  | ins c fs => obtain ⟨C, dx, vs, g, h1, t⟩ := h; exact ⟨C, dx, vs, g, h1, t.unhide⟩
  | dic z l => obtain ⟨kvs, h, t⟩ := h; exact ⟨kvs, h, t.imp RepV.unhide⟩
theorem RepO.behind {a : Addr} {go : GO} {o : HO} (hD : D ∈ r.hid) (ne : a ≠ D) (h : RepO r m H a go) : RepO r m (upd H D o) a go := by
  cases go with
  | lst w l =>
    cases w with
    | true => obtain ⟨vs, h1, z, t⟩ := h; exact ⟨vs, by rw [upd_ne ne]; exact h1, z, t.behind hD⟩
    | false =>
      obtain ⟨vs, h1, z, t⟩ := h
      exact ⟨vs, h1.imp (fun q => by rw [upd_ne ne]; exact q) (fun ⟨ob, q⟩ => ⟨ob, by rw [upd_ne ne]; exact q⟩), z, t.behind hD⟩
  | ins c fs => obtain ⟨C, dx, vs, g, h1, t⟩ := h; exact ⟨C, dx, vs, g, by rw [upd_ne ne]; exact h1, t.behind hD⟩
  | dic z l =>
    obtain ⟨kvs, h, t⟩ := h
    refine ⟨kvs, ?_, t.imp (RepV.behind hD)⟩
    cases z with
    | true => obtain ⟨o, h⟩ := h; exact ⟨o, by rw [upd_ne ne]; exact h⟩
    | false => exact (upd_ne ne).trans h
theorem Rep.hide {xs : List V} (hD : H D = none) (h : Rep r T m S H) : Rep (r.hide D) T m S (upd H D (.lst xs)) := by
  refine ⟨h.len, h.nd, fun n a o h1 h2 => (h.obj n a o h1 h2).hide hD, h.tabs.ext fun b u q => by rw [upd_ne (ne_of_none q hD)]; exact q, fun b hb => ?_⟩
  rcases List.mem_cons.mp (show b ∈ D :: r.hid from hb) with e | e
  · subst e
    exact ⟨(h.notIn hD).1, xs, upd_same⟩
  · obtain ⟨x1, ys, x2⟩ := h.hid b e
    exact ⟨x1, ys, by rw [upd_ne (ne_of_none x2 hD)]; exact x2⟩
theorem Rep.unhide (h : Rep (r.hide D) T m S H) : Rep r T m S H := ⟨h.len, h.nd, fun n a o h1 h2 => (h.obj n a o h1 h2).unhide, h.tabs, fun b hb => h.hid b (List.mem_cons_of_mem _ hb)⟩
theorem Rep.behind {xs : List V} (hD : D ∈ r.hid) (h : Rep r T m S H) : Rep r T m S (upd H D (.lst xs)) := by
  obtain ⟨nm, ys, hy⟩ := h.hid D hD
  refine ⟨h.len, h.nd, fun n a o h1 h2 => (h.obj n a o h1 h2).behind hD (fun z => nm (by rw [← z]; exact List.mem_of_getElem? h1)), tabs_upd h.tabs hy (fun _ z => by cases z) (fun c q z => by unfold LamX.CodeO at z; cases z), fun b hb => ?_⟩
  obtain ⟨x1, zs, x2⟩ := h.hid b hb
  by_cases e : b = D
  · subst e; exact ⟨x1, xs, upd_same⟩
  · exact ⟨x1, zs, by rw [upd_ne e]; exact x2⟩
end
end GL

end

section
set_option Elab.async false
set_option linter.all false
set_option maxRecDepth 100000
set_option maxHeartbeats 4000000
/-! GL: readings that follow the plain evaluation, and the rules of expressions and tests. -/
namespace GL
open PySem PySem.Spec PyProof.Rows L2

/-- a reading implies another -/
theorem PE_imp {X : Cx} {e : Expr} {t t' : TE} (h : PE X e t) (i : ∀ s H Q, t' s H Q → t s H Q) : PE X e t' := ⟨fun pins s l H Q I w => h.run pins s l H Q I (i _ _ _ w)⟩
theorem PT_imp {X : Cx} {e : Expr} {t t' : TT} (h : PT X e t) (i : ∀ s H Q, t' s H Q → t s H Q) : PT X e t' := ⟨fun pins s l H Q I w => h.run pins s l H Q I (i _ _ _ w)⟩
theorem PW_imp {X : Cx} {e : Expr} {t t' : TT} (h : PW X e t) (i : ∀ s H Q, t' s H Q → t s H Q) : PW X e t' := ⟨fun wh pins s l H Q I w => h.run wh pins s l H Q I (i _ _ _ w)⟩
theorem PA_imp {X : Cx} {e : List Expr} {t t' : TA} (h : PA X e t) (i : ∀ s H Q, t' s H Q → t s H Q) : PA X e t' := ⟨fun pos pins s l H Q I w => h.run pos pins s l H Q I (i _ _ _ w)⟩
theorem PS_imp {X : Cx} {e : Stmt} {t t' : TS} (h : PS X e t) (i : ∀ D s H, t' D s H → t D s H) : PS X e t' := ⟨fun pins s l H D I w => h.run pins s l H D I (i _ _ _ w)⟩
theorem PSs_imp {X : Cx} {e : List Stmt} {t t' : TS} (h : PSs X e t) (i : ∀ D s H, t' D s H → t D s H) : PSs X e t' := ⟨fun pins s l H D I w => h.run pins s l H D I (i _ _ _ w)⟩
theorem OpR_imp {X : Cx} {f : Value → Value → Sem Value} {t t' : R2} (h : OpR X f t) (i : ∀ x y H Q, t' x y H Q → t x y H Q) : OpR X f t' := fun pins s l H x y v u Q I rx ry w => h pins s l H x y v u Q I rx ry (i _ _ _ _ w)
theorem CallR_imp {X : Cx} {f : Value} {t t' : List V → Hp → VK → Prop} (h : CallR X f t) (i : ∀ x H Q, t' x H Q → t x H Q) : CallR X f t' := fun pins s l H x u Q I rx w => h pins s l H x u Q I rx (i _ _ _ w)

/-- what is wanted behind a plain run: rel tells how the plain result lies -/
def Pst {a b : Type} (r : RP) (T : List (Addr × Str)) (W : WX) (rel : List Addr → Hp → a → b → Prop) (s : L2.St) (m : List Addr) (H : Hp) (res : R a) (Q : b → Hp → Prop) : Prop := match res with
  | .ok x S' => ∀ m' H' v, Ext m H m' H' → Rep r T m' S' H' → rel m' H' x v → Q v H'
  | .exc c fs S' => ∀ m' H' C d, Ext m H m' H' → Rep r T m' S' H' → r.mg c = some (.ref C) → RepX r m' H' fs d → W (.ref C) d s H'
  | .bad => False
section
variable {r : RP} {T : List (Addr × Str)} {W : WX} {a b c d : Type} {rel : List Addr → Hp → a → b → Prop} {rel2 : List Addr → Hp → c → d → Prop} {s : L2.St} {m m' : List Addr} {H H' : Hp}
theorem Pst.ext {res : R a} {Q : b → Hp → Prop} (e : Ext m H m' H') (h : Pst r T W rel s m H res Q) : Pst r T W rel s m' H' res Q := by
  cases res with
  | ok x S => exact fun m2 H2 v e2 a b => h m2 H2 v (e.trans e2) a b
  | exc c fs S => exact fun m2 H2 C d e2 a b k => h m2 H2 C d (e.trans e2) a b k
  | bad => exact h
theorem Pst.mono {res : R a} {Q Q' : b → Hp → Prop} (h : Pst r T W rel s m H res Q) (i : ∀ v H', Q v H' → Q' v H') : Pst r T W rel s m H res Q' := by
  cases res with
  | ok x S => exact fun m2 H2 v e2 a b => i _ _ (h m2 H2 v e2 a b)
  | exc c fs S => exact h
  | bad => exact h
/-- one step, then the rest -/
theorem Pst.bind {res : R a} {k : a → Sto → R c} {Q : d → Hp → Prop} (h : Pst r T W rel2 s m H (rb res k) Q) :
    Pst r T W rel s m H res fun x H1 => ∃ m1 S1 g, Ext m H m1 H1 ∧ Rep r T m1 S1 H1 ∧ rel m1 H1 g x ∧ Pst r T W rel2 s m1 H1 (k g S1) Q := by
  cases res with
  | ok x S => exact fun m2 H2 v e2 a b => ⟨m2, S, x, e2, a, b, Pst.ext e2 h⟩
  | exc c fs S => exact h
  | bad => exact h
end
section
variable (r : RP) (T : List (Addr × Str)) (W : WX)
/-- the readings that follow a plain expression, test, argument list -/
def tF (f : Ev) : TE := fun s H Q => ∃ m S l, Rep r T m S H ∧ RepL r m H l s ∧ Pst r T W (RepV r) s m H (f l S) Q
def tFT (f : Te) : TT := fun s H Q => ∃ m S l, Rep r T m S H ∧ RepL r m H l s ∧ Pst r T W (fun _ _ (x y : Bool) => x = y) s m H (f l S) Q
def tFA (f : As) : TA := fun s H Q => ∃ m S l, Rep r T m S H ∧ RepL r m H l s ∧ Pst r T W (RepVs r) s m H (f l S) Q
/-- what a step leaves -/
def StepE {a b : Type} (rel : List Addr → Hp → a → b → Prop) {c d : Type} (rel2 : List Addr → Hp → c → d → Prop) (s : L2.St) (l : Loc) (m : List Addr) (H : Hp) (k : a → Sto → R c) (Q : d → Hp → Prop) (x : b) (H1 : Hp) : Prop :=
  ∃ m1 S1 g, Ext m H m1 H1 ∧ Rep r T m1 S1 H1 ∧ RepL r m1 H1 l s ∧ rel m1 H1 g x ∧ Pst r T W rel2 s m1 H1 (k g S1) Q
variable {r T W}
variable {s : L2.St} {m : List Addr} {H : Hp} {S : Sto} {l : Loc} {c d : Type} {rel2 : List Addr → Hp → c → d → Prop} {Q : d → Hp → Prop}
theorem stE {f : Ev} {k : G → Sto → R c} (hR : Rep r T m S H) (hL : RepL r m H l s) (h : Pst r T W rel2 s m H (rb (f l S) k) Q) : tF r T W f s H (StepE r T W (RepV r) rel2 s l m H k Q) :=
  ⟨m, S, l, hR, hL, Pst.mono (Pst.bind (rel := RepV r) h) fun x H1 ⟨m1, S1, g, e, a, b, q⟩ => ⟨m1, S1, g, e, a, hL.ext e, b, q⟩⟩
theorem stT {f : Te} {k : Bool → Sto → R c} (hR : Rep r T m S H) (hL : RepL r m H l s) (h : Pst r T W rel2 s m H (rb (f l S) k) Q) : tFT r T W f s H (StepE r T W (fun _ _ (x y : Bool) => x = y) rel2 s l m H k Q) :=
  ⟨m, S, l, hR, hL, Pst.mono (Pst.bind (rel := fun _ _ (x y : Bool) => x = y) h) fun x H1 ⟨m1, S1, g, e, a, b, q⟩ => ⟨m1, S1, g, e, a, hL.ext e, b, q⟩⟩
theorem stA {f : As} {k : List G → Sto → R c} (hR : Rep r T m S H) (hL : RepL r m H l s) (h : Pst r T W rel2 s m H (rb (f l S) k) Q) : tFA r T W f s H (StepE r T W (RepVs r) rel2 s l m H k Q) :=
  ⟨m, S, l, hR, hL, Pst.mono (Pst.bind (rel := RepVs r) h) fun x H1 ⟨m1, S1, g, e, a, b, q⟩ => ⟨m1, S1, g, e, a, hL.ext e, b, q⟩⟩
theorem mono_tF {f : Ev} {s : L2.St} {H : Hp} {Q Q' : VK} (h : tF r T W f s H Q) (i : ∀ v H', Q v H' → Q' v H') : tF r T W f s H Q' :=
  let ⟨m, S, l, a, b, q⟩ := h; ⟨m, S, l, a, b, q.mono i⟩
theorem mono_tFT {f : Te} {s : L2.St} {H : Hp} {Q Q' : Bool → Hp → Prop} (h : tFT r T W f s H Q) (i : ∀ v H', Q v H' → Q' v H') : tFT r T W f s H Q' :=
  let ⟨m, S, l, a, b, q⟩ := h; ⟨m, S, l, a, b, q.mono i⟩
theorem mono_tFA {f : As} {s : L2.St} {H : Hp} {Q Q' : List V → Hp → Prop} (h : tFA r T W f s H Q) (i : ∀ v H', Q v H' → Q' v H') : tFA r T W f s H Q' :=
  let ⟨m, S, l, a, b, q⟩ := h; ⟨m, S, l, a, b, q.mono i⟩
/-- a plain result that is known -/
theorem Pst.ok_of {rel : List Addr → Hp → c → d → Prop} {x : c} {v : d} (h : Pst r T W rel s m H (.ok x S) Q) (hR : Rep r T m S H) (a : rel m H x v) : Q v H := h m H v (.refl m H) hR a
end

/-- an operation of two plain values that changes nothing: what its machine's counterpart is to do -/
def rP2 (r : RP) (T : List (Addr × Str)) (f : G → G → Sto → Option G) : R2 := fun x y H Q => ∃ m S g1 g2 g, Rep r T m S H ∧ RepV r m H g1 x ∧ RepV r m H g2 y ∧ f g1 g2 S = some g ∧
  ∀ H' v, Ext m H m H' → Rep r T m S H' → RepV r m H' g v → Q v H'
def rP1 (r : RP) (T : List (Addr × Str)) (f : G → Sto → Option G) : V → Hp → VK → Prop := fun x H Q => ∃ m S g1 g, Rep r T m S H ∧ RepV r m H g1 x ∧ f g1 S = some g ∧
  ∀ H' v, Ext m H m H' → Rep r T m S H' → RepV r m H' g v → Q v H'
def rPA (r : RP) (T : List (Addr × Str)) (f : List G → Sto → Option G) : List V → Hp → VK → Prop := fun x H Q => ∃ m S gs g, Rep r T m S H ∧ RepVs r m H gs x ∧ f gs S = some g ∧
  ∀ H' v, Ext m H m H' → Rep r T m S H' → RepV r m H' g v → Q v H'
def rPM (r : RP) (T : List (Addr × Str)) (f : G → List G → Sto → Option G) : V → List V → Hp → VK → Prop := fun o x H Q => ∃ m S g1 gs g, Rep r T m S H ∧ RepV r m H g1 o ∧ RepVs r m H gs x ∧ f g1 gs S = some g ∧
  ∀ H' v, Ext m H m H' → Rep r T m S H' → RepV r m H' g v → Q v H'
def rPU (r : RP) (T : List (Addr × Str)) (f : G → List G → Sto → Option (G × Sto)) : V → List V → Hp → VK → Prop := fun o x H Q => ∃ m S g1 gs g S', Rep r T m S H ∧ RepV r m H g1 o ∧ RepVs r m H gs x ∧ f g1 gs S = some (g, S') ∧
  ∀ H' v, Ext m H m H' → Rep r T m S' H' → RepV r m H' g v → Q v H'
section
variable {r : RP} {T : List (Addr × Str)} {W : WX} {X : Cx} {s : L2.St} {m : List Addr} {H : Hp} {S : Sto} {l : Loc}
theorem fin2 {f : G → G → Sto → Option G} {x y : V} {g1 g2 : G} {Q : VK} (hR : Rep r T m S H) (h1 : RepV r m H g1 x) (h2 : RepV r m H g2 y) (h : Pst r T W (RepV r) s m H (ro (f g1 g2 S) S) Q) : rP2 r T f x y H Q := by
  cases e : f g1 g2 S with
  | none => rw [e] at h; exact False.elim h
  | some g => rw [e] at h; exact ⟨m, S, g1, g2, g, hR, h1, h2, e, fun H' v e' a b => h m H' v e' a b⟩
theorem fin1 {f : G → Sto → Option G} {x : V} {g1 : G} {Q : VK} (hR : Rep r T m S H) (h1 : RepV r m H g1 x) (h : Pst r T W (RepV r) s m H (ro (f g1 S) S) Q) : rP1 r T f x H Q := by
  cases e : f g1 S with
  | none => rw [e] at h; exact False.elim h
  | some g => rw [e] at h; exact ⟨m, S, g1, g, hR, h1, e, fun H' v e' a b => h m H' v e' a b⟩
theorem finA {f : List G → Sto → Option G} {x : List V} {g1 : List G} {Q : VK} (hR : Rep r T m S H) (h1 : RepVs r m H g1 x) (h : Pst r T W (RepV r) s m H (ro (f g1 S) S) Q) : rPA r T f x H Q := by
  cases e : f g1 S with
  | none => rw [e] at h; exact False.elim h
  | some g => rw [e] at h; exact ⟨m, S, g1, g, hR, h1, e, fun H' v e' a b => h m H' v e' a b⟩
theorem finM {f : G → List G → Sto → Option G} {o : V} {x : List V} {g0 : G} {g1 : List G} {Q : VK} (hR : Rep r T m S H) (h0 : RepV r m H g0 o) (h1 : RepVs r m H g1 x) (h : Pst r T W (RepV r) s m H (ro (f g0 g1 S) S) Q) : rPM r T f o x H Q := by
  cases e : f g0 g1 S with
  | none => rw [e] at h; exact False.elim h
  | some g => rw [e] at h; exact ⟨m, S, g0, g1, g, hR, h0, h1, e, fun H' v e' a b => h m H' v e' a b⟩
theorem finU {f : G → List G → Sto → Option (G × Sto)} {o : V} {x : List V} {g0 : G} {g1 : List G} {Q : VK} (hR : Rep r T m S H) (h0 : RepV r m H g0 o) (h1 : RepVs r m H g1 x)
    (h : Pst r T W (RepV r) s m H (match f g0 g1 S with | some (g, S) => .ok g S | none => .bad) Q) : rPU r T f o x H Q := by
  cases e : f g0 g1 S with
  | none => rw [e] at h; exact False.elim h
  | some p =>
    obtain ⟨g, S'⟩ := p
    rw [e] at h
    exact ⟨m, S, g0, g1, g, S', hR, h0, h1, e, fun H' v e' a b => h m H' v e' a b⟩

/-! ### rules -/
theorem g_con {e : Expr} {v : V} {g : G} (h : PE X e (tC v)) (hv : ∀ m H, RepV r m H g v) : PE X e (tF r T W (eC g)) := PE_imp h fun s H Q ⟨m, S, l, hR, hL, q⟩ => q.ok_of hR (hv m H)
theorem g_var {x : Str} {pos : Pos} {i : Nat} (hN : X.N[i]? = some x) (hv : Vis X.env.scope x) (hd : (x == ("__debug__" : Str)) = false) (hcd : (x == ("__classdict__" : Str)) = false) : PE X (.Name x pos) (tF r T W (eV i)) :=
  PE_imp (pe_var hN hv hd hcd) fun s H Q ⟨m, S, l, hR, hL, q⟩ => by
    unfold eV at q
    cases e : l[i]? with
    | none => rw [e] at q; exact False.elim q
    | some o =>
      cases o with
      | none => rw [e] at q; exact False.elim q
      | some g =>
        rw [e] at q
        obtain ⟨v, h1, h2⟩ := hL.get i g e
        exact ⟨v, h1, q.ok_of hR h2⟩
variable {a b c : Expr} {fa fb fc : Ev} {pos : Pos}
theorem g_bin {op : Operator} {f : G → G → Sto → Option G} (ho : OpR X (binaryOp op) (rP2 r T f)) (ha : PE X a (tF r T W fa)) (hb : PE X b (tF r T W fb)) : PE X (.BinOp a op b pos) (tF r T W (e2 f fa fb)) :=
  PE_imp (pe_op ho ha hb) fun s H Q ⟨m, S, l, hR, hL, q⟩ => mono_tF (stE hR hL q) fun x H1 ⟨m1, S1, g, e, hR1, hL1, h1, q1⟩ => mono_tF (stE hR1 hL1 q1) fun y H2 ⟨m2, S2, g2, e2, hR2, hL2, h2, q2⟩ => fin2 hR2 (h1.ext e2) h2 q2
theorem g_cmp {op : CmpOp} {f : G → G → Sto → Option G} (ho : OpR X (compareOp op) (rP2 r T f)) (ha : PE X a (tF r T W fa)) (hb : PE X b (tF r T W fb)) (hm : behindInMarks op b = false) : PE X (.Compare a [op] [b] pos) (tF r T W (e2 f fa fb)) :=
  PE_imp (pe_cmpR ho ha hb hm) fun s H Q ⟨m, S, l, hR, hL, q⟩ => mono_tF (stE hR hL q) fun x H1 ⟨m1, S1, g, e, hR1, hL1, h1, q1⟩ => mono_tF (stE hR1 hL1 q1) fun y H2 ⟨m2, S2, g2, e2, hR2, hL2, h2, q2⟩ => fin2 hR2 (h1.ext e2) h2 q2
theorem bof_ok {g : G} {v : V} {k : Bool → R G} {Q : VK} (h1 : RepV r m H g v) (q : Pst r T W (RepV r) s m H (bof g k) Q) : ∃ x, g = .bl x ∧ v = .bl x ∧ Pst r T W (RepV r) s m H (k x) Q := by
  cases g <;> try exact False.elim q
  cases h1
  exact ⟨_, rfl, rfl, q⟩
theorem bof_okT {g : G} {v : V} {k : Bool → R Bool} {Q : Bool → Hp → Prop} (h1 : RepV r m H g v) (q : Pst r T W (fun _ _ (x y : Bool) => x = y) s m H (bof g k) Q) : ∃ x, g = .bl x ∧ v = .bl x ∧ Pst r T W (fun _ _ (x y : Bool) => x = y) s m H (k x) Q := by
  cases g <;> try exact False.elim q
  cases h1
  exact ⟨_, rfl, rfl, q⟩
/-- a test of a comparison -/
theorem g_tcmp {op : CmpOp} {f : G → G → Sto → Option G} (ho : OpR X (compareOp op) (rP2 r T f)) (ha : PE X a (tF r T W fa)) (hb : PE X b (tF r T W fb)) (hm : behindInMarks op b = false) : PT X (.Compare a [op] [b] pos) (tFT r T W (tV (e2 f fa fb))) :=
  PT_imp (pt_cmpR ho ha hb hm) fun s H Q ⟨m, S, l, hR, hL, q⟩ => by
    have q' : Pst r T W (fun _ _ (x y : Bool) => x = y) s m H (rb (fa l S) fun x S => rb (fb l S) fun y S => rb (ro (f x y S) S) fun x S => bof x fun b => .ok b S) Q := by
      unfold tV e2 at q
      revert q
      cases fa l S with
      | ok x S1 =>
        show Pst _ _ _ _ _ _ _ (rb (rb (fb l S1) _) _) _ → Pst _ _ _ _ _ _ _ (rb (fb l S1) _) _
        cases fb l S1 <;> exact id
      | exc _ _ _ => exact id
      | bad => exact id
    refine mono_tF (stE hR hL q') fun x H1 ⟨m1, S1, g, e, hR1, hL1, h1, q1⟩ => mono_tF (stE hR1 hL1 q1) fun y H2 ⟨m2, S2, g2, e2, hR2, hL2, h2, q2⟩ => ?_
    dsimp only at q2
    cases e3 : f g g2 S2 with
    | none => rw [e3] at q2; exact False.elim q2
    | some z =>
      rw [e3] at q2
      refine ⟨m2, S2, g, g2, z, hR2, h1.ext e2, h2, e3, fun H' v e' a b => ?_⟩
      obtain ⟨k, e4, e5, q3⟩ := bof_okT b (Pst.ext e' q2)
      subst e5
      exact ⟨k, rfl, q3.ok_of a rfl⟩
/-- an expression whose value is a bool, as a test -/
theorem g_tval (h : PE X a (tF r T W fa)) (he : ∀ whole, isTrue a X.env whole = (do let v ← whole; standAt a.pos; holding [v] (truthy v))) : PT X a (tFT r T W (tV fa)) :=
  PT_imp (pt_val h he) fun s H Q ⟨m, S, l, hR, hL, q⟩ => mono_tF (stE hR hL q) fun x H1 ⟨m1, S1, g, e, hR1, hL1, h1, q1⟩ => by
    obtain ⟨k, e4, e5, q3⟩ := bof_okT h1 q1
    subst e5
    exact ⟨k, rfl, q3.ok_of hR1 rfl⟩
variable {ta tb : Te}
theorem g_tnot (h : PT X a (tFT r T W ta)) : PT X (.UnaryOp .Not a pos) (tFT r T W (tNot ta)) :=
  PT_imp (pt_not h) fun s H Q ⟨m, S, l, hR, hL, q⟩ => mono_tFT (stT hR hL q) fun x H1 ⟨m1, S1, g, e, hR1, hL1, h1, q1⟩ => by
    subst h1
    exact q1.ok_of hR1 rfl
theorem g_tand {rest : List Expr} (ha : PT X a (tFT r T W ta)) (hb : PW X (.BoolOp .And (b :: rest) pos) (tFT r T W tb)) : PW X (.BoolOp .And (a :: b :: rest) pos) (tFT r T W (tAnd ta tb)) :=
  PW_imp (pw_and ha hb) fun s H Q ⟨m, S, l, hR, hL, q⟩ => mono_tFT (stT hR hL q) fun x H1 ⟨m1, S1, g, e, hR1, hL1, h1, q1⟩ => by
    subst h1
    cases g with
    | true => exact ⟨m1, S1, l, hR1, hL1, q1⟩
    | false => exact q1.ok_of hR1 rfl
theorem g_tor {rest : List Expr} (ha : PT X a (tFT r T W ta)) (hb : PW X (.BoolOp .Or (b :: rest) pos) (tFT r T W tb)) : PW X (.BoolOp .Or (a :: b :: rest) pos) (tFT r T W (tOr ta tb)) :=
  PW_imp (pw_or ha hb) fun s H Q ⟨m, S, l, hR, hL, q⟩ => mono_tFT (stT hR hL q) fun x H1 ⟨m1, S1, g, e, hR1, hL1, h1, q1⟩ => by
    subst h1
    cases g with
    | true => exact q1.ok_of hR1 rfl
    | false => exact ⟨m1, S1, l, hR1, hL1, q1⟩
theorem g_and {rest : List Expr} (ha : PE X a (tF r T W fa)) (hb : PE X (.BoolOp .And (b :: rest) pos) (tF r T W fb)) : PE X (.BoolOp .And (a :: b :: rest) pos) (tF r T W (eAnd fa fb)) :=
  PE_imp (pe_and ha hb) fun s H Q ⟨m, S, l, hR, hL, q⟩ => mono_tF (stE hR hL q) fun x H1 ⟨m1, S1, g, e, hR1, hL1, h1, q1⟩ => by
    obtain ⟨k, e4, e5, q3⟩ := bof_ok h1 q1
    subst e5
    refine ⟨k, rfl, ?_⟩
    cases k with
    | true => exact ⟨m1, S1, l, hR1, hL1, q3⟩
    | false => exact q3.ok_of hR1 (.bl false)
theorem g_or {rest : List Expr} (ha : PE X a (tF r T W fa)) (hb : PE X (.BoolOp .Or (b :: rest) pos) (tF r T W fb)) : PE X (.BoolOp .Or (a :: b :: rest) pos) (tF r T W (eOr fa fb)) :=
  PE_imp (pe_or ha hb) fun s H Q ⟨m, S, l, hR, hL, q⟩ => mono_tF (stE hR hL q) fun x H1 ⟨m1, S1, g, e, hR1, hL1, h1, q1⟩ => by
    obtain ⟨k, e4, e5, q3⟩ := bof_ok h1 q1
    subst e5
    refine ⟨k, rfl, ?_⟩
    cases k with
    | true => exact q3.ok_of hR1 (.bl true)
    | false => exact ⟨m1, S1, l, hR1, hL1, q3⟩
theorem g_ife (hc : PT X c (tFT r T W ta)) (ha : PE X a (tF r T W fa)) (hb : PE X b (tF r T W fb)) : PE X (.IfExp c a b pos) (tF r T W (eIf ta fa fb)) :=
  PE_imp (pe_ifExp hc ha hb) fun s H Q ⟨m, S, l, hR, hL, q⟩ => mono_tFT (stT hR hL q) fun x H1 ⟨m1, S1, g, e, hR1, hL1, h1, q1⟩ => by
    subst h1
    cases g with
    | true => exact ⟨m1, S1, l, hR1, hL1, q1⟩
    | false => exact ⟨m1, S1, l, hR1, hL1, q1⟩
theorem g_anil : PA X [] (tFA r T W aNil) := PA_imp pa_nil fun s H Q ⟨m, S, l, hR, hL, q⟩ => q.ok_of hR .nil
theorem g_acons {es : List Expr} {fs : As} (ha : PE X a (tF r T W fa)) (hr : PA X es (tFA r T W fs)) (hs : starEach (a :: es) X.env = (false, eval a X.env) :: starEach es X.env) : PA X (a :: es) (tFA r T W (aCons fa fs)) :=
  PA_imp (pa_cons ha hr hs) fun s H Q ⟨m, S, l, hR, hL, q⟩ => mono_tF (stE hR hL q) fun x H1 ⟨m1, S1, g, e, hR1, hL1, h1, q1⟩ => mono_tFA (stA hR1 hL1 q1) fun y H2 ⟨m2, S2, g2, e2, hR2, hL2, h2, q2⟩ => q2.ok_of hR2 (.cons (h1.ext e2) h2)
end
end GL

end

section
set_option Elab.async false
set_option linter.all false
set_option maxRecDepth 100000
set_option maxHeartbeats 4000000
/-! GL: operations on plain values, and that the machine's do the same. -/
namespace GL
open PySem PySem.Spec PyProof.Rows L2

/-! ### data -/
mutual
def gD : G → PyData
  | .bl b => .bool b
  | .int i => .int i
  | .str s => .str s
  | .tup l => .tuple (gDs l)
  | .tl l => .list (gDs l)
  | _ => .none
def gDs : List G → List PyData
  | [] => []
  | g :: r => gD g :: gDs r
end
mutual
/-- data that may be compared -/
def gOk (n : Nat) : G → Bool
  | .non => true
  | .bl _ => true
  | .int _ => true
  | .str s => PyData.strOk s
  | .tup l => (match n with
    | 0 => false
    | n + 1 => gOks n l)
  | .tl l => (match n with
    | 0 => false
    | n + 1 => gOks n l)
  | _ => false
def gOks (n : Nat) : List G → Bool
  | [] => true
  | g :: r => gOk n g && gOks n r
end
def gRes (S : Sto) : G → G
  | .ref n => (match lstAt S n with
    | some l => .tl l
    | none => .ref n)
  | g => g
def gEqD (S : Sto) (x y : G) : Option Bool := if gOk 60 (gRes S x) = true ∧ gOk 60 (gRes S y) = true then some (PyData.eqv (gD (gRes S x)) (gD (gRes S y))) else none
def gEq (x y : G) (S : Sto) : Option G := match x, y with
  | .int i, .int j => some (.bl (decide (i = j)))
  | .str i, .str j => some (.bl (decide (i = j)))
  | .bl i, .bl j => some (.bl (decide (i = j)))
  | x, y => (gEqD S x y).map fun b => .bl b
def gNe (x y : G) (S : Sto) : Option G := match x, y with
  | .int i, .int j => some (.bl (!decide (i = j)))
  | .str i, .str j => some (.bl (!decide (i = j)))
  | .bl i, .bl j => some (.bl (!decide (i = j)))
  | x, y => (gEqD S x y).map fun b => .bl (!b)
def gLt (x y : G) (_ : Sto) : Option G := match x, y with
  | .int i, .int j => some (.bl (decide (i < j)))
  | .str i, .str j => some (.bl (decide (i.cps.toList < j.cps.toList)))
  | _, _ => none
def gLe (x y : G) (_ : Sto) : Option G := match x, y with
  | .int i, .int j => some (.bl (decide (i ≤ j)))
  | _, _ => none
def gGt (x y : G) (_ : Sto) : Option G := match x, y with
  | .int i, .int j => some (.bl (decide (j < i)))
  | _, _ => none
def gGe (x y : G) (_ : Sto) : Option G := match x, y with
  | .int i, .int j => some (.bl (decide (j ≤ i)))
  | _, _ => none
def gIsN (x : G) (b : Bool) : Option G := match x with
  | .non => some (.bl b)
  | .hx _ _ => none
  | _ => some (.bl (!b))
def gIs (x y : G) (_ : Sto) : Option G := match y with
  | .non => gIsN x true
  | .bl c => (match x with
    | .bl b => some (.bl (decide (b = c)))
    | _ => none)
  | _ => none
def gIsNot (x y : G) (_ : Sto) : Option G := match y with
  | .non => gIsN x false
  | .bl c => (match x with
    | .bl b => some (.bl (!decide (b = c)))
    | _ => none)
  | _ => none
def flatG : G → Bool
  | .non => true
  | .bl _ => true
  | .int _ => true
  | .str _ => true
  | _ => false
def eqF : G → G → Bool
  | .int i, .int j => decide (i = j)
  | .str i, .str j => decide (i = j)
  | x, y => PyData.eqv (gD x) (gD y)
def seqG (S : Sto) : G → Option (List G)
  | .tup l => some l
  | .fz l => some l
  | .tl l => some l
  | .ref n => lstAt S n
  | _ => none
def gInB (x y : G) (S : Sto) : Option Bool := match y with
  | .str t => (match x with
    | .str s => some (!(Builtin.Str.occurrences t s 0 t.length 1).isEmpty)
    | _ => none)
  | _ => (match seqG S y with
    | some l => if flatG x && l.all flatG then some (l.any fun z => eqF z x) else none
    | none => none)
def gIn (x y : G) (S : Sto) : Option G := (gInB x y S).map .bl
def gNotIn (x y : G) (S : Sto) : Option G := (gInB x y S).map fun b => .bl (!b)
def gAdd (x y : G) (S : Sto) : Option G := match x, y with
  | .int i, .int j => some (.int (i + j))
  | .str i, .str j => if i.length + j.length ≤ sizeLine then some (.str (i ++ j)) else none
  | .tup i, .tup j => if i.length + j.length ≤ sizeLine then some (.tup (i ++ j)) else none
  | _, _ => none
def gSub (x y : G) (_ : Sto) : Option G := match x, y with
  | .int i, .int j => some (.int (i - j))
  | _, _ => none
noncomputable def mulOk (i j : Int) : Bool := (decide (-b64 < i) && decide (i < b64)) || (decide (-b64 < j) && decide (j < b64))
noncomputable def gMul (x y : G) (_ : Sto) : Option G := match x, y with
  | .int i, .int j => if mulOk i j then some (.int (i * j)) else none
  | _, _ => none
noncomputable def gFdv (x y : G) (_ : Sto) : Option G := match x, y with
  | .int i, .int j => if 0 < j ∧ j < b30 then some (.int (i / j)) else none
  | _, _ => none
def gMod (x y : G) (_ : Sto) : Option G := match x, y with
  | .int i, .int j => if 0 < j then some (.int (i % j)) else none
  | _, _ => none
noncomputable def gPow (x y : G) (_ : Sto) : Option G := match x, y with
  | .int i, .int j => if 0 ≤ j ∧ j ≤ big ∧ (i.natAbs : Int) < b64 then some (.int (i ^ j.toNat)) else none
  | _, _ => none
def gNeg (x : G) (_ : Sto) : Option G := match x with
  | .int i => some (.int (-i))
  | _ => none

section
variable {r : RP} {T : List (Addr × Str)} {X : Cx} {m : List Addr} {H : Hp} {S : Sto}
theorem TupSq {p : Addr} {vs : List V} (h : (Out r m p ∧ H p = some (.tup vs)) ∨ KTup r.K p vs) : SqT r.K H p vs := h.elim (fun q => .inl (.inl q.2)) .inr
/-- a sequence is read -/
theorem seq_rep (hR : Rep r T m S H) {g : G} {v : V} {l : List G} (h : RepV r m H g v) (e : seqG S g = some l) : ∃ p vs, v = .ref p ∧ vs.length ≤ sizeLine ∧ RepVs r m H l vs ∧ (SqL r.K H p vs ∨ SqT r.K H p vs) := by
  cases h with
  | tup h z t => cases e; exact ⟨_, _, rfl, z, t, .inr (TupSq h)⟩
  | fz h z t => cases e; exact ⟨_, _, rfl, z, t, .inl (h.elim (fun ⟨_, o, q⟩ => .inl (.inr ⟨o, q⟩)) .inr)⟩
  | tl n h z t => cases e; exact ⟨_, _, rfl, z, t, .inl (.inl (.inl h))⟩
  | @ref n a h =>
    have e : lstAt S n = some l := e
    unfold lstAt at e
    cases q : S[n]? with
    | none => rw [q] at e; cases e
    | some o =>
      rw [q] at e
      cases o with
      | lst w l' =>
        cases e
        have ho := hR.obj n a _ h q
        cases w with
        | true => obtain ⟨vs, h1, z, t⟩ := ho; exact ⟨_, vs, rfl, z, t, .inl (.inl (.inl h1))⟩
        | false => obtain ⟨vs, h1, z, t⟩ := ho; exact ⟨_, vs, rfl, z, t, .inl (.inl h1)⟩
      | dic _ _ => cases e
      | ins _ _ => cases e
  | _ => cases e
mutual
theorem dp_rep : ∀ {n : Nat} {g : G} {v : V}, RepV r m H g v → gOk n g = true → Dp r.K H v (gD g)
  | _, _, _, .non, _ => .non
  | _, _, _, .bl b, _ => .bl b
  | _, _, _, .int i, _ => .int i
  | _, _, _, .str s, _ => .str s
  | _, _, _, .ty _, e => by simp [gOk] at e
  | 0, _, _, .tup _ _ _, e => by simp [gOk] at e
  | n + 1, _, _, .tup h z t, e => by
    simp only [gOk] at e
    simp only [gD]
    exact .tup (TupSq h) (dps_rep t e)
  | 0, _, _, .tl _ _ _ _, e => by simp [gOk] at e
  | n + 1, _, _, .tl _ h z t, e => by
    simp only [gOk] at e
    simp only [gD]
    exact .lst (.inl (.inl h)) (dps_rep t e)
  | _, _, _, .ref _, e => by simp [gOk] at e
  | _, _, _, .fz _ _ _, e => by simp [gOk] at e
  | _, _, _, .gl _, e => by simp [gOk] at e
  | _, _, _, .hx _ _ _ _, e => by simp [gOk] at e
  | _, _, _, .clo _ _ _ _ _ _, e => by simp [gOk] at e
theorem dps_rep : ∀ {n : Nat} {g : List G} {v : List V}, RepVs r m H g v → gOks n g = true → DpAll r.K H v (gDs g)
  | _, _, _, .nil, _ => by simp only [gDs]; exact .nil
  | n, _, _, .cons a b, e => by
    simp only [gOks, Bool.and_eq_true] at e
    simp only [gDs]
    exact .cons (dp_rep a e.1) (dps_rep b e.2)
end
mutual
theorem ok_lay : ∀ {n : Nat} {g : G}, gOk n g = true → (gD g).canLay0 = true ∧ (gD g).depth ≤ n
  | _, .non, _ => by simp [gD, PyData.canLay0, PyData.depth]
  | _, .bl _, _ => by simp [gD, PyData.canLay0, PyData.depth]
  | _, .int _, _ => by simp [gD, PyData.canLay0, PyData.depth]
  | _, .str s, e => by
    simp only [gOk] at e
    simp [gD, PyData.canLay0, PyData.depth, e]
  | 0, .tup _, e => by simp [gOk] at e
  | 0, .tl _, e => by simp [gOk] at e
  | n + 1, .tup l, e => by
    simp only [gOk] at e
    have := oks_lay e
    simp only [gD, PyData.canLay0, PyData.depth]
    exact ⟨this.1, Nat.succ_le_succ this.2⟩
  | n + 1, .tl l, e => by
    simp only [gOk] at e
    have := oks_lay e
    simp only [gD, PyData.canLay0, PyData.depth]
    exact ⟨this.1, Nat.succ_le_succ this.2⟩
  | _, .ts _, e => by simp [gOk] at e
  | _, .td _, e => by simp [gOk] at e
  | _, .ref _, e => by simp [gOk] at e
  | _, .fz _, e => by simp [gOk] at e
  | _, .gl _, e => by simp [gOk] at e
  | _, .ty _, e => by simp [gOk] at e
  | _, .hx _ _, e => by simp [gOk] at e
  | _, .clo _ _ _, e => by simp [gOk] at e
theorem oks_lay : ∀ {n : Nat} {g : List G}, gOks n g = true → PyData.canLayAll0 (gDs g) = true ∧ PyData.depthAll (gDs g) ≤ n
  | _, [], _ => by simp [gDs, PyData.canLayAll0, PyData.depthAll]
  | n, g :: l, e => by
    simp only [gOks, Bool.and_eq_true] at e
    have h1 := ok_lay e.1
    have h2 := oks_lay e.2
    simp only [gDs, PyData.canLayAll0, PyData.depthAll, Bool.and_eq_true]
    exact ⟨⟨h1.1, h2.1⟩, Nat.max_le.mpr ⟨h1.2, h2.2⟩⟩
end
theorem dp_res (hR : Rep r T m S H) {g : G} {v : V} (h : RepV r m H g v) (e : gOk 60 (gRes S g) = true) : Dp r.K H v (gD (gRes S g)) := by
  cases h with
  | @ref n a hn =>
    have hs := seq_rep (l := (lstAt S n).getD []) hR (RepV.ref (r := r) (H := H) hn)
    show Dp r.K H (.ref a) (gD (match lstAt S n with | some l => .tl l | none => .ref n))
    have e : gOk 60 (match lstAt S n with | some l => .tl l | none => .ref n) = true := e
    cases q : lstAt S n with
    | none => rw [q] at e; simp [gOk] at e
    | some l =>
      rw [q] at e hs
      obtain ⟨p, vs, e1, z, t, hq⟩ := hs q
      cases e1
      simp only [gOk] at e
      simp only [gD]
      rcases hq with hq | hq
      · exact .lst hq (dps_rep t e)
      · have ho := hR.obj n a
        unfold lstAt at q
        cases qs : S[n]? with
        | none => rw [qs] at q; cases q
        | some o =>
          rw [qs] at q
          cases o with
          | lst w l' =>
            have q : l' = l := Option.some.inj q
            subst q
            have ho := ho _ hn qs
            cases w with
            | true =>
              obtain ⟨vs', h1, z', t'⟩ := ho
              exact .lst (.inl (.inl h1)) (dps_rep t' e)
            | false =>
              obtain ⟨vs', h1, z', t'⟩ := ho
              exact .lst (.inl h1) (dps_rep t' e)
          | dic _ _ => cases q
          | ins _ _ => cases q
  | non => exact dp_rep (m := m) .non e
  | bl b => exact dp_rep (m := m) (.bl b) e
  | int i => exact dp_rep (m := m) (.int i) e
  | str s => exact dp_rep (m := m) (.str s) e
  | ty n => exact dp_rep (m := m) (.ty n) e
  | tup a b c => exact dp_rep (.tup a b c) e
  | fz a b c => exact dp_rep (.fz a b c) e
  | tl a b c d => exact dp_rep (.tl a b c d) e
  | gl a => exact dp_rep (m := m) (.gl a) e
  | hx a b c d => exact dp_rep (.hx a b c d) e
  | clo a b c d f g => exact dp_rep (.clo a b c d f g) e
theorem ok_shaped {g : G} (h : gOk 60 g = true) : SeqAt.shaped (gD g) = true := by
  have := ok_lay h
  unfold SeqAt.shaped
  simp only [Bool.and_eq_true, decide_eq_true_eq]
  exact ⟨this.1, by omega⟩
theorem sm {x y : V} {H : Hp} {Q : VK} {g : G} (k : ∀ H' v, Ext m H m H' → Rep r T m S H' → RepV r m H' g v → Q v H') (hR : Rep r T m S H) {v : V} (h : RepV r m H g v) : Q v H := k H v (.refl _ _) hR h
theorem op_gEq (hK : X.K = r.K) (hu : X.A.units + 64 < cLine) : OpR X (compareOp .Eq) (rP2 r T gEq) := OpR_imp (op_eq.or (op_eqD hu)) fun x y H Q ⟨m, S, g1, g2, g, hR, h1, h2, e, k⟩ => by
  unfold gEq at e
  split at e
  · cases h1; cases h2; cases e
    exact .inl ⟨rfl, by have := k H _ (.refl _ _) hR (.bl _); simpa using this⟩
  · cases h1; cases h2; cases e
    exact .inl ⟨rfl, by have := k H _ (.refl _ _) hR (.bl _); simpa using this⟩
  · cases h1; cases h2; cases e
    exact .inl ⟨rfl, by have := k H _ (.refl _ _) hR (.bl _); simpa using this⟩
  · unfold gEqD at e
    split at e
    · rename_i c
      cases e
      rw [hK]
      exact .inr ⟨_, _, dp_res hR h1 c.1, dp_res hR h2 c.2, ok_shaped c.1, ok_shaped c.2, k H _ (.refl _ _) hR (.bl _)⟩
    · cases e
theorem op_gNe (hK : X.K = r.K) (hu : X.A.units + 64 < cLine) : OpR X (compareOp .NotEq) (rP2 r T gNe) := OpR_imp (op_ne.or (op_neD hu)) fun x y H Q ⟨m, S, g1, g2, g, hR, h1, h2, e, k⟩ => by
  unfold gNe at e
  split at e
  · cases h1; cases h2; cases e
    exact .inl ⟨rfl, by have := k H _ (.refl _ _) hR (.bl _); simpa using this⟩
  · cases h1; cases h2; cases e
    exact .inl ⟨rfl, by have := k H _ (.refl _ _) hR (.bl _); simpa using this⟩
  · cases h1; cases h2; cases e
    exact .inl ⟨rfl, by have := k H _ (.refl _ _) hR (.bl _); simpa using this⟩
  · unfold gEqD at e
    split at e
    · rename_i c
      cases e
      rw [hK]
      exact .inr ⟨_, _, dp_res hR h1 c.1, dp_res hR h2 c.2, ok_shaped c.1, ok_shaped c.2, k H _ (.refl _ _) hR (.bl _)⟩
    · cases e
theorem op_gLt : OpR X (compareOp .Lt) (rP2 r T gLt) := OpR_imp (op_lt.or op_lt_str) fun x y H Q ⟨m, S, g1, g2, g, hR, h1, h2, e, k⟩ => by
  unfold gLt at e
  split at e
  · cases h1; cases h2; cases e
    exact .inl ⟨_, _, rfl, rfl, k H _ (.refl _ _) hR (.bl _)⟩
  · cases h1; cases h2; cases e
    exact .inr ⟨_, _, rfl, rfl, k H _ (.refl _ _) hR (.bl _)⟩
  · cases e
theorem op_gLe : OpR X (compareOp .LtE) (rP2 r T gLe) := OpR_imp op_le fun x y H Q ⟨m, S, g1, g2, g, hR, h1, h2, e, k⟩ => by
  unfold gLe at e
  split at e
  · cases h1; cases h2; cases e
    exact ⟨_, _, rfl, rfl, k H _ (.refl _ _) hR (.bl _)⟩
  · cases e
theorem op_gGt : OpR X (compareOp .Gt) (rP2 r T gGt) := OpR_imp op_gt fun x y H Q ⟨m, S, g1, g2, g, hR, h1, h2, e, k⟩ => by
  unfold gGt at e
  split at e
  · cases h1; cases h2; cases e
    exact ⟨_, _, rfl, rfl, k H _ (.refl _ _) hR (.bl _)⟩
  · cases e
theorem op_gGe : OpR X (compareOp .GtE) (rP2 r T gGe) := OpR_imp op_ge fun x y H Q ⟨m, S, g1, g2, g, hR, h1, h2, e, k⟩ => by
  unfold gGe at e
  split at e
  · cases h1; cases h2; cases e
    exact ⟨_, _, rfl, rfl, k H _ (.refl _ _) hR (.bl _)⟩
  · cases e
theorem op_gAdd (hK : X.K = r.K) : OpR X (binaryOp .Add) (rP2 r T gAdd) := OpR_imp (op_add.or (op_add_str.or op_catA)) fun x y H Q ⟨m, S, g1, g2, g, hR, h1, h2, e, k⟩ => by
  unfold gAdd at e
  split at e
  · cases h1; cases h2; cases e
    exact .inl ⟨_, _, rfl, rfl, k H _ (.refl _ _) hR (.int _)⟩
  · split at e
    · cases h1; cases h2; cases e
      exact .inr (.inl ⟨_, _, rfl, rfl, by assumption, k H _ (.refl _ _) hR (.str _)⟩)
    · cases e
  · split at e
    · rename_i g1 g2 c
      cases h1 with
      | tup a1 b1 c1 =>
        cases h2 with
        | tup a2 b2 c2 =>
          cases e
          rw [hK]
          have z1 := c1.length
          have z2 := c2.length
          refine .inr (.inr ⟨_, _, _, _, rfl, rfl, TupSq a1, TupSq a2, by omega, fun q => ?_, fun _ q => ?_, fun _ _ p hp => ?_⟩)
          · subst q
            cases c1
            exact k H _ (.refl _ _) hR (.tup a2 b2 c2)
          · subst q
            cases c2
            rw [List.append_nil] at k
            exact k H _ (.refl _ _) hR (.tup a1 b1 c1)
          · exact k _ _ (Ext.new hp _) (hR.fresh hp _) (hR.newTup hp (by rw [List.length_append]; omega) (c1.append c2))
    · cases e
  · cases e
theorem op_gSub : OpR X (binaryOp .Sub) (rP2 r T gSub) := OpR_imp op_sub fun x y H Q ⟨m, S, g1, g2, g, hR, h1, h2, e, k⟩ => by
  unfold gSub at e
  split at e
  · cases h1; cases h2; cases e
    exact ⟨_, _, rfl, rfl, k H _ (.refl _ _) hR (.int _)⟩
  · cases e
theorem op_gFdv : OpR X (binaryOp .FloorDiv) (rP2 r T gFdv) := OpR_imp op_fdiv fun x y H Q ⟨m, S, g1, g2, g, hR, h1, h2, e, k⟩ => by
  unfold gFdv at e
  split at e
  · split at e
    · rename_i c
      cases h1; cases h2; cases e
      exact ⟨_, _, rfl, rfl, (by rw [b30_eq] at c; exact c), k H _ (.refl _ _) hR (.int _)⟩
    · cases e
  · cases e
theorem op_gMod : OpR X (binaryOp .Mod) (rP2 r T gMod) := OpR_imp op_mod fun x y H Q ⟨m, S, g1, g2, g, hR, h1, h2, e, k⟩ => by
  unfold gMod at e
  split at e
  · split at e
    · cases h1; cases h2; cases e
      exact ⟨_, _, rfl, rfl, by assumption, k H _ (.refl _ _) hR (.int _)⟩
    · cases e
  · cases e
theorem op_gPow : OpR X (binaryOp .Pow) (rP2 r T gPow) := OpR_imp op_pow fun x y H Q ⟨m, S, g1, g2, g, hR, h1, h2, e, k⟩ => by
  unfold gPow at e
  split at e
  · split at e
    · rename_i c
      cases h1; cases h2; cases e
      exact ⟨_, _, rfl, rfl, (by obtain ⟨c1, c2, c3⟩ := c; rw [big_eq] at c2; rw [b64_eq] at c3; exact ⟨c1, c2, by omega⟩), k H _ (.refl _ _) hR (.int _)⟩
    · cases e
  · cases e
end
end GL

end

section
set_option Elab.async false
set_option linter.all false
set_option maxRecDepth 100000
set_option maxHeartbeats 4000000
/-! GL: a tuple times 0 or 1. -/
namespace L2
open PySem PySem.Spec PyProof.Rows
theorem tuple_mul_one (l : Addr) (items : Array Value) (n : Nat) (sl : Array (Option Value)) (dd : Option Addr) (u : Tok) :
    Meets (Builtin.«tuple.__mul__» ⟨[.ref l, .int 1 u], []⟩) (fun _ R s => s.heap.get? l = some { cls := .type "tuple", dict := dd, data := .seq items n, slots := sl } ∧
      R (.ok (.ret (Value.ref l))) s) :=
  .of_wp fun prog w A R s h => by
    obtain ⟨hp, g, d, tk, os⟩ := s
    obtain ⟨hl, h⟩ := h
    have f1 := AutoSeq1.idx_int
    wp_walk using wpAny_loadPart' hl
    have c1 : (items.isEmpty || (1 : Int) == 1) = true := by simp
    repeat (first
      | (refine wpAny_ite_true (by simp) ?_; wp_walk using wpAny_loadPart' hl))
    exact ⟨_, rfl, h⟩
theorem tuple_mul_zero (l : Addr) (items : Array Value) (n : Nat) (dd : Option Addr) (sl : Array (Option Value)) (u : Tok) (hne : items.isEmpty = false) :
    Meets (Builtin.«tuple.__mul__» ⟨[.ref l, .int 0 u], []⟩) (fun _ R s => s.heap.get? l = some { cls := .type "tuple", dict := dd, data := .seq items n, slots := sl } ∧
      R (.ok (.ret (Value.ref s.heap.objs.size))) { s with heap := s.heap.push { cls := Value.type "tuple", data := Data.seq #[] }, toks := s.toks }) :=
  .of_wp fun prog w A R s h => by
    obtain ⟨hp, g, d, tk, os⟩ := s
    obtain ⟨hl, h⟩ := h
    have f1 := AutoSeq1.idx_int
    wp_walk using wpAny_loadPart' hl
    have c1 : (items.isEmpty || (0 : Int) == 1) = false := by rw [hne]; rfl
    repeat (first
      | (refine wpAny_ite_false (decide_eq_false (by rw [c1]; exact Bool.false_ne_true)) ?_; wp_walk using wpAny_loadPart' hl))
    exact ⟨_, rfl, h⟩
def rRepS (K : PySem.W.Frag) : R2 := fun x y H Q => ∃ l k xs, x = .ref l ∧ y = .int k ∧ SqT K H l xs ∧ xs ≠ [] ∧ ((k = 1 ∧ Q (.ref l) H) ∨ (k = 0 ∧ ∀ p, H p = none → Q (.ref p) (upd H p (.tup []))))
theorem op_repS {X : Cx} : OpR X (binaryOp .Mult) (rRepS X.K) := by
  intro pins s σ H x y v u Q I rx ry h
  obtain ⟨l, k, xs, rfl, rfl, hT, hne, q⟩ := h
  cases rx
  obtain ⟨t, rfl⟩ := ry
  obtain ⟨its, r, ⟨⟨cls, dd, data, sl⟩, ho, hc, n, hd⟩, hs⟩ := I.tuple hT
  simp only at hc hd
  subst hc hd
  have hle : its.length = xs.length := r.length.symm
  have hn : its ≠ [] := fun e => hne (by
    rw [e] at hle
    exact List.eq_nil_of_length_eq_zero hle.symm)
  have hi : its.toArray.isEmpty = false := by
    cases its with
    | nil => exact absurd rfl hn
    | cons a b => rfl
  rcases q with ⟨rfl, q⟩ | ⟨rfl, q⟩
  · refine wpAny_binaryOp_repeat_ref (T := "tuple") (U := "int") (by decide) ⟨_, ho, rfl⟩ (fun s' => typeIs_int s' 1 t) noFill_tuple_mul F.fills_int_mul F.slot_int_rmul repeat_tuple F.slot_int_index.lookup
      (call_meets F.slot_int_rmul (typeIs_int s 1 t) F.entry_int_rmul (F.args_int_rmul_2 _ _) (int_rmul_tuple 1 t l its.toArray n dd sl)
        ⟨ho, rfl, ⟨_, ho, rfl⟩, call_meets F.slot_tuple_mul ⟨_, ho, rfl⟩ F.entry_tuple_mul (F.args_tuple_mul_2 _ _) (tuple_mul_one l its.toArray n sl dd t) ⟨ho, ?_⟩⟩)
    exact ⟨.ref l, _, I, rfl, q⟩
  · refine wpAny_binaryOp_repeat_ref (T := "tuple") (U := "int") (by decide) ⟨_, ho, rfl⟩ (fun s' => typeIs_int s' 0 t) noFill_tuple_mul F.fills_int_mul F.slot_int_rmul repeat_tuple F.slot_int_index.lookup
      (call_meets F.slot_int_rmul (typeIs_int s 0 t) F.entry_int_rmul (F.args_int_rmul_2 _ _) (int_rmul_tuple 0 t l its.toArray n dd sl)
        ⟨ho, rfl, ⟨_, ho, rfl⟩, call_meets F.slot_tuple_mul ⟨_, ho, rfl⟩ F.entry_tuple_mul (F.args_tuple_mul_2 _ _) (tuple_mul_zero l its.toArray n dd sl t hi) ⟨ho, ?_⟩⟩)
    refine ⟨.ref s.heap.objs.size, _, I.laid (t' := s.toks) (o := .tup []) (fun b ob q => Heap.get?_push_of_some _ q) (Nat.le_refl _) ?_, rfl, q _ (I.hok.fresh (Nat.le_refl _))⟩
    exact ⟨by simp, _, .nil, IsTup.new _ _⟩
end L2

end

section
set_option Elab.async false
set_option linter.all false
set_option maxRecDepth 100000
set_option maxHeartbeats 4000000
/-! GL: sequences, built-ins. -/
namespace GL
open PySem PySem.Spec PyProof.Rows L2

def lstW (S : Sto) : G → Option (List G)
  | .tl l => some l
  | .ref n => (match S[n]? with
    | some (.lst true l) => some l
    | _ => none)
  | _ => none
/-- + of all kinds -/
def gAddA (x y : G) (S : Sto) : Option G := match gAdd x y S with
  | some g => some g
  | none => (match lstW S x, lstW S y with
    | some i, some j => if i.length + j.length ≤ sizeLine then some (.tl (i ++ j)) else none
    | _, _ => none)
def repL {a : Type} (n : Nat) (l : List a) : List a := (List.replicate n l).flatten
def strMulOk (x : Str) (n : Int) : Bool := decide (0 ≤ n) && decide (n ≤ 10000) && decide (x.length ≤ 1000)
/-- * of all kinds -/
noncomputable def gMulA (x y : G) (S : Sto) : Option G := match x, y with
  | .int i, .int j => if mulOk i j then some (.int (i * j)) else none
  | .str s, .int k => if strMulOk s k then some (.str (Txt.mul s k)) else none
  | .tup l, .int k => if l ≠ [] ∧ 0 ≤ k ∧ k ≤ 1000 ∧ l.length ≤ 1000 then some (.tup (repL k.toNat l)) else none
  | x, .int k => (match lstW S x with
    | some l => if 0 ≤ k ∧ k ≤ 1000 ∧ l.length ≤ 1000 then some (.tl (repL k.toNat l)) else none
    | none => none)
  | _, _ => none
def gIx (x y : G) (S : Sto) : Option G := match y with
  | .int i => (match x with
    | .str z => if z.length ≤ sizeLine then (atI z.cps.toList i).map fun c => .str ⟨#[c]⟩ else none
    | x => (match seqG S x with
      | some l => atI l i
      | none => none))
  | _ => none
def cutG (l : List G) (lo hi : Option Int) : List G := (l.drop (HT.sIx l.length 0 lo)).take (HT.sIx l.length l.length hi - HT.sIx l.length 0 lo)
def gSl (x : G) (lo hi : Option Int) (S : Sto) : Option G := match x with
  | .str z => if z.length ≤ sizeLine then some (.str (cutS z lo hi)) else none
  | .tup l => some (.tup (cutG l lo hi))
  | x => (match seqG S x with
    | some l => some (.tl (cutG l lo hi))
    | none => none)
def oE (e : Option Ev) : Loc → Sto → R (Option Int) := fun l S => match e with
  | none => .ok none S
  | some e => rb (e l S) fun x S => match x with
    | .int i => .ok (some i) S
    | _ => .bad
def eSl (o : Ev) (lo hi : Option Ev) : Ev := fun l S => rb (o l S) fun x S => rb (oE lo l S) fun i S => rb (oE hi l S) fun j S => ro (gSl x i j S) S
def gRev (x : G) (S : Sto) : Option G := match x with
  | .tup _ => none
  | x => (seqG S x).map fun l => .tl l.reverse
def gTup (xs : List G) (_ : Sto) : Option G := if xs.length ≤ sizeLine then some (.tup xs) else none
def gLst (xs : List G) (_ : Sto) : Option G := if xs.length ≤ sizeLine then some (.tl xs) else none
def gLen (xs : List G) (S : Sto) : Option G := match xs with
  | [.str z] => if z.length ≤ sizeLine then some (.int z.length) else none
  | [x] => (seqG S x).map fun l => .int l.length
  | _ => none
def gTuple (xs : List G) (S : Sto) : Option G := match xs with
  | [x] => (seqG S x).map fun l => .tup l
  | _ => none
def gList (xs : List G) (S : Sto) : Option G := match xs with
  | [x] => (seqG S x).map fun l => .tl l
  | _ => none
def gInt (xs : List G) (_ : Sto) : Option G := match xs with
  | [.int i] => some (.int i)
  | [.bl b] => some (.int (if b then 1 else 0))
  | [.str z] => if z.length ≤ 640 then (PySem.intText? z).map .int else none
  | _ => none
def gAbs (xs : List G) (_ : Sto) : Option G := match xs with
  | [.int i] => some (.int (if i < 0 then -i else i))
  | _ => none
def intsG : List G → Option (List Int)
  | [] => some []
  | .int i :: r => (intsG r).map fun l => i :: l
  | _ :: _ => none
def blsG : List G → Option (List Bool)
  | [] => some []
  | .bl i :: r => (blsG r).map fun l => i :: l
  | _ :: _ => none
def strsG : List G → Option (List Str)
  | [] => some []
  | .str i :: r => (strsG r).map fun l => i :: l
  | _ :: _ => none
def leastI : List Int → Option Int
  | [] => none
  | i :: r => some (r.foldl (fun a b => if b < a then b else a) i)
def gMin (xs : List G) (S : Sto) : Option G := match xs with
  | [.int i, .int j] => some (.int (if j < i then j else i))
  | [.tl l] => (intsG l).bind fun l => (leastI l).map .int
  | [.ref n] => (lstAt S n).bind fun l => (intsG l).bind fun l => (leastI l).map .int
  | _ => none
def gMax (xs : List G) (_ : Sto) : Option G := match xs with
  | [.int i, .int j] => some (.int (if j > i then j else i))
  | _ => none
def gSum (xs : List G) (S : Sto) : Option G := match xs with
  | [.tup _] => none
  | [x] => (seqG S x).bind fun l => (intsG l).map fun l => .int l.sum
  | _ => none
def gAll (xs : List G) (S : Sto) : Option G := match xs with
  | [.tup _] => none
  | [x] => (seqG S x).bind fun l => (blsG l).map fun l => .bl (l.all id)
  | _ => none
def gAny (xs : List G) (S : Sto) : Option G := match xs with
  | [.tup _] => none
  | [x] => (seqG S x).bind fun l => (blsG l).map fun l => .bl (l.any id)
  | _ => none

section
variable {r : RP} {T : List (Addr × Str)} {X : Cx} {m : List Addr} {H : Hp} {S : Sto} {W : WX} {a b c : Expr} {fa fb fc : Ev} {pos : Pos}
theorem lstW_rep (hR : Rep r T m S H) {g : G} {v : V} {l : List G} (h : RepV r m H g v) (e : lstW S g = some l) : ∃ p vs, v = .ref p ∧ vs.length ≤ sizeLine ∧ RepVs r m H l vs ∧ H p = some (.lst vs) := by
  cases h with
  | tl n h z t => cases e; exact ⟨_, _, rfl, z, t, h⟩
  | @ref n a h =>
    have e : (match S[n]? with
      | some (.lst true l) => some l
      | _ => none) = some l := e
    cases q : S[n]? with
    | none => rw [q] at e; cases e
    | some o =>
      rw [q] at e
      cases o with
      | lst w l' =>
        cases w with
        | true =>
          cases e
          obtain ⟨vs, h1, z, t⟩ := hR.obj n a _ h q
          exact ⟨_, vs, rfl, z, t, h1⟩
        | false => cases e
      | dic _ _ => cases e
      | ins _ _ => cases e
  | _ => cases e
theorem seqL_rep (hR : Rep r T m S H) {g : G} {v : V} {l : List G} (h : RepV r m H g v) (nt : ∀ l, g ≠ .tup l) (e : seqG S g = some l) : ∃ p vs, v = .ref p ∧ vs.length ≤ sizeLine ∧ RepVs r m H l vs ∧ SqL r.K H p vs := by
  cases h with
  | tup => exact absurd rfl (nt _)
  | fz h z t => cases e; exact ⟨_, _, rfl, z, t, h.elim (fun ⟨_, o, q⟩ => .inl (.inr ⟨o, q⟩)) .inr⟩
  | tl n h z t => cases e; exact ⟨_, _, rfl, z, t, .inl (.inl h)⟩
  | @ref n a h =>
    have e : lstAt S n = some l := e
    unfold lstAt at e
    cases q : S[n]? with
    | none => rw [q] at e; cases e
    | some o =>
      rw [q] at e
      cases o with
      | lst w l' =>
        cases e
        have ho := hR.obj n a _ h q
        cases w with
        | true => obtain ⟨vs, h1, z, t⟩ := ho; exact ⟨_, vs, rfl, z, t, .inl (.inl h1)⟩
        | false => obtain ⟨vs, h1, z, t⟩ := ho; exact ⟨_, vs, rfl, z, t, .inl h1⟩
      | dic _ _ => cases e
      | ins _ _ => cases e
  | _ => cases e
theorem op_gAddA (hK : X.K = r.K) : OpR X (binaryOp .Add) (rP2 r T gAddA) := OpR_imp ((op_gAdd (T := T) hK).or op_cat) fun x y H Q ⟨m, S, g1, g2, g, hR, h1, h2, e, k⟩ => by
  unfold gAddA at e
  split at e
  · rename_i g' e1
    cases e
    exact .inl ⟨m, S, g1, g2, _, hR, h1, h2, e1, k⟩
  · split at e
    · rename_i i j e1 e2
      split at e
      · rename_i c
        cases e
        obtain ⟨p, vs, rfl, z1, t1, q1⟩ := lstW_rep hR h1 e1
        obtain ⟨p2, vs2, rfl, z2, t2, q2⟩ := lstW_rep hR h2 e2
        have l1 := t1.length
        have l2 := t2.length
        refine .inr ⟨_, _, _, _, rfl, rfl, q1, q2, by omega, fun p hp => ?_⟩
        exact k _ _ (Ext.new hp _) (hR.fresh hp _) (hR.newTl hp (by rw [List.length_append]; omega) (t1.append t2))
      · cases e
    · cases e
theorem atI_rep {l : List G} {vs : List V} {i : Int} {g : G} (t : RepVs r m H l vs) (e : atI l i = some g) : ∃ v, atI vs i = some v ∧ RepV r m H g v := by
  unfold atI at e ⊢
  rw [← t.length]
  cases q : ixN l.length i with
  | none => rw [q] at e; cases e
  | some j =>
    rw [q] at e
    exact t.get e
theorem IxR_imp {X : Cx} {t t' : R2} (h : IxR X t) (i : ∀ x y H Q, t' x y H Q → t x y H Q) : IxR X t' := by
  intro value slice pins s l H x y v u Q I rx ry w hs
  exact h value slice pins s l H x y v u Q I rx ry (i _ _ _ _ w) hs
theorem MtR_imp {X : Cx} {id : String} {t t' : V → List V → Hp → VK → Prop} (h : MtR X id t) (i : ∀ x y H Q, t' x y H Q → t x y H Q) : MtR X id t' := by
  intro pins s l H x xs v us Q I rx ry w
  exact h pins s l H x xs v us Q I rx ry (i _ _ _ _ w)
theorem SlR_imp {X : Cx} {t t' : V → Option Int → Option Int → Hp → VK → Prop} (h : SlR X t) (i : ∀ x lo hi H Q, t' x lo hi H Q → t x lo hi H Q) : SlR X t' := fun _ _ _ _ _ _ _ _ _ _ _ _ I rx a b c w => h _ _ _ _ _ _ _ _ _ _ _ _ I rx a b c (i _ _ _ _ _ w)
theorem ix_gIx (hK : X.K = r.K) : IxR X (rP2 r T gIx) := IxR_imp ix_seq (fun x y H Q h => by
  obtain ⟨m, S, g1, g2, g, hR, h1, h2, e, k⟩ := h
  rw [hK]
  unfold gIx at e
  split at e
  · rename_i i
    cases h2
    split at e
    · cases h1
      split at e
      · rename_i z c
        cases q : atI z.cps.toList i with
        | none => rw [q] at e; cases e
        | some ch =>
          rw [q] at e; cases e
          exact .inr (.inr ⟨z, i, ch, rfl, rfl, c, q, k H _ (.refl _ _) hR (.str _)⟩)
      · cases e
    · split at e
      · rename_i l' e1
        obtain ⟨p, vs, rfl, z1, t1, q1⟩ := seq_rep hR h1 e1
        obtain ⟨v', e2, t2⟩ := atI_rep t1 e
        rcases q1 with q1 | q1
        · exact .inl ⟨p, vs, i, v', rfl, rfl, q1, e2, k H _ (.refl _ _) hR t2⟩
        · exact .inr (.inl ⟨p, vs, i, v', rfl, rfl, q1, e2, k H _ (.refl _ _) hR t2⟩)
      · cases e
  · cases e)
theorem g_ix {f : G → G → Sto → Option G} (ho : IxR X (rP2 r T f)) (ha : PE X a (tF r T W fa)) (hb : PE X b (tF r T W fb)) (hs : PlainIx b) : PE X (.Subscript a b pos) (tF r T W (e2 f fa fb)) :=
  PE_imp (pe_ix ho ha hb hs) fun s H Q ⟨m, S, l, hR, hL, q⟩ => mono_tF (stE hR hL q) fun x H1 ⟨m1, S1, g, e, hR1, hL1, h1, q1⟩ => mono_tF (stE hR1 hL1 q1) fun y H2 ⟨m2, S2, g2, e2, hR2, hL2, h2, q2⟩ => fin2 hR2 (h1.ext e2) h2 q2
/-- slices -/
def rPS (r : RP) (T : List (Addr × Str)) : V → Option Int → Option Int → Hp → VK → Prop := fun x lo hi H Q => ∃ m S g1 g, Rep r T m S H ∧ RepV r m H g1 x ∧ gSl g1 lo hi S = some g ∧
  ∀ H' v, Ext m H m H' → Rep r T m S H' → RepV r m H' g v → Q v H'
theorem cut_rep {l : List G} {vs : List V} (t : RepVs r m H l vs) (lo hi : Option Int) : RepVs r m H (cutG l lo hi) (cutV vs lo hi) := by
  unfold cutG cutV
  rw [t.length]
  exact (t.drop _).take _
theorem sl_gSl (hK : X.K = r.K) : SlR X (rPS r T) := by
  refine SlR_imp (sl_list.or (sl_tupA.or sl_str)) fun x lo hi H Q ⟨m, S, g1, g, hR, h1, e, k⟩ => ?_
  rw [hK]
  unfold gSl at e
  split at e
  · split at e
    · cases e
      cases h1
      exact .inr (.inr ⟨_, rfl, by assumption, k H _ (.refl _ _) hR (.str _)⟩)
    · cases e
  · cases e
    cases h1 with
    | tup h z t =>
      have cl := t.length
      have q := cut_rep t lo hi
      refine .inr (.inl ⟨_, _, rfl, TupSq h, fun w => ?_, fun _ p hp => ?_⟩)
      · refine k H _ (.refl _ _) hR (.tup h z ?_)
        unfold cutG
        rw [cl, w.1, w.2]
        simp only [List.drop_zero, Nat.sub_zero, ← cl, List.take_length]
        exact t
      · exact k _ _ (Ext.new hp _) (hR.fresh hp _) (hR.newTup hp (Nat.le_trans (cutV_length _ _ _) z) q)
  · split at e
    · rename_i nt _ l e1
      cases e
      obtain ⟨p, vs, rfl, z1, t1, q1⟩ := seqL_rep hR h1 (fun l z => nt l z) e1
      exact .inl ⟨_, _, rfl, q1, fun p hp => k _ _ (Ext.new hp _) (hR.fresh hp _) (hR.newTl hp (Nat.le_trans (cutV_length _ _ _) z1) (cut_rep t1 lo hi))⟩
    · cases e
theorem g_rev {k : Nat} {p1 p2 p3 : Pos} (hK : X.K = r.K) (ha : PE X a (tF r T W fa)) : PE X (.Subscript a (.Slice none none (some (.UnaryOp .USub (.Constant (.int 1) k p1) p2)) p3) pos) (tF r T W (e1 gRev fa)) :=
  PE_imp (pe_revL ha) fun s H Q ⟨m, S, l, hR, hL, q⟩ => mono_tF (stE hR hL q) fun x H1 ⟨m1, S1, g, e, hR1, hL1, h1, q1⟩ => by
    obtain ⟨m2, S2, g1, g2, hR2, h2, e2, k⟩ := fin1 hR1 h1 q1
    unfold gRev at e2
    split at e2
    · cases e2
    · rename_i nt
      cases e3 : seqG S2 g1 with
      | none => rw [e3] at e2; cases e2
      | some l2 =>
        rw [e3] at e2
        cases e2
        obtain ⟨p, vs, rfl, z1, t1, q1⟩ := seqL_rep hR2 h2 (fun l z => nt l z) e3
        rw [hK]
        exact ⟨_, _, rfl, q1, fun p hp => k _ _ (Ext.new hp _) (hR2.fresh hp _) (hR2.newTl hp (by rw [List.length_reverse]; exact z1) t1.reverse)⟩
/-- a part of a slice -/
def oEr (r : RP) (T : List (Addr × Str)) (W : WX) (e : Option Ev) : TO := fun s H Q => ∃ m S l, Rep r T m S H ∧ RepL r m H l s ∧ Pst r T W (fun _ _ (x y : Option Int) => x = y) s m H (oE e l S) Q
theorem g_ono : PO X none (oEr r T W none) := by
  refine ⟨fun pins s l H Q I ⟨m, S, l', hR, hL, q⟩ => ?_⟩
  exact po_none.run pins s l H Q I (q.ok_of hR rfl)
theorem PO_imp {X : Cx} {e : Option Expr} {t t' : TO} (h : PO X e t) (i : ∀ s H Q, t' s H Q → t s H Q) : PO X e t' := ⟨fun pins s l H Q I w => h.run pins s l H Q I (i _ _ _ w)⟩
theorem g_oso (h : PE X a (tF r T W fa)) : PO X (some a) (oEr r T W (some fa)) :=
  PO_imp (po_some h) fun s H Q ⟨m, S, l, hR, hL, q⟩ => mono_tF (stE (rel2 := fun _ _ (x y : Option Int) => x = y) hR hL q) fun x H1 ⟨m1, S1, g, e, hR1, hL1, h1, q1⟩ => by
    cases g <;> try exact False.elim q1
    cases h1
    exact ⟨_, rfl, q1.ok_of hR1 rfl⟩
theorem stO {s : L2.St} {l : Loc} {c d : Type} {rel2 : List Addr → Hp → c → d → Prop} {Q : d → Hp → Prop} {e : Option Ev} {k : Option Int → Sto → R c} (hR : Rep r T m S H) (hL : RepL r m H l s) (h : Pst r T W rel2 s m H (rb (oE e l S) k) Q) :
    oEr r T W e s H (StepE r T W (fun _ _ (x y : Option Int) => x = y) rel2 s l m H k Q) :=
  ⟨m, S, l, hR, hL, Pst.mono (Pst.bind (rel := fun _ _ (x y : Option Int) => x = y) h) fun x H1 ⟨m1, S1, g, e, a, b, q⟩ => ⟨m1, S1, g, e, a, hL.ext e, b, q⟩⟩
theorem mono_oEr {f : Option Ev} {s : L2.St} {H : Hp} {Q Q' : Option Int → Hp → Prop} (h : oEr r T W f s H Q) (i : ∀ v H', Q v H' → Q' v H') : oEr r T W f s H Q' :=
  let ⟨m, S, l, a, b, q⟩ := h; ⟨m, S, l, a, b, q.mono i⟩
theorem g_sl {lo hi : Option Expr} {fl fh : Option Ev} {p2 : Pos} (hK : X.K = r.K) (ha : PE X a (tF r T W fa)) (hl : PO X lo (oEr r T W fl)) (hh : PO X hi (oEr r T W fh)) : PE X (.Subscript a (.Slice lo hi none p2) pos) (tF r T W (eSl fa fl fh)) :=
  PE_imp (pe_slice (sl_gSl (T := T) hK) ha hl hh) fun s H Q ⟨m, S, l, hR, hL, q⟩ => mono_tF (stE hR hL q) fun x H1 ⟨m1, S1, g, e, hR1, hL1, h1, q1⟩ =>
    mono_oEr (stO hR1 hL1 q1) fun i H2 ⟨m2, S2, i2, e2, hR2, hL2, ei, q2⟩ => mono_oEr (stO hR2 hL2 q2) fun j H3 ⟨m3, S3, j2, e3, hR3, hL3, ej, q3⟩ => by
      subst ei ej
      dsimp only at q3
      cases e4 : gSl g i2 j2 S3 with
      | none => rw [e4] at q3; exact False.elim q3
      | some g' => rw [e4] at q3; exact ⟨m3, S3, g, g', hR3, (h1.ext e2).ext e3, e4, fun H' v e' a b => q3 m3 H' v e' a b⟩
/-! displays -/
variable {es : List Expr} {fs : As}
theorem g_tup {k : Nat} (h : PA X es (tFA r T W fs)) : PE X (.Tuple es k pos) (tF r T W (eA gTup fs)) :=
  PE_imp (pe_tup h) fun s H Q ⟨m, S, l, hR, hL, q⟩ => mono_tFA (stA hR hL q) fun x H1 ⟨m1, S1, g, e, hR1, hL1, h1, q1⟩ => by
    obtain ⟨m2, S2, g1, g2, hR2, h2, e2, k⟩ := finA hR1 h1 q1
    unfold gTup at e2
    split at e2
    · cases e2
      have hl := h2.length
      exact ⟨by omega, fun p hp => k _ _ (Ext.new hp _) (hR2.fresh hp _) (hR2.newTup hp (by omega) h2)⟩
    · cases e2
theorem g_lst (h : PA X es (tFA r T W fs)) : PE X (.List es pos) (tF r T W (eA gLst fs)) :=
  PE_imp (pe_lst h) fun s H Q ⟨m, S, l, hR, hL, q⟩ => mono_tFA (stA hR hL q) fun x H1 ⟨m1, S1, g, e, hR1, hL1, h1, q1⟩ => by
    obtain ⟨m2, S2, g1, g2, hR2, h2, e2, k⟩ := finA hR1 h1 q1
    unfold gLst at e2
    split at e2
    · cases e2
      have hl := h2.length
      exact ⟨by omega, fun p hp => k _ _ (Ext.new hp _) (hR2.fresh hp _) (hR2.newTl hp (by omega) h2)⟩
    · cases e2
/-- a list that goes to the store -/
def eLstA (fs : As) : Ev := fun l S => rb (fs l S) fun xs S => if xs.length ≤ sizeLine then .ok (.ref S.length) (S ++ [.lst true xs]) else .bad
theorem g_lstA (h : PA X es (tFA r T W fs)) : PE X (.List es pos) (tF r T W (eLstA fs)) :=
  PE_imp (pe_lst h) fun s H Q ⟨m, S, l, hR, hL, q⟩ => mono_tFA (stA hR hL q) fun x H1 ⟨m1, S1, g, e, hR1, hL1, h1, q1⟩ => by
    have hl := h1.length
    dsimp only at q1
    split at q1
    · refine ⟨by omega, fun p hp => ?_⟩
      have ex : Ext m1 H1 (m1 ++ [p]) (upd H1 p (.lst x)) := Ext.alloc hp _
      refine q1 (m1 ++ [p]) _ _ ex (hR1.alloc hp ⟨x, upd_same, by omega, h1.ext ex⟩) (.ref ?_)
      rw [← hR1.len, List.getElem?_append_right (Nat.le_refl _)]
      simp
    · exact False.elim q1
/-- chains -/
theorem g_ch {op op' : CmpOp} {f g : G → G → Sto → Option G} (ho : OpR X (compareOp op) (rP2 r T f)) (ho' : OpR X (compareOp op') (rP2 r T g)) (ha : PE X a (tF r T W fa)) (hb : PE X b (tF r T W fb)) (hc : PE X c (tF r T W fc))
    (hm : lastMarks [op, op'] [b, c] = false) {s : L2.St} {H : Hp} {Q : VK} (h : tF r T W (eCh f g fa fb fc) s H Q) : tChain (rP2 r T f) (rP2 r T g) (tF r T W fa) (tF r T W fb) (tF r T W fc) s H Q := by
  obtain ⟨m, S, l, hR, hL, q⟩ := h
  refine mono_tF (stE hR hL q) fun x H1 ⟨m1, S1, g1, e, hR1, hL1, h1, q1⟩ => mono_tF (stE hR1 hL1 q1) fun y H2 ⟨m2, S2, g2, e2, hR2, hL2, h2, q2⟩ => ?_
  dsimp only at q2
  cases e3 : f g1 g2 S2 with
  | none => rw [e3] at q2; exact False.elim q2
  | some z =>
    rw [e3] at q2
    refine ⟨m2, S2, g1, g2, z, hR2, h1.ext e2, h2, e3, fun H' v e' a' b' => ?_⟩
    obtain ⟨k, e4, e5, q3⟩ := bof_ok b' (Pst.ext e' q2)
    refine ⟨k, e5, ?_⟩
    cases k with
    | false => rw [if_neg Bool.false_ne_true] at q3 ⊢; exact q3.ok_of a' (.bl false)
    | true =>
      rw [if_pos rfl] at q3 ⊢
      exact mono_tF (stE a' (hL2.ext e') q3) fun w' H4 ⟨m4, S4, g4, e4, hR4, hL4, h4, q4⟩ => fin2 hR4 ((h2.ext e').ext e4) h4 q4
theorem g_chE {op op' : CmpOp} {f g : G → G → Sto → Option G} (ho : OpR X (compareOp op) (rP2 r T f)) (ho' : OpR X (compareOp op') (rP2 r T g)) (ha : PE X a (tF r T W fa)) (hb : PE X b (tF r T W fb)) (hc : PE X c (tF r T W fc))
    (hm : lastMarks [op, op'] [b, c] = false) : PE X (.Compare a [op, op'] [b, c] pos) (tF r T W (eCh f g fa fb fc)) := PE_imp (pe_chain ho ho' ha hb hc hm) fun s H Q h => g_ch ho ho' ha hb hc hm h
/-- a test by a value -/
theorem tV_imp {f : Ev} {s : L2.St} {H : Hp} {Q : Bool → Hp → Prop} (h : tFT r T W (tV f) s H Q) : tF r T W f s H fun x H' => ∃ k, x = .bl k ∧ Q k H' := by
  obtain ⟨m, S, l, hR, hL, q⟩ := h
  exact mono_tF (stE hR hL q) fun x H1 ⟨m1, S1, g, e, hR1, hL1, h1, q1⟩ => by
    obtain ⟨k, e4, e5, q3⟩ := bof_okT h1 q1
    exact ⟨k, e5, q3.ok_of hR1 rfl⟩
theorem g_chT {op op' : CmpOp} {f g : G → G → Sto → Option G} (ho : OpR X (compareOp op) (rP2 r T f)) (ho' : OpR X (compareOp op') (rP2 r T g)) (ha : PE X a (tF r T W fa)) (hb : PE X b (tF r T W fb)) (hc : PE X c (tF r T W fc))
    (hm : lastMarks [op, op'] [b, c] = false) : PT X (.Compare a [op, op'] [b, c] pos) (tFT r T W (tV (eCh f g fa fb fc))) := PT_imp (pt_chain ho ho' ha hb hc hm) fun s H Q h => g_ch ho ho' ha hb hc hm (tV_imp h)
/-- not, as a value; unary minus -/
theorem g_not {ta : Te} (h : PE X a (tF r T W fa)) (ht : ∀ l S, ta l S = tV fa l S) : PE X (.UnaryOp .Not a pos) (tF r T W (eNot ta)) :=
  PE_imp (pe_not h) fun s H Q ⟨m, S, l, hR, hL, q⟩ => by
    have q' : Pst r T W (RepV r) s m H (rb (fa l S) fun x S => bof x fun c => .ok (.bl (!c)) S) Q := by
      unfold eNot at q
      rw [ht] at q
      unfold tV at q
      revert q
      cases fa l S with
      | ok x S1 =>
        show Pst _ _ _ _ _ _ _ (rb (bof x _) _) _ → Pst _ _ _ _ _ _ _ (bof x _) _
        cases x <;> exact id
      | exc _ _ _ => exact id
      | bad => exact id
    refine mono_tF (stE hR hL q') fun x H1 ⟨m1, S1, g, e, hR1, hL1, h1, q1⟩ => ?_
    obtain ⟨k, e4, e5, q3⟩ := bof_ok h1 q1
    exact ⟨k, e5, q3.ok_of hR1 (.bl _)⟩
theorem g_neg (h : PE X a (tF r T W fa)) : PE X (.UnaryOp .USub a pos) (tF r T W (e1 gNeg fa)) :=
  PE_imp (pe_un un_neg h) fun s H Q ⟨m, S, l, hR, hL, q⟩ => mono_tF (stE hR hL q) fun x H1 ⟨m1, S1, g, e, hR1, hL1, h1, q1⟩ => by
    obtain ⟨m2, S2, g1, g2, hR2, h2, e2, k⟩ := fin1 hR1 h1 q1
    unfold gNeg at e2
    split at e2
    · cases h2
      cases e2
      exact ⟨_, rfl, k _ _ (.refl _ _) hR2 (.int _)⟩
    · cases e2
end
end GL

end

section
set_option Elab.async false
set_option linter.all false
set_option maxRecDepth 100000
set_option maxHeartbeats 4000000
/-! GL: built-ins that are called by their names. -/
namespace GL
open PySem PySem.Spec PyProof.Rows L2
section
variable {r : RP} {T : List (Addr × Str)} {X : Cx} {m : List Addr} {H : Hp} {S : Sto} {W : WX} {a b c : Expr} {fa fb fc : Ev} {pos p : Pos} {es : List Expr} {fs : As}
theorem g_callB {x : Str} {e : Expr} {id : String} {f : List G → Sto → Option G} (hc : CallR X (.builtin id) (rPA r T f)) (hg : Gl X x) (hm : X.mg x = none) (hv : bootBuiltins x = some (.builtin id)) (ha : PA X (e :: es) (tFA r T W fs))
    (hn : x ≠ "__name__") (hdb : (x == ("__debug__" : Str)) = false) (he : starEach (e :: es) X.env = (false, eval e X.env) :: starEach es X.env) (hpl : (backTo pos (starEach es X.env)).any (·.1) = false) :
    PE X (.Call (.Name x p) (e :: es) [] pos) (tF r T W (eA f fs)) :=
  PE_imp (pe_callB hc hg hm hv ha hn hdb he hpl) fun s H Q ⟨m, S, l, hR, hL, q⟩ => mono_tFA (stA hR hL q) fun x H1 ⟨m1, S1, g, e, hR1, hL1, h1, q1⟩ => finA hR1 h1 q1
theorem g_callTy {x : Str} {e : Expr} {id : String} {f : List G → Sto → Option G} (hc : CallR X (.type id) (rPA r T f)) (hg : Gl X x) (hm : X.mg x = none) (hv : bootBuiltins x = some (.type id)) (ha : PA X (e :: es) (tFA r T W fs))
    (hn : x ≠ "__name__") (hdb : (x == ("__debug__" : Str)) = false) (he : starEach (e :: es) X.env = (false, eval e X.env) :: starEach es X.env) (hpl : (backTo pos (starEach es X.env)).any (·.1) = false) :
    PE X (.Call (.Name x p) (e :: es) [] pos) (tF r T W (eA f fs)) :=
  PE_imp (pe_callTy hc hg hm hv ha hn hdb he hpl) fun s H Q ⟨m, S, l, hR, hL, q⟩ => mono_tFA (stA hR hL q) fun x H1 ⟨m1, S1, g, e, hR1, hL1, h1, q1⟩ => finA hR1 h1 q1
theorem len1 {g : G} {xs : List V} (h : RepVs r m H [g] xs) : ∃ v, xs = [v] ∧ RepV r m H g v := by
  cases h with
  | cons a b => cases b; exact ⟨_, rfl, a⟩
theorem len2 {g g2 : G} {xs : List V} (h : RepVs r m H [g, g2] xs) : ∃ v v2, xs = [v, v2] ∧ RepV r m H g v ∧ RepV r m H g2 v2 := by
  cases h with
  | cons a b =>
    obtain ⟨v, rfl, b'⟩ := len1 b
    exact ⟨_, _, rfl, a, b'⟩
theorem cr_gLen (hK : X.K = r.K) : CallR X (.builtin "len") (rPA r T gLen) := CallR_imp call_len fun xs H Q ⟨m, S, gs, g, hR, h, e, k⟩ => by
  unfold gLen at e
  split at e
  · obtain ⟨v, rfl, h1⟩ := len1 h
    cases h1
    split at e
    · cases e
      exact ⟨_, _, rfl, ⟨by assumption, rfl⟩, k H _ (.refl _ _) hR (.int _)⟩
    · cases e
  · rename_i g1 nt
    obtain ⟨v, rfl, h1⟩ := len1 h
    cases e1 : seqG S g1 with
    | none => rw [e1] at e; cases e
    | some l =>
      rw [e1] at e
      cases e
      obtain ⟨p, vs, rfl, z, t, q⟩ := seq_rep hR h1 e1
      refine ⟨_, vs.length, rfl, ?_, by rw [← t.length]; exact k H _ (.refl _ _) hR (.int _)⟩
      rw [hK]
      exact q.imp (fun q => ⟨_, q, rfl⟩) fun q => ⟨_, q, rfl⟩
  · cases e
theorem cr_gTuple (hK : X.K = r.K) : CallR X (.type "tuple") (rPA r T gTuple) := CallR_imp call_tuple_of fun xs H Q ⟨m, S, gs, g, hR, h, e, k⟩ => by
  unfold gTuple at e
  split at e
  · rename_i g1
    obtain ⟨v, rfl, h1⟩ := len1 h
    cases e1 : seqG S g1 with
    | none => rw [e1] at e; cases e
    | some l =>
      rw [e1] at e
      cases e
      rw [hK]
      by_cases nt : ∀ l, g1 ≠ .tup l
      · obtain ⟨p, vs, rfl, z, t, q⟩ := seqL_rep hR h1 nt e1
        exact ⟨p, vs, rfl, .inl ⟨q, fun l hl => k _ _ (Ext.new hl _) (hR.fresh hl _) (hR.newTup hl z t)⟩⟩
      · obtain ⟨l2, e2⟩ : ∃ l, g1 = .tup l := Classical.byContradiction fun z => nt fun l e => z ⟨l, e⟩
        subst e2
        cases e1
        cases h1 with
        | tup q z t => exact ⟨_, _, rfl, .inr ⟨TupSq q, k H _ (.refl _ _) hR (.tup q z t)⟩⟩
  · cases e
theorem cr_gList (hK : X.K = r.K) : CallR X (.type "list") (rPA r T gList) := CallR_imp call_list_of fun xs H Q ⟨m, S, gs, g, hR, h, e, k⟩ => by
  unfold gList at e
  split at e
  · rename_i g1
    obtain ⟨v, rfl, h1⟩ := len1 h
    cases e1 : seqG S g1 with
    | none => rw [e1] at e; cases e
    | some l =>
      rw [e1] at e
      cases e
      rw [hK]
      obtain ⟨p, vs, rfl, z, t, q⟩ := seq_rep hR h1 e1
      exact ⟨p, vs, rfl, q, fun l hl => k _ _ (Ext.new hl _) (hR.fresh hl _) (hR.newTl hl z t)⟩
  · cases e
theorem cr_gInt : CallR X (.type "int") (rPA r T gInt) := CallR_imp (call_int1.or call_int_str) fun xs H Q ⟨m, S, gs, g, hR, h, e, k⟩ => by
  unfold gInt at e
  split at e
  · obtain ⟨v, rfl, h1⟩ := len1 h
    cases h1; cases e
    exact .inl (.inl ⟨_, rfl, k H _ (.refl _ _) hR (.int _)⟩)
  · obtain ⟨v, rfl, h1⟩ := len1 h
    cases h1; cases e
    exact .inl (.inr ⟨_, rfl, k H _ (.refl _ _) hR (.int _)⟩)
  · rename_i z
    obtain ⟨v, rfl, h1⟩ := len1 h
    cases h1
    split at e
    · rename_i c
      cases q : PySem.intText? z with
      | none => rw [q] at e; cases e
      | some n =>
        rw [q] at e; cases e
        exact .inr ⟨_, _, rfl, q, c, k H _ (.refl _ _) hR (.int _)⟩
    · cases e
  · cases e
theorem cr_gAbs : CallR X (.builtin "abs") (rPA r T gAbs) := CallR_imp call_abs fun xs H Q ⟨m, S, gs, g, hR, h, e, k⟩ => by
  unfold gAbs at e
  split at e
  · obtain ⟨v, rfl, h1⟩ := len1 h
    cases h1; cases e
    exact ⟨_, rfl, k H _ (.refl _ _) hR (.int _)⟩
  · cases e
theorem ints_rep : ∀ {l : List G} {ns : List Int} {vs : List V}, RepVs r m H l vs → intsG l = some ns → vs = ns.map V.int
  | [], ns, _, .nil, e => by cases e; rfl
  | .int i :: l, ns, _, .cons a t, e => by
    cases a
    have e : (intsG l).map (fun l => i :: l) = some ns := e
    cases q : intsG l with
    | none => rw [q] at e; cases e
    | some ns' =>
      rw [q] at e; cases e
      rw [ints_rep t q]; rfl
theorem bls_rep : ∀ {l : List G} {ns : List Bool} {vs : List V}, RepVs r m H l vs → blsG l = some ns → vs = ns.map V.bl
  | [], ns, _, .nil, e => by cases e; rfl
  | .bl i :: l, ns, _, .cons a t, e => by
    cases a
    have e : (blsG l).map (fun l => i :: l) = some ns := e
    cases q : blsG l with
    | none => rw [q] at e; cases e
    | some ns' =>
      rw [q] at e; cases e
      rw [bls_rep t q]; rfl
theorem strs_rep : ∀ {l : List G} {ns : List Str} {vs : List V}, RepVs r m H l vs → strsG l = some ns → vs = ns.map V.str
  | [], ns, _, .nil, e => by cases e; rfl
  | .str i :: l, ns, _, .cons a t, e => by
    cases a
    have e : (strsG l).map (fun l => i :: l) = some ns := e
    cases q : strsG l with
    | none => rw [q] at e; cases e
    | some ns' =>
      rw [q] at e; cases e
      rw [strs_rep t q]; rfl
theorem cr_gMax (hc : X.calm = true) : CallR X (.builtin "max") (rPA r T gMax) := CallR_imp (call_max2 hc) fun xs H Q ⟨m, S, gs, g, hR, h, e, k⟩ => by
  unfold gMax at e
  split at e
  · obtain ⟨v, v2, rfl, h1, h2⟩ := len2 h
    cases h1; cases h2; cases e
    exact ⟨_, _, rfl, k H _ (.refl _ _) hR (.int _)⟩
  · cases e
theorem least_of : ∀ (l : List Int) (i m : Int), (∀ y ∈ i :: l, m ≤ y) → m ∈ i :: l → l.foldl (fun a b => if b < a then b else a) i = m
  | [], i, m, h, hm => by
    simp at hm; exact hm.symm
  | j :: l, i, m, h, hm => by
    show l.foldl _ (if j < i then j else i) = m
    refine least_of l _ m (fun y hy => ?_) ?_
    · rcases List.mem_cons.mp hy with e | e
      · subst e
        split
        · exact h j (by simp)
        · exact h i (by simp)
      · exact h y (by simp [e])
    · have h1 := h i (by simp)
      have h2 := h j (by simp)
      simp only [List.mem_cons] at hm ⊢
      rcases hm with e | e | e
      · left; split <;> omega
      · left; split <;> omega
      · exact .inr e
theorem cr_gMin (hK : X.K = r.K) (hc : X.calm = true) : CallR X (.builtin "min") (rPA r T gMin) := CallR_imp ((call_min2 hc).or (cr_min hc)) fun xs H Q ⟨m, S, gs, g, hR, h, e, k⟩ => by
  have fin : ∀ {l : List G} {v : V} {g1 : G}, RepV r m H g1 v → (∀ l, g1 ≠ .tup l) → seqG S g1 = some l → ((intsG l).bind fun l => (leastI l).map .int) = some g → rMin X.K [v] H Q := by
    intro l v g1 h1 nt e1 e2
    obtain ⟨p, vs, rfl, z, t, q⟩ := seqL_rep hR h1 nt e1
    cases e3 : intsG l with
    | none => rw [e3] at e2; cases e2
    | some ns =>
      rw [e3] at e2
      cases ns with
      | nil => cases e2
      | cons i ns =>
        cases e2
        have ev := ints_rep t e3
        rw [hK]
        refine ⟨p, i :: ns, rfl, by rw [← ev]; exact q, by simp, fun y hy hle => ?_⟩
        have := least_of ns i y hle hy
        rw [← this]
        exact k H _ (.refl _ _) hR (.int _)
  unfold gMin at e
  split at e
  · obtain ⟨v, v2, rfl, h1, h2⟩ := len2 h
    cases h1; cases h2; cases e
    exact .inl ⟨_, _, rfl, k H _ (.refl _ _) hR (.int _)⟩
  · obtain ⟨v, rfl, h1⟩ := len1 h
    exact .inr (fin h1 (by intro _ z; cases z) rfl e)
  · rename_i n
    obtain ⟨v, rfl, h1⟩ := len1 h
    cases e1 : lstAt S n with
    | none => rw [e1] at e; cases e
    | some l => rw [e1] at e; exact .inr (fin h1 (by intro _ z; cases z) e1 e)
  · cases e
theorem cr_gSum (hK : X.K = r.K) (hc : X.calm = true) : CallR X (.builtin "sum") (rPA r T gSum) := CallR_imp (cr_sum hc) fun xs H Q ⟨m, S, gs, g, hR, h, e, k⟩ => by
  unfold gSum at e
  split at e
  · cases e
  · rename_i g1 nt
    obtain ⟨v, rfl, h1⟩ := len1 h
    cases e1 : seqG S g1 with
    | none => rw [e1] at e; cases e
    | some l =>
      rw [e1] at e
      have e : (intsG l).map (fun l => G.int l.sum) = some g := e
      cases e2 : intsG l with
      | none => rw [e2] at e; cases e
      | some ns =>
        rw [e2] at e; cases e
        obtain ⟨p, vs, rfl, z, t, q⟩ := seqL_rep hR h1 (fun l z => nt l z) e1
        rw [hK]
        exact ⟨p, ns, rfl, by rw [← ints_rep t e2]; exact q, k H _ (.refl _ _) hR (.int _)⟩
  · cases e
theorem cr_gAll (hK : X.K = r.K) (hc : X.calm = true) : CallR X (.builtin "all") (rPA r T gAll) := CallR_imp (cr_all hc) fun xs H Q ⟨m, S, gs, g, hR, h, e, k⟩ => by
  unfold gAll at e
  split at e
  · cases e
  · rename_i g1 nt
    obtain ⟨v, rfl, h1⟩ := len1 h
    cases e1 : seqG S g1 with
    | none => rw [e1] at e; cases e
    | some l =>
      rw [e1] at e
      have e : (blsG l).map (fun l => G.bl (l.all id)) = some g := e
      cases e2 : blsG l with
      | none => rw [e2] at e; cases e
      | some ns =>
        rw [e2] at e; cases e
        obtain ⟨p, vs, rfl, z, t, q⟩ := seqL_rep hR h1 (fun l z => nt l z) e1
        rw [hK]
        exact ⟨p, ns, rfl, by rw [← bls_rep t e2]; exact q, k H _ (.refl _ _) hR (.bl _)⟩
  · cases e
theorem cr_gAny (hK : X.K = r.K) (hc : X.calm = true) : CallR X (.builtin "any") (rPA r T gAny) := CallR_imp (cr_any hc) fun xs H Q ⟨m, S, gs, g, hR, h, e, k⟩ => by
  unfold gAny at e
  split at e
  · cases e
  · rename_i g1 nt
    obtain ⟨v, rfl, h1⟩ := len1 h
    cases e1 : seqG S g1 with
    | none => rw [e1] at e; cases e
    | some l =>
      rw [e1] at e
      have e : (blsG l).map (fun l => G.bl (l.any id)) = some g := e
      cases e2 : blsG l with
      | none => rw [e2] at e; cases e
      | some ns =>
        rw [e2] at e; cases e
        obtain ⟨p, vs, rfl, z, t, q⟩ := seqL_rep hR h1 (fun l z => nt l z) e1
        rw [hK]
        exact ⟨p, ns, rfl, by rw [← bls_rep t e2]; exact q, k H _ (.refl _ _) hR (.bl _)⟩
  · cases e
end
end GL

end

section
set_option Elab.async false
set_option linter.all false
set_option maxRecDepth 100000
set_option maxHeartbeats 4000000
/-! GL: the operations that are left: is, in, *, isinstance. -/
namespace GL
open PySem PySem.Spec PyProof.Rows L2
section
variable {r : RP} {T : List (Addr × Str)} {X : Cx} {m : List Addr} {H : Hp} {S : Sto} {W : WX} {a b c : Expr} {fa fb fc : Ev} {pos : Pos}
theorem isn_rep {x : G} {v : V} {b : Bool} {g : G} (h : RepV r m H x v) (e : gIsN x b = some g) : g = .bl (if v = .non then b else !b) := by
  cases h <;> first
    | (cases e; done)
    | (cases e; simp)
theorem op_gIs : OpR X (compareOp .Is) (rP2 r T gIs) := OpR_imp (op_isN.or op_isBl) fun x y H Q ⟨m, S, g1, g2, g, hR, h1, h2, e, k⟩ => by
  unfold gIs at e
  split at e
  · cases h2
    have := isn_rep h1 e
    subst this
    refine .inl ⟨rfl, ?_⟩
    have q := k H _ (.refl _ _) hR (.bl _)
    by_cases c : x = .non
    · simp only [c] at q ⊢; exact q
    · simp only [c] at q ⊢; exact q
  · rename_i c
    cases h2
    split at e
    · cases h1; cases e
      exact .inr ⟨_, _, rfl, rfl, k H _ (.refl _ _) hR (.bl _)⟩
    all_goals cases e
  · cases e
theorem op_gIsNot : OpR X (compareOp .IsNot) (rP2 r T gIsNot) := OpR_imp (op_notN.or op_notBl) fun x y H Q ⟨m, S, g1, g2, g, hR, h1, h2, e, k⟩ => by
  unfold gIsNot at e
  split at e
  · cases h2
    have := isn_rep h1 e
    subst this
    refine .inl ⟨rfl, ?_⟩
    have q := k H _ (.refl _ _) hR (.bl _)
    by_cases c : x = .non
    · simp only [c] at q ⊢; exact q
    · simp only [c] at q ⊢; exact q
  · rename_i c
    cases h2
    split at e
    · cases h1; cases e
      exact .inr ⟨_, _, rfl, rfl, k H _ (.refl _ _) hR (.bl _)⟩
    all_goals cases e
  · cases e
theorem flat_rep {x : G} {v : V} (h : RepV r m H x v) (f : flatG x = true) : flatV v = true := by
  cases h <;> first | rfl | (cases f; done)
theorem flats_rep : ∀ {l : List G} {vs : List V}, RepVs r m H l vs → l.all flatG = true → vs.all flatV = true
  | _, _, .nil, _ => rfl
  | _, _, .cons a t, f => by
    rw [List.all_cons, Bool.and_eq_true] at f
    rw [List.all_cons, flat_rep a f.1, flats_rep t f.2]; rfl
theorem eqF_rep {x y : G} {v u : V} (h : RepV r m H x v) (h2 : RepV r m H y u) (f : flatG x = true) (f2 : flatG y = true) : eqF x y = eqV v u := by
  cases h <;> first
    | (cases f; done)
    | (cases h2 <;> first
      | (cases f2; done)
      | (simp [eqF, eqV, gD, PyData.eqv]; done)
      | (simp [eqF, eqV, gD, PyData.eqv, Bool.beq_eq_decide_eq]; done)
      | (simp only [eqF, eqV, gD, PyData.eqv]; done)
      | (simp [eqF, eqV, gD, PyData.eqv]; rename_i a b; cases a <;> cases b <;> rfl))
theorem any_rep {x : G} {v : V} (h : RepV r m H x v) (f : flatG x = true) : ∀ {l : List G} {vs : List V}, RepVs r m H l vs → l.all flatG = true → (l.any fun z => eqF z x) = inV v vs
  | _, _, .nil, _ => rfl
  | _, _, .cons a t, f2 => by
    rw [List.all_cons, Bool.and_eq_true] at f2
    unfold inV
    rw [List.any_cons, List.any_cons, eqF_rep a h f2.1 f, any_rep h f t f2.2]; rfl

theorem op_gIn (hK : X.K = r.K) : OpR X (compareOp .In) (rP2 r T gIn) := OpR_imp (op_in_str.or op_in_seq) fun x y H Q ⟨m, S, g1, g2, g, hR, h1, h2, e, k⟩ => by
  unfold gIn at e
  cases e0 : gInB g1 g2 S with
  | none => rw [e0] at e; cases e
  | some b =>
    rw [e0] at e
    cases e
    have q := k H _ (.refl _ _) hR (.bl b)
    unfold gInB at e0
    split at e0
    · split at e0
      · cases h1; cases h2; cases e0
        exact .inl ⟨_, _, rfl, rfl, q⟩
      · cases e0
    · split at e0
      · rename_i l e1
        split at e0
        · rename_i c
          rw [Bool.and_eq_true] at c
          cases e0
          obtain ⟨p, vs, rfl, z, t, hq⟩ := seq_rep hR h2 e1
          rw [hK]
          refine .inr ⟨p, vs, rfl, hq, flat_rep h1 c.1, flats_rep t c.2, ?_⟩
          rw [any_rep h1 c.1 t c.2] at q
          simpa using q
        · cases e0
      · cases e0
theorem op_gNotIn (hK : X.K = r.K) : OpR X (compareOp .NotIn) (rP2 r T gNotIn) := OpR_imp (op_notin_str.or op_notIn_seq) fun x y H Q ⟨m, S, g1, g2, g, hR, h1, h2, e, k⟩ => by
  unfold gNotIn at e
  cases e0 : gInB g1 g2 S with
  | none => rw [e0] at e; cases e
  | some b =>
    rw [e0] at e
    cases e
    have q := k H _ (.refl _ _) hR (.bl (!b))
    unfold gInB at e0
    split at e0
    · split at e0
      · cases h1; cases h2; cases e0
        exact .inl ⟨_, _, rfl, rfl, q⟩
      · cases e0
    · split at e0
      · rename_i l e1
        split at e0
        · rename_i c
          rw [Bool.and_eq_true] at c
          cases e0
          obtain ⟨p, vs, rfl, z, t, hq⟩ := seq_rep hR h2 e1
          rw [hK]
          refine .inr ⟨p, vs, rfl, hq, flat_rep h1 c.1, flats_rep t c.2, ?_⟩
          rw [any_rep h1 c.1 t c.2] at q
          simpa using q
        · cases e0
      · cases e0
theorem op_mulS : OpR X (binaryOp .Mult) (fun x y H Q => ∃ z k, x = .str z ∧ y = .int k ∧ strMulOk z k = true ∧ Q (.str (Txt.mul z k)) H) := by
  intro pins s σ H x y v u Q I rx ry h
  obtain ⟨z, k, rfl, rfl, c, q⟩ := h
  obtain ⟨t, rfl⟩ := rx
  obtain ⟨t', rfl⟩ := ry
  unfold strMulOk at c
  simp only [Bool.and_eq_true, decide_eq_true_eq] at c
  obtain ⟨⟨c1, c2⟩, c3⟩ := c
  refine PySem.SB.mul ⟨by rw [decide_eq_false (by omega), decide_eq_false (by omega)]; rfl, fun h1 _ => ?_, fun h1 _ => ?_⟩ fun t' n => ⟨.str _, H, I.tok _, ⟨_, rfl⟩, q⟩
  · have a1 : (z.length : Int) * k ≤ 1000 * 10000 := Int.mul_le_mul (by omega) (by omega) (by omega) (by omega)
    have a2 : (z.length : Int) ≤ (2 ^ 63 - 1) / k := Int.le_ediv_of_mul_le (by omega) (by omega)
    omega
  · unfold Builtin.Str.tooLong
    have a1 : z.length * k.toNat ≤ 1000 * 10000 := Nat.mul_le_mul c3 (by omega)
    have a2 := sizeLine_eq
    simp only [decide_eq_false_iff_not]
    omega
theorem rep_rep {l : List G} {vs : List V} (t : RepVs r m H l vs) : ∀ n : Nat, RepVs r m H (repL n l) (List.replicate n vs).flatten
  | 0 => .nil
  | n + 1 => by
    unfold repL
    rw [List.replicate_succ, List.replicate_succ, List.flatten_cons, List.flatten_cons]
    exact t.append (rep_rep t n)
theorem op_gMulA (hK : X.K = r.K) : OpR X (binaryOp .Mult) (rP2 r T gMulA) := OpR_imp (op_mul.or (op_mulS.or (op_repT.or (op_repS.or op_rep)))) fun x y H Q ⟨m, S, g1, g2, g, hR, h1, h2, e, k⟩ => by
  unfold gMulA at e
  split at e
  · split at e
    · rename_i c
      cases h1; cases h2; cases e
      refine .inl ⟨_, _, rfl, rfl, ?_, k H _ (.refl _ _) hR (.int _)⟩
      unfold mulOk at c
      rw [b64_eq] at c
      simp only [Bool.and_eq_true, Bool.or_eq_true, decide_eq_true_eq] at c
      exact c
    · cases e
  · split at e
    · rename_i c
      cases h1; cases h2; cases e
      exact .inr (.inl ⟨_, _, rfl, rfl, c, k H _ (.refl _ _) hR (.str _)⟩)
    · cases e
  · split at e
    · rename_i l n c
      obtain ⟨c1, c2, c3, c4⟩ := c
      cases h2
      cases e
      cases h1 with
      | @tup p vs _ h z t =>
        have hl := t.length
        have hv : vs ≠ [] := fun z => c1 (List.eq_nil_of_length_eq_zero (by rw [hl, z]; rfl))
        rw [hK]
        have sz : ((List.replicate n.toNat vs).flatten : List V).length ≤ sizeLine := by
          rw [PyProof.Rows.lm_len_rep_flat, sizeLine_eq]
          have a1 : n.toNat * l.length ≤ 1000 * 1000 := Nat.mul_le_mul (by omega) c4
          rw [← hl]; omega
        by_cases n2 : 2 ≤ n
        · refine .inr (.inr (.inl ⟨_, _, _, rfl, rfl, TupSq h, hv, n2, c3, by omega, fun p hp => ?_⟩))
          exact k _ _ (Ext.new hp _) (hR.fresh hp _) (hR.newTup hp sz (rep_rep t _))
        · refine .inr (.inr (.inr (.inl ⟨_, _, _, rfl, rfl, TupSq h, hv, ?_⟩)))
          by_cases n1 : n = 1
          · subst n1
            refine .inl ⟨rfl, ?_⟩
            have e1 : repL (1 : Int).toNat l = l := by simp [repL]
            rw [e1] at k
            exact k H _ (.refl _ _) hR (.tup h z t)
          · have n0 : n = 0 := by omega
            subst n0
            refine .inr ⟨rfl, fun p hp => ?_⟩
            exact k _ _ (Ext.new hp _) (hR.fresh hp _) (hR.newTup hp (by simp) (rep_rep t 0))
    · cases e
  · split at e
    · rename_i l e1
      split at e
      · rename_i n _ _ _ _ c
        obtain ⟨c2, c3, c4⟩ := c
        cases h2
        cases e
        obtain ⟨p, vs, rfl, z, t, hq⟩ := lstW_rep hR h1 e1
        have hl := t.length
        have sz : ((List.replicate n.toNat vs).flatten : List V).length ≤ sizeLine := by
          rw [PyProof.Rows.lm_len_rep_flat, sizeLine_eq]
          have a1 : n.toNat * l.length ≤ 1000 * 1000 := Nat.mul_le_mul (by omega) c4
          rw [← hl]; omega
        refine .inr (.inr (.inr (.inr ⟨_, _, _, rfl, rfl, hq, by omega, by omega, ?_, fun p hp => ?_⟩)))
        · rw [sizeLine_eq]
          have a1 : l.length * n.toNat ≤ 1000 * 1000 := Nat.mul_le_mul c4 (by omega)
          rw [← hl]; omega
        · exact k _ _ (Ext.new hp _) (hR.fresh hp _) (hR.newTl hp sz (rep_rep t _))
      · cases e
    · cases e
  · cases e
end
end GL

end

section
set_option Elab.async false
set_option linter.all false
set_option maxRecDepth 100000
set_option maxHeartbeats 4000000
/-! GL: statements, loops, comprehensions. -/
namespace GL
open PySem PySem.Spec PyProof.Rows L2

def PstS (r : RP) (T : List (Addr × Str)) (W : WX) (D : Ends) (m : List Addr) (H : Hp) (res : SR) : Prop := match res with
  | .nx l' S' => ∀ m' H' s', Ext m H m' H' → Rep r T m' S' H' → RepL r m' H' l' s' → D.nx s' H'
  | .rt g S' => ∀ m' H' v, Ext m H m' H' → Rep r T m' S' H' → RepV r m' H' g v → D.rt v H'
  | .bk l' S' => ∀ m' H' s', Ext m H m' H' → Rep r T m' S' H' → RepL r m' H' l' s' → D.bk s' H'
  | .ct l' S' => ∀ m' H' s', Ext m H m' H' → Rep r T m' S' H' → RepL r m' H' l' s' → D.ct s' H'
  | .exc c fs l' S' => ∀ m' H' s' C d, Ext m H m' H' → Rep r T m' S' H' → RepL r m' H' l' s' → r.mg c = some (.ref C) → RepX r m' H' fs d → W (.ref C) d s' H'
  | .bad => False
def tSF (r : RP) (T : List (Addr × Str)) (W : WX) (f : StM) : TS := fun D s H => ∃ m S l, Rep r T m S H ∧ RepL r m H l s ∧ PstS r T W D m H (f l S)
section
variable {r : RP} {T : List (Addr × Str)} {W : WX} {X : Cx} {D : Ends} {s : L2.St} {m m' : List Addr} {H H' : Hp} {S : Sto} {l : Loc}
theorem PstS.ext {res : SR} (e : Ext m H m' H') (h : PstS r T W D m H res) : PstS r T W D m' H' res := by
  cases res with
  | nx l S => exact fun m2 H2 s' e2 a b => h m2 H2 s' (e.trans e2) a b
  | rt g S => exact fun m2 H2 v e2 a b => h m2 H2 v (e.trans e2) a b
  | bk l S => exact fun m2 H2 s' e2 a b => h m2 H2 s' (e.trans e2) a b
  | ct l S => exact fun m2 H2 s' e2 a b => h m2 H2 s' (e.trans e2) a b
  | exc c fs l S => exact fun m2 H2 s' C d e2 a b k x => h m2 H2 s' C d (e.trans e2) a b k x
  | bad => exact h
/-- an expression, then the rest of its statement -/
theorem stS {f : Ev} {k : G → Sto → SR} (hR : Rep r T m S H) (hL : RepL r m H l s) (h : PstS r T W D m H (sr l (f l S) k)) :
    tF r T W f s H fun x H1 => ∃ m1 S1 g, Ext m H m1 H1 ∧ Rep r T m1 S1 H1 ∧ RepL r m1 H1 l s ∧ RepV r m1 H1 g x ∧ PstS r T W D m1 H1 (k g S1) := by
  refine ⟨m, S, l, hR, hL, ?_⟩
  cases e : f l S with
  | ok g S1 => rw [e] at h; exact fun m2 H2 v e2 a b => ⟨m2, S1, g, e2, a, hL.ext e2, b, PstS.ext e2 h⟩
  | exc c fs S1 => rw [e] at h; exact fun m2 H2 C d e2 a k x => h m2 H2 s C d e2 a (hL.ext e2) k x
  | bad => rw [e] at h; exact h
theorem stST {f : Te} {k : Bool → Sto → SR} (hR : Rep r T m S H) (hL : RepL r m H l s) (h : PstS r T W D m H (sr l (f l S) k)) :
    tFT r T W f s H fun x H1 => ∃ m1 S1, Ext m H m1 H1 ∧ Rep r T m1 S1 H1 ∧ RepL r m1 H1 l s ∧ PstS r T W D m1 H1 (k x S1) := by
  refine ⟨m, S, l, hR, hL, ?_⟩
  cases e : f l S with
  | ok g S1 =>
    rw [e] at h
    refine fun m2 H2 v e2 a b => ?_
    subst b
    exact ⟨m2, S1, e2, a, hL.ext e2, PstS.ext e2 h⟩
  | exc c fs S1 => rw [e] at h; exact fun m2 H2 C d e2 a k x => h m2 H2 s C d e2 a (hL.ext e2) k x
  | bad => rw [e] at h; exact h
theorem stSA {f : As} {k : List G → Sto → SR} (hR : Rep r T m S H) (hL : RepL r m H l s) (h : PstS r T W D m H (sr l (f l S) k)) :
    tFA r T W f s H fun x H1 => ∃ m1 S1 g, Ext m H m1 H1 ∧ Rep r T m1 S1 H1 ∧ RepL r m1 H1 l s ∧ RepVs r m1 H1 g x ∧ PstS r T W D m1 H1 (k g S1) := by
  refine ⟨m, S, l, hR, hL, ?_⟩
  cases e : f l S with
  | ok g S1 => rw [e] at h; exact fun m2 H2 v e2 a b => ⟨m2, S1, g, e2, a, hL.ext e2, b, PstS.ext e2 h⟩
  | exc c fs S1 => rw [e] at h; exact fun m2 H2 C d e2 a k x => h m2 H2 s C d e2 a (hL.ext e2) k x
  | bad => rw [e] at h; exact h
variable {st : Stmt} {sts sts2 : List Stmt} {f g : StM} {e a b : Expr} {fa fb : Ev} {ta : Te} {pos pos' : Pos}
theorem g_nil : PSs X [] (tSF r T W sNx) := PSs_imp pss_nil fun D s H ⟨m, S, l, hR, hL, q⟩ => q m H s (.refl _ _) hR hL
theorem g_cons (h1 : PS X st (tSF r T W f)) (h2 : PSs X sts (tSF r T W g)) : PSs X (st :: sts) (tSF r T W (sSeq f g)) :=
  PSs_imp (pss_cons h1 h2) fun D s H ⟨m, S, l, hR, hL, q⟩ => by
    refine ⟨m, S, l, hR, hL, ?_⟩
    unfold sSeq at q
    cases e : f l S with
    | nx l' S' => rw [e] at q; exact fun m2 H2 s2 e2 a b => ⟨m2, S', l', a, b, PstS.ext e2 q⟩
    | rt v S' => rw [e] at q; exact q
    | bk l' S' => rw [e] at q; exact q
    | ct l' S' => rw [e] at q; exact q
    | exc c fs l' S' => rw [e] at q; exact q
    | bad => rw [e] at q; exact q
theorem g_one (h1 : PS X st (tSF r T W f)) : PSs X [st] (tSF r T W f) := pss_one h1
theorem g_pass : PS X (.Pass pos) (tSF r T W sNx) := PS_imp ps_pass fun D s H ⟨m, S, l, hR, hL, q⟩ => q m H s (.refl _ _) hR hL
theorem g_break : PS X (.Break pos) (tSF r T W sBrk) := PS_imp ps_break fun D s H ⟨m, S, l, hR, hL, q⟩ => q m H s (.refl _ _) hR hL
theorem g_cont : PS X (.Continue pos) (tSF r T W sCnt) := PS_imp ps_continue fun D s H ⟨m, S, l, hR, hL, q⟩ => q m H s (.refl _ _) hR hL
theorem g_expr (he : PE X e (tF r T W fa)) (hs : swapsWith e none pos.line X.env = pure false) : PS X (.Expr e pos) (tSF r T W (sDrop fa)) :=
  PS_imp (ps_expr he hs) fun D s H ⟨m, S, l, hR, hL, q⟩ => mono_tF (stS hR hL q) fun x H1 ⟨m1, S1, g, e, hR1, hL1, h1, q1⟩ => q1 m1 H1 s (.refl _ _) hR1 hL1
theorem g_ret (he : PE X e (tF r T W fa)) : PS X (.Return (some e) pos) (tSF r T W (sRet fa)) :=
  PS_imp (ps_ret he) fun D s H ⟨m, S, l, hR, hL, q⟩ => mono_tF (stS hR hL q) fun x H1 ⟨m1, S1, g, e, hR1, hL1, h1, q1⟩ => q1 m1 H1 x (.refl _ _) hR1 h1
theorem g_retN : PS X (.Return none pos) (tSF r T W sRetN) := PS_imp ps_retN fun D s H ⟨m, S, l, hR, hL, q⟩ => q m H .non (.refl _ _) hR .non
theorem g_if (hc : PT X e (tFT r T W ta)) (ha : PSs X sts (tSF r T W f)) (hb : PSs X sts2 (tSF r T W g)) : PS X (.If e sts sts2 pos) (tSF r T W (sIf ta f g)) :=
  PS_imp (ps_if hc ha hb) fun D s H ⟨m, S, l, hR, hL, q⟩ => mono_tFT (stST hR hL q) fun x H1 ⟨m1, S1, e, hR1, hL1, q1⟩ => by
    cases x with
    | true => exact ⟨m1, S1, l, hR1, hL1, q1⟩
    | false => exact ⟨m1, S1, l, hR1, hL1, q1⟩
theorem g_set {i : Nat} {x : Str} (hN : X.N.Nodup) (hi : X.N[i]? = some x) (hx : L2.Loc X.env.scope x) (he : PE X e (tF r T W fa)) (hs : swapsWith e (some (.Name x pos')) pos.line X.env = pure false) (hf : X.fn x = true ∨ X.env.scope.names.lookup x = some .local) :
    PS X (.Assign [.Name x pos'] e pos) (tSF r T W (sSet i fa)) :=
  PS_imp (ps_set hN hi hx he hs hf) fun D s H ⟨m, S, l, hR, hL, q⟩ => mono_tF (stS hR hL q) fun x H1 ⟨m1, S1, g, e, hR1, hL1, h1, q1⟩ => q1 m1 H1 _ (.refl _ _) hR1 (hL1.set i h1)

/-! ### targets -/
def setV : List Nat → List V → L2.St → L2.St
  | i :: is, v :: vs, s => setV is vs (s.set i (some v))
  | _, _, s => s
def gNames : List Nat → TGs
  | [] => gNil
  | i :: is => gCons (gName i) (gNames is)
theorem gNames_ok : ∀ {is : List Nat} {vs : List V} {s : L2.St} {H : Hp} {Q : L2.St → Hp → Prop}, vs.length = is.length → Q (setV is vs s) H → gNames is vs s H Q
  | [], [], _, _, _, _, h => ⟨rfl, h⟩
  | [], _ :: _, _, _, _, e, _ => by simp at e
  | _ :: _, [], _, _, _, e, _ => by simp at e
  | i :: is, v :: vs, s, H, Q, e, h => ⟨v, vs, rfl, gNames_ok (by simpa using e) h⟩
theorem repSetAll : ∀ {is : List Nat} {gs : List G} {vs : List V} {l : Loc} {s : L2.St}, RepL r m H l s → RepVs r m H gs vs → RepL r m H (setAll is gs l) (setV is vs s)
  | [], _, _, _, _, h, _ => by
    unfold setAll setV
    exact h
  | i :: is, _, _, _, _, h, .nil => h
  | i :: is, g :: gs, v :: vs, l, s, h, .cons a t => by
    show RepL r m H (setAll is gs (l.set i (some g))) (setV is vs (s.set i (some v)))
    exact repSetAll (h.set i a) t
theorem wipe_get {s : L2.St} {j : Nat} : ∀ vs : List Nat, (L2.wipe s vs)[j]? = if j ∈ vs ∧ j < s.length then some none else s[j]?
  | [] => by simp [L2.wipe]
  | v :: vs => by
    unfold L2.wipe
    have ih := wipe_get (s := s) (j := j) vs
    by_cases e : v = j
    · subst e
      by_cases hv : v < s.length
      · rw [List.getElem?_set_self (by rw [L2.wipe_length]; exact hv), if_pos ⟨by simp, hv⟩]
      · rw [if_neg (fun q => hv q.2), List.getElem?_eq_none (by rw [List.length_set, L2.wipe_length]; omega), List.getElem?_eq_none (by omega)]
    · rw [List.getElem?_set_ne e, ih]
      simp [Ne.symm e]
theorem wipe_set {s : L2.St} {i : Nat} {v : Option V} {own : List Nat} (h : i ∈ own) : L2.wipe (s.set i v) own = L2.wipe s own := by
  apply List.ext_getElem?
  intro j
  rw [wipe_get, wipe_get, List.length_set]
  by_cases c : j ∈ own ∧ j < s.length
  · rw [if_pos c, if_pos c]
  · rw [if_neg c, if_neg c]
    by_cases e : i = j
    · subst e
      have : ¬ i < s.length := fun q => c ⟨h, q⟩
      rw [List.getElem?_eq_none (by rw [List.length_set]; omega), List.getElem?_eq_none (by omega)]
    · rw [List.getElem?_set_ne e]
theorem wipe_setV {own : List Nat} : ∀ {is : List Nat} {vs : List V} {s : L2.St}, (∀ i ∈ is, i ∈ own) → L2.wipe (setV is vs s) own = L2.wipe s own
  | [], _, _, _ => by unfold setV; rfl
  | _ :: _, [], _, _ => rfl
  | i :: is, v :: vs, s, h => by
    show L2.wipe (setV is vs (s.set i (some v))) own = _
    rw [wipe_setV (fun j hj => h j (List.mem_cons_of_mem _ hj)), wipe_set (h i (by simp))]
def tgT (K : PySem.W.Frag) : Tg → TG
  | .nm i => gName i
  | .tp is => L2.gTup K is.length (gNames is)
def Tg.is : Tg → List Nat
  | .nm i => [i]
  | .tp is => is
/-- a target stores what the plain one stores -/
theorem tg_ok {t : Tg} {x : G} {v : V} {l' : Loc} {Q : L2.St → Hp → Prop} (hL : RepL r m H l s) (h : RepV r m H x v) (e : tgSet t x l = some l')
    (k : ∀ s', RepL r m H l' s' → (∀ own : List Nat, (∀ i ∈ t.is, i ∈ own) → L2.wipe s' own = L2.wipe s own) → Q s' H) : tgT r.K t v s H Q := by
  cases t with
  | nm i =>
    cases e
    exact k _ (hL.set i h) fun own ho => wipe_set (ho i (by simp [Tg.is]))
  | tp is =>
    unfold tgSet at e
    cases x <;> try (cases e; done)
    rename_i gs
    have e : (if gs.length = is.length then some (setAll is gs l) else none) = some l' := e
    split at e
    · rename_i c
      cases e
      cases h with
      | tup q z t =>
        have hl := t.length
        have hq : SqT r.K H _ _ := q.elim (fun q => .inl (.inl q.2)) .inr
        exact ⟨_, _, rfl, hq, by omega, gNames_ok (by omega) (k _ (repSetAll hL t) fun own ho => wipe_setV ho)⟩
    · cases e
theorem g_tnm {i : Nat} {x : Str} (hN : X.N.Nodup) (hi : X.N[i]? = some x) (hx : L2.Loc X.env.scope x) (hf : X.fn x = true ∨ X.env.scope.names.lookup x = some .local) : PG X (.Name x pos) (tgT r.K (.nm i)) := pg_name hN hi hx hf
/-- t = e, t a tuple of names -/
theorem g_tg {t : Tg} {tg : Expr} (hK : X.K = r.K) (he : PE X e (tF r T W fa)) (hg : PG X tg (tgT X.K t)) (hs : swapsWithSole [tg] e pos.line X.env = pure false) (hw : swappedStores [tg] e X.env = pure none)
    (h1 : (assignEach [tg] X.env).map (·.2) = [assign tg X.env]) : PS X (.Assign [tg] e pos) (tSF r T W (sTg t fa)) :=
  PS_imp (ps_asg he hg hs hw h1) fun D s H ⟨m, S, l, hR, hL, q⟩ => mono_tF (stS hR hL q) fun x H1 ⟨m1, S1, g, e, hR1, hL1, h1, q1⟩ => by
    cases e2 : tgSet t g l with
    | none => rw [e2] at q1; exact False.elim q1
    | some l' =>
      rw [e2] at q1
      rw [hK]
      exact tg_ok hL1 h1 e2 fun s' hL' _ => q1 m1 H1 s' (.refl _ _) hR1 hL'
/-- a, b = x, y -/
theorem g_par {i j : Nat} {x y : Str} {px py pt : Pos} {kt k2 pt2} (hc : X.calm = true) (hN : X.N.Nodup) (hi : X.N[i]? = some x) (hj : X.N[j]? = some y) (hij : i ≠ j) (hx : X.env.scope.names.lookup x = some .local) (hy : X.env.scope.names.lookup y = some .local)
    (ha : PE X a (tF r T W fa)) (hb : PE X b (tF r T W fb)) (hs1 : starEach [a, b] X.env = (false, eval a X.env) :: starEach [b] X.env) (hs2 : starEach [b] X.env = (false, eval b X.env) :: starEach [] X.env)
    (hw : swappedStores [.Tuple [.Name x px, .Name y py] kt pt] (.Tuple [a, b] k2 pt2) X.env = pure (some [x, y])) (hs : swapsWithSole [.Tuple [.Name x px, .Name y py] kt pt] (.Tuple [a, b] k2 pt2) pos.line X.env = pure false) :
    PS X (.Assign [.Tuple [.Name x px, .Name y py] kt pt] (.Tuple [a, b] k2 pt2) pos) (tSF r T W (sPar i j fa fb)) :=
  PS_imp (ps_par hc hN hi hj hij hx hy (pa_cons ha (pa_cons hb pa_nil hs2) hs1) hw hs) fun D s H ⟨m, S, l, hR, hL, q⟩ => mono_tF (stS hR hL q) fun x H1 ⟨m1, S1, g, e, hR1, hL1, h1, q1⟩ =>
    mono_tF (stS hR1 hL1 q1) fun y H2 ⟨m2, S2, g2, e2, hR2, hL2, h2, q2⟩ => ⟨_, _, rfl, q2 m2 H2 _ (.refl _ _) hR2 ((hL2.set i (h1.ext e2)).set j h2)⟩
/-! ### while -/
theorem g_while (hp : PassesOwn (model X.prog X.w) X.A X.env X.xe) (hc : PT X e (tFT r T W ta)) (hb : PSs X sts (tSF r T W f)) : PS X (.While e sts [] pos) (tSF r T W (sWhile ta f)) :=
  PS_imp (ps_while hp hc hb) fun D s H ⟨m, S, l, hR, hL, q⟩ => by
    refine ⟨fun n s H => ∃ m S l, Rep r T m S H ∧ RepL r m H l s ∧ PstS r T W D m H (wGo ta f n l S), ⟨wMax, m, S, l, hR, hL, q⟩, ?_⟩
    rintro n s H ⟨m, S, l, hR, hL, q⟩
    cases n with
    | zero => exact False.elim q
    | succ n =>
      refine mono_tFT (stST hR hL q) fun x H1 ⟨m1, S1, e, hR1, hL1, q1⟩ => ?_
      cases x with
      | false => exact q1 m1 H1 s (.refl _ _) hR1 hL1
      | true =>
        rw [if_pos rfl] at q1 ⊢
        refine ⟨fun s' H' => ∃ m S l, Rep r T m S H' ∧ RepL r m H' l s' ∧ PstS r T W D m H' (wGo ta f n l S), fun s' H' h => ⟨n, Nat.lt_succ_self n, h⟩, m1, S1, l, hR1, hL1, ?_⟩
        cases e2 : f l S1 with
        | nx l' S' => rw [e2] at q1; exact fun m2 H2 s2 e3 a b => ⟨m2, S', l', a, b, PstS.ext e3 q1⟩
        | ct l' S' => rw [e2] at q1; exact fun m2 H2 s2 e3 a b => ⟨m2, S', l', a, b, PstS.ext e3 q1⟩
        | bk l' S' => rw [e2] at q1; exact q1
        | rt v S' => rw [e2] at q1; exact q1
        | exc c fs l' S' => rw [e2] at q1; exact q1
        | bad => rw [e2] at q1; exact q1
/-! ### what is walked -/
def itAt (i : It) (S : Sto) (k : Nat) : Option (Option G) := match i with
  | .fix xs => some xs[k]?
  | .dyn n => (lstAt S n).map fun xs => xs[k]?
structure ItOk (r : RP) (T : List (Addr × Str)) (m : List Addr) (H : Hp) (i : It) (J : L2.It) : Prop where
  go : ∀ hs k m' S' H' x, (∀ a ∈ hs, H a = none) → ExtB r.hid m H m' H' → Rep (r.hides hs) T m' S' H' → itAt i S' k = some (some x) → J.go k H' ∧ ∀ v H2, J.yld k H' v H2 → Ext m' H' m' H2 ∧ Rep (r.hides hs) T m' S' H2 ∧ RepV (r.hides hs) m' H2 x v
  stop : ∀ hs k m' S' H', (∀ a ∈ hs, H a = none) → ExtB r.hid m H m' H' → Rep (r.hides hs) T m' S' H' → itAt i S' k = some none → J.stop k H'
  size : ∀ xs, i = .fix xs → xs.length ≤ sizeLine
theorem hides_nil (r : RP) : r.hides [] = r := rfl
theorem ItOk.go0 {i : It} {J : L2.It} (h : ItOk r T m H i J) {k : Nat} {x : G} (hR : Rep r T m S H) (e : itAt i S k = some (some x)) : J.go k H ∧ ∀ v H2, J.yld k H v H2 → Ext m H m H2 ∧ Rep r T m S H2 ∧ RepV r m H2 x v :=
  h.go [] k m S H x (by simp) (Ext.refl _ _).toB hR e
theorem ItOk.stop0 {i : It} {J : L2.It} (h : ItOk r T m H i J) {k : Nat} (hR : Rep r T m S H) (e : itAt i S k = some none) : J.stop k H := h.stop [] k m S H (by simp) (Ext.refl _ _).toB hR e
theorem ItOk.ext {i : It} {J : L2.It} (e : Ext m H m' H') (h : ItOk r T m H i J) : ItOk r T m' H' i J :=
  ⟨fun hs k m2 S2 H2 x z e2 a b => h.go hs k m2 S2 H2 x (fun a ha => e.grow a (z a ha)) (e.transB e2) a b, fun hs k m2 S2 H2 z e2 a b => h.stop hs k m2 S2 H2 (fun a ha => e.grow a (z a ha)) (e.transB e2) a b, h.size⟩
def tIF (r : RP) (T : List (Addr × Str)) (W : WX) (it : Loc → Sto → R It) : TI := fun s H Q => ∃ m S l, Rep r T m S H ∧ RepL r m H l s ∧ Pst r T W (fun m' H' (i : It) (J : L2.It) => ItOk r T m' H' i J) s m H (it l S) fun J H' => Q J H'
/-- one turn of a for -/
theorem turn_step {t : Tg} {x : G} {v : V} {k : StM} (hR : Rep r T m S H) (hL : RepL r m H l s) (hv : RepV r m H x v) (q : PstS r T W D m H (fTurn t f x k l S)) :
    tgT r.K t v s H fun s2 H2 => tSF r T W f { D with nx := fun s' H' => ∃ m' S' l', Ext m H m' H' ∧ Rep r T m' S' H' ∧ RepL r m' H' l' s' ∧ PstS r T W D m' H' (k l' S'), ct := fun s' H' => ∃ m' S' l', Ext m H m' H' ∧ Rep r T m' S' H' ∧ RepL r m' H' l' s' ∧ PstS r T W D m' H' (k l' S'), bk := D.nx } s2 H2 := by
  unfold fTurn at q
  cases e : tgSet t x l with
  | none => rw [e] at q; exact False.elim q
  | some l' =>
    rw [e] at q
    refine tg_ok hL hv e fun s' hL' _ => ⟨m, S, l', hR, hL', ?_⟩
    dsimp only at q
    cases e2 : f l' S with
    | nx l2 S2 => rw [e2] at q; exact fun m2 H2 s2 e3 a b => ⟨m2, S2, l2, e3, a, b, PstS.ext e3 q⟩
    | ct l2 S2 => rw [e2] at q; exact fun m2 H2 s2 e3 a b => ⟨m2, S2, l2, e3, a, b, PstS.ext e3 q⟩
    | bk l2 S2 => rw [e2] at q; exact q
    | rt v S2 => rw [e2] at q; exact q
    | exc c fs l2 S2 => rw [e2] at q; exact q
    | bad => rw [e2] at q; exact q
theorem drop_cons {α : Type} {xs : List α} {i : Nat} {x : α} (h : xs[i]? = some x) : xs.drop i = x :: xs.drop (i + 1) := by
  obtain ⟨hi, e⟩ := List.getElem?_eq_some_iff.mp h
  rw [List.drop_eq_getElem_cons hi, e]
theorem mono_tgT {K : PySem.W.Frag} {t : Tg} {v : V} {s : L2.St} {H : Hp} {Q Q' : L2.St → Hp → Prop} (h : tgT K t v s H Q) (k : ∀ s H, Q s H → Q' s H) : tgT K t v s H Q' := by
  cases t with
  | nm i => exact k _ _ h
  | tp is =>
    obtain ⟨a, ys, e1, e2, e3, e4⟩ := h
    refine ⟨a, ys, e1, e2, e3, ?_⟩
    clear e1 e2 e3
    induction is generalizing ys s with
    | nil => exact ⟨e4.1, k _ _ e4.2⟩
    | cons i is ih =>
      obtain ⟨v, r', e5, e6⟩ := e4
      exact ⟨v, r', e5, ih _ e6⟩
theorem for_fix {t : Tg} {J : L2.It} {xs : List G} (hI : ItOk r T m H (.fix xs) J) (hR : Rep r T m S H) (hL : RepL r m H l s) (q : PstS r T W D m H (fGo t f xs l S)) :
    ∃ Wv : Nat → Nat → L2.St → Hp → Prop, (∃ n, Wv 0 n s H) ∧ ∀ i n s H, Wv i n s H → (J.stop i H ∧ D.nx s H) ∨
      (J.go i H ∧ ∃ N : L2.St → Hp → Prop, (∀ s' H', N s' H' → ∃ n', n' < n ∧ Wv (i + 1) n' s' H') ∧ ∀ x H', J.yld i H x H' → tgT r.K t x s H' fun s2 H2 => tSF r T W f { D with nx := N, ct := N, bk := D.nx } s2 H2) := by
  refine ⟨fun i n s H => n = xs.length - i ∧ i ≤ xs.length ∧ ∃ m S l, ItOk r T m H (.fix xs) J ∧ Rep r T m S H ∧ RepL r m H l s ∧ PstS r T W D m H (fGo t f (xs.drop i) l S), ⟨xs.length, by simp, by simp, m, S, l, hI, hR, hL, q⟩, ?_⟩
  rintro i n s H ⟨rfl, hi, m, S, l, hI, hR, hL, q⟩
  cases e : xs[i]? with
  | none =>
    have hl : xs.length ≤ i := List.getElem?_eq_none_iff.mp e
    rw [List.drop_eq_nil_of_le hl] at q
    exact .inl ⟨hI.stop0 (k := i) hR (by simp [itAt, e]), q m H s (.refl _ _) hR hL⟩
  | some x =>
    have hlt : i < xs.length := (List.getElem?_eq_some_iff.mp e).1
    rw [drop_cons e] at q
    obtain ⟨g1, g2⟩ := hI.go0 (k := i) (x := x) hR (by simp [itAt, e])
    refine .inr ⟨g1, fun s' H' => ∃ m' S' l', Ext m H m' H' ∧ Rep r T m' S' H' ∧ RepL r m' H' l' s' ∧ PstS r T W D m' H' (fGo t f (xs.drop (i + 1)) l' S'), fun s' H' ⟨m', S', l', ex, a, b, c⟩ => ⟨_, (by omega : xs.length - (i + 1) < xs.length - i), rfl, hlt, m', S', l', hI.ext ex, a, b, c⟩, fun v H' hy => ?_⟩
    obtain ⟨ex, hR', hv⟩ := g2 v H' hy
    have hs := turn_step hR' (hL.ext ex) hv (PstS.ext ex (show PstS r T W D m H (fTurn t f x (fGo t f (xs.drop (i + 1))) l S) from q))
    refine mono_tgT hs fun s2 H2 ⟨m2, S2, l2, a2, b2, c2⟩ => ⟨m2, S2, l2, a2, b2, ?_⟩
    revert c2
    cases f l2 S2 with
    | nx l3 S3 => exact fun c2 m3 H3 s3 e3 a3 b3 => let ⟨m4, S4, l4, x1, x2, x3, x4⟩ := c2 m3 H3 s3 e3 a3 b3; ⟨m4, S4, l4, ex.trans x1, x2, x3, x4⟩
    | ct l3 S3 => exact fun c2 m3 H3 s3 e3 a3 b3 => let ⟨m4, S4, l4, x1, x2, x3, x4⟩ := c2 m3 H3 s3 e3 a3 b3; ⟨m4, S4, l4, ex.trans x1, x2, x3, x4⟩
    | bk l3 S3 => exact id
    | rt v S3 => exact id
    | exc c fs l3 S3 => exact id
    | bad => exact id
theorem for_dyn {t : Tg} {J : L2.It} {n : Nat} {M : Nat} (hI : ItOk r T m H (.dyn n) J) (hR : Rep r T m S H) (hL : RepL r m H l s) (q : PstS r T W D m H (fDyn t f n M 0 l S)) :
    ∃ Wv : Nat → Nat → L2.St → Hp → Prop, (∃ n, Wv 0 n s H) ∧ ∀ i n s H, Wv i n s H → (J.stop i H ∧ D.nx s H) ∨
      (J.go i H ∧ ∃ N : L2.St → Hp → Prop, (∀ s' H', N s' H' → ∃ n', n' < n ∧ Wv (i + 1) n' s' H') ∧ ∀ x H', J.yld i H x H' → tgT r.K t x s H' fun s2 H2 => tSF r T W f { D with nx := N, ct := N, bk := D.nx } s2 H2) := by
  refine ⟨fun i k s H => ∃ m S l, ItOk r T m H (.dyn n) J ∧ Rep r T m S H ∧ RepL r m H l s ∧ PstS r T W D m H (fDyn t f n k i l S), ⟨M, m, S, l, hI, hR, hL, q⟩, ?_⟩
  rintro i k s H ⟨m, S, l, hI, hR, hL, q⟩
  cases k with
  | zero => exact False.elim q
  | succ k =>
    unfold fDyn at q
    cases e0 : lstAt S n with
    | none => rw [e0] at q; exact False.elim q
    | some xs =>
      rw [e0] at q
      dsimp only at q
      cases e : xs[i]? with
      | none =>
        rw [e] at q
        exact .inl ⟨hI.stop0 (k := i) hR (by simp [itAt, e0, e]), q m H s (.refl _ _) hR hL⟩
      | some x =>
        rw [e] at q
        obtain ⟨g1, g2⟩ := hI.go0 (k := i) (x := x) hR (by simp [itAt, e0, e])
        refine .inr ⟨g1, fun s' H' => ∃ m' S' l', Ext m H m' H' ∧ Rep r T m' S' H' ∧ RepL r m' H' l' s' ∧ PstS r T W D m' H' (fDyn t f n k (i + 1) l' S'), fun s' H' ⟨m', S', l', ex, a, b, c⟩ => ⟨k, Nat.lt_succ_self k, m', S', l', hI.ext ex, a, b, c⟩, fun v H' hy => ?_⟩
        obtain ⟨ex, hR', hv⟩ := g2 v H' hy
        refine mono_tgT (turn_step hR' (hL.ext ex) hv (PstS.ext ex q)) fun s2 H2 ⟨m2, S2, l2, a2, b2, c2⟩ => ⟨m2, S2, l2, a2, b2, ?_⟩
        revert c2
        cases f l2 S2 with
        | nx l3 S3 => exact fun c2 m3 H3 s3 e3 a3 b3 => let ⟨m4, S4, l4, x1, x2, x3, x4⟩ := c2 m3 H3 s3 e3 a3 b3; ⟨m4, S4, l4, ex.trans x1, x2, x3, x4⟩
        | ct l3 S3 => exact fun c2 m3 H3 s3 e3 a3 b3 => let ⟨m4, S4, l4, x1, x2, x3, x4⟩ := c2 m3 H3 s3 e3 a3 b3; ⟨m4, S4, l4, ex.trans x1, x2, x3, x4⟩
        | bk l3 S3 => exact id
        | rt v S3 => exact id
        | exc c fs l3 S3 => exact id
        | bad => exact id
theorem g_for {t : Tg} {tg iter : Expr} {it : Loc → Sto → R It} (hK : X.K = r.K) (hp : PassesOwn (model X.prog X.w) X.A X.env X.xe) (hc : X.calm = true) (hi : PI X tg iter (tIF r T W it)) (hg : PG X tg (tgT X.K t)) (hb : PSs X sts (tSF r T W f))
    (hs : ∀ x, foldedSetIterable iter X.env x = pure x) : PS X (.For tg iter sts [] pos) (tSF r T W (sFor it t f)) :=
  PS_imp (ps_for hp hc hi hg hb hs) fun D s H ⟨m, S, l, hR, hL, q⟩ => by
    refine ⟨m, S, l, hR, hL, ?_⟩
    unfold sFor at q
    cases e : it l S with
    | bad => rw [e] at q; exact q
    | exc c fs S1 => rw [e] at q; exact fun m2 H2 C d e2 a k x => q m2 H2 s C d e2 a (hL.ext e2) k x
    | ok i S1 =>
      rw [e] at q
      rw [hK]
      refine fun m2 H2 J e2 a hI => ?_
      cases i with
      | fix xs => exact for_fix hI a (hL.ext e2) (PstS.ext e2 q)
      | dyn n => exact for_dyn hI a (hL.ext e2) (PstS.ext e2 q)
/-! ### list comprehensions -/
theorem wipe_wipe (s : L2.St) (vs : List Nat) : L2.wipe (L2.wipe s vs) vs = L2.wipe s vs := by
  apply List.ext_getElem?
  intro j
  rw [wipe_get, wipe_get, L2.wipe_length]
  by_cases c : j ∈ vs ∧ j < s.length
  · rw [if_pos c, if_pos c]
  · rw [if_neg c, if_neg c]
theorem Ext.behind {Dd : Addr} {o u : HO} (e : Ext m H m' H') (hD : H Dd = none) : Ext m H m' (upd H' Dd o) := by
  refine ⟨e.pre, fun a v h1 h2 h3 => ?_, fun a h => ?_⟩
  · rw [upd_ne (ne_of_none h3 hD)]; exact e.keep a v h1 h2 h3
  · by_cases c : a = Dd
    · rw [c]; exact hD
    · rw [upd_ne c] at h; exact e.grow a h
abbrev W0 : WX := fun _ _ _ _ => False
/-- a step within a comprehension: the reading with a hidden list, what is wanted told from the comprehension's start -/
theorem stN {r' : RP} {a1 b1 : Type} {relr : List Addr → Hp → a1 → b1 → Prop} {rel2 : List Addr → Hp → G → V → Prop} {res : R a1} {k : a1 → Sto → R G} {Q : VK} {m0 : List Addr} {H0 : Hp} {s0 s2 : L2.St}
    (h : Pst r T W rel2 s0 m0 H0 (rbN res k) Q) : Pst r' T W0 relr s2 m H res fun x H1 => ∃ m1 S1 g, Ext m H m1 H1 ∧ Rep r' T m1 S1 H1 ∧ relr m1 H1 g x ∧ Pst r T W rel2 s0 m0 H0 (k g S1) Q := by
  cases res with
  | ok x S1 => exact fun m2 H2 v e2 a b => ⟨m2, S1, x, e2, a, b, h⟩
  | exc c fs S1 => exact False.elim h
  | bad => exact False.elim h
/-- tests and elements: whatever is hidden -/
def tTh (r : RP) (T : List (Addr × Str)) (f : Te) : TT := fun s H Q => ∃ hid, tFT { r with hid := hid } T W0 f s H Q
def tEh (r : RP) (T : List (Addr × Str)) (f : Ev) : TE := fun s H Q => ∃ hid, tF { r with hid := hid } T W0 f s H Q
theorem lc_fix {own : List Nat} {t : Tg} {tst : Te} {elt : Ev} {J : L2.It} {xs : List G} {Q : VK} (ht : ∀ i ∈ t.is, i ∈ own) (hI : ItOk r T m H (.fix xs) J) (hR : Rep r T m S H) (hL : RepL r m H l s)
    (q : Pst r T W (RepV r) s m H (rb (lcGo t tst elt (wipeL l own) xs [] S) fun ys S => .ok (.tl ys) S) Q) (Dd : Addr) (hD : H Dd = none) :
    ∃ Wv : Nat → Nat → Hp → Prop, (∃ n, Wv 0 n (upd H Dd (.lst []))) ∧ ∀ i n H, Wv i n H → (J.stop i H ∧ Q (.ref Dd) H) ∨
      (J.go i H ∧ ∃ Nx : Hp → Prop, (∀ H', Nx H' → ∃ n', n' < n ∧ Wv (i + 1) n' H') ∧ ∀ x H', J.yld i H x H' → tgT r.K t x (L2.wipe s own) H' fun s2 H2 => L2.wipe s2 own = L2.wipe s own ∧ tTh r T tst s2 H2 fun b H3 =>
        if b = true then tEh r T elt s2 H3 fun y H4 => ∃ acc, H4 Dd = some (.lst acc) ∧ acc.length < sizeLine ∧ Nx (upd H4 Dd (.lst (acc ++ [y]))) else Nx H3) := by
  have sz := hI.size xs rfl
  refine ⟨fun i n H' => n = xs.length - i ∧ i ≤ xs.length ∧ ∃ m' S' acc accV, Ext m H m' H' ∧ Rep (r.hide Dd) T m' S' H' ∧ RepL (r.hide Dd) m' H' (wipeL l own) (L2.wipe s own) ∧ H' Dd = some (.lst accV) ∧ RepVs (r.hide Dd) m' H' acc accV ∧ acc.length ≤ i ∧
    Pst r T W (RepV r) s m H (rb (lcGo t tst elt (wipeL l own) (xs.drop i) acc S') fun ys S => .ok (.tl ys) S) Q, ⟨xs.length, by simp, by simp, m, S, [], [], Ext.new hD _, hR.hide hD, (hL.wipe own).hide hD, upd_same, .nil, by simp, q⟩, ?_⟩
  rintro i n H' ⟨rfl, hi, m', S', acc, accV, e', hR', hL', hDa, hA, hlen, q'⟩
  have hla := hA.length
  cases e : xs[i]? with
  | none =>
    have hl : xs.length ≤ i := List.getElem?_eq_none_iff.mp e
    rw [List.drop_eq_nil_of_le hl] at q'
    refine .inl ⟨hI.stop [Dd] i m' S' H' (one_none hD) e'.toB hR' (by simp [itAt, e]), q' m' H' _ e' hR'.unhide (.tl ⟨(hR'.hid Dd (by simp [RP.hides])).1, fun z => ?_⟩ hDa (by omega) hA.unhide)⟩
    obtain ⟨_, ys, hy⟩ := hR.hid Dd z
    rw [hD] at hy; cases hy
  | some x =>
    have hlt : i < xs.length := (List.getElem?_eq_some_iff.mp e).1
    rw [drop_cons e] at q'
    obtain ⟨g1, g2⟩ := hI.go [Dd] i m' S' H' x (one_none hD) e'.toB hR' (by simp [itAt, e])
    refine .inr ⟨g1, fun H5 => ∃ m5 S5 acc accV, Ext m H m5 H5 ∧ Rep (r.hide Dd) T m5 S5 H5 ∧ RepL (r.hide Dd) m5 H5 (wipeL l own) (L2.wipe s own) ∧ H5 Dd = some (.lst accV) ∧ RepVs (r.hide Dd) m5 H5 acc accV ∧ acc.length ≤ i + 1 ∧
      Pst r T W (RepV r) s m H (rb (lcGo t tst elt (wipeL l own) (xs.drop (i + 1)) acc S5) fun ys S => .ok (.tl ys) S) Q, fun H5 h => ⟨_, (by omega : xs.length - (i + 1) < xs.length - i), rfl, hlt, h⟩, fun v H2 hy => ?_⟩
    obtain ⟨ex, hR2, hv⟩ := g2 v H2 hy
    unfold lcGo at q'
    cases e2 : tgSet t x (wipeL l own) with
    | none => rw [e2] at q'; exact False.elim q'
    | some l' =>
      rw [e2] at q'
      refine tg_ok (r := r.hide Dd) (hL'.ext ex) hv e2 fun s' hLs hw => ⟨(hw own ht).trans (wipe_wipe s own), (r.hide Dd).hid, ?_⟩
      have q2 : Pst r T W (RepV r) s m H (rbN (tst l' S') fun k S => rb (if k = true then rbN (elt l' S) fun y S => lcGo t tst elt (wipeL l own) (xs.drop (i + 1)) (acc ++ [y]) S else lcGo t tst elt (wipeL l own) (xs.drop (i + 1)) acc S) fun ys S => .ok (.tl ys) S) Q := by
        revert q'
        dsimp only
        cases tst l' S' <;> exact id
      refine ⟨m', S', l', hR2, hLs, Pst.mono (stN (r' := r.hide Dd) (relr := fun _ _ (x y : Bool) => x = y) q2) fun b H3 ⟨m3, S3, b', e3, hR3, eb, q3⟩ => ?_⟩
      subst eb
      have hD2 : H2 Dd = some (.lst accV) := ex.keep Dd _ (hR'.hid Dd (by simp [RP.hides])).1 (fun _ z => by cases z) hDa
      have hD3 : H3 Dd = some (.lst accV) := e3.keep Dd _ (hR2.hid Dd (by simp [RP.hides])).1 (fun _ z => by cases z) hD2
      cases b' with
      | false =>
        rw [if_neg Bool.false_ne_true] at q3 ⊢
        exact ⟨m3, S3, acc, accV, (e'.trans ex).trans e3, hR3, (hL'.ext ex).ext e3, hD3, (hA.ext ex).ext e3, by omega, q3⟩
      | true =>
        rw [if_pos rfl] at q3 ⊢
        have q4 : Pst r T W (RepV r) s m H (rbN (elt l' S3) fun y S => rb (lcGo t tst elt (wipeL l own) (xs.drop (i + 1)) (acc ++ [y]) S) fun ys S => .ok (.tl ys) S) Q := by
          revert q3
          cases elt l' S3 <;> exact id
        refine ⟨(r.hide Dd).hid, m3, S3, l', hR3, hLs.ext e3, Pst.mono (stN (r' := r.hide Dd) (relr := RepV (r.hide Dd)) q4) fun y H4 ⟨m4, S4, g4, e4, hR4, hg4, q5⟩ => ?_⟩
        have hD4 : H4 Dd = some (.lst accV) := e4.keep Dd _ (hR3.hid Dd (by simp [RP.hides])).1 (fun _ z => by cases z) hD3
        have hm : Dd ∈ (r.hide Dd).hid := by simp [RP.hides]
        exact ⟨accV, hD4, by omega, m4, S4, acc ++ [g4], accV ++ [y], Ext.behind (u := .lst []) (((e'.trans ex).trans e3).trans e4) hD, hR4.behind hm, (((hL'.ext ex).ext e3).ext e4).behind hm, upd_same,
          ((((hA.ext ex).ext e3).ext e4).append (.cons hg4 .nil)).behind hm, by simp; omega, q5⟩
theorem lc_dyn {own : List Nat} {t : Tg} {tst : Te} {elt : Ev} {J : L2.It} {n : Nat} {M : Nat} {Q : VK} (ht : ∀ i ∈ t.is, i ∈ own) (hI : ItOk r T m H (.dyn n) J) (hR : Rep r T m S H) (hL : RepL r m H l s)
    (q : Pst r T W (RepV r) s m H (rb (lcDyn t tst elt (wipeL l own) n M 0 [] S) fun ys S => .ok (.tl ys) S) Q) (Dd : Addr) (hD : H Dd = none) :
    ∃ Wv : Nat → Nat → Hp → Prop, (∃ n, Wv 0 n (upd H Dd (.lst []))) ∧ ∀ i n H, Wv i n H → (J.stop i H ∧ Q (.ref Dd) H) ∨
      (J.go i H ∧ ∃ Nx : Hp → Prop, (∀ H', Nx H' → ∃ n', n' < n ∧ Wv (i + 1) n' H') ∧ ∀ x H', J.yld i H x H' → tgT r.K t x (L2.wipe s own) H' fun s2 H2 => L2.wipe s2 own = L2.wipe s own ∧ tTh r T tst s2 H2 fun b H3 =>
        if b = true then tEh r T elt s2 H3 fun y H4 => ∃ acc, H4 Dd = some (.lst acc) ∧ acc.length < sizeLine ∧ Nx (upd H4 Dd (.lst (acc ++ [y]))) else Nx H3) := by
  refine ⟨fun i k H' => ∃ m' S' acc accV, Ext m H m' H' ∧ Rep (r.hide Dd) T m' S' H' ∧ RepL (r.hide Dd) m' H' (wipeL l own) (L2.wipe s own) ∧ H' Dd = some (.lst accV) ∧ RepVs (r.hide Dd) m' H' acc accV ∧ acc.length ≤ sizeLine ∧
    Pst r T W (RepV r) s m H (rb (lcDyn t tst elt (wipeL l own) n k i acc S') fun ys S => .ok (.tl ys) S) Q, ⟨M, m, S, [], [], Ext.new hD _, hR.hide hD, (hL.wipe own).hide hD, upd_same, .nil, by simp, q⟩, ?_⟩
  rintro i k H' ⟨m', S', acc, accV, e', hR', hL', hDa, hA, hlen, q'⟩
  have hla := hA.length
  cases k with
  | zero => exact False.elim q'
  | succ k =>
  unfold lcDyn at q'
  cases e0 : lstAt S' n with
  | none => rw [e0] at q'; exact False.elim q'
  | some xs =>
  rw [e0] at q'
  dsimp only at q'
  cases e : xs[i]? with
  | none =>
    rw [e] at q'
    refine .inl ⟨hI.stop [Dd] i m' S' H' (one_none hD) e'.toB hR' (by simp [itAt, e0, e]), q' m' H' _ e' hR'.unhide (.tl ⟨(hR'.hid Dd (by simp [RP.hides])).1, fun z => ?_⟩ hDa (by omega) hA.unhide)⟩
    obtain ⟨_, ys, hy⟩ := hR.hid Dd z
    rw [hD] at hy; cases hy
  | some x =>
    rw [e] at q'
    obtain ⟨g1, g2⟩ := hI.go [Dd] i m' S' H' x (one_none hD) e'.toB hR' (by simp [itAt, e0, e])
    refine .inr ⟨g1, fun H5 => ∃ m5 S5 acc accV, Ext m H m5 H5 ∧ Rep (r.hide Dd) T m5 S5 H5 ∧ RepL (r.hide Dd) m5 H5 (wipeL l own) (L2.wipe s own) ∧ H5 Dd = some (.lst accV) ∧ RepVs (r.hide Dd) m5 H5 acc accV ∧ acc.length ≤ sizeLine ∧
      Pst r T W (RepV r) s m H (rb (lcDyn t tst elt (wipeL l own) n k (i + 1) acc S5) fun ys S => .ok (.tl ys) S) Q, fun H5 h => ⟨k, Nat.lt_succ_self k, h⟩, fun v H2 hy => ?_⟩
    obtain ⟨ex, hR2, hv⟩ := g2 v H2 hy
    dsimp only at q'
    cases e2 : tgSet t x (wipeL l own) with
    | none => rw [e2] at q'; exact False.elim q'
    | some l' =>
      rw [e2] at q'
      refine tg_ok (r := r.hide Dd) (hL'.ext ex) hv e2 fun s' hLs hw => ⟨(hw own ht).trans (wipe_wipe s own), (r.hide Dd).hid, ?_⟩
      have q2 : Pst r T W (RepV r) s m H (rbN (tst l' S') fun b S => rb (if b = true then rbN (elt l' S) fun y S => if acc.length < sizeLine then lcDyn t tst elt (wipeL l own) n k (i + 1) (acc ++ [y]) S else .bad else lcDyn t tst elt (wipeL l own) n k (i + 1) acc S) fun ys S => .ok (.tl ys) S) Q := by
        revert q'
        dsimp only
        cases tst l' S' <;> exact id
      refine ⟨m', S', l', hR2, hLs, Pst.mono (stN (r' := r.hide Dd) (relr := fun _ _ (x y : Bool) => x = y) q2) fun b H3 ⟨m3, S3, b', e3, hR3, eb, q3⟩ => ?_⟩
      subst eb
      have hD2 : H2 Dd = some (.lst accV) := ex.keep Dd _ (hR'.hid Dd (by simp [RP.hides])).1 (fun _ z => by cases z) hDa
      have hD3 : H3 Dd = some (.lst accV) := e3.keep Dd _ (hR2.hid Dd (by simp [RP.hides])).1 (fun _ z => by cases z) hD2
      cases b' with
      | false =>
        rw [if_neg Bool.false_ne_true] at q3 ⊢
        exact ⟨m3, S3, acc, accV, (e'.trans ex).trans e3, hR3, (hL'.ext ex).ext e3, hD3, (hA.ext ex).ext e3, hlen, q3⟩
      | true =>
        rw [if_pos rfl] at q3 ⊢
        have q4 : Pst r T W (RepV r) s m H (rbN (elt l' S3) fun y S => rb (if acc.length < sizeLine then lcDyn t tst elt (wipeL l own) n k (i + 1) (acc ++ [y]) S else .bad) fun ys S => .ok (.tl ys) S) Q := by
          revert q3
          cases elt l' S3 <;> exact id
        refine ⟨(r.hide Dd).hid, m3, S3, l', hR3, hLs.ext e3, Pst.mono (stN (r' := r.hide Dd) (relr := RepV (r.hide Dd)) q4) fun y H4 ⟨m4, S4, g4, e4, hR4, hg4, q5⟩ => ?_⟩
        have hD4 : H4 Dd = some (.lst accV) := e4.keep Dd _ (hR3.hid Dd (by simp [RP.hides])).1 (fun _ z => by cases z) hD3
        have hm : Dd ∈ (r.hide Dd).hid := by simp [RP.hides]
        split at q5
        · rename_i c
          exact ⟨accV, hD4, by omega, m4, S4, acc ++ [g4], accV ++ [y], Ext.behind (u := .lst []) (((e'.trans ex).trans e3).trans e4) hD, hR4.behind hm, (((hL'.ext ex).ext e3).ext e4).behind hm, upd_same,
            ((((hA.ext ex).ext e3).ext e4).append (.cons hg4 .nil)).behind hm, by simp; omega, q5⟩
        · exact False.elim q5
theorem tLc_imp {own : List Nat} {t : Tg} {tst : Te} {elt : Ev} {it : Loc → Sto → R It} {Q : VK} (ht : ∀ i ∈ t.is, i ∈ own) (h : tF r T W (eLc it own t tst elt) s H Q) : tLc (tIF r T W it) (tgT r.K t) (tTh r T tst) (tEh r T elt) own s H Q := by
  obtain ⟨m, S, l, hR, hL, q⟩ := h
  refine ⟨m, S, l, hR, hL, ?_⟩
  unfold eLc lcV at q
  cases e : it l S with
  | bad => rw [e] at q; exact q
  | exc c fs S1 => rw [e] at q; exact q
  | ok i S1 =>
    rw [e] at q
    refine fun m2 H2 J e2 a hI => ?_
    cases i with
    | fix xs => exact lc_fix ht hI a (hL.ext e2) (Pst.ext e2 q)
    | dyn n => exact lc_dyn ht hI a (hL.ext e2) (Pst.ext e2 q)
theorem PT_any {X : Cx} {e : Expr} {t : Te} (h : ∀ hid, PT X e (tFT { r with hid := hid } T W0 t)) : PT X e (tTh r T t) := ⟨fun pins s l H Q I ⟨hid, w⟩ => (h hid).run pins s l H Q I w⟩
theorem PE_any {X : Cx} {e : Expr} {t : Ev} (h : ∀ hid, PE X e (tF { r with hid := hid } T W0 t)) : PE X e (tEh r T t) := ⟨fun pins s l H Q I ⟨hid, w⟩ => (h hid).run pins s l H Q I w⟩
theorem pts_tYes {X : Cx} : PTs X [] (tTh r T tYes) := ⟨fun pins s l H Q I ⟨hid, m, S, l', hR, hL, q⟩ => pts_nil.run pins s l H Q I (q.ok_of hR rfl)⟩
variable {it : Loc → Sto → R It} {t : Tg} {tst : Te} {elt tg iter : Expr} {ee : Ev} {ifs : List Expr} {scope : Scope} {own : List (Str × Nat)} {spos : Pos}
theorem g_lc (hK : X.K = r.K) (hc : X.calm = true) (hN : X.N.Nodup) (hi : PI X tg iter (tIF r T W it)) (ok : BlkOk X.N X.env.scope scope own) (ht : ∀ i ∈ t.is, i ∈ own.map (·.2))
    (hg : ∀ (s : Shared) (H : Hp) (C : Addr) (cl : List (Str × Addr)) (fp : List Addr), PG (X.blk s H scope (compEnvC scope cl C X.env) fp) tg (tgT X.K t)) (htt : ∀ (s : Shared) (H : Hp) (C : Addr) (cl : List (Str × Addr)) (fp : List Addr), PTs (X.blk s H scope (compEnvC scope cl C X.env) fp) ifs (tTh r T tst))
    (he : ∀ (s : Shared) (H : Hp) (C : Addr) (cl : List (Str × Addr)) (fp : List Addr), PE (X.blk s H scope (compEnvC scope cl C X.env) fp) elt (tEh r T ee)) (hs : ∀ x, foldedSetIterable iter X.env x = pure x) :
    PE X (.ListComp elt [⟨tg, iter, ifs, 0⟩] scope pos) (tF r T W (eLc it (own.map (·.2)) t tst ee)) :=
  PE_imp (pe_lc hc hN hi ok hg htt he hs) fun s H Q h => by rw [hK]; exact tLc_imp ht h
theorem g_setLc {i : Nat} {y : Str} {py : Pos} (hK : X.K = r.K) (hc : X.calm = true) (hN : X.N.Nodup) (hy : X.N[i]? = some y) (hyl : X.env.scope.names.lookup y = some .local)
    (hsw : swapsWith (.ListComp elt [⟨tg, iter, ifs, 0⟩] scope pos) (some (.Name y py)) spos.line X.env = pure true) (hi : PI X tg iter (tIF r T W it)) (ok : BlkOk X.N X.env.scope scope own) (ht : ∀ i ∈ t.is, i ∈ own.map (·.2))
    (hg : ∀ (s : Shared) (H : Hp) (C : Addr) (cl : List (Str × Addr)) (fp : List Addr), PG (X.blk s H scope (compEnvC scope cl C X.env) fp) tg (tgT X.K t)) (htt : ∀ (s : Shared) (H : Hp) (C : Addr) (cl : List (Str × Addr)) (fp : List Addr), PTs (X.blk s H scope (compEnvC scope cl C X.env) fp) ifs (tTh r T tst))
    (he : ∀ (s : Shared) (H : Hp) (C : Addr) (cl : List (Str × Addr)) (fp : List Addr), PE (X.blk s H scope (compEnvC scope cl C X.env) fp) elt (tEh r T ee)) (hs : ∀ x, foldedSetIterable iter X.env x = pure x) :
    PS X (.Assign [.Name y py] (.ListComp elt [⟨tg, iter, ifs, 0⟩] scope pos) spos) (tSF r T W (sSet i (eLc it (own.map (·.2)) t tst ee))) :=
  PS_imp (ps_setLc hc hN hy hyl hsw hi ok hg htt he hs) fun D s H ⟨m, S, l, hR, hL, q⟩ => by
    rw [hK]
    exact tLc_imp ht (mono_tF (stS hR hL q) fun x H1 ⟨m1, S1, g, e, hR1, hL1, h1, q1⟩ => q1 m1 H1 _ (.refl _ _) hR1 (hL1.set i h1))
end
end GL

end

section
set_option Elab.async false
set_option linter.all false
set_option maxRecDepth 100000
set_option maxHeartbeats 4000000
/-! GL: isinstance. -/
namespace GL
open PySem PySem.Spec PyProof.Rows L2

/-- what is known of the module's classes: its own ones, and who is whose -/
structure Tab where
  cls : List Str
  sub : List (Str × Str)
def Tab.own (t : Tab) (c d : Str) : Option Bool := if t.cls.contains c && t.cls.contains d then some (c == d || t.sub.contains (c, d)) else none
/-- the facts of one class -/
structure ClsI (K : PySem.W.Frag) (C : Addr) : Prop where
  cl : Cls K C
  ha : PySem.W.findIn K (.ref C) "__class__" = some (some (.builtin "object.__class__"))
  hn : PySem.W.specialIn K (.builtin "object.__class__") "__get__" = some (some (.builtin "getset_descriptor.__get__"))
  htk : PySem.W.takesIn K (.builtin "object.__class__") = some true
  hm : PySem.W.mroIn K C (.type "object") = some true
def tyNames : List String := ["NoneType", "bool", "int", "str", "tuple", "list", "dict"]
structure TabOk (r : RP) (t : Tab) : Prop where
  ins : ∀ c ∈ t.cls, ∃ C, r.mg c = some (.ref C) ∧ ClsI r.K C ∧ (∀ n ∈ tyNames, PySem.W.kitOne r.K (.type n) (.ref C) = some false) ∧ ∀ n ∈ tyNames, PySem.W.kitOne r.K (.ref C) (.type n) = some false
  own : ∀ c ∈ t.cls, ∀ d ∈ t.cls, ∀ C D, r.mg c = some (.ref C) → r.mg d = some (.ref D) → PySem.W.kitOne r.K (.ref C) (.ref D) = some (c == d || t.sub.contains (c, d))
def tyName (S : Sto) : G → Option String
  | .non => some "NoneType"
  | .bl _ => some "bool"
  | .int _ => some "int"
  | .str _ => some "str"
  | .tup _ => some "tuple"
  | .tl _ => some "list"
  | .ref n => (match S[n]? with
    | some (.lst _ _) => some "list"
    | _ => none)
  | _ => none
def tyIs (t n : String) : Option Bool := if tyNames.contains t && tyNames.contains n then some (t == n || (t == "bool" && n == "int")) else none
def ownC (S : Sto) : G → Option Str
  | .ref n => (match S[n]? with
    | some (.ins c _) => some c
    | _ => none)
  | _ => none
def isiOne (t : Tab) (S : Sto) (x : G) : G → Option Bool
  | .ty n => (match tyName S x with
    | some k => tyIs k n
    | none => (match ownC S x with
      | some c => if t.cls.contains c && tyNames.contains n then some false else none
      | none => none))
  | .gl d => if t.cls.contains d then (match tyName S x with
    | some k => some false
    | none => (match ownC S x with
      | some c => t.own c d
      | none => none)) else none
  | _ => none
def tysOf : List G → Option (List String)
  | [] => some []
  | .ty n :: r => (tysOf r).map fun l => n :: l
  | _ :: _ => none
def isiTys (k : String) : List String → Option Bool
  | [] => some false
  | n :: r => (match tyIs k n with
    | some true => (match isiTys k r with
      | some _ => some true
      | none => none)
    | some false => isiTys k r
    | none => none)
def isiAny (S : Sto) (x : G) (cs : List G) : Option Bool := match tyName S x, tysOf cs with
  | some k, some ns => isiTys k ns
  | _, _ => none
def gIsi (t : Tab) (xs : List G) (S : Sto) : Option G := match xs with
  | [x, .tup cs] => (isiAny S x cs).map .bl
  | [x, c] => (isiOne t S x c).map .bl
  | _ => none
section
variable {r : RP} {T : List (Addr × Str)} {X : Cx} {m : List Addr} {H : Hp} {S : Sto} {t : Tab}
theorem tyIs_ok {K : PySem.W.Frag} {k n : String} {b : Bool} (e : tyIs k n = some b) : PySem.W.kitOne K (.type k) (.type n) = some b := by
  unfold tyIs at e
  split at e
  · rename_i c
    rw [Bool.and_eq_true] at c
    obtain ⟨c1, c2⟩ := c
    cases e
    have h1 : k ∈ tyNames := by simpa using c1
    have h2 : n ∈ tyNames := by simpa using c2
    refine kit_ty ?_
    clear c1 c2
    have key : ∀ k ∈ tyNames, ∀ n ∈ tyNames, kitB k n = some (k == n || (k == "bool" && n == "int")) := by decide +kernel
    exact key k h1 n h2
  · cases e
theorem tyX_name (hR : Rep r T m S H) {g : G} {v : V} {k : String} (h : RepV r m H g v) (e : tyName S g = some k) : TyX r.K H v (.type k) ∧ k ∈ tyNames := by
  cases h with
  | non => cases e; exact ⟨.base .non, by decide⟩
  | bl b => cases e; exact ⟨.base (.bl b), by decide⟩
  | int i => cases e; exact ⟨.base (.int i), by decide⟩
  | str s => cases e; exact ⟨.base (.str s), by decide⟩
  | tup h z t =>
    cases e
    refine ⟨?_, by decide⟩
    rcases h with h | ⟨o, its, n, h1, h2, _⟩
    · exact .base (.tup h.2)
    · exact .kTuple h1 h2
  | tl n h z t => cases e; exact ⟨.base (.lst h), by decide⟩
  | @ref n a h =>
    have e : (match S[n]? with
      | some (.lst _ _) => some "list"
      | _ => none) = some k := e
    cases q : S[n]? with
    | none => rw [q] at e; cases e
    | some o =>
      rw [q] at e
      cases o with
      | lst w l =>
        cases e
        refine ⟨?_, by decide⟩
        have ho := hR.obj n a _ h q
        cases w with
        | true => obtain ⟨vs, h1, z, t⟩ := ho; exact .base (.lst h1)
        | false =>
          obtain ⟨vs, h1, z, t⟩ := ho
          rcases h1 with h1 | ⟨_, h1⟩
          · exact .base (.lst h1)
          · exact .base (.frz h1)
      | dic _ _ => cases e
      | ins _ _ => cases e
  | _ => cases e
theorem tyX_own (hR : Rep r T m S H) {g : G} {v : V} {c : Str} {C : Addr} (h : RepV r m H g v) (e : ownC S g = some c) (hm : r.mg c = some (.ref C)) (hC : ClsI r.K C) : TyX r.K H v (.ref C) := by
  cases h with
  | @ref n a h =>
    have e : (match S[n]? with
      | some (.ins c _) => some c
      | _ => none) = some c := e
    cases q : S[n]? with
    | none => rw [q] at e; cases e
    | some o =>
      rw [q] at e
      cases o with
      | ins c' fs =>
        cases e
        obtain ⟨C', dx, vs, h1, h2, _⟩ := hR.obj n a _ h q
        rw [hm] at h1
        cases h1
        exact .base (.ins h2 hC.cl hC.ha hC.hn hC.htk hC.hm)
      | lst _ _ => cases e
      | dic _ _ => cases e
  | _ => cases e
theorem isi_one (ht : TabOk r t) (hR : Rep r T m S H) {x c : G} {v u : V} {b : Bool} (hx : RepV r m H x v) (hc : RepV r m H c u) (e : isiOne t S x c = some b) :
    ∃ k w, ClsV u w ∧ TyX r.K H v k ∧ PySem.W.kitOne r.K k w = some b := by
  cases c <;> try (cases e; done)
  · rename_i d
    have e : (if t.cls.contains d then (match tyName S x with
      | some k => some false
      | none => (match ownC S x with
        | some c => t.own c d
        | none => none)) else none) = some b := e
    split at e
    · rename_i hd
      have hd : d ∈ t.cls := by simpa using hd
      obtain ⟨D, hD, iD, f1, f2⟩ := ht.ins d hd
      cases hc with
      | gl hm =>
        rw [hD] at hm
        cases hm
        cases e1 : tyName S x with
        | some k =>
          rw [e1] at e
          cases e
          obtain ⟨q1, q2⟩ := tyX_name hR hx e1
          exact ⟨_, _, .own _, q1, f1 k q2⟩
        | none =>
          rw [e1] at e
          dsimp only at e
          cases e2 : ownC S x with
          | none => rw [e2] at e; cases e
          | some c =>
            rw [e2] at e
            have e : t.own c d = some b := e
            unfold Tab.own at e
            split at e
            · rename_i hh
              rw [Bool.and_eq_true] at hh
              have hcm : c ∈ t.cls := by simpa using hh.1
              cases e
              obtain ⟨C, hC, iC, _, _⟩ := ht.ins c hcm
              exact ⟨_, _, .own _, tyX_own hR hx e2 hC iC, ht.own c hcm d hd C D hC hD⟩
            · cases e
    · cases e
  · rename_i n
    have e : (match tyName S x with
      | some k => tyIs k n
      | none => (match ownC S x with
        | some c => if t.cls.contains c && tyNames.contains n then some false else none
        | none => none)) = some b := e
    cases hc with
    | ty =>
      cases e1 : tyName S x with
      | some k =>
        rw [e1] at e
        obtain ⟨q1, q2⟩ := tyX_name hR hx e1
        exact ⟨_, _, .ty _, q1, tyIs_ok e⟩
      | none =>
        rw [e1] at e
        dsimp only at e
        cases e2 : ownC S x with
        | none => rw [e2] at e; cases e
        | some c =>
          rw [e2] at e
          dsimp only at e
          split at e
          · rename_i hh
            rw [Bool.and_eq_true] at hh
            have hcm : c ∈ t.cls := by simpa using hh.1
            have hnm : n ∈ tyNames := by simpa using hh.2
            cases e
            obtain ⟨C, hC, iC, _, f2⟩ := ht.ins c hcm
            exact ⟨_, _, .ty _, tyX_own hR hx e2 hC iC, f2 n hnm⟩
          · cases e
theorem tys_rep : ∀ {cs : List G} {us : List V} {ns : List String}, RepVs r m H cs us → tysOf cs = some ns → Paired ClsV us (ns.map Value.type)
  | _, _, _, .nil, e => by cases e; exact .nil
  | .ty n :: cs, _, _, .cons a q, e => by
    have e : (tysOf cs).map (fun l => n :: l) = some _ := e
    cases e1 : tysOf cs with
    | none => rw [e1] at e; cases e
    | some l =>
      rw [e1] at e
      cases e
      cases a
      exact .cons (.ty n) (tys_rep q e1)
theorem tys_any {K : PySem.W.Frag} {k : String} : ∀ {ns : List String} {b : Bool}, isiTys k ns = some b → PySem.W.kitAny K (.type k) (ns.map Value.type) = some b
  | [], _, e => by cases e; exact kitAny_nil
  | n :: r, b, e => by
    unfold isiTys at e
    cases e1 : tyIs k n with
    | none => rw [e1] at e; cases e
    | some b1 =>
      rw [e1] at e
      cases b1 with
      | true =>
        dsimp only at e
        cases e2 : isiTys k r with
        | none => rw [e2] at e; cases e
        | some b2 =>
          rw [e2] at e
          cases e
          exact kitAny_cons (tyIs_ok e1) (by simp) (fun _ => rfl)
      | false => exact kitAny_cons (tyIs_ok e1) (fun _ => tys_any e) (by simp)
theorem cr_gIsi (hK : X.K = r.K) (ht : TabOk r t) : CallR X (.builtin "isinstance") (rPA r T (gIsi t)) := CallR_imp (call_isi.or (call_isiT.or call_isiK)) fun xs H Q ⟨m, S, gs, g, hR, h, e, k⟩ => by
  unfold gIsi at e
  split at e
  · rename_i x cs
    obtain ⟨v, u, rfl, h1, h2⟩ := len2 h
    cases e0 : isiAny S x cs with
    | none => rw [e0] at e; cases e
    | some b =>
      rw [e0] at e
      cases e
      unfold isiAny at e0
      split at e0
      · rename_i kk ns e1 e2
        obtain ⟨q1, _⟩ := tyX_name hR h1 e1
        have q2 := tys_any (K := r.K) e0
        have q := k H _ (.refl _ _) hR (.bl b)
        rw [hK]
        cases h2 with
        | @tup p vs _ hp z tt =>
          have q3 := tys_rep tt e2
          rcases hp with hp | ⟨o, its, n, hp, hc, hd, hs, hv⟩
          · exact .inr (.inl ⟨v, p, vs, _, _, b, rfl, hp.2, q3, q1, q2, q⟩)
          · obtain ⟨cls, od, dt, sl⟩ := o
            simp only at hc hd
            subst hc hd
            have e3 := ClsV.all q3 hv
            have e4 : its = (ns.map Value.type).toArray := by rw [← e3]
            subst e4
            exact .inr (.inr ⟨v, p, od, _, n, sl, _, b, rfl, hp, q1, q2, q⟩)
      · cases e0
  · rename_i x c _
    obtain ⟨v, u, rfl, h1, h2⟩ := len2 h
    cases e0 : isiOne t S x c with
    | none => rw [e0] at e; cases e
    | some b =>
      rw [e0] at e
      cases e
      obtain ⟨kk, w, q1, q2, q3⟩ := isi_one ht hR h1 h2 e0
      rw [hK]
      exact .inl ⟨v, u, kk, w, b, rfl, q1, q2, q3, k H _ (.refl _ _) hR (.bl b)⟩
  · cases e
end
end GL

end

section
set_option Elab.async false
set_option linter.all false
set_option maxRecDepth 100000
set_option maxHeartbeats 4000000
/-! GL: enumerate of a tuple. -/
namespace L2
open PySem PySem.Spec PyProof.Rows
open Sem (wp)
open AutoSeq1 (wpAny_loadPart')
theorem meets_enumerate_newB1 {v : Value} {o : Obj} {H : Heap → Prop} (B : Begins v o H) :
    Meets (Builtin.«enumerate.__new__» ⟨[.type "enumerate", v], []⟩) (fun _ R s => H s.heap ∧
      R (.ok (.ret (.ref (s.heap.push o).objs.size))) { s with heap := (s.heap.push o).push { cls := .type "enumerate", data := .fields #[.none, .bool false, .ref s.heap.objs.size, rawInt 0, .none, .none] } }) :=
  .of_wp fun prog w A R s h => by
    obtain ⟨hp, g, d, tk, os⟩ := s; obtain ⟨h1, h⟩ := h
    have hsub := sub_enumerate
    have q1 : ∀ {A' : Around} {E : Value → Shared → Prop} {Q : Value → Shared → Prop}, Q (.ref hp.objs.size) ⟨hp.push o, g, d, tk, os⟩ → wpAny (model prog w) A' (pyIter v) Q E ⟨hp, g, d, tk, os⟩ :=
      fun q => B.iter prog w _ _ ⟨hp, g, d, tk, os⟩ _ h1 q
    wp_walk using q1
    refine wpAny_stack_any fun st => wpAny_pure ?_
    split
    · rename_i c _ _ _ _ _
      cases (c == Value.type "enumerate")
      · wp_walk using q1
        exact ⟨_, rfl, h⟩
      · wp_walk using q1
        exact ⟨_, rfl, h⟩
    · wp_walk using q1
      exact ⟨_, rfl, h⟩
section
variable {prog : Program} {w : World} {A : Around} {E : Value → Shared → Prop} {s : Shared}
theorem enum_begins1 {v : Value} {o : Obj} {H : Heap → Prop} {Q : Value → Shared → Prop} (B : Begins v o H) (h1 : H s.heap)
    (h : ∀ h', IsEnum h' (s.heap.objs.size + 1) s.heap.objs.size 0 .none → h'.get? s.heap.objs.size = some o → h'.objs.size = s.heap.objs.size + 2 →
      (∀ b o, s.heap.get? b = some o → h'.get? b = some o) → Q (.ref (s.heap.objs.size + 1)) { s with heap := h' }) :
    wpAny (model prog w) A (call (.type "enumerate") [v]) Q E s := by
  refine callType_new F.called_enumerate (by decide) (F.typeCall_enumerate_1 _) (F.newCall_enumerate_1 _) (fun obj => F.args_object_init_2 obj _) F.entry_enumerate_new
    (meets_enumerate_newB1 B) ⟨h1, ?_⟩
  have hz : (s.heap.push o).objs.size = s.heap.objs.size + 1 := Heap.size_push ..
  show _ ∧ _
  rw [hz]
  have he : IsEnum ((s.heap.push o).push
      { cls := .type "enumerate", data := .fields #[.none, .bool false, .ref s.heap.objs.size, rawInt 0, .none, .none] }) (s.heap.objs.size + 1) s.heap.objs.size 0 .none := by
    have := Heap.get?_push_size (s.heap.push o)
      (o := { cls := .type "enumerate", data := .fields #[.none, .bool false, .ref s.heap.objs.size, rawInt 0, .none, .none] }) rfl
    rw [hz] at this; exact this
  refine ⟨⟨_, he, rfl⟩, h _ he (Heap.get?_push_of_some _ (Heap.get?_push_size _ B.free)) (by rw [Heap.size_push, hz]) fun b o x => Heap.get?_push_of_some _ (Heap.get?_push_of_some _ x)⟩
end
/-- the tuple at a, each item in a new pair -/
def IteT (K : PySem.W.Frag) (a : Addr) : It :=
  ⟨fun i H => ∃ (xs : List V) (x : V), SqT K H a xs ∧ xs[i]? = some x, fun i H v H' => ∃ T x, v = .ref T ∧ H T = none ∧ H' = upd H T (.tup [.int (i : Nat), x]) ∧ ∀ xs, SqT K H a xs → xs[i]? = some x, fun i H => ∃ xs : List V, SqT K H a xs ∧ xs.length ≤ i⟩
theorem turn_enumT {P : Program} {w : World} {K : PySem.W.Frag} {elts : List Expr} {kk : Nat} {tpos : Pos} (a e it : Addr) (hai : a ≠ it) (hae : a ≠ e) :
    Turn P w K (.Tuple elts kk tpos) (IteT K a) [e, it] e (fun i h => (∃ old, IsEnum h e it ((i : Nat) : Int) old) ∧ h.IsTupleIter it a i ∧ e ≠ it) where
  mem := by simp
  obj := fun i h st b hb => by
    obtain ⟨⟨old, he⟩, ⟨o, ho, hc, hd⟩, _⟩ := st
    have e' : b = e ∨ b = it := by simpa using hb
    rcases e' with z | z
    · rw [z]; exact ⟨_, he, fun v q => nomatch q⟩
    · rw [z]; exact ⟨o, ho, fun v q => by rw [hd] at q; cases q⟩
  keep := fun i h h' st k => let ⟨⟨old, he⟩, hi, hne⟩ := st; ⟨⟨old, k e (by simp) _ he⟩, hi.at fun o q => k it (by simp) o q, hne⟩
  item := by
    intro X hP hw hK hc i pins s σ H E I hf st hg
    subst hP hw hK
    obtain ⟨⟨old, he⟩, hit, hne⟩ := st
    obtain ⟨xs, x, hq, hx⟩ := hg
    obtain ⟨its, rv, p, hz⟩ := I.tuple hq
    obtain ⟨u, hu, ru⟩ := rv.get hx
    have hel : e < s.heap.objs.size := Heap.lt_size he
    have hil : it < s.heap.objs.size := by obtain ⟨_, q, _⟩ := hit; exact Heap.lt_size q
    have hT0 : s.heap.IsTuple a its.toArray := p
    have D := Draws.tuple (prog := X.prog) (w := X.w) (A := X.A.in1) (I.ok.hd hc) it a hai its.toArray
    have hlt : i < its.toArray.size := by
      rw [List.size_toArray]
      exact (List.getElem?_eq_some_iff.mp hu).1
    refine wpAny_pyNext_enum_itemD D he ⟨hit, hT0⟩ hlt hne (by simp [hne, Ne.symm hae]) fun v h' tk hP' ho hit' hT hsz hk => ?_
    have ev : v = u := by
      have q : its.toArray[i]? = some v := hP'
      rw [show its.toArray[i]? = some u by simpa using hu] at q
      exact (Option.some.inj q).symm
    subst ev
    refine ⟨_, rfl, wpAny_letOwnedTupleGo_enum (s := { s with heap := h', toks := tk + 1 }) ho fun h'' he' sb => ?_⟩
    have hT2 : h''.get? s.heap.objs.size = some { cls := .type "tuple", data := .seq #[.int i tk, v] } := (sb.2 _ (Nat.ne_of_gt hel)).trans hT
    have new : ObjOk X.prog X.w (upd H s.heap.objs.size (.tup [.int (i : Nat), x])) h'' s.heap.objs.size (.tup [.int (i : Nat), x]) :=
      ⟨by show 2 ≤ sizeLine; decide, [.int i tk, v], .cons ⟨_, rfl⟩ (.cons ru .nil), ⟨_, hT2, rfl, _, rfl⟩⟩
    have I1 : Inv X pins σ (upd H s.heap.objs.size (.tup [.int (i : Nat), x])) { s with heap := h'', toks := tk + 1 } :=
      I.turnedNew (ch := [e, it]) (fun b ob hb q => (sb.2 b (fun z => hb (by simp [z]))).trans (hk b ob (fun z => hb (by simp [z])) (fun z => hb (by simp [z])) q)) hf (Nat.le_refl _) new
    refine ⟨.ref s.heap.objs.size, _, I1, rfl, ⟨_, x, rfl, I.hok.fresh (Nat.le_refl _), rfl, fun ys hy => by rw [I.tuple_inj hy hq]; exact hx⟩, ⟨⟨v, ?_⟩, hit'.1.at fun o q => (sb.2 it (Ne.symm hne)).trans q, hne⟩, fun b hb => ?_⟩
    · have e1 : ((i + 1 : Nat) : Int) = (i : Int) + 1 := by omega
      rw [e1]; exact he'
    · have hb' : b < s.heap.objs.size := by
        have e' : b = e ∨ b = it := by simpa using hb
        rcases e' with z | z
        · rw [z]; exact hel
        · rw [z]; exact hil
      rw [upd_ne (Nat.ne_of_lt hb')]
      exact (hf b hb).1
  done := by
    intro X hP hw hK hc i pins s σ H E I hf st hg
    subst hP hw hK
    obtain ⟨⟨old, he⟩, hit, hne⟩ := st
    obtain ⟨xs, hq, hx⟩ := hg
    obtain ⟨its, rv, p, hz⟩ := I.tuple hq
    obtain ⟨f0, f1, f2, f3, f4, f5⟩ := hf it (by simp)
    have hl := rv.length
    have hT0 : s.heap.IsTuple a its.toArray := p
    have hT : s.TypeIs (.ref e) "enumerate" := ⟨_, he, rfl⟩
    unfold pyNext
    refine wpAny_bind (wpAny_attempt (wpAny_callSpecial?_slot (name := Str.ofString "__next__") hT F.slot_enumerate_next
      (wpAny_call_entry F.slot_enumerate_next hT F.entry_enumerate_next ?_ (F.args_enumerate_next_1 _))))
    show wpAny _ _ (field (.ref e) 2 >>= _) _ _ _
    refine wpAny_bind (wpAny_field he rfl (x := .ref it) rfl ?_)
    refine wpAny_bind (RZ.nextOf_tuple_end (I.ok.hd hc) hit hT0 (by simp; omega) fun h' x he' hx' => ?_)
    obtain ⟨o, ho, hcc⟩ := hx'
    refine wpAny_bind (wpAny_isInstance (T := "StopIteration") (b := true) ⟨o, ho, hcc⟩ isSubtype_stop ?_)
    exact wpAny_pure ⟨rfl, I.turned (t' := s.toks) (fun b o hb q => he' b o hb q) f0 f1 f3 f4 f5⟩
  self := fun A i s Q E st h => let ⟨⟨_, he⟩, _⟩ := st; wpAny_pyIter_enum he h
def iEnumA (K : PySem.W.Frag) (ta : TA) : TI := fun σ H R => ta σ H fun vs H1 => ∃ a xs, vs = [.ref a] ∧ ((SqL K H1 a xs ∧ R (Ite K a) H1) ∨ (SqT K H1 a xs ∧ R (IteT K a) H1))
theorem pi_enumA {X : Cx} {e : Expr} {ta : TA} {p pos tpos : Pos} {elts : List Expr} {kk : Nat} (hg : Gl X "enumerate") (hm : X.mg "enumerate" = none) (ha : PA X [e] ta) (hs : starEach [e] X.env = [(false, eval e X.env)] := by rfl) :
    PI X (.Tuple elts kk tpos) (.Call (.Name "enumerate" p) [e] [] pos) (iEnumA X.K ta) := by
  refine ⟨fun pins s σ H R I h => ?_⟩
  refine Call_ (ld_blt I hg hm boot_enumerate (PyProof.Rows.callWith_type1 (thn (ha.run pos pins s σ H _ I h) fun us s1 ⟨vs, H1, I1, r1, q1⟩ => ?_) hs rfl))
  obtain ⟨a, xs, ex, q⟩ := q1
  subst ex
  cases r1 with
  | cons r rr =>
    cases rr
    cases r
    have fr : ∀ b ∈ [s1.heap.objs.size + 1, s1.heap.objs.size], FpOk X pins H1 b := fun b hb => by
      have e' : b = s1.heap.objs.size + 1 ∨ b = s1.heap.objs.size := by simpa using hb
      have hle : s1.heap.objs.size ≤ b := by
        rcases e' with z | z
        · rw [z]; exact Nat.le_add_right _ _
        · rw [z]; exact Nat.le_refl _
      exact I1.fpOk hle (I1.hok.fresh hle)
    rcases q with ⟨hq, q⟩ | ⟨hq, q⟩
    · obtain ⟨its, rv, p', hz⟩ := I1.list hq
      refine call_enumerate_list p'.isList fun h' he hit hsz hk => wpAny_pyIter_enum he ?_
      have I2 : Inv X pins σ H1 { s1 with heap := h' } := I1.kept (t' := s1.toks) hk
      exact ⟨s1.heap.objs.size + 1, [s1.heap.objs.size + 1, s1.heap.objs.size], _, _, H1, rfl, I2, turn_enum a (s1.heap.objs.size + 1) s1.heap.objs.size, ⟨⟨.none, he⟩, hit, Nat.succ_ne_self _⟩, fr, q⟩
    · obtain ⟨its, rv, p', hz⟩ := I1.tuple hq
      have hT0 : s1.heap.IsTuple a its.toArray := p'
      obtain ⟨oa, hoa, _⟩ := id p'
      have hal : a < s1.heap.objs.size := Heap.lt_size hoa
      refine enum_begins1 (begins_tuple a its.toArray) hT0 fun h' he hit hsz hk => wpAny_pyIter_enum he ?_
      have I2 : Inv X pins σ H1 { s1 with heap := h' } := I1.kept (t' := s1.toks) hk
      exact ⟨s1.heap.objs.size + 1, [s1.heap.objs.size + 1, s1.heap.objs.size], _, _, H1, rfl, I2, turn_enumT a (s1.heap.objs.size + 1) s1.heap.objs.size (Nat.ne_of_lt hal) (Nat.ne_of_lt (Nat.lt_succ_of_lt hal)), ⟨⟨.none, he⟩, ⟨_, hit, rfl, rfl⟩, Nat.succ_ne_self _⟩, fr, q⟩
end L2

end

section
set_option Elab.async false
set_option linter.all false
set_option maxRecDepth 100000
set_option maxHeartbeats 4000000
/-! GL: what is walked. -/
namespace GL
open PySem PySem.Spec PyProof.Rows L2

/-- list, tuple or str, walked -/
def iAny (K : PySem.W.Frag) (te : TE) : TI := fun s H R => te s H fun x H1 => (∃ a xs, x = .ref a ∧ SqL K H1 a xs ∧ R (Itl K a) H1) ∨ (∃ a xs, x = .ref a ∧ SqT K H1 a xs ∧ R (Itt K a) H1) ∨ ∃ z, x = .str z ∧ R (Its z) H1
theorem pi_any {X : Cx} {tg l : Expr} {tl : TE} (hl : PE X l tl) : PI X tg l (iAny X.K tl) := by
  refine ⟨fun pins s σ H R I h => ?_⟩
  refine thn (hl.run pins s σ H _ I h) fun v s1 ⟨x, H1, I1, r1, q1⟩ => ?_
  rcases q1 with ⟨a, xs, rfl, hq, q⟩ | ⟨a, xs, rfl, hq, q⟩ | ⟨z, rfl, q⟩
  · cases r1
    obtain ⟨its, rv, p, hz⟩ := I1.list hq
    refine wpAny_pyIter_list p.isList ?_
    exact pi_one (tk := s1.toks) I1 _ (turn_list a _) ⟨_, Heap.get?_push_size _ rfl, rfl, rfl⟩ q
  · cases r1
    obtain ⟨its, rv, p, hz⟩ := I1.tuple hq
    refine wpAny_pyIter_tuple (show s1.heap.IsTuple a its.toArray from p) ?_
    exact pi_one (tk := s1.toks) I1 _ (turn_tuple a _) ⟨_, Heap.get?_push_size _ rfl, rfl, rfl⟩ q
  · obtain ⟨t, rfl⟩ := r1
    cases ha : z.cps.all (· < 128)
    · exact wpAny_pyIter_wide ha (pi_one (tk := s1.toks) I1 _ (turn_str _ z t "str_iterator" (.inr rfl)) ⟨_, Heap.get?_push_size _ rfl, rfl, rfl⟩ q)
    · exact wpAny_pyIter_ascii ha (pi_one (tk := s1.toks) I1 _ (turn_str _ z t "str_ascii_iterator" (.inl rfl)) ⟨_, Heap.get?_push_size _ rfl, rfl, rfl⟩ q)
theorem PI_imp {X : Cx} {tg e : Expr} {t t' : TI} (h : PI X tg e t) (i : ∀ s H R, t' s H R → t s H R) : PI X tg e t' := ⟨fun pins s l H R I w => h.run pins s l H R I (i _ _ _ w)⟩

def signsG (z : Str) : List G := z.cps.toList.map fun c => .str ⟨#[c]⟩
abbrev Itr0 := Loc → Sto → R It
def itV (f : Ev) : Itr0 := fun l S => rb (f l S) fun g S => match g with
  | .str z => if z.length ≤ sizeLine then .ok (.fix (signsG z)) S else .bad
  | .tup xs => .ok (.fix xs) S
  | .tl xs => .ok (.fix xs) S
  | .ref n => (match lstAt S n with
    | some _ => .ok (.dyn n) S
    | none => .bad)
  | _ => .bad
def intsFrom (lo : Int) (n : Nat) : List G := (List.range n).map fun i => .int (lo + (i : Nat))
def intsDown (lo : Int) (n : Nat) : List G := (List.range n).map fun i => .int (lo - (i : Nat))
noncomputable def itR1 (f : As) : Itr0 := fun l S => rb (f l S) fun gs S => match gs with
  | [.int j] => if j ≤ big ∧ -big ≤ j then .ok (.fix (intsFrom 0 j.toNat)) S else .bad
  | _ => .bad
noncomputable def itR2 (f : As) : Itr0 := fun l S => rb (f l S) fun gs S => match gs with
  | [.int i, .int j] => if j ≤ big ∧ -big ≤ i ∧ i ≤ big ∧ -big ≤ j then .ok (.fix (intsFrom i (j - i).toNat)) S else .bad
  | _ => .bad
noncomputable def itR3 (f : As) : Itr0 := fun l S => rb (f l S) fun gs S => match gs with
  | [.int i, .int j, .int (-1)] => if i ≤ big ∧ -big ≤ j ∧ j ≤ big ∧ -big ≤ i then .ok (.fix (intsDown i (i - j).toNat)) S else .bad
  | _ => .bad
def numd : Nat → List G → List G
  | _, [] => []
  | k, x :: xs => .tup [.int k, x] :: numd (k + 1) xs
def itEn (f : As) : Itr0 := fun l S => rb (f l S) fun gs S => match gs with
  | [.tup xs] => .ok (.fix (numd 0 xs)) S
  | [.tl xs] => .ok (.fix (numd 0 xs)) S
  | _ => .bad
def pairG : List G → List G → List G
  | x :: xs, y :: ys => .tup [x, y] :: pairG xs ys
  | _, _ => []
def itZip (f : As) : Itr0 := fun l S => rb (f l S) fun gs S => match gs with
  | [.tup xs, .tup ys] => .ok (.fix (pairG xs ys)) S
  | [.tl xs, .tl ys] => .ok (.fix (pairG xs ys)) S
  | _ => .bad

section
variable {r : RP} {T : List (Addr × Str)} {m m' : List Addr} {S : Sto} {H H' : Hp} {W : WX} {X : Cx} {s : L2.St}
theorem seq_ok {l : List G} {p : Addr} {vs : List V} (z : l.length ≤ sizeLine) (h : ∀ hs m' H', (∀ a ∈ hs, H a = none) → ExtB r.hid m H m' H' → SqL r.K H' p vs ∧ RepVs (r.hides hs) m' H' l vs) : ItOk r T m H (.fix l) (Itl r.K p) := by
  refine ⟨fun hs k m' S' H' x hD e hR q => ?_, fun hs k m' S' H' hD e hR q => ?_, fun xs q => by cases q; exact z⟩
  · obtain ⟨hq, t⟩ := h hs m' H' hD e
    have q : l[k]? = some x := by simpa [itAt] using q
    obtain ⟨v, hv, rv⟩ := t.get q
    refine ⟨⟨vs, v, hq, hv⟩, fun v2 H2 ⟨e2, y⟩ => ?_⟩
    subst e2
    have := y vs hq
    rw [hv] at this
    cases this
    exact ⟨.refl _ _, hR, rv⟩
  · obtain ⟨hq, t⟩ := h hs m' H' hD e
    have q : l[k]? = none := by simpa [itAt] using q
    exact ⟨vs, hq, by rw [← t.length]; exact List.getElem?_eq_none_iff.mp q⟩
theorem tup_ok {l : List G} {p : Addr} {vs : List V} (z : l.length ≤ sizeLine) (h : ∀ hs m' H', (∀ a ∈ hs, H a = none) → ExtB r.hid m H m' H' → SqT r.K H' p vs ∧ RepVs (r.hides hs) m' H' l vs) : ItOk r T m H (.fix l) (Itt r.K p) := by
  refine ⟨fun hs k m' S' H' x hD e hR q => ?_, fun hs k m' S' H' hD e hR q => ?_, fun xs q => by cases q; exact z⟩
  · obtain ⟨hq, t⟩ := h hs m' H' hD e
    have q : l[k]? = some x := by simpa [itAt] using q
    obtain ⟨v, hv, rv⟩ := t.get q
    refine ⟨⟨vs, v, hq, hv⟩, fun v2 H2 ⟨e2, y⟩ => ?_⟩
    subst e2
    have := y vs hq
    rw [hv] at this
    cases this
    exact ⟨.refl _ _, hR, rv⟩
  · obtain ⟨hq, t⟩ := h hs m' H' hD e
    have q : l[k]? = none := by simpa [itAt] using q
    exact ⟨vs, hq, by rw [← t.length]; exact List.getElem?_eq_none_iff.mp q⟩
/-- a tuple, a temporary list, from here on -/
theorem tup_on {l : List G} {p : Addr} (h : RepV r m H (.tup l) (.ref p)) : ∃ vs, l.length = vs.length ∧ l.length ≤ sizeLine ∧ SqT r.K H p vs ∧ RepVs r m H l vs ∧ ∀ hs m' H', (∀ a ∈ hs, H a = none) → ExtB r.hid m H m' H' → SqT r.K H' p vs ∧ RepVs (r.hides hs) m' H' l vs := by
  cases h with
  | tup h z t =>
    refine ⟨_, t.length, by rw [t.length]; exact z, TupSq h, t, fun hs m' H' hD e => ⟨?_, (t.hides hD).extB e (fun a z => List.mem_append_right _ z)⟩⟩
    rcases h with h | h
    · exact .inl (.inl (e.keep _ _ h.1.1 h.1.2 (fun _ z => by cases z) h.2))
    · exact .inr h
theorem tl_on {l : List G} {p : Addr} (h : RepV r m H (.tl l) (.ref p)) : ∃ vs, l.length = vs.length ∧ l.length ≤ sizeLine ∧ SqL r.K H p vs ∧ RepVs r m H l vs ∧ ∀ hs m' H', (∀ a ∈ hs, H a = none) → ExtB r.hid m H m' H' → SqL r.K H' p vs ∧ RepVs (r.hides hs) m' H' l vs := by
  cases h with
  | tl n h z t =>
    exact ⟨_, t.length, by rw [t.length]; exact z, .inl (.inl h), t, fun hs m' H' hD e => ⟨.inl (.inl (e.keep _ _ n.1 n.2 (fun _ z => by cases z) h)), (t.hides hD).extB e (fun a z => List.mem_append_right _ z)⟩⟩
theorem signs_get (z : Str) (k : Nat) : (signsG z)[k]? = (z.cps[k]?).map fun c => .str ⟨#[c]⟩ := by
  unfold signsG
  rw [List.getElem?_map, Array.getElem?_toList]
theorem str_ok {z : Str} (hz : z.length ≤ sizeLine) : ItOk r T m H (.fix (signsG z)) (Its z) := by
  refine ⟨fun hs k m' S' H' x hD e hR q => ?_, fun hs k m' S' H' hD e hR q => ?_, fun xs q => by cases q; unfold signsG; rw [List.length_map, Array.length_toList]; exact hz⟩
  · have q : (signsG z)[k]? = some x := by simpa [itAt] using q
    rw [signs_get] at q
    cases q2 : z.cps[k]? with
    | none => rw [q2] at q; cases q
    | some c =>
      rw [q2] at q
      cases q
      refine ⟨(Array.getElem?_eq_some_iff.mp q2).1, fun v H2 ⟨e1, c', e2, e3⟩ => ?_⟩
      subst e1 e3
      rw [q2] at e2
      cases e2
      exact ⟨.refl _ _, hR, .str _⟩
  · have q : (signsG z)[k]? = none := by simpa [itAt] using q
    rw [signs_get] at q
    cases q2 : z.cps[k]? with
    | none => exact Array.getElem?_eq_none_iff.mp q2
    | some c => rw [q2] at q; cases q
theorem ints_ok {lo : Int} {n : Nat} (hn : n ≤ 2000000) : ItOk r T m H (.fix (intsFrom lo n)) (Itr lo n) := by
  have hg : ∀ k, (intsFrom lo n)[k]? = if k < n then some (.int (lo + (k : Nat))) else none := fun k => by
    unfold intsFrom
    rw [List.getElem?_map]
    by_cases c : k < n
    · rw [if_pos c, List.getElem?_range c]; rfl
    · rw [if_neg c, List.getElem?_eq_none (by rw [List.length_range]; omega)]; rfl
  refine ⟨fun hs k m' S' H' x hD e hR q => ?_, fun hs k m' S' H' hD e hR q => ?_, fun xs q => by cases q; unfold intsFrom; rw [List.length_map, List.length_range, sizeLine_eq]; omega⟩
  · have q : (intsFrom lo n)[k]? = some x := by simpa [itAt] using q
    rw [hg] at q
    split at q
    · cases q
      rename_i c
      exact ⟨c, fun v H2 ⟨e1, e2⟩ => by subst e1 e2; exact ⟨.refl _ _, hR, .int _⟩⟩
    · cases q
  · have q : (intsFrom lo n)[k]? = none := by simpa [itAt] using q
    rw [hg] at q
    split at q
    · cases q
    · rename_i c; exact Nat.le_of_not_lt c
theorem down_ok {lo : Int} {n : Nat} (hn : n ≤ 2000000) : ItOk r T m H (.fix (intsDown lo n)) (Itc lo (-1) n) := by
  have hg : ∀ k, (intsDown lo n)[k]? = if k < n then some (.int (lo - (k : Nat))) else none := fun k => by
    unfold intsDown
    rw [List.getElem?_map]
    by_cases c : k < n
    · rw [if_pos c, List.getElem?_range c]; rfl
    · rw [if_neg c, List.getElem?_eq_none (by rw [List.length_range]; omega)]; rfl
  refine ⟨fun hs k m' S' H' x hD e hR q => ?_, fun hs k m' S' H' hD e hR q => ?_, fun xs q => by cases q; unfold intsDown; rw [List.length_map, List.length_range, sizeLine_eq]; omega⟩
  · have q : (intsDown lo n)[k]? = some x := by simpa [itAt] using q
    rw [hg] at q
    split at q
    · cases q
      rename_i c
      refine ⟨c, fun v H2 ⟨e1, e2⟩ => ?_⟩
      subst e1 e2
      have e3 : lo + ((k : Nat) : Int) * -1 = lo - (k : Nat) := by omega
      rw [e3]
      exact ⟨.refl _ _, hR, .int _⟩
    · cases q
  · have q : (intsDown lo n)[k]? = none := by simpa [itAt] using q
    rw [hg] at q
    split at q
    · cases q
    · rename_i c; exact Nat.le_of_not_lt c
theorem numd_get : ∀ (l : List G) (b k : Nat), (numd b l)[k]? = (l[k]?).map fun x => .tup [.int ((b + k : Nat) : Int), x]
  | [], b, k => by simp [numd]
  | x :: l, b, 0 => by simp [numd]
  | x :: l, b, k + 1 => by
    unfold numd
    rw [List.getElem?_cons_succ, List.getElem?_cons_succ, numd_get l (b + 1) k]
    have : b + 1 + k = b + (k + 1) := by omega
    rw [this]
theorem numd_len : ∀ (l : List G) (b : Nat), (numd b l).length = l.length
  | [], b => rfl
  | x :: l, b => by unfold numd; rw [List.length_cons, List.length_cons, numd_len l (b + 1)]
theorem pair_rep {x y : G} {u v : V} (a : RepV r m H x u) (b : RepV r m H y v) : RepVs r m H [x, y] [u, v] := .cons a (.cons b .nil)
theorem en_fix {l : List G} {J : L2.It} {sq : Hp → List V → Prop} (z : l.length ≤ sizeLine) {vs : List V}
    (hgo : ∀ i H x, sq H vs → vs[i]? = some x → J.go i H) (hy : ∀ i H v H', J.yld i H v H' → ∃ T x, v = .ref T ∧ H T = none ∧ H' = upd H T (.tup [.int (i : Nat), x]) ∧ (sq H vs → vs[i]? = some x)) (hst : ∀ i H, sq H vs → vs.length ≤ i → J.stop i H)
    (h : ∀ hs m' H', (∀ a ∈ hs, H a = none) → ExtB r.hid m H m' H' → sq H' vs ∧ RepVs (r.hides hs) m' H' l vs) : ItOk r T m H (.fix (numd 0 l)) J := by
  refine ⟨fun hs k m' S' H' x hD e hR q => ?_, fun hs k m' S' H' hD e hR q => ?_, fun xs q => by cases q; rw [numd_len]; exact z⟩
  · obtain ⟨hq, t⟩ := h hs m' H' hD e
    have q : (numd 0 l)[k]? = some x := by simpa [itAt] using q
    rw [numd_get] at q
    cases q2 : l[k]? with
    | none => rw [q2] at q; cases q
    | some g =>
      rw [q2] at q
      cases q
      obtain ⟨v, hv, rv⟩ := t.get q2
      refine ⟨hgo k H' v hq hv, fun v2 H2 y => ?_⟩
      obtain ⟨T', x', e1, e2, e3, e4⟩ := hy k H' v2 H2 y
      subst e1 e3
      have := e4 hq
      rw [hv] at this
      cases this
      refine ⟨Ext.new e2 _, hR.fresh e2 _, ?_⟩
      have e5 : (0 + k : Nat) = k := by omega
      rw [e5]
      exact hR.newTup e2 (by show 2 ≤ sizeLine; decide) (pair_rep (.int _) rv)
  · obtain ⟨hq, t⟩ := h hs m' H' hD e
    have q : (numd 0 l)[k]? = none := by simpa [itAt] using q
    have := List.getElem?_eq_none_iff.mp q
    rw [numd_len, t.length] at this
    exact hst k H' hq this
theorem pair_get : ∀ (xs ys : List G) (k : Nat), (pairG xs ys)[k]? = (match xs[k]?, ys[k]? with | some x, some y => some (.tup [x, y]) | _, _ => none)
  | [], ys, k => by simp [pairG]
  | x :: xs, [], k => by
    simp only [pairG, List.getElem?_nil]
    cases (x :: xs)[k]? <;> rfl
  | x :: xs, y :: ys, 0 => by simp [pairG]
  | x :: xs, y :: ys, k + 1 => by
    unfold pairG
    rw [List.getElem?_cons_succ, List.getElem?_cons_succ, List.getElem?_cons_succ, pair_get xs ys k]
theorem pair_len : ∀ (xs ys : List G), (pairG xs ys).length ≤ xs.length
  | [], ys => by simp [pairG]
  | x :: xs, [] => by simp [pairG]
  | x :: xs, y :: ys => by unfold pairG; have := pair_len xs ys; simp; omega
theorem zip_fix {l l2 : List G} {J : L2.It} {sq : Hp → List V → Prop} {sq2 : Hp → List V → Prop} (z : l.length ≤ sizeLine) {vs vs2 : List V}
    (hgo : ∀ i H x y, sq H vs → sq2 H vs2 → vs[i]? = some x → vs2[i]? = some y → J.go i H) (hy : ∀ i H v H', J.yld i H v H' → ∃ T x y, v = .ref T ∧ H T = none ∧ H' = upd H T (.tup [x, y]) ∧ (sq H vs → vs[i]? = some x) ∧ (sq2 H vs2 → vs2[i]? = some y))
    (hst : ∀ i H, sq H vs → sq2 H vs2 → (vs.length ≤ i ∨ vs2.length ≤ i) → J.stop i H)
    (h : ∀ hs m' H', (∀ a ∈ hs, H a = none) → ExtB r.hid m H m' H' → sq H' vs ∧ RepVs (r.hides hs) m' H' l vs) (h2 : ∀ hs m' H', (∀ a ∈ hs, H a = none) → ExtB r.hid m H m' H' → sq2 H' vs2 ∧ RepVs (r.hides hs) m' H' l2 vs2) : ItOk r T m H (.fix (pairG l l2)) J := by
  refine ⟨fun hs k m' S' H' x hD e hR q => ?_, fun hs k m' S' H' hD e hR q => ?_, fun xs q => by cases q; have := pair_len l l2; omega⟩
  · obtain ⟨hq, t⟩ := h hs m' H' hD e
    obtain ⟨hq2, t2⟩ := h2 hs m' H' hD e
    have q : (pairG l l2)[k]? = some x := by simpa [itAt] using q
    rw [pair_get] at q
    cases q1 : l[k]? with
    | none => rw [q1] at q; cases q
    | some g =>
      cases q2 : l2[k]? with
      | none => rw [q1, q2] at q; cases q
      | some g2 =>
        rw [q1, q2] at q
        cases q
        obtain ⟨v, hv, rv⟩ := t.get q1
        obtain ⟨v2, hv2, rv2⟩ := t2.get q2
        refine ⟨hgo k H' v v2 hq hq2 hv hv2, fun v3 H2 y => ?_⟩
        obtain ⟨T', x', y', e1, e2, e3, e4, e5⟩ := hy k H' v3 H2 y
        subst e1 e3
        have a1 := e4 hq
        have a2 := e5 hq2
        rw [hv] at a1
        rw [hv2] at a2
        cases a1
        cases a2
        exact ⟨Ext.new e2 _, hR.fresh e2 _, hR.newTup e2 (by show 2 ≤ sizeLine; decide) (pair_rep rv rv2)⟩
  · obtain ⟨hq, t⟩ := h hs m' H' hD e
    obtain ⟨hq2, t2⟩ := h2 hs m' H' hD e
    have q : (pairG l l2)[k]? = none := by simpa [itAt] using q
    rw [pair_get] at q
    refine hst k H' hq hq2 ?_
    cases q1 : l[k]? with
    | none => exact .inl (by rw [← t.length]; exact List.getElem?_eq_none_iff.mp q1)
    | some g =>
      cases q2 : l2[k]? with
      | none => exact .inr (by rw [← t2.length]; exact List.getElem?_eq_none_iff.mp q2)
      | some g2 => rw [q1, q2] at q; cases q
theorem dyn_ok {n : Nat} {a : Addr} (h : m[n]? = some a) : ItOk r T m H (.dyn n) (Itl r.K a) := by
  have key : ∀ hs m' S' H' xs, ExtB r.hid m H m' H' → Rep (r.hides hs) T m' S' H' → lstAt S' n = some xs → ∃ vs, SqL r.K H' a vs ∧ RepVs (r.hides hs) m' H' xs vs := fun hs m' S' H' xs e hR q => by
    unfold lstAt at q
    cases q2 : S'[n]? with
    | none => rw [q2] at q; cases q
    | some o =>
      rw [q2] at q
      cases o with
      | lst w l =>
        cases q
        have ho := hR.obj n a _ (e.get h) q2
        cases w with
        | true => obtain ⟨vs, h1, z, t⟩ := ho; exact ⟨vs, .inl (.inl h1), t⟩
        | false => obtain ⟨vs, h1, z, t⟩ := ho; exact ⟨vs, .inl h1, t⟩
      | dic _ _ => cases q
      | ins _ _ => cases q
  refine ⟨fun hs k m' S' H' x hD e hR q => ?_, fun hs k m' S' H' hD e hR q => ?_, fun xs q => by cases q⟩
  · have q : (lstAt S' n).map (fun xs => xs[k]?) = some _ := q
    cases q2 : lstAt S' n with
    | none => rw [q2] at q; cases q
    | some xs =>
      rw [q2] at q
      have q : xs[k]? = some x := Option.some.inj q
      obtain ⟨vs, hq, t⟩ := key hs m' S' H' xs e hR q2
      obtain ⟨v, hv, rv⟩ := t.get q
      refine ⟨⟨vs, v, hq, hv⟩, fun v2 H2 ⟨e2, y⟩ => ?_⟩
      subst e2
      have := y vs hq
      rw [hv] at this
      cases this
      exact ⟨.refl _ _, hR, rv⟩
  · have q : (lstAt S' n).map (fun xs => xs[k]?) = some _ := q
    cases q2 : lstAt S' n with
    | none => rw [q2] at q; cases q
    | some xs =>
      rw [q2] at q
      have q : xs[k]? = none := Option.some.inj q
      obtain ⟨vs, hq, t⟩ := key hs m' S' H' xs e hR q2
      exact ⟨vs, hq, by rw [← t.length]; exact List.getElem?_eq_none_iff.mp q⟩
variable {tg e : Expr} {f : Ev} {es : List Expr} {fs : As} {p pos tpos : Pos} {elts : List Expr} {kk : Nat}
theorem pst_it {i : It} {J : L2.It} {R : L2.It → Hp → Prop} (q : Pst r T W (fun m' H' (i : It) (J : L2.It) => ItOk r T m' H' i J) s m H (.ok i S) fun J H' => R J H') (hR : Rep r T m S H) (h : ItOk r T m H i J) : R J H := q m H J (.refl _ _) hR h
theorem pi_itV (hK : X.K = r.K) (he : PE X e (tF r T W f)) : PI X tg e (tIF r T W (itV f)) :=
  PI_imp (pi_any he) fun s H R ⟨m, S, l, hR, hL, q⟩ => mono_tF (stE hR hL q) fun x H1 ⟨m1, S1, g, e, hR1, hL1, h1, q1⟩ => by
    rw [hK]
    cases g with
    | str z =>
      dsimp only at q1
      split at q1
      · cases h1
        exact .inr (.inr ⟨z, rfl, pst_it q1 hR1 (str_ok (by assumption))⟩)
      · exact False.elim q1
    | tup xs =>
      cases h1 with
      | @tup p vs _ h z t =>
        obtain ⟨vs, h0, z, h1, h2, h3⟩ := tup_on (.tup h z t)
        exact .inr (.inl ⟨p, vs, rfl, h1, pst_it q1 hR1 (tup_ok z h3)⟩)
    | tl xs =>
      cases h1 with
      | @tl p vs _ n h z t =>
        obtain ⟨vs, h0, z, h1, h2, h3⟩ := tl_on (.tl n h z t)
        exact .inl ⟨p, vs, rfl, h1, pst_it q1 hR1 (seq_ok z h3)⟩
    | ref n =>
      dsimp only at q1
      cases h1 with
      | @ref _ a hn =>
        cases e2 : lstAt S1 n with
        | none => rw [e2] at q1; exact False.elim q1
        | some xs =>
          rw [e2] at q1
          obtain ⟨p, vs, e3, _, _, h3⟩ := seqL_rep hR1 (.ref hn) (by intro _ z; cases z) e2
          cases e3
          exact .inl ⟨a, vs, rfl, h3, pst_it q1 hR1 (dyn_ok hn)⟩
    | _ => exact False.elim q1
theorem pi_itR1 {a : Expr} (hg : Gl X "range") (hm : X.mg "range" = none) (ha : PA X [a] (tFA r T W fs)) (hs : starEach [a] X.env = [(false, eval a X.env)]) : PI X tg (.Call (.Name "range" p) [a] [] pos) (tIF r T W (itR1 fs)) :=
  PI_imp (pi_range1 hg hm ha hs) fun s H R ⟨m, S, l, hR, hL, q⟩ => mono_tFA (stA hR hL q) fun x H1 ⟨m1, S1, g, e, hR1, hL1, h1, q1⟩ => by
    have hbig := big_eq
    dsimp only at q1
    split at q1
    · split at q1
      · obtain ⟨v, rfl, h2⟩ := len1 h1
        cases h2
        exact ⟨_, rfl, by omega, by omega, pst_it q1 hR1 (ints_ok (by omega))⟩
      · exact False.elim q1
    · exact False.elim q1
theorem pi_itR2 {a b : Expr} (hg : Gl X "range") (hm : X.mg "range" = none) (ha : PA X [a, b] (tFA r T W fs)) (hs : starEach [a, b] X.env = [(false, eval a X.env), (false, eval b X.env)]) (hs2 : starEach [b] X.env = [(false, eval b X.env)]) :
    PI X tg (.Call (.Name "range" p) [a, b] [] pos) (tIF r T W (itR2 fs)) :=
  PI_imp (pi_range2 hg hm ha hs hs2) fun s H R ⟨m, S, l, hR, hL, q⟩ => mono_tFA (stA hR hL q) fun x H1 ⟨m1, S1, g, e, hR1, hL1, h1, q1⟩ => by
    have hbig := big_eq
    dsimp only at q1
    split at q1
    · split at q1
      · obtain ⟨v, v2, rfl, h2, h3⟩ := len2 h1
        cases h2; cases h3
        exact ⟨_, _, rfl, by omega, pst_it q1 hR1 (ints_ok (by omega))⟩
      · exact False.elim q1
    · exact False.elim q1
theorem pi_itR3 {a b c : Expr} (hg : Gl X "range") (hm : X.mg "range" = none) (ha : PA X [a, b, c] (tFA r T W fs)) (hs : starEach [a, b, c] X.env = (false, eval a X.env) :: starEach [b, c] X.env) (hpl : (backTo pos (starEach [b, c] X.env)).any (·.1) = false) :
    PI X tg (.Call (.Name "range" p) [a, b, c] [] pos) (tIF r T W (itR3 fs)) :=
  PI_imp (pi_range3 hg hm ha hs hpl) fun s H R ⟨m, S, l, hR, hL, q⟩ => mono_tFA (stA hR hL q) fun x H1 ⟨m1, S1, g, e, hR1, hL1, h1, q1⟩ => by
    have hbig := big_eq
    dsimp only at q1
    split at q1
    · split at q1
      · cases h1 with
        | cons a1 t1 =>
          obtain ⟨v, v2, rfl, h2, h3⟩ := len2 t1
          cases a1; cases h2; cases h3
          exact ⟨_, _, _, _, rfl, RgC.neg (by omega) (by omega) (by omega) (by omega), pst_it q1 hR1 (down_ok (by omega))⟩
      · exact False.elim q1
    · exact False.elim q1
theorem pi_itEn {a : Expr} (hK : X.K = r.K) (hg : Gl X "enumerate") (hm : X.mg "enumerate" = none) (ha : PA X [a] (tFA r T W fs)) (hs : starEach [a] X.env = [(false, eval a X.env)]) : PI X (.Tuple elts kk tpos) (.Call (.Name "enumerate" p) [a] [] pos) (tIF r T W (itEn fs)) :=
  PI_imp (pi_enumA hg hm ha hs) fun s H R ⟨m, S, l, hR, hL, q⟩ => mono_tFA (stA hR hL q) fun x H1 ⟨m1, S1, g, e, hR1, hL1, h1, q1⟩ => by
    dsimp only at q1
    rw [hK]
    split at q1
    · obtain ⟨v, rfl, h2⟩ := len1 h1
      cases h2 with
      | @tup p vs _ h z t =>
        obtain ⟨vs, h0, z, h1, h2, h3⟩ := tup_on (.tup h z t)
        refine ⟨p, vs, rfl, .inr ⟨h1, pst_it q1 hR1 (en_fix (sq := fun H vs => SqT r.K H p vs) z (fun i H x a b => ⟨vs, x, a, b⟩) (fun i H v H' ⟨T, x, a, b, c, d⟩ => ⟨T, x, a, b, c, fun y => d vs y⟩) (fun i H a b => ⟨vs, a, b⟩) h3)⟩⟩
    · obtain ⟨v, rfl, h2⟩ := len1 h1
      cases h2 with
      | @tl p vs _ n h z t =>
        obtain ⟨vs, h0, z, h1, h2, h3⟩ := tl_on (.tl n h z t)
        refine ⟨p, vs, rfl, .inl ⟨h1, pst_it q1 hR1 (en_fix (sq := fun H vs => SqL r.K H p vs) z (fun i H x a b => ⟨vs, x, a, b⟩) (fun i H v H' ⟨T, x, a, b, c, d⟩ => ⟨T, x, a, b, c, fun y => d vs y⟩) (fun i H a b => ⟨vs, a, b⟩) h3)⟩⟩
    · exact False.elim q1
theorem pi_itZip {a b : Expr} (hK : X.K = r.K) (hg : Gl X "zip") (hm : X.mg "zip" = none) (ha : PA X [a, b] (tFA r T W fs)) (hs : starEach [a, b] X.env = (false, eval a X.env) :: starEach [b] X.env) (hpl : (backTo pos (starEach [b] X.env)).any (·.1) = false) :
    PI X (.Tuple elts kk tpos) (.Call (.Name "zip" p) [a, b] [] pos) (tIF r T W (itZip fs)) :=
  PI_imp (RZ.pi_zipA hg hm ha hs hpl) fun s H R ⟨m, S, l, hR, hL, q⟩ => mono_tFA (stA hR hL q) fun x H1 ⟨m1, S1, g, e, hR1, hL1, h1, q1⟩ => by
    dsimp only at q1
    rw [hK]
    split at q1
    · obtain ⟨v, v2, rfl, h2, h3⟩ := len2 h1
      cases h2 with
      | @tup p vs _ h z t =>
        cases h3 with
        | @tup p' vs' _ h' z' t' =>
          obtain ⟨vs, h0, z, h1, h2, h3⟩ := tup_on (.tup h z t)
          obtain ⟨vs', h0', z', h1', h2', h3'⟩ := tup_on (.tup h' z' t')
          exact ⟨p, p', vs, vs', rfl, .inr ⟨h1, h1', pst_it q1 hR1 (zip_fix (sq := fun H vs => SqT r.K H p vs) (sq2 := fun H vs => SqT r.K H p' vs) z (fun i H x y a b c d => ⟨vs, vs', x, y, a, b, c, d⟩) (fun i H v H' ⟨T, x, y, a, b, c, d, e⟩ => ⟨T, x, y, a, b, c, fun k => d vs k, fun k => e vs' k⟩) (fun i H a b c => ⟨vs, vs', a, b, c⟩) h3 h3')⟩⟩
    · obtain ⟨v, v2, rfl, h2, h3⟩ := len2 h1
      cases h2 with
      | @tl p vs _ n h z t =>
        cases h3 with
        | @tl p' vs' _ n' h' z' t' =>
          obtain ⟨vs, h0, z, h1, h2, h3⟩ := tl_on (.tl n h z t)
          obtain ⟨vs', h0', z', h1', h2', h3'⟩ := tl_on (.tl n' h' z' t')
          exact ⟨p, p', vs, vs', rfl, .inl ⟨h1, h1', pst_it q1 hR1 (zip_fix (sq := fun H vs => SqL r.K H p vs) (sq2 := fun H vs => SqL r.K H p' vs) z (fun i H x y a b c d => ⟨vs, vs', x, y, a, b, c, d⟩) (fun i H v H' ⟨T, x, y, a, b, c, d, e⟩ => ⟨T, x, y, a, b, c, fun k => d vs k, fun k => e vs' k⟩) (fun i H a b c => ⟨vs, vs', a, b, c⟩) h3 h3')⟩⟩
    · exact False.elim q1
end
end GL

end

section
set_option Elab.async false
set_option linter.all false
set_option maxRecDepth 100000
set_option maxHeartbeats 4000000
/-! GL: attributes, stores, methods of lists. -/
namespace GL
open PySem PySem.Spec PyProof.Rows L2

/-- the attributes that the instances of the module's classes bear -/
abbrev FTab := List (Str × Str)
def FldOk (r : RP) (t : FTab) : Prop := ∀ c f, (c, f) ∈ t → ∃ C, r.mg c = some (.ref C) ∧ Cls r.K C ∧ NoAttr r.K C f
def gFld (t : FTab) (f : Str) (x : G) (S : Sto) : Option G := match x with
  | .ref n => (match S[n]? with
    | some (.ins c fs) => if t.contains (c, f) then fs.lookup f else none
    | _ => none)
  | _ => none
def setF (t : FTab) (x : G) (f : Str) (y : G) (S : Sto) : Option Sto := match x with
  | .ref n => (match S[n]? with
    | some (.ins c fs) => if t.contains (c, f) ∧ fs.length < 1000 then some (S.set n (.ins c (putG f y fs))) else none
    | _ => none)
  | _ => none
def setI (x i y : G) (S : Sto) : Option Sto := match x, i with
  | .ref n, .int k => (match S[n]? with
    | some (.lst true l) => (ixN l.length k).map fun j => S.set n (.lst true (l.set j y))
    | _ => none)
  | _, _ => none
def so (l : Loc) : Option Sto → SR
  | some S => .nx l S
  | none => .bad
def sFldS (t : FTab) (f : Str) (o v : Ev) : StM := fun l S => sr l (v l S) fun y S => sr l (o l S) fun x S => so l (setF t x f y S)
def sIxS (o i v : Ev) : StM := fun l S => sr l (v l S) fun y S => sr l (o l S) fun x S => sr l (i l S) fun k S => so l (setI x k y S)
/-- o.f += v, ints -/
def sFldAug (t : FTab) (f : Str) (o v : Ev) : StM := fun l S => sr l (o l S) fun x S => match x with
  | .ref n => (match S[n]? with
    | some (.ins c fs) => (match fs.lookup f with
      | some (.int i) => if t.contains (c, f) = false then .bad else sr l (v l S) fun y S => (match y, S[n]? with
        | .int j, some (.ins c' fs') => if c' = c ∧ fs'.length < 1000 then .nx l (S.set n (.ins c (putG f (.int (i + j)) fs'))) else .bad
        | _, _ => .bad)
      | _ => .bad)
    | _ => .bad)
  | _ => .bad
/-- name op= e, ints -/
def sAugN (neg : Bool) (i : Nat) (e : Ev) : StM := fun l S => match l[i]? with
  | some (some (.int a)) => sr l (e l S) fun y S => (match y with
    | .int b => .nx (l.set i (some (.int (if neg = true then a - b else a + b)))) S
    | _ => .bad)
  | _ => .bad
def gApp (x : G) (xs : List G) (S : Sto) : Option (G × Sto) := match x, xs with
  | .ref n, [y] => (match S[n]? with
    | some (.lst true l) => if l.length < sizeLine then some (.non, S.set n (.lst true (l ++ [y]))) else none
    | _ => none)
  | _, _ => none
def gExt (x : G) (xs : List G) (S : Sto) : Option (G × Sto) := match x, xs with
  | .ref n, [y] => (match S[n]?, lstW S y with
    | some (.lst true l), some l2 => if l.length + l2.length ≤ sizeLine then some (.non, S.set n (.lst true (l ++ l2))) else none
    | _, _ => none)
  | _, _ => none
section
variable {r : RP} {T : List (Addr × Str)} {m m' : List Addr} {S : Sto} {H H' : Hp} {W : WX} {X : Cx} {s : L2.St} {t : FTab} {o e v i : Expr} {f x : Str} {fo fe fv fi : Ev} {pos pos' apos cpos : Pos} {D : Ends} {l : Loc}
theorem ins_rep (hR : Rep r T m S H) {n : Nat} {a : Addr} {c : Str} {fs : List (Str × G)} (hn : m[n]? = some a) (h : S[n]? = some (.ins c fs)) : ∃ C dx vs, r.mg c = some (.ref C) ∧ H a = some (.ins C dx vs) ∧ RepFs r m H fs vs := hR.obj n a _ hn h
theorem g_fld (hK : X.K = r.K) (ht : FldOk r t) (he : PE X e (tF r T W fe)) (hb : attributeBase e f X.env (eval e X.env) = eval e X.env) : PE X (.Attribute e f pos) (tF r T W (e1 (gFld t f) fe)) :=
  PE_imp (pe_fld he hb) fun s H Q ⟨m, S, l, hR, hL, q⟩ => mono_tF (stE hR hL q) fun x H1 ⟨m1, S1, g, e, hR1, hL1, h1, q1⟩ => by
    obtain ⟨m2, S2, g1, g2, hR2, h2, e2, k⟩ := fin1 hR1 h1 q1
    unfold gFld at e2
    split at e2
    · rename_i n
      cases h2 with
      | @ref _ a hn =>
        split at e2
        · rename_i c fs hs
          split at e2
          · rename_i hc
            obtain ⟨C, dx, vs, g1, g2, g3⟩ := ins_rep hR2 hn hs
            obtain ⟨C', c1, c2, c3⟩ := ht c f (by simpa using hc)
            rw [g1] at c1
            cases c1
            obtain ⟨v, h3, h4⟩ := g3.lookup e2
            rw [hK]
            exact ⟨a, C, dx, vs, v, rfl, g2, c2, c3, h3, k _ _ (.refl _ _) hR2 h4⟩
          · cases e2
        · cases e2
    · cases e2
theorem repFs_put (h : RepV r m H g v') : ∀ {fs : List (Str × G)} {vs : List (Str × V)}, RepFs r m H fs vs → RepFs r m H (putG f g fs) (putF f v' vs)
  | _, _, .nil => .cons h .nil
  | (k, a) :: fs, (_, b) :: vs, .cons p q => by
    unfold putG putF
    by_cases e : k = f
    · rw [if_pos e, if_pos e]; exact .cons h q
    · rw [if_neg e, if_neg e]; exact .cons p (repFs_put h q)
/-- a write of an instance's attribute -/
theorem setF_rep {g1 g : G} {v1 v2 : V} {S' : Sto} (ht : FldOk r t) (hR : Rep r T m S H) (h1 : RepV r m H g1 v1) (h2 : RepV r m H g v2) (e : setF t g1 f g S = some S') :
    ∃ a C dx vs, v1 = .ref a ∧ H a = some (.ins C dx vs) ∧ Cls r.K C ∧ NoAttr r.K C f ∧ vs.length < 1000 ∧ Ext m H m (upd H a (.ins C dx (putF f v2 vs))) ∧ Rep r T m S' (upd H a (.ins C dx (putF f v2 vs))) := by
  unfold setF at e
  split at e
  · rename_i n
    cases h1 with
    | @ref _ a hn =>
      split at e
      · rename_i c fs hs
        split at e
        · rename_i hc
          cases e
          obtain ⟨C, dx, vs, g1, g2, g3⟩ := ins_rep hR hn hs
          obtain ⟨C', c1, c2, c3⟩ := ht c f (by simpa using hc.1)
          rw [g1] at c1
          cases c1
          have ex : Ext m H m (upd H a (.ins C dx (putF f v2 vs))) := Ext.write (List.mem_of_getElem? hn) g2
          refine ⟨a, C, dx, vs, rfl, g2, c2, c3, by rw [← g3.length]; exact hc.2, ex, ?_⟩
          exact hR.write hn g2 (fun _ z => by cases z) (fun c q z => by unfold LamX.CodeO at z; cases z) ⟨C, dx, _, g1, upd_same, (repFs_put h2 g3).ext ex⟩
        · cases e
      · cases e
  · cases e
theorem setI_rep {g1 gi g : G} {v1 vi v2 : V} {S' : Sto} (hR : Rep r T m S H) (h1 : RepV r m H g1 v1) (hi : RepV r m H gi vi) (h2 : RepV r m H g v2) (e : setI g1 gi g S = some S') :
    ∃ a k vs j, v1 = .ref a ∧ vi = .int k ∧ H a = some (.lst vs) ∧ ixN vs.length k = some j ∧ Ext m H m (upd H a (.lst (vs.set j v2))) ∧ Rep r T m S' (upd H a (.lst (vs.set j v2))) := by
  unfold setI at e
  split at e
  · rename_i n k
    cases h1 with
    | @ref _ a hn =>
      cases hi
      split at e
      · rename_i l hs
        cases e1 : ixN l.length k with
        | none => rw [e1] at e; cases e
        | some j =>
          rw [e1] at e
          cases e
          obtain ⟨vs, g2, z, tt⟩ := hR.obj n a _ hn hs
          have ex : Ext m H m (upd H a (.lst (vs.set j v2))) := Ext.write (List.mem_of_getElem? hn) g2
          refine ⟨a, k, vs, j, rfl, rfl, g2, by rw [← tt.length]; exact e1, ex, ?_⟩
          exact hR.write hn g2 (fun _ z => by cases z) (fun c q z => by unfold LamX.CodeO at z; cases z) ⟨_, upd_same, by rw [List.length_set]; exact z, (tt.set h2 j).ext ex⟩
      · cases e
  · cases e
theorem g_sfld (hK : X.K = r.K) (ht : FldOk r t) (ho : PE X o (tF r T W fo)) (hv : PE X v (tF r T W fv)) (hs : swapsWith v (some (.Attribute o f pos')) pos.line X.env = pure false) : PS X (.Assign [.Attribute o f pos'] v pos) (tSF r T W (sFldS t f fo fv)) :=
  PS_imp (ps_fld ho hv hs) fun D s H ⟨m, S, l, hR, hL, q⟩ => mono_tF (stS hR hL q) fun y H1 ⟨m1, S1, g, e, hR1, hL1, h1, q1⟩ => mono_tF (stS hR1 hL1 q1) fun x H2 ⟨m2, S2, g2, e2, hR2, hL2, h2, q2⟩ => by
    cases e3 : setF t g2 f g S2 with
    | none => rw [e3] at q2; exact False.elim q2
    | some S3 =>
      rw [e3] at q2
      obtain ⟨a, C, dx, vs, rfl, b1, b2, b3, b4, b5, b6⟩ := setF_rep ht hR2 h2 (h1.ext e2) e3
      rw [hK]
      exact ⟨a, C, dx, vs, rfl, b1, b2, b3, b4, q2 m2 _ s b5 b6 (hL2.ext b5)⟩
theorem g_six (ho : PE X o (tF r T W fo)) (hi : PE X i (tF r T W fi)) (hv : PE X v (tF r T W fv)) (hs : swapsWithSole [.Subscript o i pos'] v pos.line X.env = pure false) (hw : swappedStores [.Subscript o i pos'] v X.env = pure none)
    (h1 : (assignEach [.Subscript o i pos'] X.env).map (·.2) = [assign (.Subscript o i pos') X.env])
    (ha : ∀ v, assign (.Subscript o i pos') X.env v = (do
      let ov ← holding [v] (eval o X.env)
      let iv ← holding [v, ov] (eval i X.env)
      standAt pos'
      holding [v, ov, iv] (setItem ov iv v)
      release [v, ov, iv] [])) : PS X (.Assign [.Subscript o i pos'] v pos) (tSF r T W (sIxS fo fi fv)) :=
  PS_imp (ps_asg hv (pg_sub ho hi set_list ha) hs hw h1) fun D s H ⟨m, S, l, hR, hL, q⟩ => mono_tF (stS hR hL q) fun y H1 ⟨m1, S1, g, e, hR1, hL1, h1, q1⟩ => mono_tF (stS hR1 hL1 q1) fun x H2 ⟨m2, S2, g2, e2, hR2, hL2, h2, q2⟩ =>
    mono_tF (stS hR2 hL2 q2) fun z H3 ⟨m3, S3, g3, e3, hR3, hL3, h3, q3⟩ => by
    cases e4 : setI g2 g3 g S3 with
    | none => rw [e4] at q3; exact False.elim q3
    | some S4 =>
      rw [e4] at q3
      obtain ⟨a, k, vs, j, rfl, rfl, b1, b2, b3, b4⟩ := setI_rep hR3 (h2.ext e3) h3 ((h1.ext e2).ext e3) e4
      exact ⟨a, vs, k, j, rfl, rfl, b1, b2, q3 m3 _ s b3 b4 (hL3.ext b3)⟩
theorem g_sfldaug (hK : X.K = r.K) (ht : FldOk r t) (ho : PE X o (tF r T W fo)) (hv : PE X v (tF r T W fv)) : PS X (.AugAssign (.Attribute o f pos') .Add v pos) (tSF r T W (sFldAug t f fo fv)) :=
  PS_imp (ps_fldaug ho hv in_add) fun D s H ⟨m, S, l, hR, hL, q⟩ => mono_tF (stS hR hL q) fun x H1 ⟨m1, S1, g, e, hR1, hL1, h1, q1⟩ => by
    cases g with
    | ref n =>
      cases h1 with
      | @ref _ a hn =>
        dsimp only at q1
        split at q1
        · rename_i c fs hs
          split at q1
          · rename_i ii hl
            obtain ⟨C, dx, vs, g1, g2, g3⟩ := ins_rep hR1 hn hs
            obtain ⟨v, h3, h4⟩ := g3.lookup hl
            cases h4
            rw [hK]
            split at q1
            · exact False.elim q1
            rename_i hc
            have hc : t.contains (c, f) = true := by simpa using hc
            obtain ⟨C', c1, c2, c3⟩ := ht c f (by simpa using hc)
            rw [g1] at c1
            cases c1
            refine ⟨a, C, dx, vs, _, rfl, g2, c2, c3, h3, mono_tF (stS hR1 hL1 q1) fun y H2 ⟨m2, S2, g2', e2', hR2, hL2, h2, q2⟩ => ?_⟩
            split at q2
            · rename_i j c' fs' hs'
              split at q2
              · rename_i hh
                obtain ⟨rfl, hz⟩ := hh
                cases h2
                refine ⟨_, _, rfl, rfl, ?_⟩
                obtain ⟨C2, dx2, vs2, b1, b2, b3⟩ := ins_rep hR2 (e2'.get hn) hs'
                rw [g1] at b1
                cases b1
                have ex : Ext m2 H2 m2 (upd H2 a (.ins C dx2 (putF f (.int (ii + j)) vs2))) := Ext.write (List.mem_of_getElem? (e2'.get hn)) b2
                refine ⟨dx2, vs2, b2, by rw [← b3.length]; exact hz, q2 m2 _ s ex ?_ (hL2.ext ex)⟩
                exact hR2.write (e2'.get hn) b2 (fun _ z => by cases z) (fun c q z => by unfold LamX.CodeO at z; cases z) ⟨C, dx2, _, g1, upd_same, (repFs_put (.int _) b3).ext ex⟩
              · exact False.elim q2
            · exact False.elim q2
          · exact False.elim q1
        · exact False.elim q1
    | _ => exact False.elim q1

/-- name += e, name -= e -/
theorem g_augadd {j : Nat} (hN : X.N.Nodup) (hj : X.N[j]? = some x) (hx : L2.Loc X.env.scope x) (hf : X.fn x = true ∨ X.env.scope.names.lookup x = some .local) (he : PE X e (tF r T W fe)) : PS X (.AugAssign (.Name x pos') .Add e pos) (tSF r T W (sAugN false j fe)) :=
  PS_imp (ps_aug hN hj hx he ip_add hf) fun D s H ⟨m, S, l, hR, hL, q⟩ => by
    unfold sAugN at q
    split at q
    · rename_i a ea
      obtain ⟨v, h1, h2⟩ := hL.get j _ ea
      cases h2
      refine ⟨_, h1, mono_tF (stS hR hL q) fun y H1 ⟨m1, S1, g, e, hR1, hL1, h1, q1⟩ => ?_⟩
      split at q1
      · cases h1
        exact ⟨_, _, rfl, rfl, q1 m1 H1 _ (.refl _ _) hR1 (hL1.set j (.int _))⟩
      · exact False.elim q1
    · exact False.elim q
theorem g_augsub {j : Nat} (hN : X.N.Nodup) (hj : X.N[j]? = some x) (hx : L2.Loc X.env.scope x) (hf : X.fn x = true ∨ X.env.scope.names.lookup x = some .local) (he : PE X e (tF r T W fe)) : PS X (.AugAssign (.Name x pos') .Sub e pos) (tSF r T W (sAugN true j fe)) :=
  PS_imp (ps_aug hN hj hx he ip_sub hf) fun D s H ⟨m, S, l, hR, hL, q⟩ => by
    unfold sAugN at q
    split at q
    · rename_i a ea
      obtain ⟨v, h1, h2⟩ := hL.get j _ ea
      cases h2
      refine ⟨_, h1, mono_tF (stS hR hL q) fun y H1 ⟨m1, S1, g, e, hR1, hL1, h1, q1⟩ => ?_⟩
      split at q1
      · cases h1
        exact ⟨_, _, rfl, rfl, q1 m1 H1 _ (.refl _ _) hR1 (hL1.set j (.int _))⟩
      · exact False.elim q1
    · exact False.elim q
/-- methods of lists that change them -/
theorem mt_gApp : MtR X "list.append" (rPU r T gApp) := MtR_imp mt_append fun x xs H Q ⟨m, S, g1, gs, g, S', hR, h1, h2, e, k⟩ => by
  unfold gApp at e
  split at e
  · rename_i n y
    split at e
    · rename_i l hs
      split at e
      · rename_i c
        cases e
        cases h1 with
        | @ref _ a hn =>
          obtain ⟨v, rfl, h3⟩ := len1 h2
          obtain ⟨vs, g2, z, tt⟩ := hR.obj n a _ hn hs
          have ex : Ext m H m (upd H a (.lst (vs ++ [v]))) := Ext.write (List.mem_of_getElem? hn) g2
          refine ⟨a, vs, v, rfl, rfl, g2, by rw [← tt.length]; exact c, k _ _ ex ?_ .non⟩
          exact hR.write hn g2 (fun _ z => by cases z) (fun c q z => by unfold LamX.CodeO at z; cases z) ⟨_, upd_same, by rw [List.length_append, ← tt.length]; exact c, (tt.append (.cons h3 .nil)).ext ex⟩
      · cases e
    · cases e
  · cases e
theorem mt_gExt : MtR X "list.extend" (rPU r T gExt) := MtR_imp mt_extend fun x xs H Q ⟨m, S, g1, gs, g, S', hR, h1, h2, e, k⟩ => by
  unfold gExt at e
  split at e
  · rename_i n y
    split at e
    · rename_i l l2 hs e2
      split at e
      · rename_i c
        cases e
        cases h1 with
        | @ref _ a hn =>
          obtain ⟨v, rfl, h3⟩ := len1 h2
          obtain ⟨vs, g2, z, tt⟩ := hR.obj n a _ hn hs
          obtain ⟨p, vs2, rfl, z2, t2, q2⟩ := lstW_rep hR h3 e2
          have ex : Ext m H m (upd H a (.lst (vs ++ vs2))) := Ext.write (List.mem_of_getElem? hn) g2
          refine ⟨a, p, vs, vs2, rfl, rfl, g2, q2, by rw [← tt.length, ← t2.length]; exact c, k _ _ ex ?_ .non⟩
          exact hR.write hn g2 (fun _ z => by cases z) (fun c q z => by unfold LamX.CodeO at z; cases z) ⟨_, upd_same, by rw [List.length_append, ← tt.length, ← t2.length]; exact c, (tt.append t2).ext ex⟩
      · cases e
    · cases e
  · cases e
/-- o.name(e, ..), a method of a list of the store -/
def eML (f : G → List G → Sto → Option (G × Sto)) (o : Ev) (a : As) : Ev := fun l S => rb (o l S) fun x S => if (lstW S x).isSome then rb (a l S) fun xs S => (match f x xs S with
  | some (g, S) => .ok g S
  | none => .bad) else .bad
variable {es : List Expr} {fs : As} {name : Str} {id : String}
theorem g_ml {f : G → List G → Sto → Option (G × Sto)} (hK : X.K = r.K) (slot : Slot "list" name id) (hty : typeOf (.builtin id) = pure (.type "method_descriptor")) (hm : MtR X id (rPU r T f)) (ho : PE X o (tF r T W fo)) (ha : PA X (e :: es) (tFA r T W fs))
    (hbase : attributeBase o name X.env (eval o X.env) = eval o X.env)
    (hfew : ((backTo cpos (starEach (e :: es) X.env)).all (fun x => !x.1) && (backToKw cpos (keywordEach [] X.env)).all (fun x => x.1.isSome)
      && decide ((e :: es).length + ([] : List Keyword).length + (if ([] : List Keyword).isEmpty then 0 else 1) < 30)) = true)
    (hline : (apos.endLine == cpos.line) = true) (hs : starEach (e :: es) X.env = (false, eval e X.env) :: starEach es X.env) (hplain : (backTo cpos (starEach es X.env)).any (·.1) = false) :
    PE X (.Call (.Attribute o name apos) (e :: es) [] cpos) (tF r T W (eML f fo fs)) :=
  PE_imp (pe_bm F.plainAttrs_list slot hty hm ho ha hbase hfew hline hs hplain) fun s H Q ⟨m, S, l, hR, hL, q⟩ => mono_tF (stE hR hL q) fun x H1 ⟨m1, S1, g, e, hR1, hL1, h1, q1⟩ => by
    dsimp only at q1
    split at q1
    · rename_i c
      obtain ⟨l2, e2⟩ := Option.isSome_iff_exists.mp c
      obtain ⟨p, vs, rfl, z, t, q2⟩ := lstW_rep hR1 h1 e2
      rw [hK]
      exact ⟨.inl ⟨rfl, vs, .inl (.inl q2)⟩, mono_tFA (stA hR1 hL1 q1) fun xs H2 ⟨m2, S2, gs, e3, hR2, hL2, h2, q3⟩ => finU hR2 (h1.ext e3) h2 q3⟩
    · exact False.elim q1
end
end GL

end

section
set_option Elab.async false
set_option linter.all false
set_option maxRecDepth 100000
set_option maxHeartbeats 4000000
/-! GL: defs and their calls. -/
namespace GL
open PySem PySem.Spec PyProof.Rows L2

/-! ### the plain side -/
structure FnD where
  np : Nat
  nN : Nat
  body : Calls → StM
def lo0 (nN : Nat) (gs : List G) : Loc := gs.map some ++ List.replicate (nN - gs.length) none
def bodyR (r : SR) : R G := match r with
  | .nx _ S => .ok .non S
  | .rt g S => .ok g S
  | .exc c fs _ S => .exc c fs S
  | _ => .bad
def callN (tab : FK → Option FnD) : Nat → Calls
  | 0 => fun _ _ _ => .bad
  | n + 1 => fun k gs S => match tab k with
    | some d => if gs.length = d.np then bodyR (d.body (callN tab n) (lo0 d.nN gs) S) else .bad
    | none => .bad
/-! ### contexts -/
structure Ctx (r : RP) (T : List (Addr × Str)) (W : WX) (X : Cx) : Prop where
  K : X.K = r.K
  mg : X.mg = r.mg
  calm : X.calm = true
  hd : X.A.handled = none
  un : X.A.units + 64 < cLine
  gu : X.A.guards = some []
  tk : Takes X W
/-- the module that stands -/
structure Md where
  P : Program
  w : World
  K : PySem.W.Frag
  mg : Str → Option Value
  base : Heap
  T : List (Addr × Str)
  isClo : Nat → Nat → Obj → List Addr → Addr → Str → Prop
def Md.is (M : Md) (r : RP) : Prop := r.K = M.K ∧ r.mg = M.mg ∧ r.isClo = M.isClo
def Md.of (M : Md) (X : Cx) : Prop := X.prog = M.P ∧ X.w = M.w ∧ X.K = M.K ∧ X.mg = M.mg ∧ X.base = M.base
/-- a def's promise, from the plain call -/
def spG (M : Md) (np : Nat) (cl : List G → Sto → R G) : Sp := fun vs H Q E => vs.length = np ∧ ∃ r m S gs, M.is r ∧ Rep r M.T m S H ∧ RepVs r m H gs vs ∧ Pst r M.T (fun c d _ H => E c d H) (RepV r) [] m H (cl gs S) Q
structure GFn (M : Md) (k : Nat) (f : Addr) (fd : FuncData) (ps : List Str) (sp : Sp) : Prop where
  len : ∀ vs H Q E, sp vs H Q E → vs.length = ps.length
  run : ∀ (A : Around) (outer : List Env) (s : Shared) (H : Hp) (args : Args) (us : List Value) (vs : List V) (Q : VK) (E : XK), Room k A → A.guards = some [] → Env0 M.P M.w M.K M.mg M.base A outer s H → BindsTo s fd args (ps.zip us) → Vals vs us → sp vs H Q E →
    codeAny (model M.P M.w) A (.call (.ref f) args) (CR (L2.CX M.P M.w) outer M.P M.w H s Q E) s
theorem pst_wish {r : RP} {T : List (Addr × Str)} {W : WX} {s : L2.St} {m : List Addr} {H : Hp} {res : R G} {Q : VK} (h : Pst r T W (RepV r) s m H res Q) : Pst r T (fun c d _ H => WE W s c d H) (RepV r) [] m H res Q := by
  cases res with
  | ok x S => exact h
  | exc c fs S => exact h
  | bad => exact h
theorem guards_deeper {A : Around} {env : Env} (h : A.guards = some []) : (A.deeper env).guards = some [] := by
  first
    | exact h
    | (simp [Around.deeper, h])
theorem guards_make {A : Around} {C : Addr} {us : List Value} {kw : List (Str × Value)} (h : A.guards = some []) : (A.under (.builtin "type.__call__" ⟨.ref C :: us, kw⟩)).guards = some [] := by
  first
    | exact h
    | (simp [Around.under, Code.guards, Code.isGuard, pushGuards, guardIds, h])
section
variable {M : Md} {k : Nat} {f : Addr} {fd : FuncData} {ps : List Str} {sp : Sp} {X : Cx}
theorem GFn.mono {j : Nat} (F : GFn M j f fd ps sp) (h : j ≤ k) : GFn M k f fd ps sp := ⟨F.len, fun A outer s H args us vs Q E hr => F.run A outer s H args us vs Q E (hr.mono h)⟩
theorem run_g {E : L2.St → XK} {pins : List (Addr × Obj)} {σ : L2.St} {H : Hp} {s : Shared} {Q : VK} {us : List Value} {vs : List V} (hX : M.of X) (F : GFn M k f fd ps sp) (hr : Room k X.A) (hg : X.A.guards = some []) (hb : Binds X.K fd ps []) (hx : PassesAt (L2.CX X.prog X.w) X σ (E σ))
    (I : Inv X pins σ H s) (r : Vals vs us) (h : sp vs H Q (E σ)) : wpAny (model X.prog X.w) X.A (call (.ref f) us) (EP X pins σ Q) X.xe s := by
  obtain ⟨h1, h2, h3, h4, h5⟩ := hX
  have hl : us.length = ps.length := by rw [← r.length]; exact F.len _ _ _ _ h
  have b := hb s us I.kIn (by rw [List.append_nil]; exact hl)
  rw [List.append_nil] at b
  have e0 := I.env0
  have run := F.run X.A X.stack s H ⟨us, []⟩ us vs Q (E σ) hr hg (by rw [← h1, ← h2, ← h3, ← h4, ← h5]; exact e0) b r h
  rw [← h1, ← h2] at run
  refine wpAny_call (codeAny_mono run fun r s' hq => ?_)
  cases r with
  | error e => exact hx pins H s e s' I hq
  | ok fl =>
    cases fl with
    | ret u => exact I.after hq
    | next => exact False.elim hq
    | brk => exact False.elim hq
    | cont => exact False.elim hq
end
/-- a def that may be called by its name, a method, a class -/
structure CalF (M : Md) (k : Nat) (x : Str) (np : Nat) (cl : List G → Sto → R G) : Prop where
  ex : ∃ (f : Addr) (fd : FuncData) (ps : List Str), M.mg x = some (.ref f) ∧ PySem.W.keepIn M.K (.ref f) = true ∧ Binds M.K fd ps [] ∧ GFn M k f fd ps (spG M np cl)
structure CalM (M : Md) (k : Nat) (c m : Str) (np : Nat) (cl : List G → Sto → R G) : Prop where
  ex : ∃ (C f : Addr) (fd : FuncData) (ps : List Str), M.mg c = some (.ref C) ∧ Cls M.K C ∧ Meth M.K C m f ∧ Binds M.K fd ps [] ∧ GFn M k f fd ps (spG M np cl)
structure CalC (M : Md) (k : Nat) (c : Str) (np : Nat) (cl : List G → Sto → R G) : Prop where
  ex : ∃ (C f : Addr) (fd : FuncData) (ps : List Str), M.mg c = some (.ref C) ∧ Mk M.K C f ∧ Binds M.K fd ps [] ∧ GFn M k f fd ps (spG M np cl)
/-- a class is called: an instance, then its __init__ -/
def eMk (call : Calls) (c : Str) (a : As) : Ev := fun l S => rb (a l S) fun xs S => rb (call (.me c "__init__") (.ref S.length :: xs) (S ++ [.ins c []])) fun g S' => match g with
  | .non => .ok (.ref S.length) S'
  | _ => .bad
/-- a method of an instance whose class is known -/
def eMe (call : Calls) (t : FTab) (c m : Str) (o : Ev) (a : As) : Ev := fun l S => rb (o l S) fun x S => match x with
  | .ref n => (match S[n]? with
    | some (.ins c' fs) => if c' = c ∧ fs.lookup m = none then rb (a l S) fun xs S => call (.me c m) (x :: xs) S else .bad
    | _ => .bad)
  | _ => .bad
section
variable {M : Md} {k : Nat} {r : RP} {W : WX} {X : Cx} {x m' : Str} {np : Nat} {p pos apos : Pos} {e o : Expr} {es : List Expr} {fs : As} {fo : Ev} {call : Calls} {s : L2.St} {m : List Addr} {H : Hp} {S : Sto}
theorem sp_of {cl : List G → Sto → R G} {gs : List G} {vs : List V} {Q : VK} (hM : M.is r) (hR : Rep r M.T m S H) (h1 : RepVs r m H gs vs) (hn : gs.length = np) (q : Pst r M.T W (RepV r) s m H (cl gs S) Q) : spG M np cl vs H Q (WE W s) :=
  ⟨by rw [← h1.length]; exact hn, r, m, S, gs, hM, hR, h1, pst_wish q⟩
/-- the plain call takes only so many values -/
def Arity (np : Nat) (cl : List G → Sto → R G) : Prop := ∀ gs S, gs.length ≠ np → cl gs S = .bad
theorem pst_arity {cl : List G → Sto → R G} (ha : Arity np cl) {gs : List G} {Q : VK} (q : Pst r M.T W (RepV r) s m H (cl gs S) Q) : gs.length = np := Classical.byContradiction fun z => by
  rw [ha gs S z] at q
  exact q
theorem g_callF (c : Ctx r M.T W X) (hX : M.of X) (hM : M.is r) (F : CalF M k x np (call (.fn x))) (har : Arity np (call (.fn x))) (hr : Room k X.A) (hg : Gl X x) (ha : PA X (e :: es) (tFA r M.T W fs)) (hdb : (x == ("__debug__" : Str)) = false)
    (he : starEach (e :: es) X.env = (false, eval e X.env) :: starEach es X.env) (hpl : (backTo pos (starEach es X.env)).any (·.1) = false) : PE X (.Call (.Name x p) (e :: es) [] pos) (tF r M.T W (eCl call (.fn x) fs)) := by
  obtain ⟨f, fd, ps, h1, h2, h3, h4⟩ := F.ex
  obtain ⟨x1, x2, x3, x4, x5⟩ := id hX
  refine ⟨fun pins s σ H Q I ⟨m, S, l, hR, hL, q⟩ => ?_⟩
  refine wpAny_Call_Name_kw (ld_glob I hg (by rw [x4]; exact h1) ?_ hdb)
  refine PySem.W.callWith_K (h₀ := X.base) I.ok.mod.kin (by rw [x3]; exact h2) (thn (ha.run pos pins s σ H _ I (stA hR hL q)) fun us s1 ⟨vs, H1, I1, r1, m1, S1, g, e, hR1, hL1, h5, q1⟩ => ⟨I1.kIn, ?_⟩) he hpl
  refine run_g (E := WE W) hX h4 hr c.gu (by rw [x3]; exact h3) (passAt c.tk σ) I1 r1 (sp_of hM hR1 h5 (pst_arity har q1) q1)
theorem g_callF0 (c : Ctx r M.T W X) (hX : M.of X) (hM : M.is r) (F : CalF M k x np (call (.fn x))) (har : Arity np (call (.fn x))) (hr : Room k X.A) (hg : Gl X x) (hdb : (x == ("__debug__" : Str)) = false) : PE X (.Call (.Name x p) [] [] pos) (tF r M.T W (eCl call (.fn x) aNil)) := by
  obtain ⟨f, fd, ps, h1, h2, h3, h4⟩ := F.ex
  obtain ⟨x1, x2, x3, x4, x5⟩ := id hX
  refine ⟨fun pins s σ H Q I ⟨m, S, l, hR, hL, q⟩ => ?_⟩
  refine wpAny_Call_Name_kw (ld_glob I hg (by rw [x4]; exact h1) ?_ hdb)
  have q1 : Pst r M.T W (RepV r) σ m H (call (.fn x) [] S) Q := q
  exact PySem.W.callWith_K0 I.kIn (by rw [x3]; exact h2) (run_g (us := []) (E := WE W) hX h4 hr c.gu (by rw [x3]; exact h3) (passAt c.tk σ) I .nil (sp_of hM hR .nil (pst_arity har q1) q1))
/-- what is between an instance and its method -/
theorem me_obj {n : Nat} {a : Addr} {c : Str} {fs' : List (Str × G)} {C : Addr} (hR : Rep r M.T m S H) (hn : m[n]? = some a) (h : S[n]? = some (.ins c fs')) (hC : r.mg c = some (.ref C)) (hl : fs'.lookup m' = none) :
    ∃ dx vs, H a = some (.ins C dx vs) ∧ vs.lookup m' = none := by
  obtain ⟨C', dx, vs, h1, h2, h3⟩ := hR.obj n a _ hn h
  rw [hC] at h1
  cases h1
  exact ⟨dx, vs, h2, h3.lookupN hl⟩
theorem g_callM {pl : Sem Bool} {t : FTab} {cn : Str} (c : Ctx r M.T W X) (hX : M.of X) (hM : M.is r) (F : CalM M k cn m' np (call (.me cn m'))) (har : Arity np (call (.me cn m'))) (hr : Room k X.A) (ho : PE X o (tF r M.T W fo)) (ha : PA X (e :: es) (tFA r M.T W fs))
    (hst : starEach (e :: es) X.env = (false, eval e X.env) :: starEach es X.env) (hpl : (backTo pos (starEach es X.env)).any (·.1) = false)
    (ht : eval (.Call (.Attribute o m' apos) (e :: es) [] pos) X.env = (do
      let ov ← eval o X.env
      standAt apos.atName
      let (f, first) ← holding [ov] (getMethod ov m' pl)
      callWith pos f first (backTo pos (starEach (e :: es) X.env)) (backToKw pos (keywordEach [] X.env)))) : PE X (.Call (.Attribute o m' apos) (e :: es) [] pos) (tF r M.T W (eMe call t cn m' fo fs)) := by
  obtain ⟨C, f, fd, ps, h1, h2, h3, h4, h5⟩ := F.ex
  obtain ⟨x1, x2, x3, x4, x5⟩ := id hX
  refine ⟨fun pins s σ H Q I ⟨m, S, l, hR, hL, q⟩ => ?_⟩
  refine PySem.W.methodCall_KW (pl := pl) (thn (ho.run pins s σ H _ I (stE hR hL q)) fun u s1 ⟨x, H1, I1, rx, m1, S1, g, e, hR1, hL1, hx, q1⟩ => ?_) ht
  cases g with
  | ref n =>
    cases hx with
    | @ref _ a hn =>
      obtain rfl : u = Value.ref a := rx
      dsimp only at q1
      split at q1
      · rename_i c' fs' hs
        split at q1
        · rename_i hh
          obtain ⟨rfl, hl⟩ := hh
          obtain ⟨dx, vs, e1, e2⟩ := me_obj hR1 hn hs (by rw [hM.2.1]; exact h1) hl
          refine getmeth_ok I1 e1 (by rw [x3]; exact h2) (by rw [x3]; exact h3) e2 ?_
          refine PySem.W.callWith_K (first := [.ref a]) (h₀ := X.base) I.ok.mod.kin (by rw [x3]; exact h3.kp) (thn (ha.run pos pins s1 σ H1 _ I1 (stA hR1 hL1 q1)) fun us s2 ⟨vs, H2, I2, r2, m2, S2, gs, e', hR2, hL2, h6, q2⟩ => ⟨I2.kIn, ?_⟩) hst hpl
          have h7 : RepVs r m2 H2 (.ref n :: gs) (V.ref a :: vs) := .cons (.ref (e'.get hn)) h6
          exact run_g (us := .ref a :: us) (vs := .ref a :: vs) (E := WE W) hX h5 hr c.gu (by rw [x3]; exact h4) (passAt c.tk σ) I2 (.cons rfl r2) (sp_of hM hR2 h7 (pst_arity har q2) q2)
        · exact False.elim q1
      · exact False.elim q1
  | _ => exact False.elim q1
theorem g_callM0 {pl : Sem Bool} {t : FTab} {cn : Str} (c : Ctx r M.T W X) (hX : M.of X) (hM : M.is r) (F : CalM M k cn m' np (call (.me cn m'))) (har : Arity np (call (.me cn m'))) (hr : Room k X.A) (ho : PE X o (tF r M.T W fo))
    (ht : eval (.Call (.Attribute o m' apos) [] [] pos) X.env = (do
      let ov ← eval o X.env
      standAt apos.atName
      let (f, first) ← holding [ov] (getMethod ov m' pl)
      callWith pos f first (backTo pos (starEach [] X.env)) (backToKw pos (keywordEach [] X.env)))) : PE X (.Call (.Attribute o m' apos) [] [] pos) (tF r M.T W (eMe call t cn m' fo aNil)) := by
  obtain ⟨C, f, fd, ps, h1, h2, h3, h4, h5⟩ := F.ex
  obtain ⟨x1, x2, x3, x4, x5⟩ := id hX
  refine ⟨fun pins s σ H Q I ⟨m, S, l, hR, hL, q⟩ => ?_⟩
  refine PySem.W.methodCall_KW (pl := pl) (thn (ho.run pins s σ H _ I (stE hR hL q)) fun u s1 ⟨x, H1, I1, rx, m1, S1, g, e, hR1, hL1, hx, q1⟩ => ?_) ht
  cases g with
  | ref n =>
    cases hx with
    | @ref _ a hn =>
      obtain rfl : u = Value.ref a := rx
      dsimp only at q1
      split at q1
      · rename_i c' fs' hs
        split at q1
        · rename_i hh
          obtain ⟨rfl, hl⟩ := hh
          obtain ⟨dx, vs, e1, e2⟩ := me_obj hR1 hn hs (by rw [hM.2.1]; exact h1) hl
          refine getmeth_ok I1 e1 (by rw [x3]; exact h2) (by rw [x3]; exact h3) e2 ?_
          have q2 : Pst r M.T W (RepV r) σ m1 H1 (call (.me c' m') [.ref n] S1) Q := q1
          have h7 : RepVs r m1 H1 [.ref n] [V.ref a] := .cons (.ref hn) .nil
          exact PySem.W.callWith_K0 (first := [.ref a]) I1.kIn (by rw [x3]; exact h3.kp) (run_g (us := [.ref a]) (vs := [.ref a]) (E := WE W) hX h5 hr c.gu (by rw [x3]; exact h4) (passAt c.tk σ) I1 (.cons rfl .nil) (sp_of hM hR1 h7 (pst_arity har q2) q2))
        · exact False.elim q1
      · exact False.elim q1
  | _ => exact False.elim q1
/-- the new instance, laid -/
theorem mk_rep {C x dx : Addr} {c : Str} (hR : Rep r M.T m S H) (hC : r.mg c = some (.ref C)) (hx : H x = none) (hd : H dx = none) (ne : dx ≠ x) :
    Ext m H (m ++ [x]) (upd (upd H dx (.own x)) x (.ins C dx [])) ∧ Rep r M.T (m ++ [x]) (S ++ [.ins c []]) (upd (upd H dx (.own x)) x (.ins C dx [])) := by
  have h1 := hR.fresh hd (.own x)
  have e1 := Ext.new (m := m) hd (.own x)
  have hx2 : upd H dx (.own x) x = none := by rw [upd_ne (Ne.symm ne)]; exact hx
  exact ⟨e1.trans (Ext.alloc hx2 _), h1.alloc hx2 ⟨C, dx, [], hC, upd_same, .nil⟩⟩

theorem run_mk {f C : Addr} {fd : FuncData} {ps : List Str} {sp : Sp} {E : L2.St → XK} {pins : List (Addr × Obj)} {σ : L2.St} {s : Shared} {Q : VK} {us : List Value} {vs : List V} (hX : M.of X) (Mm : Mk X.K C f) (F : GFn M k f fd ps sp) (hr : Room (k + 1) X.A) (hg : X.A.guards = some [])
    (hb : Binds X.K fd ps []) (hx : PassesAt (L2.CX X.prog X.w) X σ (E σ)) (I : Inv X pins σ H s) (r1 : Vals vs us)
    (h : ∀ x dx, H x = none → H dx = none → dx ≠ x → sp (.ref x :: vs) (upd (upd H dx (.own x)) x (.ins C dx [])) (fun v H2 => v = .non ∧ Q (.ref x) H2) (E σ)) :
    wpAny (model X.prog X.w) X.A (PySem.call (.ref C) us) (EP X pins σ Q) X.xe s := by
  obtain ⟨x1, x2, x3, x4, x5⟩ := id hX
  have hq := h (s.heap.objs.size + 1) s.heap.objs.size (I.hok.fresh (Nat.le_succ _)) (I.hok.fresh (Nat.le_refl _)) (Nat.ne_of_lt (Nat.lt_succ_self _))
  have I2 := Inv.made (C := C) I
  have r2 : Vals (V.ref (s.heap.objs.size + 1) :: vs) (Value.ref (s.heap.objs.size + 1) :: us) := .cons rfl r1
  have hl : (Value.ref (s.heap.objs.size + 1) :: us ++ []).length = ps.length := by
    rw [List.append_nil]
    have e := r2.length
    rw [F.len _ _ _ _ hq] at e
    exact e.symm
  have b := hb _ (Value.ref (s.heap.objs.size + 1) :: us) I2.kIn hl
  rw [List.append_nil] at b
  have e0 := I2.env0.make C us []
  have run := F.run _ X.stack _ _ ⟨Value.ref (s.heap.objs.size + 1) :: us, []⟩ (Value.ref (s.heap.objs.size + 1) :: us) _ _ (E σ) (hr.make C us []) (guards_make hg) (by rw [← x1, ← x2, ← x3, ← x4, ← x5]; exact e0) b r2 hq
  rw [← x1, ← x2] at run
  refine wpAny_call (make_map (f := f) I.kIn Mm.makes Mm.init (beq_iff_eq.mp Mm.fn) (codeAny_mono run fun r s' hq' => ?_))
  cases r with
  | error e => exact hx pins _ _ e s' I2 hq'
  | ok fl =>
    cases fl with
    | ret u =>
      obtain ⟨v, H', I3, rv, ev, q3⟩ := I2.after hq'
      subst ev
      exact ⟨rv, ⟨V.ref (s.heap.objs.size + 1), H', I3, rfl, q3⟩⟩
    | next => exact False.elim hq'
    | brk => exact False.elim hq'
    | cont => exact False.elim hq'
theorem g_mk {cn : Str} (c : Ctx r M.T W X) (hX : M.of X) (hM : M.is r) (F : CalC M k cn np (call (.me cn "__init__"))) (har : Arity np (call (.me cn "__init__"))) (hr : Room (k + 1) X.A) (hg : Gl X cn) (ha : PA X (e :: es) (tFA r M.T W fs)) (hdb : (cn == ("__debug__" : Str)) = false)
    (he : starEach (e :: es) X.env = (false, eval e X.env) :: starEach es X.env) (hpl : (backTo pos (starEach es X.env)).any (·.1) = false) : PE X (.Call (.Name cn p) (e :: es) [] pos) (tF r M.T W (eMk call cn fs)) := by
  obtain ⟨C, f, fd, ps, h1, h2, h3, h4⟩ := F.ex
  obtain ⟨x1, x2, x3, x4, x5⟩ := id hX
  refine ⟨fun pins s σ H Q I ⟨m, S, l, hR, hL, q⟩ => ?_⟩
  refine wpAny_Call_Name_kw (ld_glob I hg (by rw [x4]; exact h1) ?_ hdb)
  refine PySem.W.callWith_K (h₀ := X.base) I.ok.mod.kin (by rw [x3]; exact h2.kp) (thn (ha.run pos pins s σ H _ I (stA hR hL q)) fun us s1 ⟨vs, H1, I1, r1, m1, S1, gs, e, hR1, hL1, h5, q1⟩ => ⟨I1.kIn, ?_⟩) he hpl
  refine run_mk (E := WE W) hX (by rw [x3]; exact h2) h4 hr c.gu (by rw [x3]; exact h3) (passAt c.tk σ) I1 r1 fun x dx hx hd ne => ?_
  obtain ⟨ex, hR2⟩ := mk_rep hR1 (by rw [hM.2.1]; exact h1) hx hd ne
  have h7 : RepVs r (m1 ++ [x]) (upd (upd H1 dx (.own x)) x (.ins C dx [])) (.ref S1.length :: gs) (V.ref x :: vs) := .cons (.ref (by rw [← hR1.len, List.getElem?_append_right (Nat.le_refl _)]; simp)) (h5.ext ex)
  have q2 := Pst.ext ex q1
  refine sp_of hM hR2 h7 ?_ (W := W) ?_
  · exact Classical.byContradiction fun z => by
      dsimp only at q2
      rw [har _ _ z] at q2
      exact q2
  · revert q2
    dsimp only
    cases call (.me cn "__init__") (.ref S1.length :: gs) (S1 ++ [.ins cn []]) with
    | bad => exact id
    | exc c fs S => exact id
    | ok g S' =>
      intro q2 m2 H2 v e2 a b
      cases g with
      | non =>
        cases b
        exact ⟨rfl, q2 m2 H2 _ e2 a (.ref (e2.get (by rw [← hR1.len, List.getElem?_append_right (Nat.le_refl _)]; simp)))⟩
      | _ => exact False.elim q2
/-- THE RULE: a def by its body -/
theorem repL_start {nN : Nat} {gs : List G} {vs : List V} (N : List Str) (hN : N.length = nN) (h : RepVs r m H gs vs) : RepL r m H (lo0 nN gs) (L2.start N vs) := by
  have hl := h.length
  refine ⟨by unfold lo0 L2.start; simp [hl, hN], fun i g q => ?_⟩
  unfold lo0 at q
  unfold L2.start
  by_cases hi : i < gs.length
  · rw [List.getElem?_append_left (by simpa using hi), List.getElem?_map] at q
    cases e : gs[i]? with
    | none => rw [e] at q; cases q
    | some g' =>
      rw [e] at q
      cases q
      obtain ⟨v, hv, rv⟩ := h.get e
      exact ⟨v, by rw [List.getElem?_append_left (by rw [List.length_map, ← hl]; exact hi), List.getElem?_map, hv]; rfl, rv⟩
  · rw [List.getElem?_append_right (by simpa using hi), List.getElem?_replicate] at q
    split at q <;> cases q
end
section
variable {M : Md} {k : Nat}
theorem g_fn {x qual : Str} {params : Arguments} {stb : List Stmt} {scope : Scope} {f : Addr} {fd : FuncData} {N ps : List Str} {nN : Nat} {np : Nat} {body : StM} {cl : List G → Sto → R G} (F : FunD M.K x qual params stb scope [] [] f fd) (S : FnScope N ps scope) (hn : N.length = nN) (hp : ps.length = np)
    (hcl : ∀ gs S, gs.length = np → cl gs S = bodyR (body (lo0 nN gs) S))
    (hbody : ∀ (cdv : Value) (A : Around) (outer : List Env) (s : Shared) (H : Hp) (E : XK) (r : RP), fd.code = cdv → M.is r → Room k (A.deeper (envOfC qual scope s.heap.objs.size f cdv)) →
      Ctx r M.T (fun c d _ H => E c d H) (cxOf (L2.CX M.P M.w) M.P M.w M.K M.mg M.base N qual scope f cdv A outer s H E) → M.of (cxOf (L2.CX M.P M.w) M.P M.w M.K M.mg M.base N qual scope f cdv A outer s H E) →
      PassesOwn (model M.P M.w) (A.deeper (envOfC qual scope s.heap.objs.size f cdv)) (envOfC qual scope s.heap.objs.size f cdv) (cxOf (L2.CX M.P M.w) M.P M.w M.K M.mg M.base N qual scope f cdv A outer s H E).xe →
      PSs (cxOf (L2.CX M.P M.w) M.P M.w M.K M.mg M.base N qual scope f cdv A outer s H E) stb (tSF r M.T (fun c d _ H => E c d H) body)) : GFn M (k + 1) f fd ps (spG M np cl) := by
  obtain ⟨oc, od, dV, kV, doc, pm, an, cdv, ct, osl, rfl, lk, hcd, _, _⟩ := F.ex
  refine ⟨fun vs H Q E h => by rw [hp]; exact h.1, fun A outer s H args us vs Q E hr hgu e0 hb r1 hsp => ?_⟩
  have hl : vs.length = ps.length := by rw [hp]; exact hsp.1
  have KX : M.K.In s.heap := e0.mod.kin.keeps fun b o e => (e0.bs b o e).1
  have lim : s.heap.NoLimit := e0.mod.nolimit.keeps fun b o e => (e0.bs b o e).1
  have hkind : ∀ y ∈ ps.zip us, scope.names.lookup y.1 = some .local ∨ (scope.names.lookup y.1 = some .cell ∧ ((cellsFrom (s.heap.objs.size + 1) scope.names []).lookup y.1).isSome = true) := fun ⟨n, v⟩ hy => by
    rcases S.par n (List.of_mem_zip hy).1 with q | q
    · exact .inl q
    · exact .inr ⟨q, PySem.W.cellsFrom_some _ _ _ (.inl q)⟩
  refine codeAny_call_function hr.depth (KX _ _ lk) rfl S.co S.gen rfl (PySem.W.codeRec_of KX hcd) (hb _ _ _ _ ?_)
  refine wpAny_newFunctionEnv_cells S.kind hkind fun env he s1 x => ?_
  subst he
  refine ⟨lim.keeps x.toInCall.keep, codeAny_func ?_⟩
  have I : Inv (cxOf (L2.CX M.P M.w) M.P M.w M.K M.mg M.base N qual scope f cdv A outer s H E) [] (L2.start N vs) H s1 := inv_start S hr.hd e0 hl r1 x
  obtain ⟨hlen, r, m, S0, gs, hM, hR, h1, q⟩ := hsp
  have hgl : gs.length = np := by rw [h1.length]; exact hlen
  have room := hr.deeper (envOfC qual scope s.heap.objs.size f cdv)
  have tk := takes_of (X := cxOf (L2.CX M.P M.w) M.P M.w M.K M.mg M.base N qual scope f cdv A outer s H E) (E := E) (E₁ := fun e' s'' => L2.CX M.P M.w outer H s E e' s'') rfl rfl rfl rfl
  have own := passes_of (X := cxOf (L2.CX M.P M.w) M.P M.w M.K M.mg M.base N qual scope f cdv A outer s H E) (K := fun e s'' => L2.CX M.P M.w outer H s E e s'') (E₁ := fun e' s'' => L2.CX M.P M.w outer H s E e' s'') rfl
  have ht := hbody cdv A outer s H E r rfl hM room ⟨hM.1.symm, hM.2.1.symm, rfl, room.hd, room.units, guards_deeper hgu, tk⟩ ⟨rfl, rfl, rfl, rfl, rfl⟩ own
  refine wpAny_mono (ht.run [] s1 (L2.start N vs) H { nx := fun _ H' => Q .non H', rt := Q } I ⟨m, S0, lo0 nN gs, hR, repL_start N hn h1, ?_⟩) (fun fl s' hs => ?_) fun e s' hs => hs
  · rw [hcl gs S0 hgl] at q
    revert q
    unfold bodyR
    cases body (lo0 nN gs) S0 with
    | nx l S' => exact fun q m2 H2 s2 e a b => q m2 H2 .non e a .non
    | rt g S' => exact id
    | exc c fs l S' => exact fun q m2 H2 s2 C d e a b k x => q m2 H2 C d e a k x
    | bk l S' => exact False.elim
    | ct l S' => exact False.elim
    | bad => exact id
  · have fin : ∀ {σ' : L2.St} {H' : Hp} {v : V} {u : Value}, Inv (cxOf (L2.CX M.P M.w) M.P M.w M.K M.mg M.base N qual scope f cdv A outer s H E) [] σ' H' s' → RelV v u → Q v H' → CE outer M.P M.w H s Q u s' :=
      fun {σ' H' v u} J rv q => ⟨v, H', J.os, J.bare, J.base, J.hok, rv, q⟩
    cases fl with
    | ret u =>
      obtain ⟨v, σ', H', J, rv, q⟩ := hs
      exact fin J rv q
    | next =>
      obtain ⟨σ', H', J, q⟩ := hs
      exact fin (v := V.non) (u := Value.none) J rfl q
    | brk =>
      obtain ⟨_, _, _, q⟩ := hs
      exact False.elim q
    | cont =>
      obtain ⟨_, _, _, q⟩ := hs
      exact False.elim q
end
end GL

end

section
set_option Elab.async false
set_option linter.all false
set_option maxRecDepth 100000
set_option maxHeartbeats 4000000
/-! GL: lambdas. -/
namespace GL
open PySem PySem.Spec PyProof.Rows L2 LamX

/-- a lambda of the text -/
structure LamD where
  qual : Str
  params : Arguments
  body : Expr
  scope : Scope
  fr : List Str
def loIs (lam : Nat → Option LamD) (ln cl : Nat) (o : Obj) (cs : List Addr) (c' : Addr) (q : Str) : Prop :=
  ∃ L : LamD, lam ln = some L ∧ q = L.qual ∧ ∃ pm ctv, o = PySem.W.kla_obj "<lambda>" q L.params L.body L.scope (L.fr.zip cs) pm c' ctv
theorem upd_none' {H : Hp} {a b : Addr} {o : HO} (e : upd H a o b = Option.none) : H b = Option.none := by
  unfold upd at e
  split at e
  · cases e
  · exact e
section
variable {X : Cx} {pins : List (Addr × Obj)} {σ : L2.St} {H : Hp} {s : Shared}
/-- an object just made is known from now on and stays as it is -/
theorem inv_fix {o : Obj} {t' : Nat} (I : Inv X pins σ H s) (hf : o.isFreed = false) :
    Inv X pins σ (upd H s.heap.objs.size (fixO s.heap.objs.size o)) { s with heap := s.heap.push o, toks := t' } := by
  refine I.laid (a := s.heap.objs.size) (fun b u e => Heap.get?_push_of_some _ e) (Nat.le_refl _) ?_
  have e : (s.heap.push o).get? s.heap.objs.size = some o := Heap.get?_push_size _ hf
  exact ⟨e, ⟨_, e⟩, fun h1 h2 z st => st _ z⟩
theorem fixO_at {P : Program} {w : World} {h : Heap} {a : Addr} {o : Obj} (hok : HOk P w H h) (e : H a = some (fixO a o)) : h.get? a = some o := by
  obtain ⟨z, _, _⟩ := hok a _ e
  exact z
/-- what the making of a lambda does to what is tracked: the table, the code object, the function -/
structure LamMade (T : List (Addr × Str)) (H H2 : Hp) (f c' : Addr) (q : Str) (o : Obj) : Prop where
  ext : ExtN H H2
  grow : ∀ b, H2 b = none → H b = none
  tabs : Tabs T H2
  new : H f = none
  fn : H2 f = some (fixO f o)
  code : H2 c' = some (CodeO c' q)
theorem lam_make3 {T : List (Addr × Str)} {c P : Addr} {params : Arguments} {body : Expr} {scope : Scope} {pos : Pos} {E : Value → Shared → Prop} {Q : Value → Shared → Prop} (I : Inv X pins σ H s) (TB : TabB X.base X.mg c P) (hcode : X.env.code = .ref c)
    (hm : (P, X.env.qual ++ "<lambda>") ∈ T) (hu : ∀ p ∈ T, p.1 = P → p.2 = X.env.qual ++ "<lambda>") (hT : Tabs T H) (hdef : defaultsOf params X.env = ([], [])) (hfree : ∀ y ∈ scope.names, y.2 = .free → ∃ c, X.env.cells.lookup y.1 = some c)
    (h : ∀ (f c' : Addr) (pm ctv : Value) (H2 : Hp) (s' : Shared), Inv X pins σ H2 s' →
      LamMade T H H2 f c' (X.env.qual ++ "<lambda>") (PySem.W.kla_obj "<lambda>" (X.env.qual ++ "<lambda>") params body scope (cloFrom X.env.cells scope.names []) pm c' ctv) → Q (.ref f) s') :
    wpAny (model X.prog X.w) X.A (eval (.Lambda params body scope pos) X.env) Q E s := by
  obtain ⟨ps, hP, ht, ha⟩ := hT _ hm
  refine PySem.W.kla_eval hdef ?_
  have bP : s.heap.BuiltinsAt X.mg P := TB.bm.keeps I.bk
  have hP' : s.heap.get? P = some { cls := .none, data := .fields ps } := I.hok P _ hP
  cases hc : codeAmong pos ps.toList with
  | none =>
    refine PySem.W.kla_makeFunction (mg := X.mg) (c := c) (P := P) (ps := ps) (closure_ok hfree) I.ok.glob (I.mod.glob.keeps I.bk) hcode (TB.code.keeps I.bk) hP' ht hc TB.gP bP fun c' ctv h' tk hx hge hlt hrec htb => ?_
    obtain ⟨c2, oc, vs, t, e2, hoc, hd, hv⟩ := hrec
    cases e2
    have nC : H c' = none := I.hok.fresh hge
    have I1 := inv_table (t' := tk) (more := #[rawInt pos.line, rawInt pos.col, .ref c']) (h' := h') I hP (fun b o hb e => hx b o hb e) htb hge ⟨oc, vs, t, hoc, hd, hv⟩
    have hE : ExtN H (upd (upd H P (.tbl (ps ++ #[rawInt pos.line, rawInt pos.col, .ref c']))) c' (CodeO c' (X.env.qual ++ "<lambda>"))) := fun b o e n => by
      rw [upd_ne (ne_of_none e nC), upd_ne (fun z => n ps (Option.some.inj (e.symm.trans (by rw [z]; exact hP))))]
      exact e
    have eL : (ps ++ #[rawInt pos.line, rawInt pos.col, .ref c']).toList = ps.toList ++ [rawInt pos.line, rawInt pos.col, .ref c'] := by simp
    have T1 : Tabs T (upd (upd H P (.tbl (ps ++ #[rawInt pos.line, rawInt pos.col, .ref c']))) c' (CodeO c' (X.env.qual ++ "<lambda>"))) := fun p hp => by
      by_cases hb : p.1 = P
      · rw [hu p hp hb, hb]
        refine ⟨_, by rw [upd_ne (ne_of_none hP nC), upd_same], by rw [eL]; exact PySem.TriplesOk_snoc _ _ _ _ ht, fun p' cv hcv => ?_⟩
        rw [eL] at hcv
        rcases among_app _ ht hcv with z | z
        · obtain ⟨c0, e1, e2⟩ := ha p' cv z
          exact ⟨c0, e1, hE _ _ e2 codeO_ne⟩
        · exact ⟨c', z, upd_same⟩
      · obtain ⟨ps', a1, a2, a3⟩ := hT p hp
        refine ⟨ps', by rw [upd_ne (ne_of_none a1 nC), upd_ne hb]; exact a1, a2, fun p' cv hcv => ?_⟩
        obtain ⟨c0, e1, e2⟩ := a3 p' cv hcv
        exact ⟨c0, e1, hE _ _ e2 codeO_ne⟩
    have nF := I1.hok.fresh (Nat.le_refl _)
    have I2 := inv_fix (o := PySem.W.kla_obj "<lambda>" (X.env.qual ++ "<lambda>") params body scope (cloFrom X.env.cells scope.names []) ((X.mg "__name__").getD .none) c' ctv) (t' := tk) I1 rfl
    refine h h'.objs.size c' _ ctv _ _ I2 ⟨fun b o e n => ?_, fun b e => upd_none' (upd_none' (upd_none' e)), T1.ext fun b o e => ?_, I.hok.fresh (Nat.le_trans hge (Nat.le_of_lt hlt)), upd_same, ?_⟩
    · have e1 := hE b o e n
      exact (upd_ne (ne_of_none e1 nF)).trans e1
    · exact (upd_ne (ne_of_none e nF)).trans e
    · exact (upd_ne (Nat.ne_of_lt hlt)).trans upd_same
  | some cv =>
    obtain ⟨c', e, hco⟩ := ha pos cv hc
    subst e
    refine PySem.W.kla_makeFunctionHit (mg := X.mg) (c := c) (P := P) (ps := ps) (closure_ok hfree) I.ok.glob (I.mod.glob.keeps I.bk) hcode (TB.code.keeps I.bk) hP' ht hc bP fun ctv h' tk hx hsz => ?_
    have I1 : Inv X pins σ H { s with heap := h', toks := tk } := I.kept hx
    have nF : H h'.objs.size = none := I1.hok.fresh (Nat.le_refl _)
    have I2 := inv_fix (o := PySem.W.kla_obj "<lambda>" (X.env.qual ++ "<lambda>") params body scope (cloFrom X.env.cells scope.names []) ((X.mg "__name__").getD .none) c' ctv) (t' := tk) I1 rfl
    refine h h'.objs.size c' _ ctv _ _ I2 ⟨fun b o e n => ?_, fun b e => upd_none' e, hT.ext fun b o e => ?_, nF, upd_same, ?_⟩
    · exact (upd_ne (ne_of_none e nF)).trans e
    · exact (upd_ne (ne_of_none e nF)).trans e
    · exact (upd_ne (ne_of_none hco nF)).trans hco
end
section
variable {r : RP} {T : List (Addr × Str)} {m : List Addr} {S : Sto} {H H2 : Hp} {f c' : Addr} {q : Str} {o : Obj}
theorem LamMade.ex (L : LamMade T H H2 f c' q o) : Ext m H m H2 := ⟨⟨[], by simp, by simp⟩, fun a u _ n h => L.ext a u h n, L.grow⟩
theorem repO_tbl {a : Addr} {go : GO} (h : RepO r m H a go) : ∃ u, H a = some u ∧ ∀ ps, u ≠ .tbl ps := by
  cases go with
  | lst w l =>
    cases w with
    | true => obtain ⟨vs, h, _⟩ := h; exact ⟨_, h, fun _ z => by cases z⟩
    | false =>
      obtain ⟨vs, h, _⟩ := h
      rcases h with h | ⟨_, h⟩
      · exact ⟨_, h, fun _ z => by cases z⟩
      · exact ⟨_, h, fun _ z => by cases z⟩
  | ins c fs => obtain ⟨_, _, _, _, h, _⟩ := h; exact ⟨_, h, fun _ z => by cases z⟩
  | dic z l =>
    obtain ⟨kvs, h, _⟩ := h
    cases z with
    | true => obtain ⟨o, h⟩ := h; exact ⟨_, h, fun _ z => by cases z⟩
    | false => exact ⟨_, h, fun _ z => by cases z⟩
theorem LamMade.rep (L : LamMade T H H2 f c' q o) (hR : Rep r T m S H) : Rep r T m S H2 := by
  refine ⟨hR.len, hR.nd, fun n a ob h1 h2 => ?_, L.tabs, fun b hb => ?_⟩
  · have ho := hR.obj n a ob h1 h2
    obtain ⟨u, hu, hn⟩ := repO_tbl ho
    exact ho.ext (L.ex) (by rw [L.ext a u hu hn, hu])
  · obtain ⟨x1, xs, x2⟩ := hR.hid b hb
    exact ⟨x1, xs, L.ext b _ x2 (fun _ z => by cases z)⟩
end
section
variable {M : Md} {r : RP} {W : WX} {X : Cx} {lam : Nat → Option LamD}
/-- a lambda that captures nothing -/
theorem g_lam0 {c P : Addr} {params : Arguments} {body : Expr} {scope : Scope} {pos : Pos} {ln : Nat} {L : LamD} (hM : M.is r) (hlo : M.isClo = loIs lam) (TB : TabB X.base X.mg c P) (hcode : X.env.code = .ref c) (hm : (P, X.env.qual ++ "<lambda>") ∈ M.T) (hu : ∀ p ∈ M.T, p.1 = P → p.2 = X.env.qual ++ "<lambda>")
    (hdef : defaultsOf params X.env = ([], [])) (hfr : ∀ y ∈ scope.names, y.2 ≠ .free) (hL : lam ln = some L) (hq : L.qual = X.env.qual ++ "<lambda>") (hp : L.params = params) (hb : L.body = body) (hs : L.scope = scope) (hf : L.fr = []) :
    PE X (.Lambda params body scope pos) (tF r M.T W (eC (.clo ln 0 []))) := by
  refine ⟨fun pins s σ H Q I ⟨m, S, l, hR, hL', q⟩ => ?_⟩
  have hfree : ∀ y ∈ scope.names, y.2 = .free → ∃ c, X.env.cells.lookup y.1 = some c := fun y hy e => absurd e (hfr y hy)
  refine lam_make3 I TB hcode hm hu hR.tabs hdef hfree fun f c' pm ctv H2 s' I2 A => ?_
  have hR2 := A.rep hR
  have nf : ∀ {y c}, (y, c) ∈ cloFrom X.env.cells scope.names [] → False := fun {y c} z => by
    rcases cloFrom_mem z with z | ⟨z, _⟩
    · cases z
    · exact hfr _ z rfl
  have ecl : cloFrom X.env.cells scope.names [] = [] := by
    cases e : cloFrom X.env.cells scope.names [] with
    | nil => rfl
    | cons p l => exact (nf (y := p.1) (c := p.2) (by rw [e]; exact List.mem_cons_self)).elim
  have of_ : ∀ a u, H2 a = some u → (∀ xs, u ≠ .lst xs) → (a ∈ m → False) → Out r m a := fun a u h n1 n2 => ⟨n2, fun z => by
    obtain ⟨_, xs, hx⟩ := hR2.hid a z
    rw [h] at hx
    exact n1 xs (Option.some.inj hx)⟩
  have nm : ∀ a u, H2 a = some u → (∀ go : GO, ¬ RepO r m H2 a go) → a ∈ m → False := fun a u h n z => by
    obtain ⟨n', hn⟩ := List.getElem?_of_mem z
    obtain ⟨o, _, ho⟩ := hR2.at hn
    exact n o ho
  refine ⟨.ref f, H2, I2, rfl, q m H2 (.ref f) A.ex hR2 ?_⟩
  have noO : ∀ (a : Addr) (φ : Heap → Prop), H2 a = some (.ext φ) → ∀ go : GO, ¬ RepO r m H2 a go := fun a φ h go ho => by
    cases go with
    | lst w l =>
      cases w with
      | true => obtain ⟨vs, h1, _⟩ := ho; rw [h] at h1; cases h1
      | false =>
        obtain ⟨vs, h1, _⟩ := ho
        rcases h1 with h1 | ⟨_, h1⟩
        · rw [h] at h1; cases h1
        · rw [h] at h1; cases h1
    | ins c fs => obtain ⟨_, _, _, _, h1, _⟩ := ho; rw [h] at h1; cases h1
    | dic z l =>
      obtain ⟨kvs, h1, _⟩ := ho
      cases z with
      | true => obtain ⟨o, h1⟩ := h1; rw [h] at h1; cases h1
      | false => have h1 : H2 a = some (.dK kvs) := h1; rw [h] at h1; cases h1
  have hfO : H2 f = some (.ext _) := A.fn
  have hcO : H2 c' = some (.ext _) := A.code
  refine .clo (of_ f _ hfO (fun _ z => by cases z) (nm f _ hfO (noO f _ hfO))) A.fn ?_ (of_ c' _ hcO (fun _ z => by cases z) (nm c' _ hcO (noO c' _ hcO))) A.code .nil
  rw [hM.2.2, hlo]
  refine ⟨L, hL, hq.symm, pm, ctv, ?_⟩
  rw [hp, hb, hs, hf, ecl] <;> rfl
end
/-- a lambda that may be called: k ahead of its frame -/
structure CalL (M : Md) (lam : Nat → Option LamD) (k ln np : Nat) (cl : List G → Sto → R G) : Prop where
  run : ∀ (f c' : Addr) (o : Obj) (q : Str) (A : Around) (outer : List Env) (s : Shared) (H : Hp) (us : List Value) (vs : List V) (Q : VK) (E : XK), loIs lam ln 0 o [] c' q → Room k A → A.guards = some [] → Env0 M.P M.w M.K M.mg M.base A outer s H →
    H f = some (fixO f o) → H c' = some (CodeO c' q) → Vals vs us → spG M np cl vs H Q E → codeAny (model M.P M.w) A (.call (.ref f) ⟨us, []⟩) (CR (L2.CX M.P M.w) outer M.P M.w H s Q E) s
abbrev lamNF (L : LamD) (c' : Addr) : NdefX.NF := ⟨"<lambda>", L.qual, L.params, [], L.scope, [], c'⟩
abbrev lamX (M : Md) (N : List Str) (L : LamD) (f c' : Addr) (A : Around) (outer : List Env) (s : Shared) (H : Hp) (E : XK) : Cx := NdefX.ncx (L2.CX M.P M.w) M.P M.w M.K M.mg M.base N (lamNF L c') f A outer s H E
theorem startF_nil (N : List Str) (vs : List V) : NdefX.startF N vs [] = L2.start N vs := by
  unfold NdefX.startF L2.start
  simp
theorem g_lamcal {M : Md} {lam : Nat → Option LamD} {k ln np nN : Nat} {L : LamD} {N ps : List Str} {fe : Ev} {cl : List G → Sto → R G} (hL : lam ln = some L) (hfr : L.fr = []) (S : NdefX.NScope N ps [] L.scope) (hn : N.length = nN) (hp : ps.length = np)
    (hb : ∀ (pm cv ctv : Value) (us : List Value), us.length = ps.length → bindArgs (PySem.W.kla_fn "<lambda>" L.qual L.params L.body L.scope [] pm cv ctv) ⟨us, []⟩ = pure (ps.zip us))
    (hcl : ∀ gs S, gs.length = np → cl gs S = fe (lo0 nN gs) S)
    (hbody : ∀ (f c' : Addr) (A : Around) (outer : List Env) (s : Shared) (H : Hp) (E : XK) (r : RP), M.is r → Room k (A.deeper (NdefX.envF (lamNF L c') f s.heap.objs.size)) → Ctx r M.T (fun c d _ H => E c d H) (lamX M N L f c' A outer s H E) → M.of (lamX M N L f c' A outer s H E) →
      PE (lamX M N L f c' A outer s H E) L.body (tF r M.T (fun c d _ H => E c d H) fe)) : CalL M lam (k + 1) ln np cl := by
  refine ⟨fun f c' o q A outer s H us vs Q E hlo hr hgu e0 hf hc r1 hsp => ?_⟩
  obtain ⟨L', hL', hq, pm, ctv, ho⟩ := hlo
  rw [hL] at hL'
  cases hL'
  subst hq
  rw [hfr] at ho
  have lim : s.heap.NoLimit := e0.mod.nolimit.keeps fun b o e => (e0.bs b o e).1
  have hl : vs.length = ps.length := by rw [hp]; exact hsp.1
  have hof := fixO_at e0.hok hf
  rw [ho] at hof
  obtain ⟨⟨oc, ws, t, hoc, hdc, hvc⟩, _, _⟩ := e0.hok c' _ hc
  refine PySem.W.kla_callFunE hr.depth hof rfl S.co S.gen rfl ⟨c', oc, ws, t, rfl, hoc, hdc, hvc⟩ ?_
  rw [show bindArgs (PySem.W.kla_fn "<lambda>" L.qual L.params L.body L.scope (([] : List Str).zip ([] : List Addr)) pm (.ref c') ctv) ⟨us, []⟩ = pure (ps.zip us) from hb pm _ ctv us (by rw [← r1.length]; exact hl)]
  refine wpAny_pure (wpAny_newFunctionEnv S.nocell (fun ⟨n, _⟩ hy => S.par n (List.of_mem_zip hy).1) (fun h₁ hns hsb => ⟨lim.fresh _ hsb, ?_⟩) S.kind)
  show codeAny _ _ (.expr L.body (NdefX.envF (lamNF L c') f s.heap.objs.size)) _ _
  have kp : ∀ b o, s.heap.get? b = some o → h₁.get? b = some o := fun b o e => hsb.extBut b o (Nat.ne_of_lt (Heap.lt_size e)) (Heap.get?_push_of_some _ e)
  have I : Inv (lamX M N L f c' A outer s H E) [] (NdefX.startF N vs []) H { s with heap := h₁, toks := s.toks + (ps.zip us).length } :=
    NdefX.inv_startN S hr.hd e0 hl r1 ⟨rfl, fun y c z => (by cases z), fun x y c z => (by cases z), fun i y z => by simp at z⟩ hns kp
  rw [startF_nil] at I
  obtain ⟨hlen, r, m, S0, gs, hM, hR, h1, q⟩ := hsp
  have hgl : gs.length = np := by rw [h1.length]; exact hlen
  have room := hr.deeper (NdefX.envF (lamNF L c') f s.heap.objs.size)
  have tk := takes_of (X := lamX M N L f c' A outer s H E) (E := E) (E₁ := fun e' s'' => L2.CX M.P M.w outer H s E e' s'') rfl rfl rfl rfl
  have ht := hbody f c' A outer s H E r hM room ⟨hM.1.symm, hM.2.1.symm, rfl, room.hd, room.units, guards_deeper hgu, tk⟩ ⟨rfl, rfl, rfl, rfl, rfl⟩
  refine PySem.W.kla_codeExpr (wpAny_mono (ht.run [] _ (L2.start N vs) H Q I ⟨m, S0, lo0 nN gs, hR, repL_start N hn h1, ?_⟩) (fun v s' hq => ?_) fun e s' hq => hq)
  · rw [hcl gs S0 hgl] at q
    revert q
    cases fe (lo0 nN gs) S0 with
    | ok g S' => exact id
    | exc c fs S' => exact fun q m2 H2 C d e a k x => q m2 H2 C d e a k x
    | bad => exact id
  · obtain ⟨w', H', J', rv, q⟩ := hq
    exact ⟨w', H', J'.os, J'.bare, J'.base, J'.hok, rv, q⟩
/-- a local name that holds a def or a lambda is called -/
def eClL (fns : List Str) (call : Calls) (i : Nat) (a : As) : Ev := fun l S => match l[i]? with
  | some (some (.gl x)) => if fns.contains x then rb (a l S) fun xs S => call (.fn x) xs S else .bad
  | some (some (.clo ln 0 [])) => rb (a l S) fun xs S => call (.la ln 0) xs S
  | _ => .bad
section
variable {M : Md} {lam : Nat → Option LamD} {k : Nat} {r : RP} {W : WX} {X : Cx} {i : Nat} {x : Str} {p pos : Pos} {e : Expr} {es : List Expr} {fs : As} {call : Calls}
theorem run_lam {ln np : Nat} {cl : List G → Sto → R G} {f c' : Addr} {o : Obj} {q : Str} {E : L2.St → XK} {pins : List (Addr × Obj)} {σ : L2.St} {H : Hp} {s : Shared} {Q : VK} {us : List Value} {vs : List V} (hX : M.of X) (F : CalL M lam k ln np cl) (hlo : loIs lam ln 0 o [] c' q) (hr : Room k X.A) (hg : X.A.guards = some [])
    (hx : PassesAt (L2.CX X.prog X.w) X σ (E σ)) (I : Inv X pins σ H s) (hf : H f = some (fixO f o)) (hc : H c' = some (CodeO c' q)) (r1 : Vals vs us) (h : spG M np cl vs H Q (E σ)) : wpAny (model X.prog X.w) X.A (PySem.call (.ref f) us) (EP X pins σ Q) X.xe s := by
  obtain ⟨h1, h2, h3, h4, h5⟩ := hX
  have e0 := I.env0
  have run := F.run f c' o q X.A X.stack s H us vs Q (E σ) hlo hr hg (by rw [← h1, ← h2, ← h3, ← h4, ← h5]; exact e0) hf hc r1 h
  rw [← h1, ← h2] at run
  refine wpAny_call (codeAny_mono run fun r s' hq => ?_)
  cases r with
  | error e => exact hx pins H s e s' I hq
  | ok fl =>
    cases fl with
    | ret u => exact I.after hq
    | next => exact False.elim hq
    | brk => exact False.elim hq
    | cont => exact False.elim hq
theorem g_callLoc (c : Ctx r M.T W X) (hX : M.of X) (hM : M.is r) (hlo : M.isClo = loIs lam) (hr : Room k X.A) (hN : X.N[i]? = some x) (hv : Vis X.env.scope x)
    {fns : List Str} (hk : ∀ y ∈ fns, ∃ f, M.mg y = some (.ref f) ∧ PySem.W.keepIn M.K (.ref f) = true) (hF : ∀ y xs S, call (.fn y) xs S ≠ .bad → CalF M k y xs.length (call (.fn y))) (hL : ∀ ln xs S, call (.la ln 0) xs S ≠ .bad → CalL M lam k ln xs.length (call (.la ln 0)))
    (ha : PA X (e :: es) (tFA r M.T W fs)) (hdb : (x == ("__debug__" : Str)) = false) (hcd : (x == ("__classdict__" : Str)) = false)
    (he : starEach (e :: es) X.env = (false, eval e X.env) :: starEach es X.env) (hpl : (backTo pos (starEach es X.env)).any (·.1) = false) : PE X (.Call (.Name x p) (e :: es) [] pos) (tF r M.T W (eClL fns call i fs)) := by
  obtain ⟨x1, x2, x3, x4, x5⟩ := id hX
  refine ⟨fun pins s σ H Q I ⟨m, S, l, hR, hL', q⟩ => ?_⟩
  unfold eClL at q
  split at q
  · rename_i y hy
    obtain ⟨v, hv1, hv2⟩ := hL'.get i _ hy
    split at q
    · rename_i hin
      cases hv2 with
      | @gl _ f hf =>
        refine wpAny_Call_Name_kw (thn ((pe_var (pos := p) hN hv hdb hcd).run pins s σ H (fun v H1 => v = .ref f ∧ H1 = H) I ⟨.ref f, hv1, rfl, rfl⟩) fun u s1 ⟨v, H1, I1, r1, q1⟩ => ?_)
        obtain ⟨rfl, rfl⟩ := q1
        cases r1
        obtain ⟨f0, k1, k2⟩ := hk y (by simpa using hin)
        rw [hM.2.1, k1] at hf
        cases hf
        refine PySem.W.callWith_K (h₀ := X.base) I.ok.mod.kin (by rw [x3]; exact k2) (thn (ha.run pos pins s1 σ _ _ I1 (stA hR hL' q)) fun us s2 ⟨vs, H2, I2, r2, m2, S2, gs, e2, hR2, hL2, h6, q2⟩ => ⟨I2.kIn, ?_⟩) he hpl
        have hb : call (.fn y) gs S2 ≠ .bad := fun z => by dsimp only at q2; rw [z] at q2; exact q2
        obtain ⟨f', fd, ps, g1, g2, g3, g4⟩ := (hF y gs S2 hb).ex
        rw [k1] at g1
        cases g1
        exact run_g (E := WE W) hX g4 hr c.gu (by rw [x3]; exact g3) (passAt c.tk σ) I2 r2 (sp_of hM hR2 h6 rfl q2)
    · exact False.elim q
  · rename_i ln hy
    obtain ⟨v, hv1, hv2⟩ := hL'.get i _ hy
    have hv3 := hv2
    cases hv2 with
    | @clo f c' o q' _ _ cs _ n1 h1 k n2 h2 t =>
      refine wpAny_Call_Name_kw (thn ((pe_var (pos := p) hN hv hdb hcd).run pins s σ H (fun v H1 => v = .ref f ∧ H1 = H) I ⟨.ref f, hv1, rfl, rfl⟩) fun u s1 ⟨v, H1, I1, r1, q1⟩ => ?_)
      obtain ⟨rfl, rfl⟩ := q1
      cases r1
      cases t
      rw [hM.2.2, hlo] at k
      obtain ⟨L, hL0, hq, pm, ctv, ho⟩ := id k
      have hof := fixO_at I1.hok h1
      rw [ho] at hof
      refine PySem.W.callWith_F ⟨_, _, _, _, hof⟩ (thn (ha.run pos pins s1 σ _ _ I1 (stA hR hL' q)) fun us s2 ⟨vs, H2, I2, r2, m2, S2, gs, e2, hR2, hL2, h6, q2⟩ => ?_) he hpl
      have h1' := e2.keep f _ n1.1 fix_ne h1
      have h2' := e2.keep c' _ n2.1 codeO_ne h2
      have hof2 := fixO_at I2.hok h1'
      rw [ho] at hof2
      refine ⟨⟨_, _, _, _, hof2⟩, ?_⟩
      have hb : call (.la ln 0) gs S2 ≠ .bad := fun z => by dsimp only at q2; rw [z] at q2; exact q2
      exact run_lam (E := WE W) hX (hL ln gs S2 hb) k hr c.gu (passAt c.tk σ) I2 h1' h2' r2 (sp_of hM hR2 h6 rfl q2)
  · exact False.elim q
end
end GL

end

section
set_option Elab.async false
set_option linter.all false
set_option maxRecDepth 100000
set_option maxHeartbeats 4000000
/-! GL: == of instances whose class tells it. -/
namespace GL
open PySem PySem.Spec PyProof.Rows L2
structure EqCls (K : PySem.W.Frag) (C f : Addr) : Prop where
  at_ : PySem.W.findIn K (.ref C) "__eq__" = some (some (.ref f))
  fn : PySem.W.isFn K (.ref f) = true
  tup : PySem.W.notFirst K C (.type "tuple") = true
  self : PySem.W.notFirst K C (.ref C) = true
structure CalE (M : Md) (k : Nat) (c : Str) (cl : List G → Sto → R G) : Prop where
  ex : ∃ (C f : Addr) (fd : FuncData) (ps : List Str), M.mg c = some (.ref C) ∧ EqCls M.K C f ∧ Binds M.K fd ps [] ∧ GFn M k f fd ps (spG M 2 cl)
def isOf (c : Str) (S : Sto) : G → Bool
  | .ref n => (match S[n]? with
    | some (.ins d _) => decide (d = c)
    | _ => false)
  | _ => false
def isTup : G → Bool
  | .tup _ => true
  | _ => false
def eEqO (call : Calls) (c : Str) (a b : Ev) : Ev := fun l S => rb (a l S) fun x S => rb (b l S) fun y S => if isOf c S x = true ∧ (isTup y = true ∨ isOf c S y = true) then
  rb (call (.me c "__eq__") [x, y] S) fun g S => (match g with
    | .bl b => .ok (.bl b) S
    | _ => .bad) else .bad
section
variable {M : Md} {k : Nat} {r : RP} {W : WX} {X : Cx} {cn : Str} {p pos : Pos} {a b : Expr} {fa fb : Ev} {call : Calls} {m : List Addr} {H : Hp} {S : Sto}
theorem isOf_rep {g : G} {v : V} {C : Addr} (hR : Rep r M.T m S H) (h : RepV r m H g v) (e : isOf cn S g = true) (hC : r.mg cn = some (.ref C)) : ∃ a dx vs, v = .ref a ∧ H a = some (.ins C dx vs) := by
  cases h with
  | @ref n a hn =>
    have e : (match S[n]? with
      | some (.ins d _) => decide (d = cn)
      | _ => false) = true := e
    split at e
    · rename_i d fs hs
      have e := of_decide_eq_true e
      subst e
      obtain ⟨C', dx, vs, h1, h2, h3⟩ := hR.obj n a _ hn hs
      rw [hC] at h1
      cases h1
      exact ⟨a, dx, vs, rfl, h2⟩
    · cases e
  | _ => cases e
theorem op_gEqO (c : Ctx r M.T W X) (hX : M.of X) (hM : M.is r) (F : CalE M k cn (call (.me cn "__eq__"))) (hr : Room k X.A) {pins : List (Addr × Obj)} {s : Shared} {σ : L2.St} {x y : V} {g1 g2 : G} {v u : Value} {Q : VK}
    (I : Inv X pins σ H s) (rx : L2.RelV x v) (ry : L2.RelV y u) (hR : Rep r M.T m S H) (h1 : RepV r m H g1 x) (h2 : RepV r m H g2 y) (e1 : isOf cn S g1 = true) (e2 : isTup g2 = true ∨ isOf cn S g2 = true)
    (q : Pst r M.T W (RepV r) σ m H (rb (call (.me cn "__eq__") [g1, g2] S) fun g S => (match g with
      | .bl b => .ok (.bl b) S
      | _ => .bad)) Q) : wpAny (model X.prog X.w) X.A (compareOp .Eq v u) (EP X pins σ Q) X.xe s := by
  obtain ⟨C, f, fd, ps, f1, f2, f3, f4⟩ := F.ex
  obtain ⟨x1, x2, x3, x4, x5⟩ := id hX
  have hC : r.mg cn = some (.ref C) := by rw [hM.2.1]; exact f1
  obtain ⟨ax, dx, vx, rfl, hax⟩ := isOf_rep hR h1 e1 hC
  cases rx
  obtain ⟨mA, J, _⟩ := ins_get I.hok hax
  obtain ⟨od, J, _⟩ := J.look
  obtain ⟨mF, hF⟩ := I.fr
  show wpAny (model X.prog X.w) X.A (richCompare .Eq (.ref ax) u) (EP X pins σ Q) X.xe s
  have hsp : spG M 2 (call (.me cn "__eq__")) [.ref ax, y] H (fun v H' => ∃ b, v = .bl b ∧ Q (.bl b) H') (WE W σ) := by
    refine ⟨rfl, r, m, S, [g1, g2], hM, hR, .cons h1 (.cons h2 .nil), ?_⟩
    refine pst_wish (W := W) (s := σ) ?_
    revert q
    cases call (.me cn "__eq__") [g1, g2] S with
    | bad => exact id
    | exc c fs S => exact id
    | ok g S' =>
      intro q m2 H2 v ex hR2 hv
      cases g with
      | bl b => cases hv; exact ⟨b, rfl, q m2 H2 _ ex hR2 (.bl b)⟩
      | _ => exact False.elim q
  have go : wpAny (model X.prog X.w) X.A (PySem.call (.ref f) [.ref ax, u]) (PySem.W.CmpBack (EP X pins σ Q)) X.xe s := by
    refine wpAny_mono (run_g (vs := [.ref ax, y]) (E := WE W) hX f4 hr c.gu (by rw [x3]; exact f3) (passAt c.tk σ) I (.cons rfl (.cons ry .nil)) hsp) (fun v s' hq => ?_) fun _ _ e => e
    obtain ⟨z, H', I', rz, b, ez, q⟩ := hq
    subst ez
    cases rz
    exact ⟨.bl b, H', I', rfl, q⟩
  rcases e2 with e2 | e2
  · cases h2 with
    | @tup pp vs _ h z t =>
      obtain rfl : u = Value.ref pp := ry
      have ht : ∃ o, s.heap.get? pp = some o ∧ o.cls = .type "tuple" := by
        obtain ⟨its, rv, ⟨o, h1, h2, _⟩, _⟩ := I.tuple (by rw [c.K]; exact TupSq h)
        exact ⟨o, h1, h2⟩
      obtain ⟨o, ho, hc⟩ := ht
      refine PySem.W.cmp_K (op := .Eq) (tb := .type "tuple") (by have := c.un; omega) hF I.ok.mod.kin J (hc ▸ (PySem.W.Looks.ld ho).andThen .now) (by rw [x3]; exact f2.tup) (by rw [x3]; exact f2.at_) (by rw [x3]; exact f2.fn) go
    | _ => cases e2
  · obtain ⟨ay, dy, vy, rfl, hay⟩ := isOf_rep hR h2 e2 hC
    cases ry
    obtain ⟨mB, J', _⟩ := ins_get I.hok hay
    obtain ⟨od', J', _⟩ := J'.look
    exact PySem.W.cmp_K (op := .Eq) (tb := .ref C) (by have := c.un; omega) hF I.ok.mod.kin J J'.type (by rw [x3]; exact f2.self) (by rw [x3]; exact f2.at_) (by rw [x3]; exact f2.fn) go
theorem eqo_imp {s : L2.St} {H : Hp} {Q : VK} (h : tF r M.T W (eEqO call cn fa fb) s H Q) : tF r M.T W fa s H fun x H1 => tF r M.T W fb s H1 fun y H2 => ∃ m S g1 g2, Rep r M.T m S H2 ∧ RepV r m H2 g1 x ∧ RepV r m H2 g2 y ∧ isOf cn S g1 = true ∧ (isTup g2 = true ∨ isOf cn S g2 = true) ∧
    Pst r M.T W (RepV r) s m H2 (rb (call (.me cn "__eq__") [g1, g2] S) fun g S => (match g with
      | .bl b => .ok (.bl b) S
      | _ => .bad)) Q := by
  obtain ⟨m, S, l, hR, hL, q⟩ := h
  refine mono_tF (stE hR hL q) fun x H1 ⟨m1, S1, g, e, hR1, hL1, h1, q1⟩ => mono_tF (stE hR1 hL1 q1) fun y H2 ⟨m2, S2, g2, e2, hR2, hL2, h2, q2⟩ => ?_
  dsimp only at q2
  split at q2
  · rename_i hc
    exact ⟨m2, S2, g, g2, hR2, h1.ext e2, h2, hc.1, hc.2, q2⟩
  · exact False.elim q2
theorem g_eqo (c : Ctx r M.T W X) (hX : M.of X) (hM : M.is r) (F : CalE M k cn (call (.me cn "__eq__"))) (hr : Room k X.A) (ha : PE X a (tF r M.T W fa)) (hb : PE X b (tF r M.T W fb)) (hm : behindInMarks .Eq b = false) :
    PE X (.Compare a [.Eq] [b] pos) (tF r M.T W (eEqO call cn fa fb)) := by
  refine ⟨fun pins s σ H Q I h => ?_⟩
  exact wpAny_Compare1 (binT ha hb I (R := fun x y H2 => ∃ m S g1 g2, Rep r M.T m S H2 ∧ RepV r m H2 g1 x ∧ RepV r m H2 g2 y ∧ isOf cn S g1 = true ∧ (isTup g2 = true ∨ isOf cn S g2 = true) ∧
    Pst r M.T W (RepV r) σ m H2 (rb (call (.me cn "__eq__") [g1, g2] S) fun g S => (match g with
      | .bl b => .ok (.bl b) S
      | _ => .bad)) Q) (eqo_imp h) fun v u s2 x y H2 I2 rx ry ⟨m, S, g1, g2, hR, h1, h2, e1, e2, q⟩ => op_gEqO c hX hM F hr I2 rx ry hR h1 h2 e1 e2 q) hm
theorem g_teqo (c : Ctx r M.T W X) (hX : M.of X) (hM : M.is r) (F : CalE M k cn (call (.me cn "__eq__"))) (hr : Room k X.A) (ha : PE X a (tF r M.T W fa)) (hb : PE X b (tF r M.T W fb)) (hm : behindInMarks .Eq b = false) :
    PT X (.Compare a [.Eq] [b] pos) (tFT r M.T W (tV (eEqO call cn fa fb))) := by
  refine ⟨fun pins s σ H Q I h => ?_⟩
  have h := eqo_imp (tV_imp h)
  refine wpAny_isTrue_Compare1 (thn (ha.run pins s σ H _ I h) fun v s1 ⟨x, H1, I1, r1, q1⟩ => thn (hb.run pins s1 σ H1 _ I1 q1) fun u s2 ⟨y, H2, I2, r2, m, S, g1, g2, hR, h1, h2, e1, e2, q⟩ =>
    thn (op_gEqO c hX hM F hr I2 r1 r2 hR h1 h2 e1 e2 q) fun c s3 ⟨z, H3, I3, r3, k, e, q3⟩ => ?_) hm
  subst e
  cases r3
  exact wpAny_truthy_bool ⟨H3, I3, q3⟩
end
end GL

end

section
set_option Elab.async false
set_option linter.all false
set_option maxRecDepth 100000
set_option maxHeartbeats 4000000
/-! GL: the law's end. -/
namespace GL
open PySem PySem.Spec PyProof.Rows L2 LamX

/-- what is tracked at the law's start: the script (if it is none of the module's own objects), the code tables -/
noncomputable def H0 (K : PySem.W.Frag) (a : Addr) (sc : Obj) (vs : List V) (tb : List Addr) : Hp := fun b =>
  if b = a ∧ K.lookup a = none then some (.frz sc (.lst vs)) else if b ∈ tb then some (.tbl #[]) else none
section
variable {K : PySem.W.Frag} {a : Addr} {sc : Obj} {vs : List V} {tb : List Addr} {b : Addr} {u : HO}
theorem H0_cases (h : H0 K a sc vs tb b = some u) : (b = a ∧ K.lookup a = none ∧ u = .frz sc (.lst vs)) ∨ (b ∈ tb ∧ u = .tbl #[]) := by
  unfold H0 at h
  split at h
  · rename_i c
    exact .inl ⟨c.1, c.2, (Option.some.inj h).symm⟩
  · split at h
    · rename_i c
      exact .inr ⟨c, (Option.some.inj h).symm⟩
    · cases h
theorem H0_tb (hb : b ∈ tb) (na : a ∉ tb) : H0 K a sc vs tb b = some (.tbl #[]) := by
  unfold H0
  rw [if_neg (fun z => na (by rw [← z.1]; exact hb)), if_pos hb]
theorem H0_out (h1 : ¬ (b = a ∧ K.lookup a = none)) (h2 : b ∉ tb) : H0 K a sc vs tb b = none := by
  unfold H0
  rw [if_neg h1, if_neg h2]
end
theorem repI {r : RP} {m : List Addr} {H : Hp} : ∀ ns : List Int, RepVs r m H (ns.map .int) (ns.map V.int)
  | [] => .nil
  | n :: l => .cons (.int n) (repI l)
/-- the facts of the heap behind the top that the end asks for -/
structure LawIn (K : PySem.W.Frag) (mg mb : Str → Option Value) (s : Shared) (a : Addr) (vs : List Value) (ns : List Int) (cs : List (Addr × Addr)) : Prop where
  kin : K.In s.heap
  ns_ : s.heap.Ns mainGlobals mg
  bns : s.heap.Ns builtinsNs mb
  bb : ∀ x : Str, x ≠ "__name__" → mb x = bootBuiltins x
  lim : s.heap.NoLimit
  gens : s.gens = #[]
  tabs : ∀ p ∈ cs, s.heap.get? p.2 = some { cls := .none, data := .fields #[] }
  ntab : ∀ p ∈ cs, K.lookup p.2 = none
  code : ∀ p ∈ cs, PySem.W.CodeHd s.heap p.1 p.2
  bm : ∃ (bm : Addr) (ob : Obj), mg "__builtins__" = some (.ref bm) ∧ bm ≠ builtinsNs ∧ s.heap.get? bm = some ob ∧ ob.cls = .type "module" ∧ ob.dict = some builtinsNs ∧ ob.data = .plain
  obj : s.heap.get? a = some { cls := .type "list", data := .seq vs.toArray }
  iare : IntsAre vs ns
  len : ns.length ≤ sizeLine
section
variable {K : PySem.W.Frag} {mg mb : Str → Option Value} {s : Shared} {a : Addr} {vs : List Value} {ns : List Int} {cs : List (Addr × Addr)} {P : Program} {w : World}
abbrev scO (vs : List Value) : Obj := { cls := .type "list", data := .seq vs.toArray }
noncomputable abbrev LawIn.H (_ : LawIn K mg mb s a vs ns cs) : Hp := H0 K a (scO vs) (ns.map V.int) (cs.map (·.2))
theorem LawIn.tab (L : LawIn K mg mb s a vs ns cs) {b : Addr} (hb : b ∈ cs.map (·.2)) : s.heap.get? b = some { cls := .none, data := .fields #[] } := by
  obtain ⟨p, hp, e⟩ := List.mem_map.mp hb
  rw [← e]
  exact L.tabs p hp
theorem LawIn.na (L : LawIn K mg mb s a vs ns cs) : a ∉ cs.map (·.2) := fun z => by
  have q := L.tab z
  rw [L.obj] at q
  have z' : Data.seq vs.toArray _ = Data.fields #[] := congrArg Obj.data (Option.some.inj q)
  cases z'
/-- an object that is neither the script's list nor an empty table is not tracked -/
theorem LawIn.free (L : LawIn K mg mb s a vs ns cs) {b : Addr} {o : Obj} (e : s.heap.get? b = some o) (h1 : ∀ v n, o.data ≠ .seq v n) (h2 : o.data ≠ .fields #[]) : L.H b = none := by
  cases q : L.H b with
  | none => rfl
  | some u =>
    rcases H0_cases q with ⟨rfl, _, _⟩ | ⟨hb, _⟩
    · rw [L.obj] at e
      cases e
      exact (h1 _ _ rfl).elim
    · rw [L.tab hb] at e
      cases e
      exact (h2 rfl).elim
theorem LawIn.hok (L : LawIn K mg mb s a vs ns cs) : HOk P w L.H s.heap := fun b u q => by
  rcases H0_cases q with ⟨rfl, _, rfl⟩ | ⟨hb, rfl⟩
  · exact ⟨L.obj, by rw [List.length_map]; exact L.len, vs, _, vals_ints L.iare, L.obj⟩
  · exact L.tab hb
theorem LawIn.kb (L : LawIn K mg mb s a vs ns cs) : K.In (hidT s.heap L.H) := fun b o e => hidT_get (L.kin b o e) (by
  cases q : L.H b with
  | none => rfl
  | some u =>
    rcases H0_cases q with ⟨rfl, hk, _⟩ | ⟨hb, _⟩
    · rw [hk] at e; cases e
    · obtain ⟨p, hp, ep⟩ := List.mem_map.mp hb
      rw [← ep, L.ntab p hp] at e
      cases e)
theorem LawIn.nsb (L : LawIn K mg mb s a vs ns cs) {b : Addr} {m : Str → Option Value} (h : s.heap.Ns b m) : (hidT s.heap L.H).Ns b m := by
  obtain ⟨o, es, ep, e, d, r⟩ := h
  exact ⟨o, es, ep, hidT_get e (L.free e (fun v n z => by rw [d] at z; cases z) fun z => by rw [d] at z; cases z), d, r⟩
theorem LawIn.env (L : LawIn K mg mb s a vs ns cs) : Env0 P w K mg (hidT s.heap L.H) callerA [] s L.H :=
  ⟨rfl, ⟨L.kb, L.nsb L.ns_, ⟨mb, L.nsb L.bns, L.bb⟩, let ⟨mc, h1, h2⟩ := L.lim; ⟨mc, L.nsb h1, h2⟩⟩, fun b o e => of_hidT e, Nat.le_of_eq (hidT_size _ _), trivial, fun b hb => absurd (show b ∈ ([] : List Addr) from hb) (by simp), L.hok, .of_eq L.gens⟩
theorem LawIn.tb (L : LawIn K mg mb s a vs ns cs) : ∀ p ∈ cs, TabB (hidT s.heap L.H) mg p.1 p.2 := fun p hp => by
  refine ⟨?_, ?_, fun z => ?_⟩
  · obtain ⟨o, us, file, tf, flags, tg, inF, text, tt, e1, r1, r2, r3, r⟩ := L.code p hp
    refine ⟨o, us, file, tf, flags, tg, inF, text, tt, hidT_get e1 (L.free e1 (fun v n z => by rw [r2] at z; cases z) fun z => ?_), r1, r2, r3, r⟩
    rw [r2] at z
    cases z
    simp at r3
  · obtain ⟨bm, ob, b1, b2, b3, b4, b5, b6⟩ := L.bm
    refine ⟨bm, ob, b1, b2, fun q => ?_, fun q => ?_, hidT_get b3 (L.free b3 (fun v n z => by rw [b6] at z; cases z) fun z => by rw [b6] at z; cases z), b4, b5, b6⟩
    · obtain ⟨o, es, ep, e, hd, _⟩ := L.ns_
      rw [q, e] at b3
      cases b3
      rw [hd] at b6
      cases b6
    · rw [q, L.tabs p hp] at b3
      cases b3
      cases b6
  · obtain ⟨o, es, ep, e, hd, _⟩ := L.ns_
    rw [z, L.tabs p hp] at e
    cases e
    cases hd
/-- THE END: the law's plain call gives True -/
theorem LawIn.call {fa : Addr} {fd : FuncData} {x : Str} {k : Nat} {T : List (Addr × Str)} {isClo : Nat → Nat → Obj → List Addr → Addr → Str → Prop} {cl : List G → Sto → R G} {S' : Sto} (L : LawIn K mg mb s a vs ns cs) (hr : Room k callerA)
    (hT : ∀ p ∈ T, p.1 ∈ cs.map (·.2)) (F : GFn ⟨P, w, K, mg, hidT s.heap L.H, T, isClo⟩ k fa fd [x] (spG ⟨P, w, K, mg, hidT s.heap L.H, T, isClo⟩ 1 cl)) (hbind : ∀ (s : Shared) (u : Value), BindsTo s fd ⟨[u], []⟩ [(x, u)])
    (hcl : cl [.fz (ns.map .int)] [] = .ok (.bl true) S') :
    codeAny (model P w) callerA (.call (.ref fa) ⟨[.ref a], []⟩) (fun r s' => r = .ok (.ret (.bool true)) ∧ OldK s.heap s'.heap ∧ s'.os = s.os ∧ AllBare s'.gens) s := by
  have hsp : spG ⟨P, w, K, mg, hidT s.heap L.H, T, isClo⟩ 1 cl [.ref a] L.H (fun v _ => v = .bl true) (fun _ _ _ => False) := by
    refine ⟨rfl, ⟨K, mg, none, isClo, []⟩, [], [], [.fz (ns.map .int)], ⟨rfl, rfl, rfl⟩, ⟨rfl, List.nodup_nil, fun n b o h => by simp at h, fun p hp => ?_, fun b h => by cases h⟩, .cons ?_ .nil, ?_⟩
    · exact TabS.nil (H0_tb (hT p hp) L.na)
    · refine .fz ?_ (by rw [List.length_map]; exact L.len) (repI ns)
      cases hk : K.lookup a with
      | none => exact .inl ⟨⟨by simp, by simp⟩, scO vs, if_pos ⟨rfl, hk⟩⟩
      | some o =>
        have e := L.kin a o hk
        rw [L.obj] at e
        cases e
        have rv := vals_ints L.iare
        have hl := L.len
        have hl2 := L.iare.length
        exact .inr ⟨_, vs.toArray, _, hk, rfl, rfl, rfl, by rw [List.size_toArray, hl2]; exact hl, by simpa using rv⟩
    · rw [hcl]
      intro m' H' v e hR hv
      cases hv
      rfl
  refine codeAny_mono (F.run callerA [] s L.H ⟨[.ref a], []⟩ [.ref a] [.ref a] _ _ hr rfl L.env (hbind s (.ref a)) (.cons rfl .nil) hsp) fun r s' h => ?_
  cases r with
  | error e =>
    obtain ⟨_, _, _, _, _, _, _, _, _, _, _, _, z⟩ := h
    exact z.elim
  | ok fl =>
    cases fl with
    | next => exact False.elim h
    | brk => exact False.elim h
    | cont => exact False.elim h
    | ret u =>
      obtain ⟨v, H', os, bare, un, hok', r', q⟩ := h
      have q' : v = .bl true := q
      subst q'
      obtain rfl : u = Value.bool true := r'
      have key : ∀ b o, b ∉ cs.map (·.2) → s.heap.get? b = some o → s'.heap.get? b = some o := fun b o nb e => by
        cases q : L.H b with
        | none => exact un.keep b o e q (by intro z; exact absurd (show b ∈ ([] : List Addr) from z) (by simp)) (by simp)
        | some u =>
          rcases H0_cases q with ⟨rfl, _, rfl⟩ | ⟨hb, _⟩
          · obtain ⟨e2, _⟩ := hok' _ _ (un.frzs _ _ _ q)
            rw [L.obj] at e
            cases e
            exact e2
          · exact absurd hb nb
      have grown : ∀ b ∈ cs.map (·.2), ∃ p ∈ cs, p.2 = b ∧ ∃ more : Array Value, s'.heap.get? b = some { cls := .none, data := .fields more } := fun b hb => by
        obtain ⟨p, hp, ep⟩ := List.mem_map.mp hb
        obtain ⟨more, z⟩ := un.tbls b #[] (H0_tb hb L.na)
        exact ⟨p, hp, ep, _, hok' b _ z⟩
      refine ⟨rfl, ⟨fun b o e => ?_, fun b o e => ?_⟩, os, bare⟩
      · by_cases hb : b ∈ cs.map (·.2)
        · obtain ⟨p, hp, ep, more, hm⟩ := grown b hb
          subst ep
          rw [L.tabs p hp] at e
          cases e
          exact .inr (.inl ⟨((L.code p hp).tab (L.tabs p hp)).isCodeTable, rfl, #[], more, rfl, by rw [Array.empty_append]; exact hm⟩)
        · exact .inl (key b o hb e)
      · by_cases hb : b ∈ cs.map (·.2)
        · obtain ⟨p, hp, ep, more, hm⟩ := grown b hb
          exact ⟨_, hm⟩
        · exact ⟨o, key b o hb e⟩
end
end GL

end

section
set_option Elab.async false
set_option linter.all false
set_option maxRecDepth 100000
set_option maxHeartbeats 4000000
/-! GL: a table of defs, all of them sound; the walk's end. -/
namespace GL
open PySem PySem.Spec PyProof.Rows L2 LamX

theorem bodyR_ret {fe : Ev} {l : Loc} {S : Sto} : bodyR (sRet fe l S) = fe l S := by
  unfold sRet sr
  cases fe l S <;> rfl
structure AllOk (M : Md) (tab : FK → Option FnD) (lam : Nat → Option LamD) (n : Nat) : Prop where
  fn : ∀ x d, tab (.fn x) = some d → CalF M (2 * n) x d.np (callN tab n (.fn x))
  me : ∀ c m d, tab (.me c m) = some d → (m == "__init__") = false → (m == "__eq__") = false → CalM M (2 * n) c m d.np (callN tab n (.me c m))
  cl : ∀ c d, tab (.me c "__init__") = some d → CalC M (2 * n) c d.np (callN tab n (.me c "__init__"))
  eq : ∀ c d, tab (.me c "__eq__") = some d → CalE M (2 * n) c (callN tab n (.me c "__eq__"))
  la : ∀ ln d, tab (.la ln 0) = some d → CalL M lam (2 * n) ln d.np (callN tab n (.la ln 0))
theorem arity {tab : FK → Option FnD} {k : FK} {d : FnD} (h : tab k = some d) : ∀ n, Arity d.np (callN tab n k)
  | 0 => fun gs S _ => rfl
  | n + 1 => fun gs S hl => by
    show (match tab k with
      | some d => if gs.length = d.np then bodyR (d.body (callN tab n) (lo0 d.nN gs) S) else .bad
      | none => .bad) = .bad
    rw [h]
    exact if_neg hl
theorem callN_eq {tab : FK → Option FnD} {k : FK} {d : FnD} (h : tab k = some d) (n : Nat) (gs : List G) (S : Sto) (hl : gs.length = d.np) : callN tab (n + 1) k gs S = bodyR (d.body (callN tab n) (lo0 d.nN gs) S) := by
  show (match tab k with
    | some d => if gs.length = d.np then bodyR (d.body (callN tab n) (lo0 d.nN gs) S) else .bad
    | none => .bad) = _
  rw [h]
  exact if_pos hl
theorem callN_none {tab : FK → Option FnD} {k : FK} (h : tab k = none) : ∀ (n : Nat) (gs : List G) (S : Sto), callN tab n k gs S = .bad
  | 0, _, _ => rfl
  | n + 1, gs, S => by
    show (match tab k with
      | some d => if gs.length = d.np then bodyR (d.body (callN tab n) (lo0 d.nN gs) S) else .bad
      | none => .bad) = .bad
    rw [h]
theorem not_bad {tab : FK → Option FnD} {k : FK} {n : Nat} {gs : List G} {S : Sto} (h : callN tab n k gs S ≠ .bad) : ∃ d, tab k = some d ∧ gs.length = d.np := by
  cases e : tab k with
  | none => exact absurd (callN_none e n gs S) h
  | some d => exact ⟨d, rfl, Classical.byContradiction fun z => h (arity e n gs S z)⟩
section
variable {M : Md} {tab : FK → Option FnD} {lam : Nat → Option LamD} {n : Nat} {r : RP} {W : WX} {X : Cx}
theorem AllOk.locF (A : AllOk M tab lam n) (y : Str) (xs : List G) (S : Sto) (h : callN tab n (.fn y) xs S ≠ .bad) : CalF M (2 * n) y xs.length (callN tab n (.fn y)) := by
  obtain ⟨d, h1, h2⟩ := not_bad h
  rw [h2]
  exact A.fn y d h1
theorem AllOk.locL (A : AllOk M tab lam n) (ln : Nat) (xs : List G) (S : Sto) (h : callN tab n (.la ln 0) xs S ≠ .bad) : CalL M lam (2 * n) ln xs.length (callN tab n (.la ln 0)) := by
  obtain ⟨d, h1, h2⟩ := not_bad h
  rw [h2]
  exact A.la ln d h1
/-- a def of the module as a value -/
theorem g_glob {x : Str} {p : Pos} {f : Addr} (hM : M.is r) (hX : M.of X) (hg : Gl X x) (hm : M.mg x = some (.ref f)) (hd : (x == ("__debug__" : Str)) = false) : PE X (.Name x p) (tF r M.T W (eC (.gl x))) :=
  PE_imp (pe_glob (v := .ref f) hg (by rw [hX.2.2.2.1]; exact hm) rfl hd) fun s H Q ⟨m, S, l, hR, hL, q⟩ => q.ok_of hR (.gl (by rw [hM.2.1]; exact hm))

end
/-- the walk's end, from the plain call -/
theorem walk_G {l : PySem.W.OpenLaw} {n k : Nat} {q : Program} {loose : List Str} {XP : (Str → Option Value) → Heap → Prop} {YP : World → Heap → Prop} {d : DefRec} {x : Str}
    (hn : l.most = some n) (hn2 : n ≤ sizeLine) (hdf : d.params.defaults = []) (hr : Room k callerA)
    (F : ∀ (w : World) (mg : Str → Option Value) (fa : Addr) (h : Heap), YP w h → h.Ns mainGlobals mg → mg d.name = some (.ref fa) → ∃ (K : PySem.W.Frag) (cs : List (Addr × Addr)) (fd : FuncData) (T : List (Addr × Str)) (isClo : Nat → Nat → Obj → List Addr → Addr → Str → Prop) (cl : List G → Sto → R G),
      K.In h ∧ (∀ p ∈ cs, h.get? p.2 = some { cls := .none, data := .fields #[] }) ∧ (∀ p ∈ cs, K.lookup p.2 = none) ∧ (∀ p ∈ cs, PySem.W.CodeHd h p.1 p.2) ∧ (∀ p ∈ T, p.1 ∈ cs.map (·.2)) ∧ (∀ (s : Shared) (u : Value), BindsTo s fd ⟨[u], []⟩ [(x, u)]) ∧
        (∀ ns : List Int, ns.length ≤ n → (∀ z ∈ ns, Builtin.Int.intBits z ≤ 1048576) → ∃ S', cl [.fz (ns.map .int)] [] = .ok (.bl true) S') ∧
        ∀ base : Heap, K.In base → base.Ns mainGlobals mg → (∀ p ∈ cs, TabB base mg p.1 p.2) → GFn ⟨l.prog, w, K, mg, base, T, isClo⟩ k fa fd [x] (spG ⟨l.prog, w, K, mg, base, T, isClo⟩ 1 cl)) :
    PySem.W.WalkO q loose XP YP l.row.toRowW d [] (fun f vs => PySem.call f vs) := by
  refine Att.attach_callB hn hdf fun w s₀ s₁ mg mb fa o pm cd doc a vs ns G Y ho hd hcd hmg hobj hints hlen hbits hg => ?_
  obtain ⟨K, cs, fd, T, isClo, cl, KX, h1, h2, h3, h4, h5, h6, h7⟩ := F w mg fa _ Y G.T.g hmg
  obtain ⟨S', e⟩ := h6 ns hlen hbits
  have L : LawIn K mg mb s₁ a vs ns cs := ⟨KX, G.T.g, G.T.b, G.T.builtins, G.T.nolimit, hg, h1, h2, h3, G.T.bmain, hobj, hints, Nat.le_trans hlen hn2⟩
  exact L.call hr h4 (h7 _ L.kb (L.nsb L.ns_) L.tb) h5 e
end GL

end

section
set_option Elab.async false
set_option linter.all false
set_option maxRecDepth 100000
set_option maxHeartbeats 4000000
/-! GL: comprehensions of two clauses. -/
namespace GL
open PySem PySem.Spec PyProof.Rows L2
abbrev Itr0' := Loc → Sto → R It
def lcGo2 (g : Tg) (t : Te) (it : Itr0') (vs1 : List Nat) (g1 : Tg) (t1 : Te) (e : Ev) (l : Loc) : List G → List G → Sto → R (List G)
  | [], acc, S => .ok acc S
  | x :: xs, acc, S => (match tgSet g x l with
    | none => .bad
    | some l' => rbN (t l' S) fun k S => if k = true then rbN (it l' S) fun i S => (match i with
        | .fix ys => rbN (lcGo g1 t1 e (wipeL l' vs1) ys acc S) fun acc S => lcGo2 g t it vs1 g1 t1 e l xs acc S
        | .dyn _ => .bad)
      else lcGo2 g t it vs1 g1 t1 e l xs acc S)
def eLc2 (it : Itr0') (own : List Nat) (g : Tg) (t : Te) (it1 : Itr0') (vs1 : List Nat) (g1 : Tg) (t1 : Te) (e : Ev) : Ev := fun l S => rb (it l S) fun i S => match i with
  | .fix xs => rb (lcGo2 g t it1 vs1 g1 t1 e (wipeL l own) xs [] S) fun ys S => if ys.length < sizeLine then .ok (.tl ys) S else .bad
  | .dyn _ => .bad
/-- the second source: whatever is hidden -/
def tIh (r : RP) (T : List (Addr × Str)) (f : Itr0') : TI := fun s H Q => ∃ hid, tIF { r with hid := hid } T W0 f s H Q
theorem lcGo_len (g : Tg) (t : Te) (e : Ev) (l : Loc) : ∀ (xs acc : List G) (S S' : Sto) (ys : List G), lcGo g t e l xs acc S = .ok ys S' → acc.length ≤ ys.length
  | [], acc, S, S', ys, h => by cases h; exact Nat.le_refl _
  | x :: xs, acc, S, S', ys, h => by
    unfold lcGo at h
    cases e1 : tgSet g x l with
    | none => rw [e1] at h; cases h
    | some l' =>
      rw [e1] at h
      dsimp only at h
      cases e2 : t l' S with
      | ok k S1 =>
        rw [e2] at h
        simp only [rbN] at h
        cases k with
        | false => exact lcGo_len g t e l xs acc _ _ ys (by simpa using h)
        | true =>
          simp only [if_true] at h
          cases e3 : e l' S1 with
          | ok y S2 =>
            rw [e3] at h
            have := lcGo_len g t e l xs (acc ++ [y]) _ _ ys (by simpa using h)
            simp at this
            omega
          | exc _ _ _ => rw [e3] at h; cases h
          | bad => rw [e3] at h; cases h
      | exc _ _ _ => rw [e2] at h; cases h
      | bad => rw [e2] at h; cases h
theorem lcGo2_len (g : Tg) (t : Te) (it : Itr0') (vs1 : List Nat) (g1 : Tg) (t1 : Te) (e : Ev) (l : Loc) : ∀ (xs acc : List G) (S S' : Sto) (ys : List G), lcGo2 g t it vs1 g1 t1 e l xs acc S = .ok ys S' → acc.length ≤ ys.length
  | [], acc, S, S', ys, h => by cases h; exact Nat.le_refl _
  | x :: xs, acc, S, S', ys, h => by
    unfold lcGo2 at h
    cases e1 : tgSet g x l with
    | none => rw [e1] at h; cases h
    | some l' =>
      rw [e1] at h
      dsimp only at h
      cases e2 : t l' S with
      | ok k S1 =>
        rw [e2] at h
        simp only [rbN] at h
        cases k with
        | false => exact lcGo2_len g t it vs1 g1 t1 e l xs acc _ _ ys (by simpa using h)
        | true =>
          simp only [if_true] at h
          cases e3 : it l' S1 with
          | ok i S2 =>
            rw [e3] at h
            cases i with
            | dyn _ => cases h
            | fix zs =>
              dsimp only at h
              cases e4 : lcGo g1 t1 e (wipeL l' vs1) zs acc S2 with
              | ok a2 S3 =>
                rw [e4] at h
                have h1 := lcGo_len _ _ _ _ _ _ _ _ _ e4
                have h2 := lcGo2_len g t it vs1 g1 t1 e l xs a2 _ _ ys (by simpa using h)
                omega
              | exc _ _ _ => rw [e4] at h; cases h
              | bad => rw [e4] at h; cases h
          | exc _ _ _ => rw [e3] at h; cases h
          | bad => rw [e3] at h; cases h
      | exc _ _ _ => rw [e2] at h; cases h
      | bad => rw [e2] at h; cases h
section
variable {r : RP} {T : List (Addr × Str)} {W : WX} {s : L2.St} {m : List Addr} {H : Hp} {S : Sto} {l : Loc}
/-- what is still to come: its end is no longer than a line -/
theorem acc_short {res : R (List G)} {n : Nat} {Q : VK} (hl : ∀ ys S', res = .ok ys S' → n ≤ ys.length) (q : Pst r T W (RepV r) s m H (rb res fun ys S => if ys.length < sizeLine then .ok (.tl ys) S else .bad) Q) (hne : ∀ c fs S', res ≠ .exc c fs S') : n < sizeLine := by
  cases e : res with
  | ok ys S' =>
    have h1 := hl ys S' e
    rw [e] at q
    simp only [rb] at q
    split at q
    · omega
    · exact False.elim q
  | exc c fs S' => exact absurd e (hne c fs S')
  | bad => rw [e] at q; exact False.elim q
theorem lcGo_noexc (g : Tg) (t : Te) (e : Ev) (l : Loc) : ∀ (xs acc : List G) (S : Sto) (c : Str) (fs : List (Str × G)) (S' : Sto), lcGo g t e l xs acc S ≠ .exc c fs S'
  | [], acc, S, c, fs, S', h => by cases h
  | x :: xs, acc, S, c, fs, S', h => by
    unfold lcGo at h
    cases e1 : tgSet g x l with
    | none => rw [e1] at h; cases h
    | some l' =>
      rw [e1] at h
      dsimp only at h
      cases e2 : t l' S with
      | ok k S1 =>
        rw [e2] at h
        simp only [rbN] at h
        cases k with
        | false => exact lcGo_noexc g t e l xs acc _ c fs S' (by simpa using h)
        | true =>
          simp only [if_true] at h
          cases e3 : e l' S1 with
          | ok y S2 => rw [e3] at h; exact lcGo_noexc g t e l xs _ _ c fs S' (by simpa using h)
          | exc _ _ _ => rw [e3] at h; cases h
          | bad => rw [e3] at h; cases h
      | exc _ _ _ => rw [e2] at h; cases h
      | bad => rw [e2] at h; cases h
theorem lcGo2_noexc (g : Tg) (t : Te) (it : Itr0') (vs1 : List Nat) (g1 : Tg) (t1 : Te) (e : Ev) (l : Loc) : ∀ (xs acc : List G) (S : Sto) (c : Str) (fs : List (Str × G)) (S' : Sto), lcGo2 g t it vs1 g1 t1 e l xs acc S ≠ .exc c fs S'
  | [], acc, S, c, fs, S', h => by cases h
  | x :: xs, acc, S, c, fs, S', h => by
    unfold lcGo2 at h
    cases e1 : tgSet g x l with
    | none => rw [e1] at h; cases h
    | some l' =>
      rw [e1] at h
      dsimp only at h
      cases e2 : t l' S with
      | ok k S1 =>
        rw [e2] at h
        simp only [rbN] at h
        cases k with
        | false => exact lcGo2_noexc g t it vs1 g1 t1 e l xs acc _ c fs S' (by simpa using h)
        | true =>
          simp only [if_true] at h
          cases e3 : it l' S1 with
          | ok i S2 =>
            rw [e3] at h
            cases i with
            | dyn _ => cases h
            | fix zs =>
              dsimp only at h
              cases e4 : lcGo g1 t1 e (wipeL l' vs1) zs acc S2 with
              | ok a2 S3 => rw [e4] at h; exact lcGo2_noexc g t it vs1 g1 t1 e l xs a2 _ c fs S' (by simpa using h)
              | exc _ _ _ => rw [e4] at h; cases h
              | bad => rw [e4] at h; cases h
          | exc _ _ _ => rw [e3] at h; cases h
          | bad => rw [e3] at h; cases h
      | exc _ _ _ => rw [e2] at h; cases h
      | bad => rw [e2] at h; cases h
/-- the new list's own rule: one more element -/
theorem lc2_fix {own vs1 : List Nat} {t t1 : Tg} {tst tst1 : Te} {it1 : Itr0'} {elt : Ev} {J : L2.It} {xs : List G} {Q : VK} (ht : ∀ i ∈ t.is, i ∈ own) (ht1 : ∀ i ∈ t1.is, i ∈ vs1) (hI : ItOk r T m H (.fix xs) J) (hR : Rep r T m S H) (hL : RepL r m H l s)
    (q : Pst r T W (RepV r) s m H (rb (lcGo2 t tst it1 vs1 t1 tst1 elt (wipeL l own) xs [] S) fun ys S => if ys.length < sizeLine then .ok (.tl ys) S else .bad) Q) (Dd : Addr) (hD : H Dd = none) :
    ∃ Wv : Nat → Nat → Hp → Prop, (∃ n, Wv 0 n (upd H Dd (.lst []))) ∧ ∀ i n H, Wv i n H → (J.stop i H ∧ Q (.ref Dd) H) ∨
      (J.go i H ∧ ∃ Nx : Hp → Prop, (∀ H', Nx H' → ∃ n', n' < n ∧ Wv (i + 1) n' H') ∧ ∀ x H', J.yld i H x H' → tgT r.K t x (L2.wipe s own) H' fun s2 H2 => L2.wipe s2 own = L2.wipe s own ∧ tTh r T tst s2 H2 fun b H3 =>
        if b = true then tIh r T it1 s2 H3 fun J1 H4 => ∃ W1 : Nat → Nat → Hp → Prop, (∃ n, W1 0 n H4) ∧ ∀ j k H, W1 j k H → (J1.stop j H ∧ Nx H) ∨
          (J1.go j H ∧ ∃ Nx1 : Hp → Prop, (∀ H', Nx1 H' → ∃ k', k' < k ∧ W1 (j + 1) k' H') ∧ ∀ x H', J1.yld j H x H' → tgT r.K t1 x (L2.wipe s2 vs1) H' fun s3 H5 => L2.wipe s3 vs1 = L2.wipe s2 vs1 ∧ tTh r T tst1 s3 H5 fun b H6 =>
            if b = true then tEh r T elt s3 H6 fun y H7 => ∃ acc, H7 Dd = some (.lst acc) ∧ acc.length < sizeLine ∧ Nx1 (upd H7 Dd (.lst (acc ++ [y]))) else Nx1 H6)
        else Nx H3) := by
  have hm : Dd ∈ (r.hide Dd).hid := by simp [RP.hides]
  refine ⟨fun i n H' => n = xs.length - i ∧ i ≤ xs.length ∧ ∃ m' S' acc accV, Ext m H m' H' ∧ Rep (r.hide Dd) T m' S' H' ∧ RepL (r.hide Dd) m' H' (wipeL l own) (L2.wipe s own) ∧ H' Dd = some (.lst accV) ∧ RepVs (r.hide Dd) m' H' acc accV ∧
    Pst r T W (RepV r) s m H (rb (lcGo2 t tst it1 vs1 t1 tst1 elt (wipeL l own) (xs.drop i) acc S') fun ys S => if ys.length < sizeLine then .ok (.tl ys) S else .bad) Q, ⟨xs.length, by simp, by simp, m, S, [], [], Ext.new hD _, hR.hide hD, (hL.wipe own).hide hD, upd_same, .nil, q⟩, ?_⟩
  rintro i n H' ⟨rfl, hi, m', S', acc, accV, e', hR', hL', hDa, hA, q'⟩
  have hla := hA.length
  cases e : xs[i]? with
  | none =>
    have hl : xs.length ≤ i := List.getElem?_eq_none_iff.mp e
    rw [List.drop_eq_nil_of_le hl] at q'
    simp only [lcGo2, rb] at q'
    split at q'
    · rename_i hz
      refine .inl ⟨hI.stop [Dd] i m' S' H' (one_none hD) e'.toB hR' (by simp [itAt, e]), q' m' H' _ e' hR'.unhide (.tl ⟨(hR'.hid Dd hm).1, fun z => ?_⟩ hDa (by omega) hA.unhide)⟩
      obtain ⟨_, ys, hy⟩ := hR.hid Dd z
      rw [hD] at hy; cases hy
    · exact False.elim q'
  | some x =>
    have hlt : i < xs.length := (List.getElem?_eq_some_iff.mp e).1
    rw [drop_cons e] at q'
    obtain ⟨g1, g2⟩ := hI.go [Dd] i m' S' H' x (one_none hD) e'.toB hR' (by simp [itAt, e])
    refine .inr ⟨g1, fun H5 => ∃ m5 S5 acc accV, Ext m H m5 H5 ∧ Rep (r.hide Dd) T m5 S5 H5 ∧ RepL (r.hide Dd) m5 H5 (wipeL l own) (L2.wipe s own) ∧ H5 Dd = some (.lst accV) ∧ RepVs (r.hide Dd) m5 H5 acc accV ∧
      Pst r T W (RepV r) s m H (rb (lcGo2 t tst it1 vs1 t1 tst1 elt (wipeL l own) (xs.drop (i + 1)) acc S5) fun ys S => if ys.length < sizeLine then .ok (.tl ys) S else .bad) Q, fun H5 h => ⟨_, (by omega : xs.length - (i + 1) < xs.length - i), rfl, hlt, h⟩, fun v H2 hy => ?_⟩
    obtain ⟨ex, hR2, hv⟩ := g2 v H2 hy
    unfold lcGo2 at q'
    cases e2 : tgSet t x (wipeL l own) with
    | none => rw [e2] at q'; exact False.elim q'
    | some l' =>
      rw [e2] at q'
      refine tg_ok (r := r.hide Dd) (hL'.ext ex) hv e2 fun s' hLs hw => ⟨(hw own ht).trans (wipe_wipe s own), (r.hide Dd).hid, ?_⟩
      have q2 : Pst r T W (RepV r) s m H (rbN (tst l' S') fun k S => rb (if k = true then rbN (it1 l' S) fun iv S => (match iv with
        | .fix ys => rbN (lcGo t1 tst1 elt (wipeL l' vs1) ys acc S) fun acc S => lcGo2 t tst it1 vs1 t1 tst1 elt (wipeL l own) (xs.drop (i + 1)) acc S
        | .dyn _ => .bad) else lcGo2 t tst it1 vs1 t1 tst1 elt (wipeL l own) (xs.drop (i + 1)) acc S) fun ys S => if ys.length < sizeLine then .ok (.tl ys) S else .bad) Q := by
        revert q'
        dsimp only
        cases tst l' S' <;> exact id
      refine ⟨m', S', l', hR2, hLs, Pst.mono (stN (r' := r.hide Dd) (relr := fun _ _ (x y : Bool) => x = y) q2) fun b H3 ⟨m3, S3, b', e3, hR3, eb, q3⟩ => ?_⟩
      subst eb
      have hD2 : H2 Dd = some (.lst accV) := ex.keep Dd _ (hR'.hid Dd hm).1 (fun _ z => by cases z) hDa
      have hD3 : H3 Dd = some (.lst accV) := e3.keep Dd _ (hR2.hid Dd hm).1 (fun _ z => by cases z) hD2
      cases b' with
      | false =>
        rw [if_neg Bool.false_ne_true] at q3 ⊢
        exact ⟨m3, S3, acc, accV, (e'.trans ex).trans e3, hR3, (hL'.ext ex).ext e3, hD3, (hA.ext ex).ext e3, q3⟩
      | true =>
        rw [if_pos rfl] at q3 ⊢
        have q4 : Pst r T W (RepV r) s m H (rbN (it1 l' S3) fun iv S => rb (match iv with
          | .fix ys => rbN (lcGo t1 tst1 elt (wipeL l' vs1) ys acc S) fun acc S => lcGo2 t tst it1 vs1 t1 tst1 elt (wipeL l own) (xs.drop (i + 1)) acc S
          | .dyn _ => .bad) fun ys S => if ys.length < sizeLine then .ok (.tl ys) S else .bad) Q := by
          revert q3
          cases it1 l' S3 <;> exact id
        refine ⟨(r.hide Dd).hid, m3, S3, l', hR3, hLs.ext e3, Pst.mono (stN (r' := r.hide Dd) (relr := fun m' H' (i : It) (J : L2.It) => ItOk (r.hide Dd) T m' H' i J) q4) fun J1 H4 ⟨m4, S4, i4, e4, hR4, hI4, q5⟩ => ?_⟩
        have hD4 : H4 Dd = some (.lst accV) := e4.keep Dd _ (hR3.hid Dd hm).1 (fun _ z => by cases z) hD3
        cases i4 with
        | dyn _ => exact False.elim q5
        | fix ys =>
          dsimp only at q5
          have hL4 := (hLs.ext e3).ext e4
          have hLo4 := ((hL'.ext ex).ext e3).ext e4
          have hA4 := ((hA.ext ex).ext e3).ext e4
          have ex4 := ((e'.trans ex).trans e3).trans e4
          have q6 : Pst r T W (RepV r) s m H (rb (rbN (lcGo t1 tst1 elt (wipeL l' vs1) (ys.drop 0) acc S4) fun acc S => lcGo2 t tst it1 vs1 t1 tst1 elt (wipeL l own) (xs.drop (i + 1)) acc S) fun ys S => if ys.length < sizeLine then .ok (.tl ys) S else .bad) Q := q5
          refine ⟨fun j k H7 => k = ys.length - j ∧ j ≤ ys.length ∧ ∃ m7 S7 acc accV, ExtB (r.hide Dd).hid m4 H4 m7 H7 ∧ Ext m H m7 H7 ∧ Rep (r.hide Dd) T m7 S7 H7 ∧ RepL (r.hide Dd) m7 H7 l' s' ∧ RepL (r.hide Dd) m7 H7 (wipeL l own) (L2.wipe s own) ∧ H7 Dd = some (.lst accV) ∧ RepVs (r.hide Dd) m7 H7 acc accV ∧
            Pst r T W (RepV r) s m H (rb (rbN (lcGo t1 tst1 elt (wipeL l' vs1) (ys.drop j) acc S7) fun acc S => lcGo2 t tst it1 vs1 t1 tst1 elt (wipeL l own) (xs.drop (i + 1)) acc S) fun ys S => if ys.length < sizeLine then .ok (.tl ys) S else .bad) Q,
            ⟨ys.length, by simp, by simp, m4, S4, acc, accV, (Ext.refl _ _).toB, ex4, hR4, hL4, hLo4, hD4, hA4, q6⟩, ?_⟩
          rintro j k H7 ⟨rfl, hj, m7, S7, acc7, accV7, eb7, ex7, hR7, hL7, hLo7, hD7, hA7, q7⟩
          have hla7 := hA7.length
          cases ej : ys[j]? with
          | none =>
            have hl : ys.length ≤ j := List.getElem?_eq_none_iff.mp ej
            rw [List.drop_eq_nil_of_le hl] at q7
            exact .inl ⟨hI4.stop [] j m7 S7 H7 (by simp) eb7 hR7 (by simp [itAt, ej]), m7, S7, acc7, accV7, ex7, hR7, hLo7, hD7, hA7, q7⟩
          | some x1 =>
            have hlt1 : j < ys.length := (List.getElem?_eq_some_iff.mp ej).1
            rw [drop_cons ej] at q7
            obtain ⟨k1, k2⟩ := hI4.go [] j m7 S7 H7 x1 (by simp) eb7 hR7 (by simp [itAt, ej])
            refine .inr ⟨k1, fun H8 => ∃ m7 S7 acc accV, ExtB (r.hide Dd).hid m4 H4 m7 H8 ∧ Ext m H m7 H8 ∧ Rep (r.hide Dd) T m7 S7 H8 ∧ RepL (r.hide Dd) m7 H8 l' s' ∧ RepL (r.hide Dd) m7 H8 (wipeL l own) (L2.wipe s own) ∧ H8 Dd = some (.lst accV) ∧ RepVs (r.hide Dd) m7 H8 acc accV ∧
              Pst r T W (RepV r) s m H (rb (rbN (lcGo t1 tst1 elt (wipeL l' vs1) (ys.drop (j + 1)) acc S7) fun acc S => lcGo2 t tst it1 vs1 t1 tst1 elt (wipeL l own) (xs.drop (i + 1)) acc S) fun ys S => if ys.length < sizeLine then .ok (.tl ys) S else .bad) Q, fun H8 h => ⟨_, (by omega : ys.length - (j + 1) < ys.length - j), rfl, hlt1, h⟩, fun v1 H8 hy1 => ?_⟩
            obtain ⟨ex8, hR8, hv8⟩ := k2 v1 H8 hy1
            unfold lcGo at q7
            cases e9 : tgSet t1 x1 (wipeL l' vs1) with
            | none => rw [e9] at q7; exact False.elim q7
            | some l9 =>
              rw [e9] at q7
              refine tg_ok (r := r.hide Dd) ((hL7.wipe vs1).ext ex8) hv8 e9 fun s9 hL9 hw9 => ⟨(hw9 vs1 ht1).trans (wipe_wipe s' vs1), (r.hide Dd).hid, ?_⟩
              have q8 : Pst r T W (RepV r) s m H (rbN (tst1 l9 S7) fun k S => rb (rbN (if k = true then rbN (elt l9 S) fun y S => lcGo t1 tst1 elt (wipeL l' vs1) (ys.drop (j + 1)) (acc7 ++ [y]) S else lcGo t1 tst1 elt (wipeL l' vs1) (ys.drop (j + 1)) acc7 S) fun acc S => lcGo2 t tst it1 vs1 t1 tst1 elt (wipeL l own) (xs.drop (i + 1)) acc S) fun ys S => if ys.length < sizeLine then .ok (.tl ys) S else .bad) Q := by
                revert q7
                dsimp only
                cases tst1 l9 S7 <;> exact id
              refine ⟨m7, S7, l9, hR8, hL9, Pst.mono (stN (r' := r.hide Dd) (relr := fun _ _ (x y : Bool) => x = y) q8) fun b H9 ⟨m9, S9, b9, e99, hR9, eb9, q9⟩ => ?_⟩
              subst eb9
              have hD8 : H8 Dd = some (.lst accV7) := ex8.keep Dd _ (hR7.hid Dd hm).1 (fun _ z => by cases z) hD7
              have hD9 : H9 Dd = some (.lst accV7) := e99.keep Dd _ (hR8.hid Dd hm).1 (fun _ z => by cases z) hD8
              have eA := ex8.trans e99
              cases b9 with
              | false =>
                rw [if_neg Bool.false_ne_true] at q9 ⊢
                exact ⟨m9, S9, acc7, accV7, eb7.transB eA.toB, ex7.trans eA, hR9, hL7.ext eA, hLo7.ext eA, hD9, hA7.ext eA, q9⟩
              | true =>
                rw [if_pos rfl] at q9 ⊢
                have q10 : Pst r T W (RepV r) s m H (rbN (elt l9 S9) fun y S => rb (rbN (lcGo t1 tst1 elt (wipeL l' vs1) (ys.drop (j + 1)) (acc7 ++ [y]) S) fun acc S => lcGo2 t tst it1 vs1 t1 tst1 elt (wipeL l own) (xs.drop (i + 1)) acc S) fun ys S => if ys.length < sizeLine then .ok (.tl ys) S else .bad) Q := by
                  revert q9
                  cases elt l9 S9 <;> exact id
                refine ⟨(r.hide Dd).hid, m9, S9, l9, hR9, hL9.ext e99, Pst.mono (stN (r' := r.hide Dd) (relr := RepV (r.hide Dd)) q10) fun y H10 ⟨m10, S10, g10, e10, hR10, hg10, q11⟩ => ?_⟩
                have hD10 : H10 Dd = some (.lst accV7) := e10.keep Dd _ (hR9.hid Dd hm).1 (fun _ z => by cases z) hD9
                have eB := eA.trans e10
                have short : accV7.length < sizeLine := by
                  have := acc_short (n := acc7.length + 1) (fun zs S' hz => ?_) q11 (fun c fs S' hz => ?_)
                  · omega
                  · cases hq : lcGo t1 tst1 elt (wipeL l' vs1) (ys.drop (j + 1)) (acc7 ++ [g10]) S10 with
                    | ok a2 S2 =>
                      rw [hq] at hz
                      have h1 := lcGo_len _ _ _ _ _ _ _ _ _ hq
                      have h2 := lcGo2_len _ _ _ _ _ _ _ _ _ _ _ _ _ hz
                      simp at h1
                      omega
                    | exc _ _ _ => rw [hq] at hz; cases hz
                    | bad => rw [hq] at hz; cases hz
                  · cases hq : lcGo t1 tst1 elt (wipeL l' vs1) (ys.drop (j + 1)) (acc7 ++ [g10]) S10 with
                    | ok a2 S2 =>
                      rw [hq] at hz
                      exact lcGo2_noexc _ _ _ _ _ _ _ _ _ _ _ _ _ _ hz
                    | exc _ _ _ => rw [hq] at hz; cases hz
                    | bad => rw [hq] at hz; cases hz
                exact ⟨accV7, hD10, short, m10, S10, acc7 ++ [g10], accV7 ++ [y], (eb7.transB eB.toB).behind hm ⟨_, hD4⟩, Ext.behind (u := .lst []) (ex7.trans eB) hD, hR10.behind hm, (hL7.ext eB).behind hm, (hLo7.ext eB).behind hm, upd_same,
                  ((hA7.ext eB).append (.cons hg10 .nil)).behind hm, q11⟩
variable {X : Cx} {own : List (Str × Nat)} {vs1 : List Nat} {t t1 : Tg} {tst tst1 : Te} {it it1 : Itr0'} {ee : Ev} {elt tg iter tg1 iter1 : Expr} {ifs ifs1 : List Expr} {scope : Scope} {pos : Pos}
theorem PI_any {X : Cx} {tg e : Expr} {f : Itr0'} (h : ∀ hid, PI X tg e (tIF { r with hid := hid } T W0 f)) : PI X tg e (tIh r T f) := ⟨fun pins s l H R I ⟨hid, w⟩ => (h hid).run pins s l H R I w⟩
theorem g_lc2 (hK : X.K = r.K) (hc : X.calm = true) (hN : X.N.Nodup) (hi : PI X tg iter (tIF r T W it)) (ok : BlkOk X.N X.env.scope scope own) (hv : ∀ i ∈ vs1, i ∈ own.map (·.2)) (ht : ∀ i ∈ t.is, i ∈ own.map (·.2)) (ht1 : ∀ i ∈ t1.is, i ∈ vs1)
    (hg : ∀ (s : Shared) (H : Hp) (C : Addr) (cl : List (Str × Addr)) (fp : List Addr), PG (X.blk s H scope (compEnvC scope cl C X.env) fp) tg (tgT X.K t)) (htt : ∀ (s : Shared) (H : Hp) (C : Addr) (cl : List (Str × Addr)) (fp : List Addr), PTs (X.blk s H scope (compEnvC scope cl C X.env) fp) ifs (tTh r T tst))
    (hi1 : ∀ (s : Shared) (H : Hp) (C : Addr) (cl : List (Str × Addr)) (fp : List Addr), PI (X.blk s H scope (compEnvC scope cl C X.env) fp) tg1 iter1 (tIh r T it1))
    (hg1 : ∀ (s : Shared) (H : Hp) (C : Addr) (cl : List (Str × Addr)) (fp : List Addr), PG (X.blk s H scope (compEnvC scope cl C X.env) fp) tg1 (tgT X.K t1)) (htt1 : ∀ (s : Shared) (H : Hp) (C : Addr) (cl : List (Str × Addr)) (fp : List Addr), PTs (X.blk s H scope (compEnvC scope cl C X.env) fp) ifs1 (tTh r T tst1))
    (he : ∀ (s : Shared) (H : Hp) (C : Addr) (cl : List (Str × Addr)) (fp : List Addr), PE (X.blk s H scope (compEnvC scope cl C X.env) fp) elt (tEh r T ee)) (hs : ∀ x, foldedSetIterable iter X.env x = pure x) (hs1 : ∀ env x, foldedSetIterable iter1 env x = pure x) :
    PE X (.ListComp elt [⟨tg, iter, ifs, 0⟩, ⟨tg1, iter1, ifs1, 0⟩] scope pos) (tF r T W (eLc2 it (own.map (·.2)) t tst it1 vs1 t1 tst1 ee)) :=
  PE_imp (pe_lc2 hc hN hi ok hv hg htt hi1 hg1 htt1 he hs hs1) fun s H Q h => by
    rw [hK]
    obtain ⟨m, S, l, hR, hL, q⟩ := h
    refine ⟨m, S, l, hR, hL, ?_⟩
    unfold eLc2 at q
    cases e : it l S with
    | bad => rw [e] at q; exact q
    | exc c fs S1 => rw [e] at q; exact q
    | ok i S1 =>
      rw [e] at q
      refine fun m2 H2 J e2 a hI => ?_
      cases i with
      | fix xs => exact lc2_fix ht ht1 hI a (hL.ext e2) (Pst.ext e2 q)
      | dyn n => exact False.elim q
end
end GL

end

section
set_option Elab.async false
set_option linter.all false
set_option maxRecDepth 100000
set_option maxHeartbeats 4000000
/-! GL: what the head tells, as the rules want it; small things that printed proofs use. -/
namespace GL
open PySem PySem.Spec PyProof.Rows L2 LamX

/-! ### Bools of the written part -/
def clsB (K : PySem.W.Frag) (x : Str) : Bool :=
  (He.Fa.cls x).ok K && (He.eqO (PySem.W.findIn K (.ref (He.ga K x)) "__class__") (some (some (.builtin "object.__class__"))) && (He.eqO (PySem.W.specialIn K (.builtin "object.__class__") "__get__") (some (some (.builtin "getset_descriptor.__get__"))) &&
    (decide (PySem.W.takesIn K (.builtin "object.__class__") = some true) && (decide (PySem.W.mroIn K (He.ga K x) (.type "object") = some true) &&
      tyNames.all fun n => decide (PySem.W.kitOne K (.type n) (.ref (He.ga K x)) = some false) && decide (PySem.W.kitOne K (.ref (He.ga K x)) (.type n) = some false)))))
def subB (K : PySem.W.Frag) (t : Tab) : Bool := t.cls.all fun c => t.cls.all fun d => decide (PySem.W.kitOne K (.ref (He.ga K c)) (.ref (He.ga K d)) = some (c == d || t.sub.contains (c, d)))
def tabB (K : PySem.W.Frag) (t : Tab) : Bool := (t.cls.all fun c => clsB K c) && subB K t
def fldB (K : PySem.W.Frag) (t : FTab) : Bool := t.all fun p => (He.Fa.cls p.1).ok K && He.eqO (PySem.W.findIn K (.ref (He.ga K p.1)) p.2) (some none)
def eqclB (K : PySem.W.Frag) (x : Str) : Bool := He.eqO (PySem.W.findIn K (.ref (He.ga K x)) "__eq__") (some (some (.ref (He.ma K (He.ga K x) "__eq__")))) && (PySem.W.isFn K (.ref (He.ma K (He.ga K x) "__eq__")) &&
  (PySem.W.notFirst K (He.ga K x) (.type "tuple") && PySem.W.notFirst K (He.ga K x) (.ref (He.ga K x))))
section
variable {K : PySem.W.Frag} {mg : Str → Option Value} {r : RP}
theorem clsB_ok {x : Str} (h : clsB K x = true) : ClsI K (He.ga K x) ∧ (∀ n ∈ tyNames, PySem.W.kitOne K (.type n) (.ref (He.ga K x)) = some false) ∧ ∀ n ∈ tyNames, PySem.W.kitOne K (.ref (He.ga K x)) (.type n) = some false := by
  obtain ⟨h1, h⟩ := He.ba h
  obtain ⟨h2, h⟩ := He.ba h
  obtain ⟨h3, h⟩ := He.ba h
  obtain ⟨h4, h⟩ := He.ba h
  obtain ⟨h5, h⟩ := He.ba h
  refine ⟨⟨He.cls_ok h1, He.eqO_ok h2, He.eqO_ok h3, of_decide_eq_true h4, of_decide_eq_true h5⟩, fun n hn => ?_, fun n hn => ?_⟩
  · exact of_decide_eq_true (He.ba (List.all_eq_true.mp h n hn)).1
  · exact of_decide_eq_true (He.ba (List.all_eq_true.mp h n hn)).2
theorem tabB_ok {t : Tab} (h : tabB K t = true) (hK : r.K = K) (hg : ∀ c ∈ t.cls, r.mg c = some (.ref (He.ga K c))) : TabOk r t := by
  subst hK
  obtain ⟨h1, h2⟩ := He.ba h
  refine ⟨fun c hc => ?_, fun c hc d hd C D e1 e2 => ?_⟩
  · obtain ⟨a, b, d⟩ := clsB_ok (List.all_eq_true.mp h1 c hc)
    exact ⟨_, hg c hc, a, b, d⟩
  · rw [hg c hc] at e1
    rw [hg d hd] at e2
    cases e1
    cases e2
    exact of_decide_eq_true (List.all_eq_true.mp (List.all_eq_true.mp h2 c hc) d hd)
theorem fldB_ok {t : FTab} (h : fldB K t = true) (hK : r.K = K) (hg : ∀ p ∈ t, r.mg p.1 = some (.ref (He.ga K p.1))) : FldOk r t := by
  subst hK
  intro c f hm
  obtain ⟨h1, h2⟩ := He.ba (List.all_eq_true.mp h (c, f) hm)
  exact ⟨_, hg (c, f) hm, He.cls_ok h1, He.eqO_ok h2⟩
theorem eqclB_ok {x : Str} (h : eqclB K x = true) : EqCls K (He.ga K x) (He.ma K (He.ga K x) "__eq__") := by
  obtain ⟨h1, h⟩ := He.ba h
  obtain ⟨h2, h⟩ := He.ba h
  obtain ⟨h3, h4⟩ := He.ba h
  exact ⟨He.eqO_ok h1, h2, h3, h4⟩
end
/-! ### small things -/
section
variable {r : RP} {T : List (Addr × Str)} {W : WX} {X : Cx} {st : Stmt} {e : Expr} {hid : List Addr}
theorem g_bad : PS X st (tSF r T W sBad) := ⟨fun pins s l H D I ⟨m, S, l', a, b, q⟩ => False.elim q⟩
theorem g_badE : PE X e (tF r T W eBad) := ⟨fun pins s l H D I ⟨m, S, l', a, b, q⟩ => False.elim q⟩
theorem Ctx.blk (c : Ctx r T W X) {s : Shared} {H : Hp} {scope : Scope} {env : Env} {fp : List Addr} : Ctx { r with hid := hid } T W0 (X.blk s H scope env fp) :=
  ⟨c.K, c.mg, c.calm, c.hd, c.un, c.gu, takes_none5⟩
theorem Md.of_blk {M : Md} (h : M.of X) {s : Shared} {H : Hp} {scope : Scope} {env : Env} {fp : List Addr} : M.of (X.blk s H scope env fp) := h
theorem g_one' {fa : Ev} {op : BoolOp} {pos : Pos} (h : PE X e (tF r T W fa)) : PE X (.BoolOp op [e] pos) (tF r T W fa) := pe_one h
theorem g_tand1 {ta : Te} {pos : Pos} (h : PT X e (tFT r T W ta)) : PW X (.BoolOp .And [e] pos) (tFT r T W ta) := pw_and1 h
theorem g_tor1 {ta : Te} {pos : Pos} (h : PT X e (tFT r T W ta)) : PW X (.BoolOp .Or [e] pos) (tFT r T W ta) := pw_or1 h
end
/-! ### targets -/
section
variable {K : PySem.W.Frag} {X : Cx} {i : Nat} {x : Str} {pos : Pos} {es : List Expr} {e : Expr} {is : List Nat} {k : Nat}
theorem g_tn (hN : X.N.Nodup) (hi : X.N[i]? = some x) (hx : L2.Loc X.env.scope x) (hf : X.fn x = true ∨ X.env.scope.names.lookup x = some .local) : PG X (.Name x pos) (tgT K (.nm i)) := pg_name hN hi hx hf
theorem g_tnm0 (hN : X.N.Nodup) (hi : X.N[i]? = some x) (hx : L2.Loc X.env.scope x) (hf : X.fn x = true ∨ X.env.scope.names.lookup x = some .local) : PG X (.Name x pos) (gName i) := pg_name hN hi hx hf
theorem g_tgnil : PGs X [] (gNames []) := pgs_nil
theorem g_tgcons (h1 : PG X e (gName i)) (h2 : PGs X es (gNames is)) (hs : (assignEach (e :: es) X.env).map (·.2) = assign e X.env :: (assignEach es X.env).map (·.2)) : PGs X (e :: es) (gNames (i :: is)) := pgs_cons h1 h2 hs
theorem g_ttp (hc : X.calm = true) (h : PGs X es (gNames is)) (hn : (assignEach es X.env).length = is.length) (hst : (assignEach es X.env).findIdx? (·.1) = none) : PG X (.Tuple es k pos) (tgT X.K (.tp is)) := pg_tup hc h hn hst
end
/-! ### parts of the text -/
def topS (p : Program) (i : Nat) : Stmt := p.main.body.getD i (.Pass ⟨0, 0, 0, 0⟩)
def txS (l : List Stmt) (i : Nat) : Stmt := l.getD i (.Pass ⟨0, 0, 0, 0⟩)
def txE (l : List Expr) (i : Nat) : Expr := l.getD i (.Constant .none 0 ⟨0, 0, 0, 0⟩)
/-- the parts of an expression -/
def exK : Expr → List Expr
  | .BoolOp _ vs _ => vs
  | .BinOp a _ b _ => [a, b]
  | .UnaryOp _ a _ => [a]
  | .Lambda _ b _ _ => [b]
  | .IfExp a b c _ => [a, b, c]
  | .Compare a _ cs _ => a :: cs
  | .Call f as _ _ => f :: as
  | .Attribute e _ _ => [e]
  | .Subscript a b _ => [a, b]
  | .List es _ => es
  | .Tuple es _ _ => es
  | .ListComp e _ _ _ => [e]
  | _ => []
/-- the expressions of a statement -/
def stK : Stmt → List Expr
  | .Assign _ e _ => [e]
  | .Return (some e) _ => [e]
  | .Expr e _ => [e]
  | .If e _ _ _ => [e]
  | .For _ e _ _ _ => [e]
  | .While e _ _ _ => [e]
  | _ => []
/-- the suites of a statement -/
def stB : Stmt → List Stmt
  | .If _ a b _ => a ++ b
  | .For _ _ a _ _ => a
  | .While _ a _ _ => a
  | .Try a _ _ _ _ => a
  | _ => []
def lamPar : Expr → Arguments
  | .Lambda a _ _ _ => a
  | _ => ⟨[], [], none, [], [], none, []⟩
def lamBod : Expr → Expr
  | .Lambda _ b _ _ => b
  | e => e
def lamSco : Expr → Scope
  | .Lambda _ _ s _ => s
  | _ => ⟨.function, [], false, false, []⟩
end GL

end

section
set_option Elab.async false
set_option linter.all false
set_option maxRecDepth 100000
set_option maxHeartbeats 4000000
/-! GL: list(range(..)). -/
namespace GL
open PySem PySem.Spec PyProof.Rows L2
section
variable {r : RP} {T : List (Addr × Str)} {X : Cx} {m : List Addr} {H : Hp} {S : Sto} {W : WX} {a b c : Expr} {fa fb fc : Ev} {pos p p2 p3 : Pos}
noncomputable def eLstR1 (f : Ev) : Ev := fun l S => rb (f l S) fun g S => match g with
  | .int j => if j ≤ big ∧ -big ≤ j then .ok (.tl (intsFrom 0 j.toNat)) S else .bad
  | _ => .bad
noncomputable def eLstR2 (f g : Ev) : Ev := fun l S => rb (f l S) fun x S => rb (g l S) fun y S => match x, y with
  | .int i, .int j => if j ≤ big ∧ -big ≤ i ∧ i ≤ big ∧ -big ≤ j then .ok (.tl (intsFrom i (j - i).toNat)) S else .bad
  | _, _ => .bad
theorem repvs_ints : ∀ (l : List Int), RepVs r m H (l.map G.int) (l.map V.int)
  | [] => .nil
  | x :: l => .cons (.int _) (repvs_ints l)
theorem ints_rg (i j : Int) : RepVs r m H (intsFrom i (j - i).toNat) (rgV i j) := by
  have e := repvs_ints (r := r) (m := m) (H := H) ((List.range (j - i).toNat).map fun k => i + (k : Nat))
  rw [List.map_map, List.map_map] at e
  exact e
theorem g_listR1 (hK : X.K = r.K) (hc : X.calm = true) (hg : Gl X "list") (hm : X.mg "list" = none) (hg2 : Gl X "range") (hm2 : X.mg "range" = none) (ha : PE X a (tF r T W fa))
    (na : starEach [.Call (.Name "range" p2) [a] [] p3] X.env = (false, eval (.Call (.Name "range" p2) [a] [] p3) X.env) :: starEach [] X.env) (nb : starEach [a] X.env = (false, eval a X.env) :: starEach [] X.env) :
    PE X (.Call (.Name "list" p) [.Call (.Name "range" p2) [a] [] p3] [] pos) (tF r T W (eLstR1 fa)) :=
  PE_imp (pe_listRg hc hg hm (prg_1 hg2 hm2 ha nb) na) fun s H Q ⟨m, S, l, hR, hL, q⟩ => mono_tF (stE hR hL q) fun x H1 ⟨m1, S1, g, e, hR1, hL1, h1, q1⟩ => by
    cases g with
    | int j =>
      cases h1
      have hbig := big_eq
      dsimp only at q1
      split at q1
      · rename_i hb
        refine ⟨_, rfl, ⟨by omega, by omega, by omega, by omega, by omega⟩, fun p hp => ?_⟩
        have rv := ints_rg (r := r) (m := m1) (H := H1) 0 j
        rw [show j - 0 = j by omega] at rv
        exact q1 m1 _ _ (Ext.new hp _) (hR1.fresh hp _) (hR1.newTl hp (by rw [rgV_length, sizeLine_eq]; omega) rv)
      · exact False.elim q1
    | _ => exact False.elim q1
theorem g_listR2 (hK : X.K = r.K) (hc : X.calm = true) (hg : Gl X "list") (hm : X.mg "list" = none) (hg2 : Gl X "range") (hm2 : X.mg "range" = none) (ha : PE X a (tF r T W fa)) (hb : PE X b (tF r T W fb))
    (na : starEach [.Call (.Name "range" p2) [a, b] [] p3] X.env = (false, eval (.Call (.Name "range" p2) [a, b] [] p3) X.env) :: starEach [] X.env) (nb : starEach [a, b] X.env = (false, eval a X.env) :: starEach [b] X.env) (nc : starEach [b] X.env = (false, eval b X.env) :: starEach [] X.env) (hp : (backTo p3 (starEach [b] X.env)).any (·.1) = false) :
    PE X (.Call (.Name "list" p) [.Call (.Name "range" p2) [a, b] [] p3] [] pos) (tF r T W (eLstR2 fa fb)) :=
  PE_imp (pe_listRg hc hg hm (prg_2 hg2 hm2 ha hb nb nc hp) na) fun s H Q ⟨m, S, l, hR, hL, q⟩ => mono_tF (stE hR hL q) fun x H1 ⟨m1, S1, g, e, hR1, hL1, h1, q1⟩ => mono_tF (stE hR1 hL1 q1) fun y H2 ⟨m2, S2, g2, e2, hR2, hL2, h2, q2⟩ => by
    cases g with
    | int i =>
      cases g2 with
      | int j =>
        cases h1; cases h2
        have hbig := big_eq
        dsimp only at q2
        split at q2
        · rename_i hb
          refine ⟨_, _, rfl, rfl, ⟨by omega, by omega, by omega, by omega, by omega⟩, fun p hp => ?_⟩
          exact q2 m2 _ _ (Ext.new hp _) (hR2.fresh hp _) (hR2.newTl hp (by rw [rgV_length, sizeLine_eq]; omega) (ints_rg i j))
        · exact False.elim q2
      | _ => exact False.elim q2
    | _ => exact False.elim q2
end
end GL

end

section
set_option Elab.async false
set_option linter.all false
set_option maxRecDepth 100000
set_option maxHeartbeats 4000000
/-! GL: every def of the table, by its row in a list. -/
namespace GL
open PySem PySem.Spec PyProof.Rows L2
section
variable {M : Md} {lam : Nat → Option LamD} {n : Nat}
theorem GFn.zero {k np : Nat} {f : Addr} {fd : FuncData} {ps : List Str} (h : ps.length = np) : GFn M k f fd ps (spG M np fun _ _ => .bad) :=
  ⟨fun vs H Q E hs => hs.1.trans h.symm, fun A outer s H args us vs Q E _ _ _ _ _ hs => by
    obtain ⟨_, r, m, S, gs, _, _, _, q⟩ := hs
    exact False.elim q⟩
theorem CalL.zero {k ln np : Nat} : CalL M lam k ln np fun _ _ => .bad := ⟨fun f c' o q A outer s H us vs Q E _ _ _ _ _ _ _ hs => by
    obtain ⟨_, r, m, S, gs, _, _, _, q⟩ := hs
    exact False.elim q⟩
def OkAt (M : Md) (lam : Nat → Option LamD) (k : Nat) (x : FK) (np : Nat) (cl : List G → Sto → R G) : Prop :=
  (∀ y, x = .fn y → CalF M k y np cl) ∧
  (∀ c m, x = .me c m → (m == "__init__") = false → (m == "__eq__") = false → CalM M k c m np cl) ∧
  (∀ c, x = .me c "__init__" → CalC M k c np cl) ∧
  (∀ c, x = .me c "__eq__" → CalE M k c cl) ∧
  (∀ ln, x = .la ln 0 → CalL M lam k ln np cl)
variable {k np : Nat} {cl : List G → Sto → R G}
theorem OkAt.fn {y : Str} (h : CalF M k y np cl) : OkAt M lam k (.fn y) np cl := ⟨fun _ e => (by cases e; exact h), fun _ _ e => (by cases e), fun _ e => (by cases e), fun _ e => (by cases e), fun _ e => (by cases e)⟩
theorem OkAt.me {c m : Str} (h1 : (m == "__init__") = false) (h2 : (m == "__eq__") = false) (h : CalM M k c m np cl) : OkAt M lam k (.me c m) np cl :=
  ⟨fun _ e => (by cases e), fun _ _ e _ _ => (by cases e; exact h), fun _ e => (by injection e with _ e2; rw [e2] at h1; exact absurd h1 (by decide)), fun _ e => (by injection e with _ e2; rw [e2] at h2; exact absurd h2 (by decide)), fun _ e => (by cases e)⟩
theorem OkAt.ini {c : Str} (h : CalC M k c np cl) : OkAt M lam k (.me c "__init__") np cl :=
  ⟨fun _ e => (by cases e), fun _ m e h1 _ => (by injection e with _ e2; rw [← e2] at h1; exact absurd h1 (by decide)), fun _ e => (by injection e with e1 _; subst e1; exact h), fun _ e => (by injection e with _ e2; exact absurd e2 (by decide)), fun _ e => (by cases e)⟩
theorem OkAt.eq {c : Str} (h : CalE M k c cl) : OkAt M lam k (.me c "__eq__") np cl :=
  ⟨fun _ e => (by cases e), fun _ m e _ h1 => (by injection e with _ e2; rw [← e2] at h1; exact absurd h1 (by decide)), fun _ e => (by injection e with _ e2; exact absurd e2 (by decide)), fun _ e => (by injection e with e1 _; subst e1; exact h), fun _ e => (by cases e)⟩
theorem OkAt.la {ln : Nat} (h : CalL M lam k ln np cl) : OkAt M lam k (.la ln 0) np cl :=
  ⟨fun _ e => (by cases e), fun _ _ e => (by cases e), fun _ e => (by cases e), fun _ e => (by cases e), fun _ e => (by cases e; exact h)⟩
theorem tab_mem {l : List (FK × FnD)} {x : FK} {d : FnD} (h : l.lookup x = some d) : (x, d) ∈ l := by
  induction l with
  | nil => cases h
  | cons p l ih =>
    obtain ⟨y, e⟩ := p
    rw [List.lookup_cons] at h
    cases q : (x == y) with
    | true =>
      rw [q] at h
      cases h
      rw [beq_iff_eq.mp q]
      exact List.mem_cons_self
    | false =>
      rw [q] at h
      exact List.mem_cons_of_mem _ (ih h)
theorem all_nil {P : FK × FnD → Prop} : ∀ p ∈ ([] : List (FK × FnD)), P p := fun _ h => by cases h
theorem all_cons {P : FK × FnD → Prop} {p : FK × FnD} {l : List (FK × FnD)} (h : P p) (hl : ∀ p ∈ l, P p) : ∀ q ∈ p :: l, P q := fun q hq => by
  rcases List.mem_cons.mp hq with rfl | h2
  · exact h
  · exact hl _ h2
theorem allOk_of {tab : FK → Option FnD} {l : List (FK × FnD)} (ht : ∀ x, tab x = l.lookup x) (h : ∀ p ∈ l, OkAt M lam (2 * n) p.1 p.2.np (callN tab n p.1)) : AllOk M tab lam n :=
  ⟨fun x d e => (h _ (tab_mem ((ht _).symm.trans e))).1 _ rfl, fun c m d e h1 h2 => (h _ (tab_mem ((ht _).symm.trans e))).2.1 _ _ rfl h1 h2, fun c d e => (h _ (tab_mem ((ht _).symm.trans e))).2.2.1 _ rfl,
    fun c d e => (h _ (tab_mem ((ht _).symm.trans e))).2.2.2.1 _ rfl, fun ln d e => (h _ (tab_mem ((ht _).symm.trans e))).2.2.2.2 _ rfl⟩
end
end GL

end

section
set_option Elab.async false
set_option linter.all false
set_option maxRecDepth 100000
set_option maxHeartbeats 4000000
/-! GL, plain: what a run must give (wp), loops. -/
namespace GL
open PySem
def R.wp {a : Type} (Q : a → Sto → Prop) : R a → Prop
  | .ok x S => Q x S
  | _ => False
def SR.wp (N : Loc → Sto → Prop) (T : G → Sto → Prop) (B : Loc → Sto → Prop) : SR → Prop
  | .nx l S => N l S
  | .rt g S => T g S
  | .bk l S => B l S
  | _ => False
section
variable {a b : Type} {N N' : Loc → Sto → Prop} {T T' : G → Sto → Prop} {B B' : Loc → Sto → Prop} {l : Loc} {S : Sto}
theorem R.wp_iff {Q : a → Sto → Prop} {r : R a} : r.wp Q ↔ ∃ x S, r = .ok x S ∧ Q x S := by
  cases r with
  | ok x S => exact ⟨fun h => ⟨x, S, rfl, h⟩, fun ⟨_, _, e, h⟩ => by cases e; exact h⟩
  | exc _ _ _ => exact ⟨False.elim, fun ⟨_, _, e, _⟩ => by cases e⟩
  | bad => exact ⟨False.elim, fun ⟨_, _, e, _⟩ => by cases e⟩
theorem R.wp_mono {Q Q' : a → Sto → Prop} {r : R a} (h : r.wp Q) (i : ∀ x S, Q x S → Q' x S) : r.wp Q' := by
  cases r with
  | ok x S => exact i _ _ h
  | exc _ _ _ => exact h
  | bad => exact h
theorem SR.wp_mono {r : SR} (h : r.wp N T B) (n : ∀ l S, N l S → N' l S) (t : ∀ g S, T g S → T' g S) (k : ∀ l S, B l S → B' l S) : r.wp N' T' B' := by
  cases r with
  | nx l S => exact n _ _ h
  | rt g S => exact t _ _ h
  | bk l S => exact k _ _ h
  | ct l S => exact h
  | exc _ _ _ _ => exact h
  | bad => exact h
theorem wp_rb {r : R a} {k : a → Sto → R b} {Q : b → Sto → Prop} (h : r.wp fun x S => (k x S).wp Q) : (rb r k).wp Q := by
  cases r with
  | ok x S => exact h
  | exc _ _ _ => exact h
  | bad => exact h
theorem wp_sr {r : R a} {k : a → Sto → SR} (h : r.wp fun x S => (k x S).wp N T B) : (sr l r k).wp N T B := by
  cases r with
  | ok x S => exact h
  | exc _ _ _ => exact h
  | bad => exact h
theorem wp_seq {p q : StM} (h : (p l S).wp (fun l S => (q l S).wp N T B) T B) : (sSeq p q l S).wp N T B := by
  unfold sSeq
  cases e : p l S <;> rw [e] at h <;> first | exact h | exact h.elim
theorem wp_body {r : SR} {Q : G → Sto → Prop} (h : r.wp (fun _ S => Q .non S) Q (fun _ _ => False)) : (bodyR r).wp Q := by
  cases r with
  | nx l S => exact h
  | rt g S => exact h
  | bk l S => exact h
  | ct l S => exact h
  | exc _ _ _ _ => exact h
  | bad => exact h
theorem wp_turn {g : Tg} {body k : StM} {x : G} {l0 : Loc} (e : tgSet g x l = some l0) (h : (body l0 S).wp (fun l S => (k l S).wp N T B) T N) : (fTurn g body x k l S).wp N T B := by
  unfold fTurn
  rw [e]
  dsimp only
  cases q : body l0 S <;> rw [q] at h <;> first | exact h | exact h.elim
/-- a loop over items: I k holds before turn k -/
theorem wp_fGo {g : Tg} {body : StM} {I : Nat → Loc → Sto → Prop} : ∀ (xs : List G) (j : Nat) (l : Loc) (S : Sto),
    (∀ k x l S, xs[k]? = some x → I (j + k) l S → ∃ l0, tgSet g x l = some l0 ∧ (body l0 S).wp (I (j + k + 1)) T N) → I j l S → (∀ l S, I (j + xs.length) l S → N l S) → (fGo g body xs l S).wp N T B
  | [], j, l, S, _, h0, he => he l S h0
  | x :: xs, j, l, S, st, h0, he => by
    obtain ⟨l0, e, h⟩ := st 0 x l S rfl h0
    refine wp_turn e (SR.wp_mono h (fun l S hi => wp_fGo xs (j + 1) l S (fun k x l S q hi => ?_) hi fun l S hi => he l S ?_) (fun _ _ h => h) fun _ _ h => h)
    · have := st (k + 1) x l S q (by rw [show j + (k + 1) = j + 1 + k by omega]; exact hi)
      rwa [show j + (k + 1) = j + 1 + k by omega] at this
    · rw [List.length_cons, show j + (xs.length + 1) = j + 1 + xs.length by omega]; exact hi
theorem wp_for {it : Loc → Sto → R It} {g : Tg} {body : StM} {xs : List G} (h : it l S = .ok (.fix xs) S) (I : Nat → Loc → Sto → Prop)
    (st : ∀ k x l S, xs[k]? = some x → I k l S → ∃ l0, tgSet g x l = some l0 ∧ (body l0 S).wp (I (k + 1)) T N) (h0 : I 0 l S) (he : ∀ l S, I xs.length l S → N l S) : (sFor it g body l S).wp N T B := by
  unfold sFor
  rw [h]
  refine wp_fGo (I := I) xs 0 l S (fun k x l S q hi => ?_) h0 fun l S hi => he l S ?_
  · rw [Nat.zero_add] at hi ⊢
    exact st k x l S q hi
  · rw [Nat.zero_add] at hi
    exact hi
/-- a loop over a list of the store that does not change -/
theorem wp_fDyn {g : Tg} {body : StM} {xs : List G} {n : Nat} {I : Nat → Loc → Sto → Prop} (hS : ∀ k l S, I k l S → lstAt S n = some xs)
    (st : ∀ k x l S, xs[k]? = some x → I k l S → ∃ l0, tgSet g x l = some l0 ∧ (body l0 S).wp (I (k + 1)) T N) (he : ∀ l S, I xs.length l S → N l S) :
    ∀ (d k : Nat) (m : Nat) (l : Loc) (S : Sto), xs.length = k + d → d < m → I k l S → (fDyn g body n m k l S).wp N T B
  | 0, k, m + 1, l, S, hl, hm, hi => by
    unfold fDyn
    rw [hS _ _ _ hi]
    dsimp only
    rw [List.getElem?_eq_none (by omega)]
    exact he l S (by rw [hl]; exact hi)
  | d + 1, k, m + 1, l, S, hl, hm, hi => by
    unfold fDyn
    rw [hS _ _ _ hi]
    dsimp only
    have hk : k < xs.length := by omega
    rw [List.getElem?_eq_getElem hk]
    dsimp only
    obtain ⟨l0, e, h⟩ := st k _ l S (List.getElem?_eq_getElem hk) hi
    exact wp_turn e (SR.wp_mono h (fun l S hi => wp_fDyn hS st he d (k + 1) m l S (by omega) (by omega) hi) (fun _ _ h => h) fun _ _ h => h)
  | _, _, 0, _, _, _, hm, _ => by omega
/-- a comprehension that changes nothing -/
theorem lcGo_pure {g : Tg} {t : Te} {e : Ev} {p : G → Bool} {f : G → G} : ∀ (xs acc : List G),
    (∀ x ∈ xs, ∃ l', tgSet g x l = some l' ∧ t l' S = .ok (p x) S ∧ (p x = true → e l' S = .ok (f x) S)) → lcGo g t e l xs acc S = .ok (acc ++ (xs.filter p).map f) S
  | [], acc, _ => by unfold lcGo; simp
  | x :: xs, acc, h => by
    obtain ⟨l', e1, e2, e3⟩ := h x List.mem_cons_self
    have ih := fun acc => lcGo_pure xs acc fun y hy => h y (List.mem_cons_of_mem _ hy)
    unfold lcGo
    rw [e1]
    dsimp only
    rw [e2]
    unfold rbN
    dsimp only
    cases c : p x with
    | true =>
      rw [if_pos rfl, e3 c]
      dsimp only
      rw [ih, List.filter_cons_of_pos c, List.map_cons, List.append_assoc]
      rfl
    | false =>
      rw [if_neg (by decide), ih, List.filter_cons_of_neg (by rw [c]; decide)]
theorem lcGo_wp {g : Tg} {t : Te} {e : Ev} {I : Nat → List G → Sto → Prop} {Q : List G → Sto → Prop} : ∀ (xs : List G) (j : Nat) (acc : List G) (S : Sto),
    (∀ k x acc S, xs[k]? = some x → I (j + k) acc S → ∃ l', tgSet g x l = some l' ∧ (t l' S).wp fun b S => if b = true then (e l' S).wp fun y S => I (j + k + 1) (acc ++ [y]) S else I (j + k + 1) acc S) → I j acc S →
    (∀ acc S, I (j + xs.length) acc S → Q acc S) → (lcGo g t e l xs acc S).wp Q
  | [], j, acc, S, _, h0, he => by unfold lcGo; exact he acc S h0
  | x :: xs, j, acc, S, st, h0, he => by
    obtain ⟨l', e1, h⟩ := st 0 x acc S rfl h0
    have ih := fun acc S hi => lcGo_wp (Q := Q) xs (j + 1) acc S (fun k x acc S q hi => by
      have := st (k + 1) x acc S q (by rw [show j + (k + 1) = j + 1 + k by omega]; exact hi)
      rwa [show j + (k + 1) = j + 1 + k by omega] at this) hi (fun acc S hi => he acc S (by rw [List.length_cons, show j + (xs.length + 1) = j + 1 + xs.length by omega]; exact hi))
    unfold lcGo
    rw [e1]
    dsimp only
    cases q : t l' S with
    | ok b S1 =>
      rw [q] at h
      replace h : (if b = true then (e l' S1).wp fun y S => I (j + 0 + 1) (acc ++ [y]) S else I (j + 0 + 1) acc S1) := h
      unfold rbN
      dsimp only
      cases b with
      | true =>
        rw [if_pos rfl] at h ⊢
        cases q2 : e l' S1 with
        | ok y S2 => rw [q2] at h; exact ih _ _ h
        | exc _ _ _ => rw [q2] at h; exact h.elim
        | bad => rw [q2] at h; exact h.elim
      | false => exact ih _ _ h
    | exc _ _ _ => rw [q] at h; exact h.elim
    | bad => rw [q] at h; exact h.elim
end
/-! ### places of the store -/
theorem get_mid {S0 Z : Sto} {x : GO} : (S0 ++ x :: Z)[S0.length]? = some x := by
  rw [List.getElem?_append_right (Nat.le_refl _), Nat.sub_self]; rfl
theorem set_mid {S0 Z : Sto} {x y : GO} : (S0 ++ x :: Z).set S0.length y = S0 ++ y :: Z := by
  rw [List.set_append_right _ _ (Nat.le_refl _), Nat.sub_self]; rfl
theorem get_grow {S Z : Sto} {n : Nat} {x : GO} (h : S[n]? = some x) : (S ++ Z)[n]? = some x := by
  have := (List.getElem?_eq_some_iff.mp h).1
  rw [List.getElem?_append_left this]; exact h
def Grow (S S' : Sto) : Prop := ∃ Z, S' = S ++ Z
theorem Grow.refl (S : Sto) : Grow S S := ⟨[], by simp⟩
theorem Grow.trans {S S1 S2 : Sto} (h : Grow S S1) (k : Grow S1 S2) : Grow S S2 := by
  obtain ⟨Z, rfl⟩ := h
  obtain ⟨Y, rfl⟩ := k
  exact ⟨Z ++ Y, by simp⟩
theorem Grow.push (S Z : Sto) : Grow S (S ++ Z) := ⟨Z, rfl⟩
theorem Grow.get {S S' : Sto} {n : Nat} {x : GO} (h : Grow S S') (e : S[n]? = some x) : S'[n]? = some x := by
  obtain ⟨Z, rfl⟩ := h
  exact get_grow e
/-! ### lists of ints -/
def nG (n : Nat) : G := .int n
def oG : Option Int → G
  | none => .non
  | some i => .int i
def iG (i : Int) : G := .int i
theorem intsG_map (l : List Int) : intsG (l.map iG) = some l := by
  induction l with
  | nil => rfl
  | cons x l ih => show (intsG (l.map iG)).map (fun l => x :: l) = _; rw [ih]; rfl
theorem blsG_map (l : List Bool) : blsG (l.map G.bl) = some l := by
  induction l with
  | nil => rfl
  | cons x l ih => show (blsG (l.map G.bl)).map (fun l => x :: l) = _; rw [ih]; rfl
theorem intsFrom_get {n k : Nat} {x : G} (h : (intsFrom 0 n)[k]? = some x) : k < n ∧ x = .int (k : Nat) := by
  unfold intsFrom at h
  rw [List.getElem?_map] at h
  by_cases c : k < n
  · rw [List.getElem?_range c] at h
    refine ⟨c, ?_⟩
    simp only [Option.map_some, Option.some.injEq, Int.zero_add] at h
    exact h.symm
  · rw [List.getElem?_eq_none (by rw [List.length_range]; omega)] at h
    cases h
theorem intsFrom_len {lo : Int} {n : Nat} : (intsFrom lo n).length = n := by unfold intsFrom; rw [List.length_map, List.length_range]
theorem intsFrom_zero (n : Nat) : intsFrom 0 n = (List.range n).map nG := by
  unfold intsFrom nG
  simp
theorem atI_nat {a : Type} {l : List a} {k : Nat} : L2.atI l (k : Int) = l[k]? := by
  unfold L2.atI L2.ixN
  rw [if_pos (by omega)]
  by_cases c : k < l.length
  · rw [if_pos (by omega)]; simp
  · rw [if_neg (by omega), List.getElem?_eq_none (by omega)]; rfl
theorem atI_last {a : Type} {l : List a} {x : a} : L2.atI (l ++ [x]) (-1) = some x := by
  unfold L2.atI L2.ixN
  rw [if_neg (by omega), if_pos (by simp; omega)]
  simp only [Option.bind_some]
  have : (-1 + ((l ++ [x]).length : Int)).toNat = l.length := by simp; omega
  rw [this]
  simp
theorem lcGo_map {a : Type} {S : Sto} {l : Loc} {g : Tg} {t : Te} {e : Ev} (c : a → G) {p : a → Bool} {f : a → G} : ∀ (L : List a) (acc : List G),
    (∀ x ∈ L, ∃ l', tgSet g (c x) l = some l' ∧ t l' S = .ok (p x) S ∧ (p x = true → e l' S = .ok (f x) S)) → lcGo g t e l (L.map c) acc S = .ok (acc ++ (L.filter p).map f) S
  | [], acc, _ => by unfold lcGo; simp
  | x :: xs, acc, h => by
    obtain ⟨l', e1, e2, e3⟩ := h x List.mem_cons_self
    have ih := fun acc => lcGo_map c xs acc fun y hy => h y (List.mem_cons_of_mem _ hy)
    unfold lcGo
    rw [List.map_cons]
    dsimp only
    rw [e1]
    dsimp only
    rw [e2]
    unfold rbN
    dsimp only
    cases q : p x with
    | true =>
      rw [if_pos rfl, e3 q]
      dsimp only
      rw [ih, List.filter_cons_of_pos q, List.map_cons, List.append_assoc]
      rfl
    | false =>
      rw [if_neg (by decide), ih, List.filter_cons_of_neg (by rw [q]; decide)]
theorem eLc_map {a : Type} {S : Sto} {l : Loc} {it : Loc → Sto → R It} {own : List Nat} {g : Tg} {t : Te} {e : Ev} {c : a → G} {p : a → Bool} {f : a → G} {L : List a} (h : it l S = .ok (.fix (L.map c)) S)
    (hx : ∀ x ∈ L, ∃ l', tgSet g (c x) (wipeL l own) = some l' ∧ t l' S = .ok (p x) S ∧ (p x = true → e l' S = .ok (f x) S)) : eLc it own g t e l S = .ok (.tl ((L.filter p).map f)) S := by
  unfold eLc lcV
  rw [h]
  unfold rb
  dsimp only
  rw [lcGo_map c L [] hx]
  rfl
theorem eLc_all {a : Type} {S : Sto} {l : Loc} {it : Loc → Sto → R It} {own : List Nat} {g : Tg} {e : Ev} {c : a → G} {f : a → G} {L : List a} (h : it l S = .ok (.fix (L.map c)) S)
    (hx : ∀ x ∈ L, ∃ l', tgSet g (c x) (wipeL l own) = some l' ∧ e l' S = .ok (f x) S) : eLc it own g tYes e l S = .ok (.tl (L.map f)) S := by
  have := eLc_map (t := tYes) (p := fun _ => true) (own := own) h (fun x m => let ⟨l', e1, e2⟩ := hx x m; ⟨l', e1, rfl, fun _ => e2⟩)
  rwa [List.filter_eq_self.mpr (fun _ _ => rfl)] at this
theorem itR1_nat {f : As} {l : Loc} {S : Sto} {n : Nat} (h : f l S = .ok [.int (n : Int)] S) (hn : n ≤ 1000000) : itR1 f l S = .ok (.fix ((List.range n).map nG)) S := by
  unfold itR1
  rw [h]
  unfold rb
  dsimp only
  have hbig := big_eq
  rw [if_pos (by omega), Int.toNat_natCast, intsFrom_zero]
theorem ix_tup {l : List G} {k : Nat} {x : G} {S : Sto} (h : l[k]? = some x) : gIx (.tup l) (.int (k : Int)) S = some x := by
  show (match seqG S (.tup l) with | some l => L2.atI l (k : Int) | none => none) = some x
  simp only [seqG, atI_nat, h]
theorem ix_tl {l : List G} {k : Nat} {x : G} {S : Sto} (h : l[k]? = some x) : gIx (.tl l) (.int (k : Int)) S = some x := by
  show (match seqG S (.tl l) with | some l => L2.atI l (k : Int) | none => none) = some x
  simp only [seqG, atI_nat, h]
theorem ix_ref {l : List G} {k o : Nat} {x : G} {S : Sto} (hS : lstAt S o = some l) (h : l[k]? = some x) : gIx (.ref o) (.int (k : Int)) S = some x := by
  show (match seqG S (.ref o) with | some l => L2.atI l (k : Int) | none => none) = some x
  simp only [seqG, hS, atI_nat, h]
theorem ix_last {l : List G} {o : Nat} {x : G} {S : Sto} (hS : lstAt S o = some (l ++ [x])) : gIx (.ref o) (.int (-1)) S = some x := by
  show (match seqG S (.ref o) with | some l => L2.atI l (-1) | none => none) = some x
  simp only [seqG, hS, atI_last]
theorem lst_mid {S0 Z : Sto} {w : Bool} {l : List G} : lstAt (S0 ++ .lst w l :: Z) S0.length = some l := by unfold lstAt; rw [get_mid]
theorem lst_of {S : Sto} {o : Nat} {w : Bool} {l : List G} (h : S[o]? = some (.lst w l)) : lstAt S o = some l := by unfold lstAt; rw [h]
theorem app_of {S : Sto} {o : Nat} {l : List G} {x : G} (h : S[o]? = some (.lst true l)) (hl : l.length ≤ 1000000) : gApp (.ref o) [x] S = some (.non, S.set o (.lst true (l ++ [x]))) := by
  unfold gApp
  dsimp only
  rw [h]
  dsimp only
  rw [if_pos (by rw [sizeLine_eq]; omega)]
theorem lstW_of {S : Sto} {o : Nat} {l : List G} (h : S[o]? = some (.lst true l)) : lstW S (.ref o) = some l := by
  unfold lstW
  dsimp only
  rw [h]
theorem sz (k : Nat) (h : k ≤ 100000) : k ≤ sizeLine := by rw [sizeLine_eq]; omega
section
variable {S : Sto} {x y z u v : G}
theorem gTup1 : gTup [x] S = some (.tup [x]) := if_pos (sz 1 (by omega))
theorem gTup2 : gTup [x, y] S = some (.tup [x, y]) := if_pos (sz 2 (by omega))
theorem gTup3 : gTup [x, y, z] S = some (.tup [x, y, z]) := if_pos (sz 3 (by omega))
theorem gTup4 : gTup [x, y, z, u] S = some (.tup [x, y, z, u]) := if_pos (sz 4 (by omega))
theorem gTup5 : gTup [x, y, z, u, v] S = some (.tup [x, y, z, u, v]) := if_pos (sz 5 (by omega))
theorem gLst0 : gLst [] S = some (.tl []) := if_pos (sz 0 (by omega))
theorem gLst1 : gLst [x] S = some (.tl [x]) := if_pos (sz 1 (by omega))
theorem gLst2 : gLst [x, y] S = some (.tl [x, y]) := if_pos (sz 2 (by omega))
theorem gLst3 : gLst [x, y, z] S = some (.tl [x, y, z]) := if_pos (sz 3 (by omega))
theorem eLstA0 {l : Loc} : eLstA aNil l S = .ok (.ref S.length) (S ++ [.lst true []]) := by
  show (if ([] : List G).length ≤ sizeLine then R.ok (G.ref S.length) (S ++ [.lst true []]) else R.bad) = _
  exact if_pos (sz 0 (by omega))
theorem eLstA1 {l : Loc} {a : Ev} {S' : Sto} (h : a l S = .ok x S') : eLstA (aCons a aNil) l S = .ok (.ref S'.length) (S' ++ [.lst true [x]]) := by
  unfold eLstA aCons
  rw [h]
  show (if [x].length ≤ sizeLine then R.ok (G.ref S'.length) (S' ++ [.lst true [x]]) else R.bad) = _
  exact if_pos (sz 1 (by omega))
end
theorem gMin_nat {S : Sto} {a b : Nat} : gMin [.int (a : Int), .int (b : Int)] S = some (.int ((min a b : Nat) : Int)) := by
  show some (G.int (if (b : Int) < (a : Int) then (b : Int) else (a : Int))) = _
  congr 2
  split <;> omega
section
variable {a b : Type} {x : a} {S : Sto} {l : Loc} {g : G} {N : Loc → Sto → Prop} {T : G → Sto → Prop} {B : Loc → Sto → Prop}
theorem R.wp_ok {Q : a → Sto → Prop} : (R.ok x S).wp Q = Q x S := rfl
theorem SR.wp_nx : (SR.nx l S).wp N T B = N l S := rfl
theorem SR.wp_rt : (SR.rt g S).wp N T B = T g S := rfl
theorem SR.wp_bk : (SR.bk l S).wp N T B = B l S := rfl
theorem rb_ok {k : a → Sto → R b} : rb (.ok x S) k = k x S := rfl
theorem sr_ok {k : a → Sto → SR} : sr l (.ok x S) k = k x S := rfl
theorem bof_bl {k : Bool → R a} {c : Bool} : bof (.bl c) k = k c := rfl
theorem ro_ok : ro (some g) S = .ok g S := rfl
theorem so_ok : so l (some S) = .nx l S := rfl
theorem bodyR_nx : bodyR (.nx l S) = .ok .non S := rfl
theorem bodyR_rt : bodyR (.rt g S) = .ok g S := rfl
theorem seq_nx {p q : StM} {l1 : Loc} {S1 : Sto} (h : p l S = .nx l1 S1) : sSeq p q l S = q l1 S1 := by unfold sSeq; rw [h]
theorem seq_rt {p q : StM} {S1 : Sto} (h : p l S = .rt g S1) : sSeq p q l S = .rt g S1 := by unfold sSeq; rw [h]
end
theorem mul_sm {S : Sto} {m p : Nat} (h : m ≤ 1000000) : gMulA (.int (m : Int)) (.int (p : Int)) S = some (.int ((m : Int) * p)) := by
  show (if mulOk (m : Int) (p : Int) = true then some (G.int ((m : Int) * p)) else none) = _
  refine if_pos ?_
  unfold mulOk
  simp only [Bool.or_eq_true, Bool.and_eq_true, decide_eq_true_eq]
  have hb := b64_eq
  exact .inl ⟨by omega, by omega⟩
theorem eML_of {S : Sto} {l : Loc} {o i : Nat} {a : Ev} {xs : List G} {x : G} (ho : l[i]? = some (some (.ref o))) (hS : S[o]? = some (.lst true xs)) (ha : a l S = .ok x S) (hl : xs.length ≤ 1000000) :
    eML gApp (eV i) (aCons a aNil) l S = .ok .non (S.set o (.lst true (xs ++ [x]))) := by
  unfold eML eV
  rw [ho]
  dsimp only
  rw [rb_ok, lstW_of hS]
  dsimp only [Option.isSome]
  rw [if_pos rfl]
  unfold aCons aNil
  rw [ha, rb_ok, rb_ok, rb_ok, app_of hS hl]
/-- an item whose making grows the store -/
theorem eML_wp {S : Sto} {l : Loc} {o i : Nat} {a : Ev} {xs : List G} {Q : G → Sto → Prop} (ho : l[i]? = some (some (.ref o))) (hS : S[o]? = some (.lst true xs)) (hl : xs.length ≤ 1000000)
    (ha : (a l S).wp fun x S1 => S1[o]? = some (.lst true xs) ∧ Q .non (S1.set o (.lst true (xs ++ [x])))) :
    (eML gApp (eV i) (aCons a aNil) l S).wp Q := by
  obtain ⟨x, S1, e, h1, h2⟩ := R.wp_iff.mp ha
  unfold eML eV
  rw [ho]
  dsimp only
  rw [rb_ok, lstW_of hS]
  dsimp only [Option.isSome]
  rw [if_pos rfl]
  unfold aCons aNil
  rw [e, rb_ok, rb_ok, rb_ok, app_of h1 hl]
  exact h2
theorem wp_drop {N : Loc → Sto → Prop} {T : G → Sto → Prop} {B : Loc → Sto → Prop} {e : Ev} {l : Loc} {S : Sto} (h : (e l S).wp fun _ S => N l S) : (sDrop e l S).wp N T B := wp_sr h
theorem wp_set {N : Loc → Sto → Prop} {T : G → Sto → Prop} {B : Loc → Sto → Prop} {e : Ev} {l : Loc} {S : Sto} {i : Nat} (h : (e l S).wp fun g S => N (l.set i (some g)) S) : (sSet i e l S).wp N T B := wp_sr h
theorem wp_ret {N : Loc → Sto → Prop} {T : G → Sto → Prop} {B : Loc → Sto → Prop} {e : Ev} {l : Loc} {S : Sto} (h : (e l S).wp T) : (sRet e l S).wp N T B := wp_sr h
theorem get_last {S1 : Sto} {x : GO} : (S1 ++ [x])[S1.length]? = some x := get_mid
theorem set_last {S1 : Sto} {x y : GO} : (S1 ++ [x]).set S1.length y = S1 ++ [y] := set_mid
end GL
namespace GL
theorem R_ok_of {g : G} {S : Sto} {r : SR} (h : r.wp (fun _ S' => G.non = g ∧ S' = S) (fun g' S' => g' = g ∧ S' = S) (fun _ _ => False)) : bodyR r = .ok g S := by
  cases r with
  | nx l S => obtain ⟨rfl, rfl⟩ := h; rfl
  | rt g S => obtain ⟨rfl, rfl⟩ := h; rfl
  | bk l S => exact h.elim
  | ct l S => exact h.elim
  | exc _ _ _ _ => exact h.elim
  | bad => exact h.elim
end GL
namespace GL
section
variable {S : Sto} {i : Int} {l : List G} {b c : Bool} {o : Nat}
theorem is_non : gIs .non .non S = some (.bl true) := rfl
theorem is_int : gIs (.int i) .non S = some (.bl false) := rfl
theorem is_tup : gIs (.tup l) .non S = some (.bl false) := rfl
theorem is_bl : gIs (.bl b) (.bl c) S = some (.bl (decide (b = c))) := rfl
theorem isn_non : gIsNot .non .non S = some (.bl false) := rfl
theorem isn_int : gIsNot (.int i) .non S = some (.bl true) := rfl
theorem isn_tup : gIsNot (.tup l) .non S = some (.bl true) := rfl
theorem isn_bl : gIsNot (.bl b) (.bl c) S = some (.bl (!decide (b = c))) := rfl
theorem is_o {x : Option Int} : gIs (oG x) .non S = some (.bl x.isNone) := by cases x <;> rfl
theorem isn_o {x : Option Int} : gIsNot (oG x) .non S = some (.bl x.isSome) := by cases x <;> rfl
end
theorem lcDyn_map {a : Type} {S : Sto} {l : Loc} {g : Tg} {t : Te} {e : Ev} {o : Nat} {c : a → G} {p : a → Bool} {f : a → G} {L : List a} (hS : lstAt S o = some (L.map c)) (hL : L.length ≤ 100000)
    (hx : ∀ x ∈ L, ∃ l', tgSet g (c x) l = some l' ∧ t l' S = .ok (p x) S ∧ (p x = true → e l' S = .ok (f x) S)) :
    ∀ (d k m : Nat) (acc : List G), L.length = k + d → d < m → acc.length ≤ k → lcDyn g t e l o m k acc S = .ok (acc ++ ((L.drop k).filter p).map f) S
  | 0, k, m + 1, acc, hl, hm, ha => by
    unfold lcDyn
    rw [hS]
    dsimp only
    rw [List.getElem?_eq_none (by rw [List.length_map]; omega), List.drop_eq_nil_of_le (by omega)]
    simp
  | d + 1, k, m + 1, acc, hl, hm, ha => by
    have hk : k < L.length := by omega
    obtain ⟨l', e1, e2, e3⟩ := hx L[k] (List.getElem_mem hk)
    have ih := fun acc h => lcDyn_map hS hL hx d (k + 1) m acc (by omega) (by omega) h
    unfold lcDyn
    rw [hS]
    dsimp only
    rw [List.getElem?_map, List.getElem?_eq_getElem hk, Option.map_some]
    dsimp only
    rw [e1]
    dsimp only
    rw [e2, List.drop_eq_getElem_cons hk]
    unfold rbN
    dsimp only
    cases q : p L[k] with
    | true =>
      rw [if_pos rfl, e3 q]
      dsimp only
      rw [if_pos (by rw [PySem.sizeLine_eq]; omega), ih _ (by simp; omega), List.filter_cons_of_pos q, List.map_cons, List.append_assoc]
      rfl
    | false =>
      rw [if_neg (by decide), ih _ (by omega), List.filter_cons_of_neg (by rw [q]; decide)]
  | _, _, 0, _, _, hm, _ => by omega
theorem eLc_dyn {a : Type} {S : Sto} {l : Loc} {it : Loc → Sto → R It} {own : List Nat} {g : Tg} {t : Te} {e : Ev} {o : Nat} {c : a → G} {p : a → Bool} {f : a → G} {L : List a} (h : it l S = .ok (.dyn o) S) (hS : lstAt S o = some (L.map c)) (hL : L.length ≤ 100000)
    (hx : ∀ x ∈ L, ∃ l', tgSet g (c x) (wipeL l own) = some l' ∧ t l' S = .ok (p x) S ∧ (p x = true → e l' S = .ok (f x) S)) : eLc it own g t e l S = .ok (.tl ((L.filter p).map f)) S := by
  unfold eLc lcV
  rw [h]
  unfold rb
  dsimp only
  rw [lcDyn_map hS hL hx L.length 0 wMax [] (by omega) (by rw [wMax_eq]; omega) (Nat.zero_le _)]
  rfl
end GL
namespace GL
theorem gOks_ints (n : Nat) : ∀ z : List Int, gOks n (z.map iG) = true
  | [] => by simp [gOks]
  | x :: z => by simp [gOks, gOk, iG, gOks_ints n z]
theorem gNe_tl (S : Sto) (z : List Int) : gNe (.tl (z.map iG)) (.tl []) S = some (.bl (!z.isEmpty)) := by
  show (gEqD S (.tl (z.map iG)) (.tl [])).map (fun b => G.bl (!b)) = _
  have h1 : gOk 60 (.tl (z.map iG)) = true := by rw [gOk]; exact gOks_ints _ z
  have h2 : gOk 60 (.tl []) = true := by rw [gOk]; rfl
  unfold gEqD
  rw [show gRes S (.tl (z.map iG)) = .tl (z.map iG) from rfl, show gRes S (.tl []) = .tl [] from rfl, if_pos ⟨h1, h2⟩]
  cases z with
  | nil => rfl
  | cons x z => rfl
theorem gEq_tl (S : Sto) (z : List Int) : gEq (.tl (z.map iG)) (.tl []) S = some (.bl z.isEmpty) := by
  show (gEqD S (.tl (z.map iG)) (.tl [])).map (fun b => G.bl b) = _
  have h1 : gOk 60 (.tl (z.map iG)) = true := by rw [gOk]; exact gOks_ints _ z
  have h2 : gOk 60 (.tl []) = true := by rw [gOk]; rfl
  unfold gEqD
  rw [show gRes S (.tl (z.map iG)) = .tl (z.map iG) from rfl, show gRes S (.tl []) = .tl [] from rfl, if_pos ⟨h1, h2⟩]
  cases z with
  | nil => rfl
  | cons x z => rfl
end GL
namespace GL
theorem intsDown_get {n k : Nat} {x : G} (h : (intsDown ((n : Int) - 1) n)[k]? = some x) : k < n ∧ x = .int ((n - 1 - k : Nat) : Int) := by
  unfold intsDown at h
  rw [List.getElem?_map] at h
  by_cases c : k < n
  · rw [List.getElem?_range c] at h
    refine ⟨c, ?_⟩
    rw [← Option.some.inj h]
    show G.int ((n : Int) - 1 - (k : Nat)) = _
    rw [show (n : Int) - 1 - (k : Nat) = ((n - 1 - k : Nat) : Int) by omega]
  · rw [List.getElem?_eq_none (by rw [List.length_range]; omega)] at h
    cases h
theorem intsDown_len {lo : Int} {n : Nat} : (intsDown lo n).length = n := by unfold intsDown; rw [List.length_map, List.length_range]
theorem itR3_nat {f : As} {l : Loc} {S : Sto} {n : Nat} (h : f l S = .ok [.int ((n : Int) - 1), .int (-1), .int (-1)] S) (hn : n ≤ 1000000) : itR3 f l S = .ok (.fix (intsDown ((n : Int) - 1) n)) S := by
  unfold itR3
  rw [h, rb_ok]
  have hbig := big_eq
  show (if (n : Int) - 1 ≤ big ∧ -big ≤ -1 ∧ (-1 : Int) ≤ big ∧ -big ≤ (n : Int) - 1 then R.ok (It.fix (intsDown ((n : Int) - 1) ((n : Int) - 1 - (-1)).toNat)) S else R.bad) = _
  rw [if_pos ⟨by omega, by omega, by omega, by omega⟩, show ((n : Int) - 1 - (-1)).toNat = n by omega]
theorem mul_tup1 {S : Sto} {x : G} {n : Nat} (h : n ≤ 1000) : gMulA (.tup [x]) (.int (n : Int)) S = some (.tup (List.replicate n x)) := by
  show (if ([x] : List G) ≠ [] ∧ 0 ≤ (n : Int) ∧ (n : Int) ≤ 1000 ∧ ([x] : List G).length ≤ 1000 then some (G.tup (repL (n : Int).toNat [x])) else none) = _
  rw [if_pos ⟨by simp, by omega, by omega, by simp⟩, Int.toNat_natCast]
  congr 2
  unfold repL
  induction n with
  | zero => rfl
  | succ n ih => rw [List.replicate_succ, List.replicate_succ, List.flatten_cons, ih (by omega)]; rfl
theorem mul_tl1 {S : Sto} {x : G} {n : Nat} (h : n ≤ 1000) : gMulA (.tl [x]) (.int (n : Int)) S = some (.tl (List.replicate n x)) := by
  show (if 0 ≤ (n : Int) ∧ (n : Int) ≤ 1000 ∧ ([x] : List G).length ≤ 1000 then some (G.tl (repL (n : Int).toNat [x])) else none) = _
  rw [if_pos ⟨by omega, by omega, by simp⟩, Int.toNat_natCast]
  congr 2
  unfold repL
  induction n with
  | zero => rfl
  | succ n ih => rw [List.replicate_succ, List.replicate_succ, List.flatten_cons, ih (by omega)]; rfl
end GL
namespace GL
section
variable {S : Sto} {i j : Int} {b c : Bool}
theorem gEq_int : gEq (.int i) (.int j) S = some (.bl (decide (i = j))) := rfl
theorem gNe_int : gNe (.int i) (.int j) S = some (.bl (!decide (i = j))) := rfl
theorem gEq_bl : gEq (.bl b) (.bl c) S = some (.bl (decide (b = c))) := rfl
theorem gNe_bl : gNe (.bl b) (.bl c) S = some (.bl (!decide (b = c))) := rfl
theorem gEq_non : gEq .non .non S = some (.bl true) := rfl
theorem gEq_int_non : gEq (.int i) .non S = some (.bl false) := rfl
theorem gEq_non_int : gEq .non (.int i) S = some (.bl false) := rfl
theorem gNe_non : gNe .non .non S = some (.bl false) := rfl
theorem gNe_int_non : gNe (.int i) .non S = some (.bl true) := rfl
end
end GL
namespace GL
theorem numd_at : ∀ (xs : List G) (j k : Nat) (x : G), (numd j xs)[k]? = some x → ∃ y, xs[k]? = some y ∧ x = .tup [.int ((j + k : Nat) : Int), y]
  | [], _, _, _, h => by cases h
  | y :: xs, j, 0, x, h => ⟨y, rfl, (Option.some.inj h).symm⟩
  | y :: xs, j, k + 1, x, h => by
    obtain ⟨z, h1, h2⟩ := numd_at xs (j + 1) k x h
    exact ⟨z, h1, by rw [h2, show j + 1 + k = j + (k + 1) by omega]⟩
theorem setF_of {t : FTab} {S : Sto} {o : Nat} {c f : PySem.Str} {fs : List (PySem.Str × G)} {y : G} (h : S[o]? = some (.ins c fs)) (ht : t.contains (c, f) = true) (hf : fs.length < 1000) : setF t (.ref o) f y S = some (S.set o (.ins c (putG f y fs))) := by
  unfold setF
  dsimp only
  rw [h]
  dsimp only
  rw [if_pos ⟨ht, hf⟩]
theorem for_nil {it : Loc → Sto → R It} {g : Tg} {b : StM} {l : Loc} {S : Sto} (h : it l S = .ok (.fix []) S) : sFor it g b l S = .nx l S := by
  unfold sFor
  rw [h]; rfl
theorem turn_nx {g : Tg} {body k : StM} {x : G} {l l0 l1 : Loc} {S S1 : Sto} (e : tgSet g x l = some l0) (h : body l0 S = .nx l1 S1) : fTurn g body x k l S = k l1 S1 := by
  unfold fTurn
  rw [e]
  dsimp only
  rw [h]
end GL
namespace GL
theorem lcGo_true {a : Type} {S : Sto} {l : Loc} {g : Tg} {e : Ev} (c : a → G) : ∀ (L : List a) (acc : List G),
    (∀ x ∈ L, ∃ l', tgSet g (c x) l = some l' ∧ e l' S = .ok (.bl true) S) → lcGo g tYes e l (L.map c) acc S = .ok (acc ++ L.map fun _ => .bl true) S := fun L acc h => by
  have := lcGo_map (t := tYes) c (p := fun _ => true) (f := fun _ => G.bl true) L acc (fun x m => let ⟨l', e1, e2⟩ := h x m; ⟨l', e1, rfl, fun _ => e2⟩)
  rwa [List.filter_eq_self.mpr (fun _ _ => rfl)] at this
theorem lcGo2_true {a b : Type} {S : Sto} {l : Loc} {g g1 : Tg} {it1 : Loc → Sto → R It} {vs1 : List Nat} {e : Ev} (c : a → G) (d : b → G) (M : a → List b) : ∀ (L : List a) (acc : List G),
    (∀ x ∈ L, ∃ l', tgSet g (c x) l = some l' ∧ it1 l' S = .ok (.fix ((M x).map d)) S ∧ ∀ y ∈ M x, ∃ l2, tgSet g1 (d y) (wipeL l' vs1) = some l2 ∧ e l2 S = .ok (.bl true) S) →
    lcGo2 g tYes it1 vs1 g1 tYes e l (L.map c) acc S = .ok (acc ++ (L.flatMap M).map fun _ => .bl true) S
  | [], acc, _ => by unfold lcGo2; simp
  | x :: xs, acc, h => by
    obtain ⟨l', e1, e2, e3⟩ := h x List.mem_cons_self
    have ih := fun acc => lcGo2_true (it1 := it1) (vs1 := vs1) (g1 := g1) (e := e) c d M xs acc fun y hy => h y (List.mem_cons_of_mem _ hy)
    rw [List.map_cons]
    unfold lcGo2
    rw [e1]
    dsimp only
    rw [show tYes l' S = .ok true S from rfl]
    unfold rbN
    dsimp only
    rw [if_pos rfl, e2]
    dsimp only
    rw [lcGo_true d (M x) acc e3]
    dsimp only
    rw [ih, List.flatMap_cons, List.map_append, List.append_assoc]
theorem eLc2_true {a b : Type} {S : Sto} {l : Loc} {it it1 : Loc → Sto → R It} {own vs1 : List Nat} {g g1 : Tg} {e : Ev} {c : a → G} {d : b → G} {M : a → List b} {L : List a} (h : it l S = .ok (.fix (L.map c)) S) (hL : (L.flatMap M).length ≤ 100000)
    (hx : ∀ x ∈ L, ∃ l', tgSet g (c x) (wipeL l own) = some l' ∧ it1 l' S = .ok (.fix ((M x).map d)) S ∧ ∀ y ∈ M x, ∃ l2, tgSet g1 (d y) (wipeL l' vs1) = some l2 ∧ e l2 S = .ok (.bl true) S) :
    eLc2 it own g tYes it1 vs1 g1 tYes e l S = .ok (.tl ((L.flatMap M).map fun _ => .bl true)) S := by
  unfold eLc2
  rw [h, rb_ok]
  dsimp only
  rw [lcGo2_true c d M L [] hx, rb_ok, List.nil_append, if_pos (by rw [List.length_map, PySem.sizeLine_eq]; omega)]
theorem gNe_refl {S : Sto} {l : List G} (h : gOk 60 (.tup l) = true) : gNe (.tup l) (.tup l) S = some (.bl false) := by
  show (gEqD S (.tup l) (.tup l)).map (fun b => G.bl (!b)) = _
  unfold gEqD
  rw [show gRes S (.tup l) = .tup l from rfl, if_pos ⟨h, h⟩, PySem.SeqAt.eqv_refl _ (ok_lay h).1]
  rfl
theorem lstR1_nat {f : Ev} {l : Loc} {S : Sto} {n : Nat} (h : f l S = .ok (.int (n : Int)) S) (hn : n ≤ 1000000) : eLstR1 f l S = .ok (.tl ((List.range n).map nG)) S := by
  unfold eLstR1
  rw [h, rb_ok]
  have hbig := big_eq
  dsimp only
  rw [if_pos (by omega), Int.toNat_natCast, intsFrom_zero]
end GL

end

section
set_option Elab.async false
set_option linter.all false
set_option maxRecDepth 100000
set_option maxHeartbeats 0
/-! The walk of the law, printed by gen.py. -/
namespace Lk14
open PySem PySem.Spec PyProof.Rows L2 LamX GL
noncomputable section
abbrev prog : Program := PySem.Challenge.pw_polderkeep_k14_whole_cheapest_plans

abbrev st_is_whole : Stmt := topS prog 1
abbrev st_is_within : Stmt := topS prog 2
abbrev st_is_row : Stmt := topS prog 3
abbrev st_first_wrong : Stmt := topS prog 4
abbrev st_place_told : Stmt := topS prog 5
abbrev st_is_task : Stmt := topS prog 18
abbrev st_choices : Stmt := topS prog 19
abbrev st_least_of : Stmt := topS prog 20
abbrev st_row_of : Stmt := topS prog 21
abbrev st_tables_of : Stmt := topS prog 22
abbrev st_tables : Stmt := topS prog 23
abbrev st_least_price : Stmt := topS prog 24
abbrev st_plan : Stmt := topS prog 25
abbrev st_levels_of : Stmt := topS prog 26
abbrev st_is_plan : Stmt := topS prog 27
abbrev st_price_of : Stmt := topS prog 28
abbrev st_is_entry : Stmt := topS prog 29
abbrev st_has_form : Stmt := topS prog 30
abbrev st_is_lower_entry : Stmt := topS prog 31
abbrev st_are_lower : Stmt := topS prog 32
abbrev st_shows_cheapest : Stmt := topS prog 33
abbrev st_least_capacity : Stmt := topS prog 34
abbrev st__law_taken : Stmt := topS prog 36
abbrev st__law_pick : Stmt := topS prog 37
abbrev st__law_alike : Stmt := topS prog 38
abbrev st__law_task : Stmt := topS prog 39
abbrev st__law_tables : Stmt := topS prog 40
abbrev st_law : Stmt := topS prog 41
abbrev st_Task___init__ : Stmt := txS (C8.clsBody (topS prog 17)) 0
abbrev st_Task___eq__ : Stmt := txS (C8.clsBody (topS prog 17)) 1
def fldT : FTab := [("Task", "rain"), ("Task", "prices"), ("Task", "capacity"), ("Task", "limit"), ("Task", "level"), ("Task", "whole")]
def isaT : GL.Tab := ⟨["Task"], []⟩
def fnsT : List Str := []
def sh_is_whole (call : Calls) : StM :=
  (sRet (eAnd (eA (gIsi isaT) (aCons (eV 0) (aCons (eC (.ty "int")) aNil))) (eNot (tV (eA (gIsi isaT) (aCons (eV 0) (aCons (eC (.ty "bool")) aNil)))))))
def sh_is_within (call : Calls) : StM :=
  (sRet (eAnd (eCl call (.fn "is_whole") (aCons (eV 0) aNil)) (eCh gLe gLe (eV 1) (eV 0) (eV 2))))
def sh_is_row (call : Calls) : StM :=
  (sRet (eAnd (eA (gIsi isaT) (aCons (eV 0) (aCons (eC (.ty "tuple")) aNil))) (e2 gEq (eA gLen (aCons (eV 0) aNil)) (eV 1))))
def sh_first_wrong (call : Calls) : StM :=
  (sSeq (sIf (tOr (tNot (tV (eA (gIsi isaT) (aCons (eV 0) (aCons (eC (.ty "tuple")) aNil))))) (tNot (tV (eCh gLe gLe (eV 1) (eA gLen (aCons (eV 0) aNil)) (eV 2)))))
  (sRet (e1 gNeg (eC (.int 1))))
  sNx)
  (sSeq (sFor (itEn (aCons (eV 0) aNil)) (.tp [4, 5])
  (sIf (tNot (tV (eClL fnsT call 3 (aCons (eV 5) (aCons (eSl (eV 0) none (some (eV 4))) aNil)))))
  (sRet (eV 4))
  sNx))
  (sRet (eC .non))))
def sh_place_told (call : Calls) : StM :=
  (sRet (eIf (tV (e2 gEq (eV 0) (e1 gNeg (eC (.int 1))))) (eC .non) (eV 0)))
def sh_is_task (call : Calls) : StM :=
  (sRet (eA (gIsi isaT) (aCons (eV 0) (aCons (eC (.gl "Task")) aNil))))
def sh_choices (call : Calls) : StM :=
  (sSeq (sSet 3 (e2 gAddA (eV 2) (e2 gIx (e1 (gFld fldT "rain") (eV 0)) (eV 1))))
  (sSeq (sSet 4 (eA gMin (aCons (e1 (gFld fldT "capacity") (eV 0)) (aCons (eV 3) aNil))))
  (sRet (eLc (itR1 (aCons (e2 gAddA (eV 4) (eC (.int 1))) aNil)) [5] (.nm 5) (tV (e2 gLe (e2 gSub (eV 3) (eV 5)) (e1 (gFld fldT "limit") (eV 0)))) (eA gTup (aCons (eV 5) (aCons (e2 gSub (eV 3) (eV 5)) aNil)))))))
def sh_least_of (call : Calls) : StM :=
  (sSeq (sSet 1 (eLc (itV (eV 0)) [2] (.nm 2) (tV (e2 gIsNot (eV 2) (eC .non))) (eV 2)))
  (sRet (eIf (tV (e2 gNe (eV 1) (eA gLst aNil))) (eA gMin (aCons (eV 1) aNil)) (eC .non))))
def sh_row_of (call : Calls) : StM :=
  (sSeq (sSet 3 (eLstA aNil))
  (sSeq (sFor (itR1 (aCons (e2 gAddA (e1 (gFld fldT "limit") (eV 0)) (eC (.int 1))) aNil)) (.nm 4)
  (sSeq (sSet 5 (eLstA aNil))
  (sSeq (sFor (itV (eCl call (.fn "choices") (aCons (eV 0) (aCons (eV 1) (aCons (eV 4) aNil))))) (.tp [6, 7])
  (sDrop (eML gApp (eV 5) (aCons (eIf (tV (e2 gIs (e2 gIx (eV 2) (eV 7)) (eC .non))) (eC .non) (e2 gAddA (e2 gMulA (eV 6) (e2 gIx (e1 (gFld fldT "prices") (eV 0)) (eV 1))) (e2 gIx (eV 2) (eV 7)))) aNil))))
  (sDrop (eML gApp (eV 3) (aCons (eCl call (.fn "least_of") (aCons (eV 5) aNil)) aNil))))))
  (sRet (eA gTuple (aCons (eV 3) aNil)))))
def sh_tables_of (call : Calls) : StM :=
  (sSeq (sSet 1 (eLstA (aCons (e2 gMulA (eA gTup (aCons (eC (.int 0)) aNil)) (e2 gAddA (e1 (gFld fldT "limit") (eV 0)) (eC (.int 1)))) aNil)))
  (sSeq (sFor (itR3 (aCons (e2 gSub (eA gLen (aCons (e1 (gFld fldT "rain") (eV 0)) aNil)) (eC (.int 1))) (aCons (e1 gNeg (eC (.int 1))) (aCons (e1 gNeg (eC (.int 1))) aNil)))) (.nm 2)
  (sDrop (eML gApp (eV 1) (aCons (eCl call (.fn "row_of") (aCons (eV 0) (aCons (eV 2) (aCons (e2 gIx (eV 1) (e1 gNeg (eC (.int 1)))) aNil)))) aNil))))
  (sRet (e1 gRev (eV 1)))))
def sh_tables (call : Calls) : StM :=
  (sRet (eA gTuple (aCons (eCl call (.fn "tables_of") (aCons (eV 0) aNil)) aNil)))
def sh_least_price (call : Calls) : StM :=
  (sRet (e2 gIx (e2 gIx (eCl call (.fn "tables_of") (aCons (eV 0) aNil)) (eC (.int 0))) (e1 (gFld fldT "level") (eV 0))))
def sh_plan (call : Calls) : StM :=
  (sSeq (sSet 1 (eCl call (.fn "tables_of") (aCons (eV 0) aNil)))
  (sSeq (sIf (tV (e2 gIs (e2 gIx (e2 gIx (eV 1) (eC (.int 0))) (e1 (gFld fldT "level") (eV 0))) (eC .non)))
  (sRet (eC .non))
  sNx)
  (sSeq (sPar 2 3 (eLstA aNil) (e1 (gFld fldT "level") (eV 0)))
  (sSeq (sFor (itR1 (aCons (eA gLen (aCons (e1 (gFld fldT "rain") (eV 0)) aNil)) aNil)) (.nm 4)
  (sFor (itV (eCl call (.fn "choices") (aCons (eV 0) (aCons (eV 4) (aCons (eV 3) aNil))))) (.tp [5, 6])
  (sIf (tV (e2 gIsNot (e2 gIx (e2 gIx (eV 1) (e2 gAddA (eV 4) (eC (.int 1)))) (eV 6)) (eC .non)))
  (sIf (tV (e2 gEq (e2 gAddA (e2 gMulA (eV 5) (e2 gIx (e1 (gFld fldT "prices") (eV 0)) (eV 4))) (e2 gIx (e2 gIx (eV 1) (e2 gAddA (eV 4) (eC (.int 1)))) (eV 6))) (e2 gIx (e2 gIx (eV 1) (eV 4)) (eV 3))))
  (sSeq (sDrop (eML gApp (eV 2) (aCons (eV 5) aNil)))
  (sSeq (sSet 3 (eV 6))
  sBrk))
  sNx)
  sNx)))
  (sRet (eA gTuple (aCons (eV 2) aNil)))))))
def sh_levels_of (call : Calls) : StM :=
  (sSeq (sIf (tOr (tNot (tV (eCl call (.fn "is_row") (aCons (eV 1) (aCons (eA gLen (aCons (e1 (gFld fldT "rain") (eV 0)) aNil)) aNil))))) (tNot (tV (eA gAll (aCons (eLc (itV (eV 1)) [2] (.nm 2) tYes (eAnd (eCl call (.fn "is_whole") (aCons (eV 2) aNil)) (e2 gGe (eV 2) (eC (.int 0))))) aNil)))))
  (sRet (eC .non))
  sNx)
  (sSeq (sPar 3 4 (eLstA aNil) (e1 (gFld fldT "level") (eV 0)))
  (sSeq (sFor (itEn (aCons (eV 1) aNil)) (.tp [5, 2])
  (sSeq (sAugN false 4 (e2 gSub (e2 gIx (e1 (gFld fldT "rain") (eV 0)) (eV 5)) (eV 2)))
  (sSeq (sIf (tOr (tV (e2 gGt (eV 2) (e1 (gFld fldT "capacity") (eV 0)))) (tOr (tV (e2 gLt (eV 4) (eC (.int 0)))) (tV (e2 gGt (eV 4) (e1 (gFld fldT "limit") (eV 0))))))
  (sRet (eC .non))
  sNx)
  (sDrop (eML gApp (eV 3) (aCons (eV 4) aNil))))))
  (sRet (eA gTuple (aCons (eV 3) aNil))))))
def sh_is_plan (call : Calls) : StM :=
  (sRet (e2 gIsNot (eCl call (.fn "levels_of") (aCons (eV 0) (aCons (eV 1) aNil))) (eC .non)))
def sh_price_of (call : Calls) : StM :=
  (sSeq (sIf (tNot (tV (eCl call (.fn "is_plan") (aCons (eV 0) (aCons (eV 1) aNil)))))
  (sRet (eC .non))
  sNx)
  (sRet (eA gSum (aCons (eLc (itZip (aCons (eV 1) (aCons (e1 (gFld fldT "prices") (eV 0)) aNil))) [2, 3] (.tp [2, 3]) tYes (e2 gMulA (eV 2) (eV 3))) aNil))))
def sh_is_entry (call : Calls) : StM :=
  (sRet (eOr (e2 gIs (eV 0) (eC .non)) (eAnd (eCl call (.fn "is_whole") (aCons (eV 0) aNil)) (e2 gGe (eV 0) (eC (.int 0))))))
def sh_has_form (call : Calls) : StM :=
  (sSeq (sIf (tOr (tNot (tV (eCl call (.fn "is_row") (aCons (eV 1) (aCons (e2 gAddA (eA gLen (aCons (e1 (gFld fldT "rain") (eV 0)) aNil)) (eC (.int 1))) aNil))))) (tNot (tV (eA gAll (aCons (eLc (itV (eV 1)) [2] (.nm 2) tYes (eCl call (.fn "is_row") (aCons (eV 2) (aCons (e2 gAddA (e1 (gFld fldT "limit") (eV 0)) (eC (.int 1))) aNil)))) aNil)))))
  (sRet (eC (.bl false)))
  sNx)
  (sRet (eA gAll (aCons (eLc2 (itV (eV 1)) [2, 3] (.nm 2) tYes (itV (eV 2)) [3] (.nm 3) tYes (eCl call (.fn "is_entry") (aCons (eV 3) aNil))) aNil))))
def sh_is_lower_entry (call : Calls) : StM :=
  (sSeq (sSet 4 (e2 gIx (e2 gIx (eV 1) (eV 2)) (eV 3)))
  (sSeq (sFor (itV (eCl call (.fn "choices") (aCons (eV 0) (aCons (eV 2) (aCons (eV 3) aNil))))) (.tp [5, 6])
  (sSeq (sSet 7 (e2 gIx (e2 gIx (eV 1) (e2 gAddA (eV 2) (eC (.int 1)))) (eV 6)))
  (sIf (tV (e2 gIsNot (eV 7) (eC .non)))
  (sIf (tOr (tV (e2 gIs (eV 4) (eC .non))) (tV (e2 gGt (eV 4) (e2 gAddA (e2 gMulA (eV 5) (e2 gIx (e1 (gFld fldT "prices") (eV 0)) (eV 2))) (eV 7)))))
  (sRet (eC (.bl false)))
  sNx)
  sNx)))
  (sRet (eC (.bl true)))))
def sh_are_lower (call : Calls) : StM :=
  (sSeq (sIf (tOr (tNot (tV (eCl call (.fn "has_form") (aCons (eV 0) (aCons (eV 1) aNil))))) (tV (e2 gNe (e2 gIx (eV 1) (e1 gNeg (eC (.int 1)))) (e2 gMulA (eA gTup (aCons (eC (.int 0)) aNil)) (e2 gAddA (e1 (gFld fldT "limit") (eV 0)) (eC (.int 1)))))))
  (sRet (eC (.bl false)))
  sNx)
  (sSeq (sSet 2 (eLstR1 (e2 gAddA (e1 (gFld fldT "limit") (eV 0)) (eC (.int 1)))))
  (sSeq (sSet 3 (eLstR1 (eA gLen (aCons (e1 (gFld fldT "rain") (eV 0)) aNil))))
  (sRet (eA gAll (aCons (eLc2 (itV (eV 3)) [4, 5] (.nm 4) tYes (itV (eV 2)) [5] (.nm 5) tYes (eCl call (.fn "is_lower_entry") (aCons (eV 0) (aCons (eV 1) (aCons (eV 4) (aCons (eV 5) aNil)))))) aNil))))))
def sh_shows_cheapest (call : Calls) : StM :=
  (sSeq (sIf (tOr (tNot (tV (eCl call (.fn "is_plan") (aCons (eV 0) (aCons (eV 1) aNil))))) (tNot (tV (eCl call (.fn "are_lower") (aCons (eV 0) (aCons (eV 2) aNil))))))
  (sRet (eC (.bl false)))
  sNx)
  (sRet (e2 gEq (e2 gIx (e2 gIx (eV 2) (eC (.int 0))) (e1 (gFld fldT "level") (eV 0))) (eCl call (.fn "price_of") (aCons (eV 0) (aCons (eV 1) aNil))))))
def sh_least_capacity (call : Calls) : StM :=
  (sSeq (sFor (itR1 (aCons (e2 gAddA (eC (.int 9)) (eC (.int 1))) aNil)) (.nm 4)
  (sIf (tV (e2 gIsNot (eCl call (.fn "least_price") (aCons (eMk call "Task" (aCons (eV 0) (aCons (eV 1) (aCons (eV 4) (aCons (eV 2) (aCons (eV 3) aNil)))))) aNil)) (eC .non)))
  (sRet (eV 4))
  sNx))
  (sRet (eC .non)))
def sh__law_taken (call : Calls) : StM :=
  (sSeq (sIf (tV (e2 gGt (e2 gIx (eV 0) (eC (.int 3))) (eC (.int 0))))
  (sSeq (sSet 2 (e2 gMod (eA gInt (aCons (e2 gIx (eV 0) (eC (.int 3))) aNil)) (eV 1)))
  (sSeq (sIxS (eV 0) (eC (.int 3)) (e2 gFdv (e2 gIx (eV 0) (eC (.int 3))) (eV 1)))
  (sRet (eV 2))))
  sNx)
  (sSeq (sIxS (eV 0) (eC (.int 1)) (e2 gAddA (e2 gIx (eV 0) (eC (.int 1))) (eC (.int 1))))
  (sSeq (sIf (tV (e2 gGt (e2 gIx (eV 0) (eC (.int 1))) (eA gLen (aCons (e2 gIx (eV 0) (eC (.int 0))) aNil))))
  (sSeq (sIxS (eV 0) (eC (.int 2)) (e2 gMod (eA gInt (aCons (e2 gAddA (e2 gMulA (e2 gIx (eV 0) (eC (.int 2))) (eC (.int 48271))) (eC (.int 11))) aNil)) (eC (.int 2147483647))))
  (sRet (e2 gMod (eA gInt (aCons (e2 gFdv (e2 gIx (eV 0) (eC (.int 2))) (eC (.int 7))) aNil)) (eV 1))))
  sNx)
  (sSeq (sSet 3 (e2 gIx (e2 gIx (eV 0) (eC (.int 0))) (e2 gSub (e2 gIx (eV 0) (eC (.int 1))) (eC (.int 1)))))
  (sSeq (sIxS (eV 0) (eC (.int 2)) (e2 gMod (eA gInt (aCons (e2 gAddA (e2 gAddA (e2 gMulA (e2 gIx (eV 0) (eC (.int 2))) (eC (.int 48271))) (eV 3)) (eC (.int 11))) aNil)) (eC (.int 2147483647))))
  (sSeq (sIf (tV (e2 gGe (eV 3) (e2 gPow (eC (.int 10)) (eC (.int 18)))))
  (sSeq (sIxS (eV 0) (eC (.int 3)) (e2 gFdv (eV 3) (eV 1)))
  (sRet (e2 gMod (eA gInt (aCons (eV 3) aNil)) (eV 1))))
  sNx)
  (sRet (e2 gMod (eA gInt (aCons (e2 gAddA (e2 gMulA (e2 gMod (eA gInt (aCons (eV 3) aNil)) (eC (.int 1000003))) (eC (.int 31))) (e2 gFdv (e2 gIx (eV 0) (eC (.int 2))) (eC (.int 11)))) aNil)) (eV 1)))))))))
def sh__law_pick (call : Calls) : StM :=
  (sRet (e2 gIx (eV 1) (eCl call (.fn "_law_taken") (aCons (eV 0) (aCons (eA gLen (aCons (eV 1) aNil)) aNil)))))
def sh__law_alike (call : Calls) : StM :=
  (sSeq (sIf (tV (eA (gIsi isaT) (aCons (eV 1) (aCons (eA gTup (aCons (eC (.ty "tuple")) (aCons (eC (.ty "list")) aNil))) aNil))))
  (sSeq (sIf (tOr (tNot (tV (eA (gIsi isaT) (aCons (eV 0) (aCons (eA gTup (aCons (eC (.ty "tuple")) (aCons (eC (.ty "list")) aNil))) aNil))))) (tV (e2 gNe (eA (gIsi isaT) (aCons (eV 0) (aCons (eC (.ty "list")) aNil))) (eA (gIsi isaT) (aCons (eV 1) (aCons (eC (.ty "list")) aNil))))))
  (sRet (eC (.bl false)))
  sNx)
  (sSeq (sIf (tV (e2 gNe (eA gLen (aCons (eV 0) aNil)) (eA gLen (aCons (eV 1) aNil))))
  (sRet (eC (.bl false)))
  sNx)
  (sRet (e2 gEq (eLc (itR1 (aCons (eA gLen (aCons (eV 1) aNil)) aNil)) [2] (.nm 2) (tNot (tV (eCl call (.fn "_law_alike") (aCons (e2 gIx (eV 0) (eV 2)) (aCons (e2 gIx (eV 1) (eV 2)) aNil))))) (eV 2)) (eA gLst aNil)))))
  sNx)
  (sSeq (sIf (tOr (tV (e2 gIs (eV 1) (eC .non))) (tV (eA (gIsi isaT) (aCons (eV 1) (aCons (eC (.ty "str")) aNil)))))
  (sRet (eAnd (e2 gEq (eV 0) (eV 1)) (e2 gEq (eA (gIsi isaT) (aCons (eV 0) (aCons (eC (.ty "str")) aNil))) (eA (gIsi isaT) (aCons (eV 1) (aCons (eC (.ty "str")) aNil))))))
  sNx)
  (sRet (eAnd (eA (gIsi isaT) (aCons (eV 0) (aCons (eC (.ty "int")) aNil))) (eAnd (e2 gEq (eA (gIsi isaT) (aCons (eV 0) (aCons (eC (.ty "bool")) aNil))) (eA (gIsi isaT) (aCons (eV 1) (aCons (eC (.ty "bool")) aNil)))) (e2 gEq (eV 0) (eV 1)))))))
def sh__law_task (call : Calls) : StM :=
  (sSeq (sTg (.tp [2, 3]) (eA gTup (aCons (eCl call (.fn "_law_taken") (aCons (eV 0) (aCons (e2 gAddA (eV 1) (eC (.int 1))) aNil))) (aCons (eCl call (.fn "_law_pick") (aCons (eV 0) (aCons (eA gLst (aCons (eC (.int 3)) (aCons (eC (.int 10)) aNil))) aNil))) aNil))))
  (sSeq (sSet 4 (eA gTuple (aCons (eLc (itR1 (aCons (eV 2) aNil)) [5] (.nm 5) tYes (eCl call (.fn "_law_taken") (aCons (eV 0) (aCons (eV 3) aNil)))) aNil)))
  (sSeq (sSet 6 (eCl call (.fn "_law_taken") (aCons (eV 0) (aCons (eCl call (.fn "_law_pick") (aCons (eV 0) (aCons (eA gLst (aCons (eC (.int 6)) (aCons (eC (.int 21)) aNil))) aNil))) aNil))))
  (sRet (eA gTup (aCons (eV 4) (aCons (eA gTuple (aCons (eLc (itR1 (aCons (eV 2) aNil)) [5] (.nm 5) tYes (eCl call (.fn "_law_taken") (aCons (eV 0) (aCons (eC (.int 10)) aNil)))) aNil)) (aCons (eCl call (.fn "_law_taken") (aCons (eV 0) (aCons (eCl call (.fn "_law_pick") (aCons (eV 0) (aCons (eA gLst (aCons (eC (.int 4)) (aCons (eC (.int 10)) aNil))) aNil))) aNil))) (aCons (eV 6) (aCons (eCl call (.fn "_law_taken") (aCons (eV 0) (aCons (e2 gAddA (eV 6) (eC (.int 1))) aNil))) aNil))))))))))
def sh__law_tables (call : Calls) : StM :=
  (sSeq (sTg (.tp [1, 2, 3, 4, 5]) (eV 0))
  (sSeq (sSet 6 (eA gLst (aCons (e2 gMulA (eA gLst (aCons (eC (.int 0)) aNil)) (e2 gAddA (eV 4) (eC (.int 1)))) aNil)))
  (sSeq (sFor (itR3 (aCons (e2 gSub (eA gLen (aCons (eV 1) aNil)) (eC (.int 1))) (aCons (e1 gNeg (eC (.int 1))) (aCons (e1 gNeg (eC (.int 1))) aNil)))) (.nm 7)
  (sSeq (sSet 8 (eLstA aNil))
  (sSeq (sFor (itR1 (aCons (e2 gAddA (eV 4) (eC (.int 1))) aNil)) (.nm 9)
  (sSeq (sSet 10 (eLstA aNil))
  (sSeq (sFor (itR1 (aCons (e2 gAddA (eV 3) (eC (.int 1))) aNil)) (.nm 11)
  (sSeq (sSet 12 (e2 gSub (e2 gAddA (eV 9) (e2 gIx (eV 1) (eV 7))) (eV 11)))
  (sIf (tAnd (tV (eCh gLe gLe (eC (.int 0)) (eV 12) (eV 4))) (tV (e2 gIsNot (e2 gIx (e2 gIx (eV 6) (eC (.int 0))) (eV 12)) (eC .non))))
  (sDrop (eML gApp (eV 10) (aCons (e2 gAddA (e2 gMulA (eV 11) (e2 gIx (eV 2) (eV 7))) (e2 gIx (e2 gIx (eV 6) (eC (.int 0))) (eV 12))) aNil)))
  sNx)))
  (sDrop (eML gApp (eV 8) (aCons (eIf (tV (e2 gNe (eV 10) (eA gLst aNil))) (eA gMin (aCons (eV 10) aNil)) (eC .non)) aNil))))))
  (sSet 6 (e2 gAddA (eA gLst (aCons (eV 8) aNil)) (eV 6))))))
  (sRet (eLc (itV (eV 6)) [8] (.nm 8) tYes (eA gTuple (aCons (eV 8) aNil)))))))
def sh_law (call : Calls) : StM :=
  (sSeq (sSet 1 (eLstA (aCons (eV 0) (aCons (eC (.int 0)) (aCons (eC (.int 7141)) (aCons (eC (.int 0)) aNil))))))
  (sSeq (sFor (itR1 (aCons (eC (.int 4)) aNil)) (.nm 2)
  (sSeq (sSet 3 (eCl call (.fn "_law_task") (aCons (eV 1) (aCons (eCl call (.fn "_law_pick") (aCons (eV 1) (aCons (eA gLst (aCons (eC (.int 4)) (aCons (eC (.int 8)) (aCons (eC (.int 12)) aNil)))) aNil))) aNil))))
  (sSeq (sPar 4 5 (eMk call "Task" (aCons (e2 gIx (eV 3) (eC (.int 0))) (aCons (e2 gIx (eV 3) (eC (.int 1))) (aCons (e2 gIx (eV 3) (eC (.int 2))) (aCons (e2 gIx (eV 3) (eC (.int 3))) (aCons (e2 gIx (eV 3) (eC (.int 4))) aNil)))))) (eCl call (.fn "_law_tables") (aCons (eV 3) aNil)))
  (sSeq (sTg (.tp [6, 7]) (eA gTup (aCons (e2 gIx (e2 gIx (eV 5) (eC (.int 0))) (e2 gIx (eV 3) (eC (.int 4)))) (aCons (eCl call (.fn "plan") (aCons (eV 4) aNil)) aNil))))
  (sSeq (sIf (tOr (tNot (tV (eCl call (.fn "_law_alike") (aCons (eA gTup (aCons (eCl call (.fn "tables") (aCons (eV 4) aNil)) (aCons (eCl call (.fn "least_price") (aCons (eV 4) aNil)) aNil))) (aCons (eA gTup (aCons (eA gTuple (aCons (eV 5) aNil)) (aCons (eV 6) aNil))) aNil))))) (tV (e2 gNe (e2 gIs (eV 7) (eC .non)) (e2 gIs (eV 6) (eC .non)))))
  (sRet (eC (.bl false)))
  sNx)
  (sSeq (sIf (tOr (tNot (tV (eCl call (.fn "_law_alike") (aCons (eA gTup (aCons (e1 (gFld fldT "rain") (eV 4)) (aCons (e1 (gFld fldT "prices") (eV 4)) (aCons (e1 (gFld fldT "capacity") (eV 4)) (aCons (e1 (gFld fldT "limit") (eV 4)) (aCons (e1 (gFld fldT "level") (eV 4)) aNil)))))) (aCons (eV 3) aNil))))) (tOr (tV (e2 gIsNot (eCl call (.fn "is_task") (aCons (eV 4) aNil)) (eC (.bl true)))) (tV (eCl call (.fn "is_task") (aCons (eV 3) aNil)))))
  (sRet (eC (.bl false)))
  sNx)
  (sSeq (sIf (tV (e2 gIsNot (eV 7) (eC .non)))
  (sSeq (sPar 8 9 (eLstA aNil) (e2 gIx (eV 3) (eC (.int 4))))
  (sSeq (sIf (tOr (tNot (tV (eA (gIsi isaT) (aCons (eV 7) (aCons (eC (.ty "tuple")) aNil))))) (tV (e2 gNe (eA gLen (aCons (eV 7) aNil)) (eA gLen (aCons (e2 gIx (eV 3) (eC (.int 0))) aNil)))))
  (sRet (eC (.bl false)))
  sNx)
  (sSeq (sFor (itR1 (aCons (eA gLen (aCons (eV 7) aNil)) aNil)) (.nm 10)
  (sSeq (sSet 9 (e2 gSub (e2 gAddA (eV 9) (e2 gIx (e2 gIx (eV 3) (eC (.int 0))) (eV 10))) (e2 gIx (eV 7) (eV 10))))
  (sSeq (sDrop (eML gApp (eV 8) (aCons (eV 9) aNil)))
  (sIf (tOr (tNot (tV (eCh gLe gLe (eC (.int 0)) (e2 gIx (eV 7) (eV 10)) (e2 gIx (eV 3) (eC (.int 2)))))) (tNot (tV (eCh gLe gLe (eC (.int 0)) (eV 9) (e2 gIx (eV 3) (eC (.int 3)))))))
  (sRet (eC (.bl false)))
  sNx))))
  (sSeq (sIf (tOr (tV (e2 gNe (eA gSum (aCons (eLc (itR1 (aCons (eA gLen (aCons (eV 7) aNil)) aNil)) [10] (.nm 10) tYes (e2 gMulA (e2 gIx (eV 7) (eV 10)) (e2 gIx (e2 gIx (eV 3) (eC (.int 1))) (eV 10)))) aNil)) (eV 6))) (tNot (tV (eCl call (.fn "_law_alike") (aCons (eA gTup (aCons (eCl call (.fn "levels_of") (aCons (eV 4) (aCons (eV 7) aNil))) (aCons (eCl call (.fn "price_of") (aCons (eV 4) (aCons (eV 7) aNil))) aNil))) (aCons (eA gTup (aCons (eA gTuple (aCons (eV 8) aNil)) (aCons (eV 6) aNil))) aNil))))))
  (sRet (eC (.bl false)))
  sNx)
  (sIf (tOr (tV (e2 gIsNot (eCl call (.fn "shows_cheapest") (aCons (eV 4) (aCons (eV 7) (aCons (eA gTuple (aCons (eV 5) aNil)) aNil)))) (eC (.bl true)))) (tV (e2 gIsNot (eCl call (.fn "is_plan") (aCons (eV 4) (aCons (eV 7) aNil))) (eC (.bl true)))))
  (sRet (eC (.bl false)))
  sNx)))))
  sNx)
  (sSeq (sIf (tOr (tV (e2 gIsNot (eCl call (.fn "are_lower") (aCons (eV 4) (aCons (eA gTuple (aCons (eV 5) aNil)) aNil))) (eC (.bl true)))) (tOr (tNot (tV (eEqO call "Task" (eV 4) (eMk call "Task" (aCons (e2 gIx (eV 3) (eC (.int 0))) (aCons (e2 gIx (eV 3) (eC (.int 1))) (aCons (e2 gIx (eV 3) (eC (.int 2))) (aCons (e2 gIx (eV 3) (eC (.int 3))) (aCons (e2 gIx (eV 3) (eC (.int 4))) aNil))))))))) (tV (eEqO call "Task" (eV 4) (eV 3)))))
  (sRet (eC (.bl false)))
  sNx)
  (sSeq (sIf (tV (eEqO call "Task" (eV 4) (eMk call "Task" (aCons (e2 gIx (eV 3) (eC (.int 0))) (aCons (e2 gIx (eV 3) (eC (.int 1))) (aCons (e2 gMulA (e2 gAddA (e2 gIx (eV 3) (eC (.int 2))) (eC (.int 1))) (eA gInt (aCons (e2 gLt (e2 gIx (eV 3) (eC (.int 2))) (eC (.int 9))) aNil))) (aCons (e2 gIx (eV 3) (eC (.int 3))) (aCons (e2 gIx (eV 3) (eC (.int 4))) aNil))))))))
  (sRet (eC (.bl false)))
  sNx)
  (sSeq (sSet 11 (eLc (itR1 (aCons (eC (.int 10)) aNil)) [12] (.nm 12) (tV (e2 gIsNot (e2 gIx (e2 gIx (eCl call (.fn "_law_tables") (aCons (e2 gAddA (e2 gAddA (eSl (eV 3) none (some (eC (.int 2)))) (eA gTup (aCons (eV 12) aNil))) (eSl (eV 3) (some (eC (.int 3))) none)) aNil)) (eC (.int 0))) (e2 gIx (eV 3) (eC (.int 4)))) (eC .non))) (eV 12)))
  (sIf (tNot (tV (eCl call (.fn "_law_alike") (aCons (eCl call (.fn "least_capacity") (aCons (e2 gIx (eV 3) (eC (.int 0))) (aCons (e2 gIx (eV 3) (eC (.int 1))) (aCons (e2 gIx (eV 3) (eC (.int 3))) (aCons (e2 gIx (eV 3) (eC (.int 4))) aNil))))) (aCons (eIf (tV (e2 gNe (eV 11) (eA gLst aNil))) (e2 gIx (eV 11) (eC (.int 0))) (eC .non)) aNil)))))
  (sRet (eC (.bl false)))
  sNx)))))))))))
  (sRet (eC (.bl true)))))
def sh_Task___init__ (call : Calls) : StM :=
  (sSeq (sSet 6 (eC (.clo 0 0 [])))
  (sSeq (sSet 7 (eCl call (.fn "first_wrong") (aCons (eV 1) (aCons (eC (.int 0)) (aCons (eC (.int 12)) (aCons (eV 6) aNil))))))
  (sSeq (sIf (tV (e2 gIsNot (eV 7) (eC .non)))
  sBad
  sNx)
  (sSeq (sSet 8 (eC (.clo 1 0 [])))
  (sSeq (sSet 7 (eCl call (.fn "first_wrong") (aCons (eV 2) (aCons (eA gLen (aCons (eV 1) aNil)) (aCons (eA gLen (aCons (eV 1) aNil)) (aCons (eV 8) aNil))))))
  (sSeq (sIf (tV (e2 gIsNot (eV 7) (eC .non)))
  sBad
  sNx)
  (sSeq (sFor (itV (eA gTup (aCons (eA gTup (aCons (eV 3) (aCons (eC (.int 9)) aNil))) (aCons (eA gTup (aCons (eV 4) (aCons (eC (.int 20)) aNil))) aNil)))) (.tp [9, 10])
  (sIf (tNot (tV (eCl call (.fn "is_within") (aCons (eV 9) (aCons (eC (.int 0)) (aCons (eV 10) aNil))))))
  sBad
  sNx))
  (sSeq (sIf (tNot (tV (eCl call (.fn "is_within") (aCons (eV 5) (aCons (eC (.int 0)) (aCons (eV 4) aNil))))))
  sBad
  sNx)
  (sSeq (sFldS fldT "rain" (eV 0) (eV 1))
  (sSeq (sFldS fldT "prices" (eV 0) (eV 2))
  (sSeq (sFldS fldT "capacity" (eV 0) (eV 3))
  (sSeq (sFldS fldT "limit" (eV 0) (eV 4))
  (sSeq (sFldS fldT "level" (eV 0) (eV 5))
  (sFldS fldT "whole" (eV 0) (eA gTup (aCons (eV 1) (aCons (eV 2) (aCons (eV 3) (aCons (eV 4) (aCons (eV 5) aNil))))))))))))))))))))
def sh_Task___eq__ (call : Calls) : StM :=
  (sRet (eAnd (eA (gIsi isaT) (aCons (eV 1) (aCons (eC (.gl "Task")) aNil))) (e2 gEq (e1 (gFld fldT "whole") (eV 0)) (e1 (gFld fldT "whole") (eV 1)))))
def she_lam0 (call : Calls) : Ev :=
  (eCl call (.fn "is_within") (aCons (eV 0) (aCons (eC (.int 0)) (aCons (eC (.int 9)) aNil))))
def she_lam1 (call : Calls) : Ev :=
  (eCl call (.fn "is_within") (aCons (eV 0) (aCons (eC (.int 0)) (aCons (eC (.int 9)) aNil))))
def tabL : List (FK × GL.FnD) := [
  (.fn "is_whole", ⟨1, 1, sh_is_whole⟩),
  (.fn "is_within", ⟨3, 3, sh_is_within⟩),
  (.fn "is_row", ⟨2, 2, sh_is_row⟩),
  (.fn "first_wrong", ⟨4, 6, sh_first_wrong⟩),
  (.fn "place_told", ⟨1, 1, sh_place_told⟩),
  (.fn "is_task", ⟨1, 1, sh_is_task⟩),
  (.fn "choices", ⟨3, 6, sh_choices⟩),
  (.fn "least_of", ⟨1, 3, sh_least_of⟩),
  (.fn "row_of", ⟨3, 8, sh_row_of⟩),
  (.fn "tables_of", ⟨1, 3, sh_tables_of⟩),
  (.fn "tables", ⟨1, 1, sh_tables⟩),
  (.fn "least_price", ⟨1, 1, sh_least_price⟩),
  (.fn "plan", ⟨1, 7, sh_plan⟩),
  (.fn "levels_of", ⟨2, 6, sh_levels_of⟩),
  (.fn "is_plan", ⟨2, 2, sh_is_plan⟩),
  (.fn "price_of", ⟨2, 4, sh_price_of⟩),
  (.fn "is_entry", ⟨1, 1, sh_is_entry⟩),
  (.fn "has_form", ⟨2, 4, sh_has_form⟩),
  (.fn "is_lower_entry", ⟨4, 8, sh_is_lower_entry⟩),
  (.fn "are_lower", ⟨2, 6, sh_are_lower⟩),
  (.fn "shows_cheapest", ⟨3, 3, sh_shows_cheapest⟩),
  (.fn "least_capacity", ⟨4, 5, sh_least_capacity⟩),
  (.fn "_law_taken", ⟨2, 4, sh__law_taken⟩),
  (.fn "_law_pick", ⟨2, 2, sh__law_pick⟩),
  (.fn "_law_alike", ⟨2, 3, sh__law_alike⟩),
  (.fn "_law_task", ⟨2, 7, sh__law_task⟩),
  (.fn "_law_tables", ⟨1, 13, sh__law_tables⟩),
  (.fn "law", ⟨1, 13, sh_law⟩),
  (.me "Task" "__init__", ⟨6, 11, sh_Task___init__⟩),
  (.me "Task" "__eq__", ⟨2, 2, sh_Task___eq__⟩),
  (.la 0 0, ⟨2, 2, fun call => sRet (she_lam0 call)⟩),
  (.la 1 0, ⟨2, 2, fun call => sRet (she_lam1 call)⟩)]
def tab (k : FK) : Option GL.FnD := tabL.lookup k
theorem tab_is_whole : tab (.fn "is_whole") = some ⟨1, 1, sh_is_whole⟩ := by kernel_rfl
theorem cn_is_whole (n : Nat) (gs : List G) (S : Sto) (h : gs.length = 1) : callN tab (n + 1) (.fn "is_whole") gs S = bodyR (sh_is_whole (callN tab n) (lo0 1 gs) S) := callN_eq tab_is_whole n gs S h
theorem tab_is_within : tab (.fn "is_within") = some ⟨3, 3, sh_is_within⟩ := by kernel_rfl
theorem cn_is_within (n : Nat) (gs : List G) (S : Sto) (h : gs.length = 3) : callN tab (n + 1) (.fn "is_within") gs S = bodyR (sh_is_within (callN tab n) (lo0 3 gs) S) := callN_eq tab_is_within n gs S h
theorem tab_is_row : tab (.fn "is_row") = some ⟨2, 2, sh_is_row⟩ := by kernel_rfl
theorem cn_is_row (n : Nat) (gs : List G) (S : Sto) (h : gs.length = 2) : callN tab (n + 1) (.fn "is_row") gs S = bodyR (sh_is_row (callN tab n) (lo0 2 gs) S) := callN_eq tab_is_row n gs S h
theorem tab_first_wrong : tab (.fn "first_wrong") = some ⟨4, 6, sh_first_wrong⟩ := by kernel_rfl
theorem cn_first_wrong (n : Nat) (gs : List G) (S : Sto) (h : gs.length = 4) : callN tab (n + 1) (.fn "first_wrong") gs S = bodyR (sh_first_wrong (callN tab n) (lo0 6 gs) S) := callN_eq tab_first_wrong n gs S h
theorem tab_place_told : tab (.fn "place_told") = some ⟨1, 1, sh_place_told⟩ := by kernel_rfl
theorem cn_place_told (n : Nat) (gs : List G) (S : Sto) (h : gs.length = 1) : callN tab (n + 1) (.fn "place_told") gs S = bodyR (sh_place_told (callN tab n) (lo0 1 gs) S) := callN_eq tab_place_told n gs S h
theorem tab_is_task : tab (.fn "is_task") = some ⟨1, 1, sh_is_task⟩ := by kernel_rfl
theorem cn_is_task (n : Nat) (gs : List G) (S : Sto) (h : gs.length = 1) : callN tab (n + 1) (.fn "is_task") gs S = bodyR (sh_is_task (callN tab n) (lo0 1 gs) S) := callN_eq tab_is_task n gs S h
theorem tab_choices : tab (.fn "choices") = some ⟨3, 6, sh_choices⟩ := by kernel_rfl
theorem cn_choices (n : Nat) (gs : List G) (S : Sto) (h : gs.length = 3) : callN tab (n + 1) (.fn "choices") gs S = bodyR (sh_choices (callN tab n) (lo0 6 gs) S) := callN_eq tab_choices n gs S h
theorem tab_least_of : tab (.fn "least_of") = some ⟨1, 3, sh_least_of⟩ := by kernel_rfl
theorem cn_least_of (n : Nat) (gs : List G) (S : Sto) (h : gs.length = 1) : callN tab (n + 1) (.fn "least_of") gs S = bodyR (sh_least_of (callN tab n) (lo0 3 gs) S) := callN_eq tab_least_of n gs S h
theorem tab_row_of : tab (.fn "row_of") = some ⟨3, 8, sh_row_of⟩ := by kernel_rfl
theorem cn_row_of (n : Nat) (gs : List G) (S : Sto) (h : gs.length = 3) : callN tab (n + 1) (.fn "row_of") gs S = bodyR (sh_row_of (callN tab n) (lo0 8 gs) S) := callN_eq tab_row_of n gs S h
theorem tab_tables_of : tab (.fn "tables_of") = some ⟨1, 3, sh_tables_of⟩ := by kernel_rfl
theorem cn_tables_of (n : Nat) (gs : List G) (S : Sto) (h : gs.length = 1) : callN tab (n + 1) (.fn "tables_of") gs S = bodyR (sh_tables_of (callN tab n) (lo0 3 gs) S) := callN_eq tab_tables_of n gs S h
theorem tab_tables : tab (.fn "tables") = some ⟨1, 1, sh_tables⟩ := by kernel_rfl
theorem cn_tables (n : Nat) (gs : List G) (S : Sto) (h : gs.length = 1) : callN tab (n + 1) (.fn "tables") gs S = bodyR (sh_tables (callN tab n) (lo0 1 gs) S) := callN_eq tab_tables n gs S h
theorem tab_least_price : tab (.fn "least_price") = some ⟨1, 1, sh_least_price⟩ := by kernel_rfl
theorem cn_least_price (n : Nat) (gs : List G) (S : Sto) (h : gs.length = 1) : callN tab (n + 1) (.fn "least_price") gs S = bodyR (sh_least_price (callN tab n) (lo0 1 gs) S) := callN_eq tab_least_price n gs S h
theorem tab_plan : tab (.fn "plan") = some ⟨1, 7, sh_plan⟩ := by kernel_rfl
theorem cn_plan (n : Nat) (gs : List G) (S : Sto) (h : gs.length = 1) : callN tab (n + 1) (.fn "plan") gs S = bodyR (sh_plan (callN tab n) (lo0 7 gs) S) := callN_eq tab_plan n gs S h
theorem tab_levels_of : tab (.fn "levels_of") = some ⟨2, 6, sh_levels_of⟩ := by kernel_rfl
theorem cn_levels_of (n : Nat) (gs : List G) (S : Sto) (h : gs.length = 2) : callN tab (n + 1) (.fn "levels_of") gs S = bodyR (sh_levels_of (callN tab n) (lo0 6 gs) S) := callN_eq tab_levels_of n gs S h
theorem tab_is_plan : tab (.fn "is_plan") = some ⟨2, 2, sh_is_plan⟩ := by kernel_rfl
theorem cn_is_plan (n : Nat) (gs : List G) (S : Sto) (h : gs.length = 2) : callN tab (n + 1) (.fn "is_plan") gs S = bodyR (sh_is_plan (callN tab n) (lo0 2 gs) S) := callN_eq tab_is_plan n gs S h
theorem tab_price_of : tab (.fn "price_of") = some ⟨2, 4, sh_price_of⟩ := by kernel_rfl
theorem cn_price_of (n : Nat) (gs : List G) (S : Sto) (h : gs.length = 2) : callN tab (n + 1) (.fn "price_of") gs S = bodyR (sh_price_of (callN tab n) (lo0 4 gs) S) := callN_eq tab_price_of n gs S h
theorem tab_is_entry : tab (.fn "is_entry") = some ⟨1, 1, sh_is_entry⟩ := by kernel_rfl
theorem cn_is_entry (n : Nat) (gs : List G) (S : Sto) (h : gs.length = 1) : callN tab (n + 1) (.fn "is_entry") gs S = bodyR (sh_is_entry (callN tab n) (lo0 1 gs) S) := callN_eq tab_is_entry n gs S h
theorem tab_has_form : tab (.fn "has_form") = some ⟨2, 4, sh_has_form⟩ := by kernel_rfl
theorem cn_has_form (n : Nat) (gs : List G) (S : Sto) (h : gs.length = 2) : callN tab (n + 1) (.fn "has_form") gs S = bodyR (sh_has_form (callN tab n) (lo0 4 gs) S) := callN_eq tab_has_form n gs S h
theorem tab_is_lower_entry : tab (.fn "is_lower_entry") = some ⟨4, 8, sh_is_lower_entry⟩ := by kernel_rfl
theorem cn_is_lower_entry (n : Nat) (gs : List G) (S : Sto) (h : gs.length = 4) : callN tab (n + 1) (.fn "is_lower_entry") gs S = bodyR (sh_is_lower_entry (callN tab n) (lo0 8 gs) S) := callN_eq tab_is_lower_entry n gs S h
theorem tab_are_lower : tab (.fn "are_lower") = some ⟨2, 6, sh_are_lower⟩ := by kernel_rfl
theorem cn_are_lower (n : Nat) (gs : List G) (S : Sto) (h : gs.length = 2) : callN tab (n + 1) (.fn "are_lower") gs S = bodyR (sh_are_lower (callN tab n) (lo0 6 gs) S) := callN_eq tab_are_lower n gs S h
theorem tab_shows_cheapest : tab (.fn "shows_cheapest") = some ⟨3, 3, sh_shows_cheapest⟩ := by kernel_rfl
theorem cn_shows_cheapest (n : Nat) (gs : List G) (S : Sto) (h : gs.length = 3) : callN tab (n + 1) (.fn "shows_cheapest") gs S = bodyR (sh_shows_cheapest (callN tab n) (lo0 3 gs) S) := callN_eq tab_shows_cheapest n gs S h
theorem tab_least_capacity : tab (.fn "least_capacity") = some ⟨4, 5, sh_least_capacity⟩ := by kernel_rfl
theorem cn_least_capacity (n : Nat) (gs : List G) (S : Sto) (h : gs.length = 4) : callN tab (n + 1) (.fn "least_capacity") gs S = bodyR (sh_least_capacity (callN tab n) (lo0 5 gs) S) := callN_eq tab_least_capacity n gs S h
theorem tab__law_taken : tab (.fn "_law_taken") = some ⟨2, 4, sh__law_taken⟩ := by kernel_rfl
theorem cn__law_taken (n : Nat) (gs : List G) (S : Sto) (h : gs.length = 2) : callN tab (n + 1) (.fn "_law_taken") gs S = bodyR (sh__law_taken (callN tab n) (lo0 4 gs) S) := callN_eq tab__law_taken n gs S h
theorem tab__law_pick : tab (.fn "_law_pick") = some ⟨2, 2, sh__law_pick⟩ := by kernel_rfl
theorem cn__law_pick (n : Nat) (gs : List G) (S : Sto) (h : gs.length = 2) : callN tab (n + 1) (.fn "_law_pick") gs S = bodyR (sh__law_pick (callN tab n) (lo0 2 gs) S) := callN_eq tab__law_pick n gs S h
theorem tab__law_alike : tab (.fn "_law_alike") = some ⟨2, 3, sh__law_alike⟩ := by kernel_rfl
theorem cn__law_alike (n : Nat) (gs : List G) (S : Sto) (h : gs.length = 2) : callN tab (n + 1) (.fn "_law_alike") gs S = bodyR (sh__law_alike (callN tab n) (lo0 3 gs) S) := callN_eq tab__law_alike n gs S h
theorem tab__law_task : tab (.fn "_law_task") = some ⟨2, 7, sh__law_task⟩ := by kernel_rfl
theorem cn__law_task (n : Nat) (gs : List G) (S : Sto) (h : gs.length = 2) : callN tab (n + 1) (.fn "_law_task") gs S = bodyR (sh__law_task (callN tab n) (lo0 7 gs) S) := callN_eq tab__law_task n gs S h
theorem tab__law_tables : tab (.fn "_law_tables") = some ⟨1, 13, sh__law_tables⟩ := by kernel_rfl
theorem cn__law_tables (n : Nat) (gs : List G) (S : Sto) (h : gs.length = 1) : callN tab (n + 1) (.fn "_law_tables") gs S = bodyR (sh__law_tables (callN tab n) (lo0 13 gs) S) := callN_eq tab__law_tables n gs S h
theorem tab_law : tab (.fn "law") = some ⟨1, 13, sh_law⟩ := by kernel_rfl
theorem cn_law (n : Nat) (gs : List G) (S : Sto) (h : gs.length = 1) : callN tab (n + 1) (.fn "law") gs S = bodyR (sh_law (callN tab n) (lo0 13 gs) S) := callN_eq tab_law n gs S h
theorem tab_Task___init__ : tab (.me "Task" "__init__") = some ⟨6, 11, sh_Task___init__⟩ := by kernel_rfl
theorem cn_Task___init__ (n : Nat) (gs : List G) (S : Sto) (h : gs.length = 6) : callN tab (n + 1) (.me "Task" "__init__") gs S = bodyR (sh_Task___init__ (callN tab n) (lo0 11 gs) S) := callN_eq tab_Task___init__ n gs S h
theorem tab_Task___eq__ : tab (.me "Task" "__eq__") = some ⟨2, 2, sh_Task___eq__⟩ := by kernel_rfl
theorem cn_Task___eq__ (n : Nat) (gs : List G) (S : Sto) (h : gs.length = 2) : callN tab (n + 1) (.me "Task" "__eq__") gs S = bodyR (sh_Task___eq__ (callN tab n) (lo0 2 gs) S) := callN_eq tab_Task___eq__ n gs S h
theorem tab_lam0 : tab (.la 0 0) = some ⟨2, 2, fun call => sRet (she_lam0 call)⟩ := by kernel_rfl
theorem cn_lam0 (n : Nat) (gs : List G) (S : Sto) (h : gs.length = 2) : callN tab (n + 1) (.la 0 0) gs S = bodyR (sRet (she_lam0 (callN tab n)) (lo0 2 gs) S) := callN_eq tab_lam0 n gs S h
theorem tab_lam1 : tab (.la 1 0) = some ⟨2, 2, fun call => sRet (she_lam1 call)⟩ := by kernel_rfl
theorem cn_lam1 (n : Nat) (gs : List G) (S : Sto) (h : gs.length = 2) : callN tab (n + 1) (.la 1 0) gs S = bodyR (sRet (she_lam1 (callN tab n)) (lo0 2 gs) S) := callN_eq tab_lam1 n gs S h
end
end Lk14

end

section
set_option Elab.async false
set_option linter.all false
set_option maxRecDepth 100000
set_option maxHeartbeats 4000000
namespace Lk14
open PySem GL
variable {n : Nat} {S : Sto}
theorem isi_int_int (i : Int) : gIsi isaT [.int i, .ty "int"] S = some (.bl true) := rfl
theorem isi_int_bool (i : Int) : gIsi isaT [.int i, .ty "bool"] S = some (.bl false) := rfl
theorem isi_non_int : gIsi isaT [.non, .ty "int"] S = some (.bl false) := rfl
theorem isi_tup_tuple (l : List G) : gIsi isaT [.tup l, .ty "tuple"] S = some (.bl true) := rfl
theorem is_whole_eq (i : Int) : callN tab (n + 1) (.fn "is_whole") [.int i] S = .ok (.bl true) S := by
  rw [cn_is_whole n _ _ rfl]
  simp [nG, sSeq, sSet, sRet, sRetN, sIf, sDrop, sNx, sBrk, sPar, sTg, sr_ok, rb_ok, ro_ok, so_ok, e1, e2, eA, eCl, eV, eC, eAnd, eOr, eNot, eIf, eCh, tV, tNot, tAnd, tOr, tYes, bof_bl, aNil, aCons, tgSet, setAll, lo0, bodyR_nx, bodyR_rt, R.wp_ok, SR.wp_nx, SR.wp_rt, SR.wp_bk, gAddA, gAdd, gSub, gLe, gLt, gGt, gGe, is_non, is_int, is_tup, is_bl, isn_non, isn_int, isn_tup, isn_bl, is_o, isn_o, gNeg, gTup1, gTup2, gTup3, gTup4, gTup5, gLst0, gLst1, gLst2, gLst3, eLstA0, List.length_cons, List.length_nil, List.map_cons, List.map_nil, List.cons_append, List.nil_append, List.replicate, Nat.sub_self, Nat.reduceSub, Nat.reduceAdd, List.getElem?_cons_zero, List.getElem?_cons_succ, List.set_cons_zero, List.set_cons_succ, Option.map_some, Bool.not_true, Bool.not_false, ite_true, ite_false, if_true, if_false, Bool.false_eq_true, gEq_int, gNe_int, gEq_bl, gNe_bl, gEq_non, gNe_non, List.isEmpty_cons, List.isEmpty_nil, sh_is_whole, isi_int_int, isi_int_bool]
theorem is_within_eq (i a b : Int) : callN tab (n + 2) (.fn "is_within") [.int i, .int a, .int b] S = .ok (.bl (decide (a ≤ i ∧ i ≤ b))) S := by
  rw [cn_is_within (n + 1) _ _ rfl]
  simp [nG, sSeq, sSet, sRet, sRetN, sIf, sDrop, sNx, sBrk, sPar, sTg, sr_ok, rb_ok, ro_ok, so_ok, e1, e2, eA, eCl, eV, eC, eAnd, eOr, eNot, eIf, eCh, tV, tNot, tAnd, tOr, tYes, bof_bl, aNil, aCons, tgSet, setAll, lo0, bodyR_nx, bodyR_rt, R.wp_ok, SR.wp_nx, SR.wp_rt, SR.wp_bk, gAddA, gAdd, gSub, gLe, gLt, gGt, gGe, is_non, is_int, is_tup, is_bl, isn_non, isn_int, isn_tup, isn_bl, is_o, isn_o, gNeg, gTup1, gTup2, gTup3, gTup4, gTup5, gLst0, gLst1, gLst2, gLst3, eLstA0, List.length_cons, List.length_nil, List.map_cons, List.map_nil, List.cons_append, List.nil_append, List.replicate, Nat.sub_self, Nat.reduceSub, Nat.reduceAdd, List.getElem?_cons_zero, List.getElem?_cons_succ, List.set_cons_zero, List.set_cons_succ, Option.map_some, Bool.not_true, Bool.not_false, ite_true, ite_false, if_true, if_false, Bool.false_eq_true, gEq_int, gNe_int, gEq_bl, gNe_bl, gEq_non, gNe_non, List.isEmpty_cons, List.isEmpty_nil, sh_is_within, is_whole_eq]
  by_cases h : a ≤ i <;> simp [h, nG, sSeq, sSet, sRet, sRetN, sIf, sDrop, sNx, sBrk, sPar, sTg, sr_ok, rb_ok, ro_ok, so_ok, e1, e2, eA, eCl, eV, eC, eAnd, eOr, eNot, eIf, eCh, tV, tNot, tAnd, tOr, tYes, bof_bl, aNil, aCons, tgSet, setAll, lo0, bodyR_nx, bodyR_rt, R.wp_ok, SR.wp_nx, SR.wp_rt, SR.wp_bk, gAddA, gAdd, gSub, gLe, gLt, gGt, gGe, is_non, is_int, is_tup, is_bl, isn_non, isn_int, isn_tup, isn_bl, is_o, isn_o, gNeg, gTup1, gTup2, gTup3, gTup4, gTup5, gLst0, gLst1, gLst2, gLst3, eLstA0, List.length_cons, List.length_nil, List.map_cons, List.map_nil, List.cons_append, List.nil_append, List.replicate, Nat.sub_self, Nat.reduceSub, Nat.reduceAdd, List.getElem?_cons_zero, List.getElem?_cons_succ, List.set_cons_zero, List.set_cons_succ, Option.map_some, Bool.not_true, Bool.not_false, ite_true, ite_false, if_true, if_false, Bool.false_eq_true, gEq_int, gNe_int, gEq_bl, gNe_bl, gEq_non, gNe_non, List.isEmpty_cons, List.isEmpty_nil]
theorem is_row_eq (l : List G) (k : Int) : callN tab (n + 1) (.fn "is_row") [.tup l, .int k] S = .ok (.bl (decide ((l.length : Int) = k))) S := by
  rw [cn_is_row n _ _ rfl]
  simp [nG, sSeq, sSet, sRet, sRetN, sIf, sDrop, sNx, sBrk, sPar, sTg, sr_ok, rb_ok, ro_ok, so_ok, e1, e2, eA, eCl, eV, eC, eAnd, eOr, eNot, eIf, eCh, tV, tNot, tAnd, tOr, tYes, bof_bl, aNil, aCons, tgSet, setAll, lo0, bodyR_nx, bodyR_rt, R.wp_ok, SR.wp_nx, SR.wp_rt, SR.wp_bk, gAddA, gAdd, gSub, gLe, gLt, gGt, gGe, is_non, is_int, is_tup, is_bl, isn_non, isn_int, isn_tup, isn_bl, is_o, isn_o, gNeg, gTup1, gTup2, gTup3, gTup4, gTup5, gLst0, gLst1, gLst2, gLst3, eLstA0, List.length_cons, List.length_nil, List.map_cons, List.map_nil, List.cons_append, List.nil_append, List.replicate, Nat.sub_self, Nat.reduceSub, Nat.reduceAdd, List.getElem?_cons_zero, List.getElem?_cons_succ, List.set_cons_zero, List.set_cons_succ, Option.map_some, Bool.not_true, Bool.not_false, ite_true, ite_false, if_true, if_false, Bool.false_eq_true, gEq_int, gNe_int, gEq_bl, gNe_bl, gEq_non, gNe_non, List.isEmpty_cons, List.isEmpty_nil, sh_is_row, isi_tup_tuple, gLen, seqG, gEq]
structure Tk where
  rain : List Nat
  prices : List Nat
  cap : Nat
  lim : Nat
  lvl : Nat
structure Tk.Ok (t : Tk) : Prop where
  len : t.prices.length = t.rain.length
  most : t.rain.length ≤ 12
  rain : ∀ r ∈ t.rain, r ≤ 9
  prices : ∀ r ∈ t.prices, r ≤ 9
  cap : t.cap ≤ 9
  lim : t.lim ≤ 20
  lvl : t.lvl ≤ t.lim
def nsG (l : List Nat) : G := .tup (l.map nG)
def Tk.parts (t : Tk) : G := .tup [nsG t.rain, nsG t.prices, nG t.cap, nG t.lim, nG t.lvl]
structure At (S : Sto) (o : Nat) (t : Tk) : Prop where
  rain : gFld fldT "rain" (.ref o) S = some (nsG t.rain)
  prices : gFld fldT "prices" (.ref o) S = some (nsG t.prices)
  cap : gFld fldT "capacity" (.ref o) S = some (nG t.cap)
  lim : gFld fldT "limit" (.ref o) S = some (nG t.lim)
  lvl : gFld fldT "level" (.ref o) S = some (nG t.lvl)
  whole : gFld fldT "whole" (.ref o) S = some t.parts
  isa : ∃ fs, S[o]? = some (.ins "Task" fs)
theorem gFld_grow {S S' : Sto} {f : Str} {o : Nat} {g : G} (h : Grow S S') (e : gFld fldT f (.ref o) S = some g) : gFld fldT f (.ref o) S' = some g := by
  unfold gFld at e ⊢
  dsimp only at e ⊢
  cases q : S[o]? with
  | none => rw [q] at e; cases e
  | some x => rw [q] at e; rw [h.get q]; exact e
theorem At.grow {S S' : Sto} {o : Nat} {t : Tk} (a : At S o t) (h : Grow S S') : At S' o t :=
  ⟨gFld_grow h a.rain, gFld_grow h a.prices, gFld_grow h a.cap, gFld_grow h a.lim, gFld_grow h a.lvl, gFld_grow h a.whole, let ⟨fs, e⟩ := a.isa; ⟨fs, h.get e⟩⟩
/-- the choices at a water -/
def chs (t : Tk) (w : Nat) : List Nat := (List.range (min t.cap w + 1)).filter fun m => decide (w - m ≤ t.lim)
def chG (w m : Nat) : G := .tup [nG m, nG (w - m)]
theorem ixn {l : List Nat} {k : Nat} {r : Nat} (h : l[k]? = some r) : gIx (nsG l) (.int (k : Nat)) S = some (.int (r : Nat)) := by
  unfold nsG
  exact ix_tup (by rw [List.getElem?_map, h]; rfl)
theorem choices_eq {t : Tk} {o k w r : Nat} (ok : t.Ok) (a : At S o t) (hr : t.rain[k]? = some r) : callN tab (n + 1) (.fn "choices") [.ref o, .int (k : Nat), .int (w : Nat)] S = .ok (.tl ((chs t (w + r)).map (chG (w + r)))) S := by
  rw [cn_choices n _ _ rfl]
  have hr9 := ok.rain r (List.mem_of_getElem? hr)
  have hc := ok.cap
  have hm : (w : Int) + (r : Int) = ((w + r : Nat) : Int) := by omega
  simp only [nG, sSeq, sSet, sRet, sRetN, sIf, sDrop, sNx, sBrk, sPar, sTg, sr_ok, rb_ok, ro_ok, so_ok, e1, e2, eA, eCl, eV, eC, eAnd, eOr, eNot, eIf, eCh, tV, tNot, tAnd, tOr, tYes, bof_bl, aNil, aCons, tgSet, setAll, lo0, bodyR_nx, bodyR_rt, R.wp_ok, SR.wp_nx, SR.wp_rt, SR.wp_bk, gAddA, gAdd, gSub, gLe, gLt, gGt, gGe, is_non, is_int, is_tup, is_bl, isn_non, isn_int, isn_tup, isn_bl, is_o, isn_o, gNeg, gTup1, gTup2, gTup3, gTup4, gTup5, gLst0, gLst1, gLst2, gLst3, eLstA0, List.length_cons, List.length_nil, List.map_cons, List.map_nil, List.cons_append, List.nil_append, List.replicate, Nat.sub_self, Nat.reduceSub, Nat.reduceAdd, List.getElem?_cons_zero, List.getElem?_cons_succ, List.set_cons_zero, List.set_cons_succ, Option.map_some, Bool.not_true, Bool.not_false, ite_true, ite_false, if_true, if_false, Bool.false_eq_true, gEq_int, gNe_int, gEq_bl, gNe_bl, gEq_non, gNe_non, List.isEmpty_cons, List.isEmpty_nil, sh_choices, a.rain, a.cap, ixn hr, hm, gMin_nat]
  rw [eLc_map (c := nG) (L := List.range (min t.cap (w + r) + 1)) (p := fun m => decide (w + r - m ≤ t.lim)) (f := chG (w + r)) (itR1_nat (by simp [nG, sSeq, sSet, sRet, sRetN, sIf, sDrop, sNx, sBrk, sPar, sTg, sr_ok, rb_ok, ro_ok, so_ok, e1, e2, eA, eCl, eV, eC, eAnd, eOr, eNot, eIf, eCh, tV, tNot, tAnd, tOr, tYes, bof_bl, aNil, aCons, tgSet, setAll, lo0, bodyR_nx, bodyR_rt, R.wp_ok, SR.wp_nx, SR.wp_rt, SR.wp_bk, gAddA, gAdd, gSub, gLe, gLt, gGt, gGe, is_non, is_int, is_tup, is_bl, isn_non, isn_int, isn_tup, isn_bl, is_o, isn_o, gNeg, gTup1, gTup2, gTup3, gTup4, gTup5, gLst0, gLst1, gLst2, gLst3, eLstA0, List.length_cons, List.length_nil, List.map_cons, List.map_nil, List.cons_append, List.nil_append, List.replicate, Nat.sub_self, Nat.reduceSub, Nat.reduceAdd, List.getElem?_cons_zero, List.getElem?_cons_succ, List.set_cons_zero, List.set_cons_succ, Option.map_some, Bool.not_true, Bool.not_false, ite_true, ite_false, if_true, if_false, Bool.false_eq_true, gEq_int, gNe_int, gEq_bl, gNe_bl, gEq_non, gNe_non, List.isEmpty_cons, List.isEmpty_nil]) (by omega)) fun m hm => ?_]
  rotate_left
  · have : m < min t.cap (w + r) + 1 := List.mem_range.mp hm
    have e : ((w + r : Nat) : Int) - m = ((w + r - m : Nat) : Int) := by omega
    refine ⟨_, rfl, ?_, fun _ => ?_⟩
    · simp only [nG, sSeq, sSet, sRet, sRetN, sIf, sDrop, sNx, sBrk, sPar, sTg, sr_ok, rb_ok, ro_ok, so_ok, e1, e2, eA, eCl, eV, eC, eAnd, eOr, eNot, eIf, eCh, tV, tNot, tAnd, tOr, tYes, bof_bl, aNil, aCons, tgSet, setAll, lo0, bodyR_nx, bodyR_rt, R.wp_ok, SR.wp_nx, SR.wp_rt, SR.wp_bk, gAddA, gAdd, gSub, gLe, gLt, gGt, gGe, is_non, is_int, is_tup, is_bl, isn_non, isn_int, isn_tup, isn_bl, is_o, isn_o, gNeg, gTup1, gTup2, gTup3, gTup4, gTup5, gLst0, gLst1, gLst2, gLst3, eLstA0, List.length_cons, List.length_nil, List.map_cons, List.map_nil, List.cons_append, List.nil_append, List.replicate, Nat.sub_self, Nat.reduceSub, Nat.reduceAdd, List.getElem?_cons_zero, List.getElem?_cons_succ, List.set_cons_zero, List.set_cons_succ, Option.map_some, Bool.not_true, Bool.not_false, ite_true, ite_false, if_true, if_false, Bool.false_eq_true, gEq_int, gNe_int, gEq_bl, gNe_bl, gEq_non, gNe_non, List.isEmpty_cons, List.isEmpty_nil, wipeL, a.lim, e]
      simp
    · simp only [nG, sSeq, sSet, sRet, sRetN, sIf, sDrop, sNx, sBrk, sPar, sTg, sr_ok, rb_ok, ro_ok, so_ok, e1, e2, eA, eCl, eV, eC, eAnd, eOr, eNot, eIf, eCh, tV, tNot, tAnd, tOr, tYes, bof_bl, aNil, aCons, tgSet, setAll, lo0, bodyR_nx, bodyR_rt, R.wp_ok, SR.wp_nx, SR.wp_rt, SR.wp_bk, gAddA, gAdd, gSub, gLe, gLt, gGt, gGe, is_non, is_int, is_tup, is_bl, isn_non, isn_int, isn_tup, isn_bl, is_o, isn_o, gNeg, gTup1, gTup2, gTup3, gTup4, gTup5, gLst0, gLst1, gLst2, gLst3, eLstA0, List.length_cons, List.length_nil, List.map_cons, List.map_nil, List.cons_append, List.nil_append, List.replicate, Nat.sub_self, Nat.reduceSub, Nat.reduceAdd, List.getElem?_cons_zero, List.getElem?_cons_succ, List.set_cons_zero, List.set_cons_succ, Option.map_some, Bool.not_true, Bool.not_false, ite_true, ite_false, if_true, if_false, Bool.false_eq_true, gEq_int, gNe_int, gEq_bl, gNe_bl, gEq_non, gNe_non, List.isEmpty_cons, List.isEmpty_nil, wipeL, chG, e]
  simp only [nG, sSeq, sSet, sRet, sRetN, sIf, sDrop, sNx, sBrk, sPar, sTg, sr_ok, rb_ok, ro_ok, so_ok, e1, e2, eA, eCl, eV, eC, eAnd, eOr, eNot, eIf, eCh, tV, tNot, tAnd, tOr, tYes, bof_bl, aNil, aCons, tgSet, setAll, lo0, bodyR_nx, bodyR_rt, R.wp_ok, SR.wp_nx, SR.wp_rt, SR.wp_bk, gAddA, gAdd, gSub, gLe, gLt, gGt, gGe, is_non, is_int, is_tup, is_bl, isn_non, isn_int, isn_tup, isn_bl, is_o, isn_o, gNeg, gTup1, gTup2, gTup3, gTup4, gTup5, gLst0, gLst1, gLst2, gLst3, eLstA0, List.length_cons, List.length_nil, List.map_cons, List.map_nil, List.cons_append, List.nil_append, List.replicate, Nat.sub_self, Nat.reduceSub, Nat.reduceAdd, List.getElem?_cons_zero, List.getElem?_cons_succ, List.set_cons_zero, List.set_cons_succ, Option.map_some, Bool.not_true, Bool.not_false, ite_true, ite_false, if_true, if_false, Bool.false_eq_true, gEq_int, gNe_int, gEq_bl, gNe_bl, gEq_non, gNe_non, List.isEmpty_cons, List.isEmpty_nil, chs]
def leastO (l : List (Option Int)) : Option Int := leastI (l.filterMap id)
theorem least_of_eq {o : Nat} {w : Bool} {l : List (Option Int)} (hS : S[o]? = some (.lst w (l.map oG))) (hl : l.length ≤ 1000) : callN tab (n + 1) (.fn "least_of") [.ref o] S = .ok (oG (leastO l)) S := by
  rw [cn_least_of n _ _ rfl]
  have hn : ∀ x : Option Int, gIsNot (oG x) .non S = some (.bl x.isSome) := fun x => by cases x <;> rfl
  have hm : ((l.filter fun x => x.isSome).map oG) = (l.filterMap id).map iG := by
    clear hS hl
    induction l with
    | nil => rfl
    | cons x l ih => cases x with
      | none => simpa using ih
      | some v => simpa [oG, iG] using ih
  have hmin : ∀ z : List Int, gMin [.tl (z.map iG)] S = (leastI z).map .int := fun z => by
    show (intsG (z.map iG)).bind _ = _
    rw [intsG_map]; rfl
  refine R_ok_of ?_
  unfold sh_least_of
  refine wp_seq (wp_set ?_)
  rw [eLc_dyn (o := o) (c := oG) (L := l) (p := fun x => x.isSome) (f := oG) (by simp only [nG, sSet, sRet, sRetN, sIf, sDrop, sNx, sBrk, sPar, sTg, sr_ok, rb_ok, ro_ok, so_ok, e1, e2, eA, eCl, eV, eC, eAnd, eOr, eNot, eIf, eCh, tV, tNot, tAnd, tOr, tYes, bof_bl, aNil, aCons, tgSet, setAll, lo0, bodyR_nx, bodyR_rt, R.wp_ok, SR.wp_nx, SR.wp_rt, SR.wp_bk, gAddA, gAdd, gSub, gLe, gLt, gGt, gGe, is_non, is_int, is_tup, is_bl, isn_non, isn_int, isn_tup, isn_bl, is_o, isn_o, gNeg, gTup1, gTup2, gTup3, gTup4, gTup5, gLst0, gLst1, gLst2, gLst3, eLstA0, List.length_cons, List.length_nil, List.map_cons, List.map_nil, List.cons_append, List.nil_append, List.replicate, Nat.sub_self, Nat.reduceSub, Nat.reduceAdd, List.getElem?_cons_zero, List.getElem?_cons_succ, List.set_cons_zero, List.set_cons_succ, Option.map_some, Bool.not_true, Bool.not_false, ite_true, ite_false, if_true, if_false, Bool.false_eq_true, gEq_int, gNe_int, gEq_bl, gNe_bl, gEq_non, gNe_non, List.isEmpty_cons, List.isEmpty_nil, itV, lst_of hS]) (lst_of hS) (by omega) fun x hx => ⟨_, rfl, by simp only [nG, sSeq, sSet, sRet, sRetN, sIf, sDrop, sNx, sBrk, sPar, sTg, sr_ok, rb_ok, ro_ok, so_ok, e1, e2, eA, eCl, eV, eC, eAnd, eOr, eNot, eIf, eCh, tV, tNot, tAnd, tOr, tYes, bof_bl, aNil, aCons, tgSet, setAll, lo0, bodyR_nx, bodyR_rt, R.wp_ok, SR.wp_nx, SR.wp_rt, SR.wp_bk, gAddA, gAdd, gSub, gLe, gLt, gGt, gGe, is_non, is_int, is_tup, is_bl, isn_non, isn_int, isn_tup, isn_bl, is_o, isn_o, gNeg, gTup1, gTup2, gTup3, gTup4, gTup5, gLst0, gLst1, gLst2, gLst3, eLstA0, List.length_cons, List.length_nil, List.map_cons, List.map_nil, List.cons_append, List.nil_append, List.replicate, Nat.sub_self, Nat.reduceSub, Nat.reduceAdd, List.getElem?_cons_zero, List.getElem?_cons_succ, List.set_cons_zero, List.set_cons_succ, Option.map_some, Bool.not_true, Bool.not_false, ite_true, ite_false, if_true, if_false, Bool.false_eq_true, gEq_int, gNe_int, gEq_bl, gNe_bl, gEq_non, gNe_non, List.isEmpty_cons, List.isEmpty_nil, wipeL], fun _ => by simp only [nG, sSeq, sSet, sRet, sRetN, sIf, sDrop, sNx, sBrk, sPar, sTg, sr_ok, rb_ok, ro_ok, so_ok, e1, e2, eA, eCl, eV, eC, eAnd, eOr, eNot, eIf, eCh, tV, tNot, tAnd, tOr, tYes, bof_bl, aNil, aCons, tgSet, setAll, lo0, bodyR_nx, bodyR_rt, R.wp_ok, SR.wp_nx, SR.wp_rt, SR.wp_bk, gAddA, gAdd, gSub, gLe, gLt, gGt, gGe, is_non, is_int, is_tup, is_bl, isn_non, isn_int, isn_tup, isn_bl, is_o, isn_o, gNeg, gTup1, gTup2, gTup3, gTup4, gTup5, gLst0, gLst1, gLst2, gLst3, eLstA0, List.length_cons, List.length_nil, List.map_cons, List.map_nil, List.cons_append, List.nil_append, List.replicate, Nat.sub_self, Nat.reduceSub, Nat.reduceAdd, List.getElem?_cons_zero, List.getElem?_cons_succ, List.set_cons_zero, List.set_cons_succ, Option.map_some, Bool.not_true, Bool.not_false, ite_true, ite_false, if_true, if_false, Bool.false_eq_true, gEq_int, gNe_int, gEq_bl, gNe_bl, gEq_non, gNe_non, List.isEmpty_cons, List.isEmpty_nil, wipeL]⟩, hm]
  rw [R.wp_ok]
  refine wp_ret ?_
  simp only [nG, sSet, sRet, sRetN, sIf, sDrop, sNx, sBrk, sPar, sTg, sr_ok, rb_ok, ro_ok, so_ok, e1, e2, eA, eCl, eV, eC, eAnd, eOr, eNot, eIf, eCh, tV, tNot, tAnd, tOr, tYes, bof_bl, aNil, aCons, tgSet, setAll, lo0, bodyR_nx, bodyR_rt, R.wp_ok, SR.wp_nx, SR.wp_rt, SR.wp_bk, gAddA, gAdd, gSub, gLe, gLt, gGt, gGe, is_non, is_int, is_tup, is_bl, isn_non, isn_int, isn_tup, isn_bl, is_o, isn_o, gNeg, gTup1, gTup2, gTup3, gTup4, gTup5, gLst0, gLst1, gLst2, gLst3, eLstA0, List.length_cons, List.length_nil, List.map_cons, List.map_nil, List.cons_append, List.nil_append, List.replicate, Nat.sub_self, Nat.reduceSub, Nat.reduceAdd, List.getElem?_cons_zero, List.getElem?_cons_succ, List.set_cons_zero, List.set_cons_succ, Option.map_some, Bool.not_true, Bool.not_false, ite_true, ite_false, if_true, if_false, Bool.false_eq_true, gEq_int, gNe_int, gEq_bl, gNe_bl, gEq_non, gNe_non, List.isEmpty_cons, List.isEmpty_nil, gNe_tl, leastO]
  cases hz : l.filterMap id with
  | nil => simp [nG, sSeq, sSet, sRet, sRetN, sIf, sDrop, sNx, sBrk, sPar, sTg, sr_ok, rb_ok, ro_ok, so_ok, e1, e2, eA, eCl, eV, eC, eAnd, eOr, eNot, eIf, eCh, tV, tNot, tAnd, tOr, tYes, bof_bl, aNil, aCons, tgSet, setAll, lo0, bodyR_nx, bodyR_rt, R.wp_ok, SR.wp_nx, SR.wp_rt, SR.wp_bk, gAddA, gAdd, gSub, gLe, gLt, gGt, gGe, is_non, is_int, is_tup, is_bl, isn_non, isn_int, isn_tup, isn_bl, is_o, isn_o, gNeg, gTup1, gTup2, gTup3, gTup4, gTup5, gLst0, gLst1, gLst2, gLst3, eLstA0, List.length_cons, List.length_nil, List.map_cons, List.map_nil, List.cons_append, List.nil_append, List.replicate, Nat.sub_self, Nat.reduceSub, Nat.reduceAdd, List.getElem?_cons_zero, List.getElem?_cons_succ, List.set_cons_zero, List.set_cons_succ, Option.map_some, Bool.not_true, Bool.not_false, ite_true, ite_false, if_true, if_false, Bool.false_eq_true, gEq_int, gNe_int, gEq_bl, gNe_bl, gEq_non, gNe_non, List.isEmpty_cons, List.isEmpty_nil, oG, leastI]
  | cons x z =>
    have h2 := hmin (x :: z)
    rw [List.map_cons] at h2
    simp only [nG, sSet, sRet, sRetN, sIf, sDrop, sNx, sBrk, sPar, sTg, sr_ok, rb_ok, ro_ok, so_ok, e1, e2, eA, eCl, eV, eC, eAnd, eOr, eNot, eIf, eCh, tV, tNot, tAnd, tOr, tYes, bof_bl, aNil, aCons, tgSet, setAll, lo0, bodyR_nx, bodyR_rt, R.wp_ok, SR.wp_nx, SR.wp_rt, SR.wp_bk, gAddA, gAdd, gSub, gLe, gLt, gGt, gGe, is_non, is_int, is_tup, is_bl, isn_non, isn_int, isn_tup, isn_bl, is_o, isn_o, gNeg, gTup1, gTup2, gTup3, gTup4, gTup5, gLst0, gLst1, gLst2, gLst3, eLstA0, List.length_cons, List.length_nil, List.map_cons, List.map_nil, List.cons_append, List.nil_append, List.replicate, Nat.sub_self, Nat.reduceSub, Nat.reduceAdd, List.getElem?_cons_zero, List.getElem?_cons_succ, List.set_cons_zero, List.set_cons_succ, Option.map_some, Bool.not_true, Bool.not_false, ite_true, ite_false, if_true, if_false, Bool.false_eq_true, gEq_int, gNe_int, gEq_bl, gNe_bl, gEq_non, gNe_non, List.isEmpty_cons, List.isEmpty_nil, h2, leastI]
    exact ⟨rfl, trivial⟩
def cst (p : Nat) (b : List (Option Int)) (w m : Nat) : Option Int := ((b[w - m]?).getD none).map fun v => (m : Int) * p + v
def costs (t : Tk) (p : Nat) (b : List (Option Int)) (w : Nat) : List (Option Int) := (chs t w).map (cst p b w)
def rowS (t : Tk) (r p : Nat) (b : List (Option Int)) : List (Option Int) := (List.range (t.lim + 1)).map fun l => leastO (costs t p b (l + r))
theorem chs_get {t : Tk} {w i : Nat} {x : G} (h : ((chs t w).map (chG w))[i]? = some x) : ∃ m, (chs t w)[i]? = some m ∧ x = chG w m ∧ m ≤ t.cap ∧ m ≤ w ∧ w - m ≤ t.lim := by
  rw [List.getElem?_map] at h
  cases e : (chs t w)[i]? with
  | none => rw [e] at h; cases h
  | some m =>
    rw [e] at h
    have hm := List.mem_of_getElem? e
    unfold chs at hm
    simp only [List.mem_filter, List.mem_range, decide_eq_true_eq] at hm
    exact ⟨m, rfl, (Option.some.inj h).symm, by omega, by omega, hm.2⟩
theorem chs_len (t : Tk) (w : Nat) : (chs t w).length ≤ t.cap + 1 := by
  unfold chs
  refine Nat.le_trans (List.length_filter_le _ _) ?_
  rw [List.length_range]
  omega
theorem take_snoc {a : Type} {l : List a} {i : Nat} {x : a} (h : l[i]? = some x) : l.take (i + 1) = l.take i ++ [x] := by
  rw [List.take_succ, h]; rfl
theorem row_of_ok {t : Tk} {o k r p : Nat} {b : List (Option Int)} (ok : t.Ok) (a : At S o t) (hr : t.rain[k]? = some r) (hp : t.prices[k]? = some p) (hb : b.length = t.lim + 1) :
    (callN tab (n + 3) (.fn "row_of") [.ref o, .int (k : Nat), .tup (b.map oG)] S).wp fun g S' => g = .tup ((rowS t r p b).map oG) ∧ Grow S S' := by
  have hl := ok.lim
  have hp9 := ok.prices p (List.mem_of_getElem? hp)
  have hc9 := ok.cap
  rw [cn_row_of (n + 2) _ _ rfl]
  refine wp_body ?_
  unfold sh_row_of
  refine wp_seq ?_
  simp only [nG, sSet, sRet, sRetN, sIf, sDrop, sNx, sBrk, sPar, sTg, sr_ok, rb_ok, ro_ok, so_ok, e1, e2, eA, eCl, eV, eC, eAnd, eOr, eNot, eIf, eCh, tV, tNot, tAnd, tOr, tYes, bof_bl, aNil, aCons, tgSet, setAll, lo0, bodyR_nx, bodyR_rt, R.wp_ok, SR.wp_nx, SR.wp_rt, SR.wp_bk, gAddA, gAdd, gSub, gLe, gLt, gGt, gGe, is_non, is_int, is_tup, is_bl, isn_non, isn_int, isn_tup, isn_bl, is_o, isn_o, gNeg, gTup1, gTup2, gTup3, gTup4, gTup5, gLst0, gLst1, gLst2, gLst3, eLstA0, List.length_cons, List.length_nil, List.map_cons, List.map_nil, List.cons_append, List.nil_append, List.replicate, Nat.sub_self, Nat.reduceSub, Nat.reduceAdd, List.getElem?_cons_zero, List.getElem?_cons_succ, List.set_cons_zero, List.set_cons_succ, Option.map_some, Bool.not_true, Bool.not_false, ite_true, ite_false, if_true, if_false, Bool.false_eq_true, gEq_int, gNe_int, gEq_bl, gNe_bl, gEq_non, gNe_non, List.isEmpty_cons, List.isEmpty_nil]
  refine wp_seq (wp_for (xs := (List.range (t.lim + 1)).map nG) ?_
    (fun j l S' => ∃ u4 u5 u6 u7 Z, l = [some (.ref o), some (.int (k : Nat)), some (.tup (b.map oG)), some (.ref S.length), u4, u5, u6, u7] ∧ S' = S ++ .lst true (((rowS t r p b).take j).map oG) :: Z) ?_ ⟨_, _, _, _, [], rfl, rfl⟩ ?_)
  · exact itR1_nat (n := t.lim + 1) (by simp [nG, sSeq, sSet, sRet, sRetN, sIf, sDrop, sNx, sBrk, sPar, sTg, sr_ok, rb_ok, ro_ok, so_ok, e1, e2, eA, eCl, eV, eC, eAnd, eOr, eNot, eIf, eCh, tV, tNot, tAnd, tOr, tYes, bof_bl, aNil, aCons, tgSet, setAll, lo0, bodyR_nx, bodyR_rt, R.wp_ok, SR.wp_nx, SR.wp_rt, SR.wp_bk, gAddA, gAdd, gSub, gLe, gLt, gGt, gGe, is_non, is_int, is_tup, is_bl, isn_non, isn_int, isn_tup, isn_bl, is_o, isn_o, gNeg, gTup1, gTup2, gTup3, gTup4, gTup5, gLst0, gLst1, gLst2, gLst3, eLstA0, List.length_cons, List.length_nil, List.map_cons, List.map_nil, List.cons_append, List.nil_append, List.replicate, Nat.sub_self, Nat.reduceSub, Nat.reduceAdd, List.getElem?_cons_zero, List.getElem?_cons_succ, List.set_cons_zero, List.set_cons_succ, Option.map_some, Bool.not_true, Bool.not_false, ite_true, ite_false, if_true, if_false, Bool.false_eq_true, gEq_int, gNe_int, gEq_bl, gNe_bl, gEq_non, gNe_non, List.isEmpty_cons, List.isEmpty_nil, (a.grow (.push _ _)).lim]) (by omega)
  · rintro j x l S' hx ⟨u4, u5, u6, u7, Z, rfl, rfl⟩
    rw [← intsFrom_zero] at hx
    obtain ⟨hj, rfl⟩ := intsFrom_get hx
    refine ⟨_, rfl, ?_⟩
    have a1 : At (S ++ .lst true (((rowS t r p b).take j).map oG) :: Z) o t := a.grow (.push _ _)
    generalize hS1 : S ++ GO.lst true (((rowS t r p b).take j).map oG) :: Z = S1 at a1 ⊢
    refine wp_seq ?_
    simp only [nG, sSet, sRet, sRetN, sIf, sDrop, sNx, sBrk, sPar, sTg, sr_ok, rb_ok, ro_ok, so_ok, e1, e2, eA, eCl, eV, eC, eAnd, eOr, eNot, eIf, eCh, tV, tNot, tAnd, tOr, tYes, bof_bl, aNil, aCons, tgSet, setAll, lo0, bodyR_nx, bodyR_rt, R.wp_ok, SR.wp_nx, SR.wp_rt, SR.wp_bk, gAddA, gAdd, gSub, gLe, gLt, gGt, gGe, is_non, is_int, is_tup, is_bl, isn_non, isn_int, isn_tup, isn_bl, is_o, isn_o, gNeg, gTup1, gTup2, gTup3, gTup4, gTup5, gLst0, gLst1, gLst2, gLst3, eLstA0, List.length_cons, List.length_nil, List.map_cons, List.map_nil, List.cons_append, List.nil_append, List.replicate, Nat.sub_self, Nat.reduceSub, Nat.reduceAdd, List.getElem?_cons_zero, List.getElem?_cons_succ, List.set_cons_zero, List.set_cons_succ, Option.map_some, Bool.not_true, Bool.not_false, ite_true, ite_false, if_true, if_false, Bool.false_eq_true, gEq_int, gNe_int, gEq_bl, gNe_bl, gEq_non, gNe_non, List.isEmpty_cons, List.isEmpty_nil]
    have a2 : At (S1 ++ [.lst true []]) o t := a1.grow (.push _ _)
    refine wp_seq (wp_for (xs := (chs t (j + r)).map (chG (j + r))) ?_
      (fun i l S'' => ∃ u6 u7, l = [some (.ref o), some (.int (k : Nat)), some (.tup (b.map oG)), some (.ref S.length), some (.int (j : Nat)), some (.ref S1.length), u6, u7] ∧ S'' = S1 ++ [.lst true (((costs t p b (j + r)).take i).map oG)]) ?_ ⟨_, _, rfl, rfl⟩ ?_)
    · simp [nG, sSeq, sSet, sRet, sRetN, sIf, sDrop, sNx, sBrk, sPar, sTg, sr_ok, rb_ok, ro_ok, so_ok, e1, e2, eA, eCl, eV, eC, eAnd, eOr, eNot, eIf, eCh, tV, tNot, tAnd, tOr, tYes, bof_bl, aNil, aCons, tgSet, setAll, lo0, bodyR_nx, bodyR_rt, R.wp_ok, SR.wp_nx, SR.wp_rt, SR.wp_bk, gAddA, gAdd, gSub, gLe, gLt, gGt, gGe, is_non, is_int, is_tup, is_bl, isn_non, isn_int, isn_tup, isn_bl, is_o, isn_o, gNeg, gTup1, gTup2, gTup3, gTup4, gTup5, gLst0, gLst1, gLst2, gLst3, eLstA0, List.length_cons, List.length_nil, List.map_cons, List.map_nil, List.cons_append, List.nil_append, List.replicate, Nat.sub_self, Nat.reduceSub, Nat.reduceAdd, List.getElem?_cons_zero, List.getElem?_cons_succ, List.set_cons_zero, List.set_cons_succ, Option.map_some, Bool.not_true, Bool.not_false, ite_true, ite_false, if_true, if_false, Bool.false_eq_true, gEq_int, gNe_int, gEq_bl, gNe_bl, gEq_non, gNe_non, List.isEmpty_cons, List.isEmpty_nil, itV, choices_eq ok a2 hr]
    · rintro i x l S'' hx ⟨u6, u7, rfl, rfl⟩
      obtain ⟨m, hm, rfl, h1, h2, h3⟩ := chs_get hx
      refine ⟨_, rfl, ?_⟩
      have hlt : j + r - m < b.length := by omega
      obtain ⟨v, hv⟩ : ∃ v, b[j + r - m]? = some v := ⟨_, List.getElem?_eq_getElem hlt⟩
      have hci : (costs t p b (j + r))[i]? = some (v.map fun v => (m : Int) * p + v) := by
        unfold costs
        rw [List.getElem?_map, hm]
        unfold cst
        rw [Option.map_some, hv]
        rfl
      have a3 : At (S1 ++ [.lst true (((costs t p b (j + r)).take i).map oG)]) o t := a1.grow (.push _ _)
      have hb2 : gIx (.tup (b.map oG)) (.int ((j + r - m : Nat) : Int)) (S1 ++ [.lst true (((costs t p b (j + r)).take i).map oG)]) = some (oG v) := ix_tup (by rw [List.getElem?_map, hv]; rfl)
      refine wp_drop ?_
      rw [eML_of (o := S1.length) (xs := ((costs t p b (j + r)).take i).map oG) (x := oG (v.map fun v => (m : Int) * p + v)) rfl get_last ?_ ?_]
      · rw [R.wp_ok, set_last]
        refine ⟨_, _, rfl, ?_⟩
        rw [take_snoc hci, List.map_append]
        rfl
      · cases v with
        | none => simp only [nG, sSet, sRet, sRetN, sIf, sDrop, sNx, sBrk, sPar, sTg, sr_ok, rb_ok, ro_ok, so_ok, e1, e2, eA, eCl, eV, eC, eAnd, eOr, eNot, eIf, eCh, tV, tNot, tAnd, tOr, tYes, bof_bl, aNil, aCons, tgSet, setAll, lo0, bodyR_nx, bodyR_rt, R.wp_ok, SR.wp_nx, SR.wp_rt, SR.wp_bk, gAddA, gAdd, gSub, gLe, gLt, gGt, gGe, is_non, is_int, is_tup, is_bl, isn_non, isn_int, isn_tup, isn_bl, is_o, isn_o, gNeg, gTup1, gTup2, gTup3, gTup4, gTup5, gLst0, gLst1, gLst2, gLst3, eLstA0, List.length_cons, List.length_nil, List.map_cons, List.map_nil, List.cons_append, List.nil_append, List.replicate, Nat.sub_self, Nat.reduceSub, Nat.reduceAdd, List.getElem?_cons_zero, List.getElem?_cons_succ, List.set_cons_zero, List.set_cons_succ, Option.map_some, Bool.not_true, Bool.not_false, ite_true, ite_false, if_true, if_false, Bool.false_eq_true, gEq_int, gNe_int, gEq_bl, gNe_bl, gEq_non, gNe_non, List.isEmpty_cons, List.isEmpty_nil, chG, hb2, oG, Option.map_none]
        | some v => simp only [nG, sSet, sRet, sRetN, sIf, sDrop, sNx, sBrk, sPar, sTg, sr_ok, rb_ok, ro_ok, so_ok, e1, e2, eA, eCl, eV, eC, eAnd, eOr, eNot, eIf, eCh, tV, tNot, tAnd, tOr, tYes, bof_bl, aNil, aCons, tgSet, setAll, lo0, bodyR_nx, bodyR_rt, R.wp_ok, SR.wp_nx, SR.wp_rt, SR.wp_bk, gAddA, gAdd, gSub, gLe, gLt, gGt, gGe, is_non, is_int, is_tup, is_bl, isn_non, isn_int, isn_tup, isn_bl, is_o, isn_o, gNeg, gTup1, gTup2, gTup3, gTup4, gTup5, gLst0, gLst1, gLst2, gLst3, eLstA0, List.length_cons, List.length_nil, List.map_cons, List.map_nil, List.cons_append, List.nil_append, List.replicate, Nat.sub_self, Nat.reduceSub, Nat.reduceAdd, List.getElem?_cons_zero, List.getElem?_cons_succ, List.set_cons_zero, List.set_cons_succ, Option.map_some, Bool.not_true, Bool.not_false, ite_true, ite_false, if_true, if_false, Bool.false_eq_true, gEq_int, gNe_int, gEq_bl, gNe_bl, gEq_non, gNe_non, List.isEmpty_cons, List.isEmpty_nil, chG, hb2, oG, Option.isNone, a3.prices, ixn hp, mul_sm (S := S1 ++ [.lst true (((costs t p b (j + r)).take i).map oG)]) (m := m) (p := p) (by omega)]
      · have := chs_len t (j + r)
        simp [costs]
        omega
    · rintro l S'' ⟨u6, u7, rfl, rfl⟩
      have hlen : ((chs t (j + r)).map (chG (j + r))).length = (costs t p b (j + r)).length := by simp [costs]
      rw [hlen, List.take_length]
      refine wp_drop (eML_wp (o := S.length) (xs := ((rowS t r p b).take j).map oG) rfl ?_ ?_ ?_)
      · rw [← hS1]; exact get_grow get_mid
      · simp [rowS]; omega
      · have hc := chs_len t (j + r)
        rw [show eCl (callN tab (n + 2)) (FK.fn "least_of") (aCons (eV 5) aNil) = eCl (callN tab (n + 1 + 1)) (FK.fn "least_of") (aCons (eV 5) aNil) from rfl]
        simp only [nG, sSet, sRet, sRetN, sIf, sDrop, sNx, sBrk, sPar, sTg, sr_ok, rb_ok, ro_ok, so_ok, e1, e2, eA, eCl, eV, eC, eAnd, eOr, eNot, eIf, eCh, tV, tNot, tAnd, tOr, tYes, bof_bl, aNil, aCons, tgSet, setAll, lo0, bodyR_nx, bodyR_rt, R.wp_ok, SR.wp_nx, SR.wp_rt, SR.wp_bk, gAddA, gAdd, gSub, gLe, gLt, gGt, gGe, is_non, is_int, is_tup, is_bl, isn_non, isn_int, isn_tup, isn_bl, is_o, isn_o, gNeg, gTup1, gTup2, gTup3, gTup4, gTup5, gLst0, gLst1, gLst2, gLst3, eLstA0, List.length_cons, List.length_nil, List.map_cons, List.map_nil, List.cons_append, List.nil_append, List.replicate, Nat.sub_self, Nat.reduceSub, Nat.reduceAdd, List.getElem?_cons_zero, List.getElem?_cons_succ, List.set_cons_zero, List.set_cons_succ, Option.map_some, Bool.not_true, Bool.not_false, ite_true, ite_false, if_true, if_false, Bool.false_eq_true, gEq_int, gNe_int, gEq_bl, gNe_bl, gEq_non, gNe_non, List.isEmpty_cons, List.isEmpty_nil]
        rw [least_of_eq (w := true) (l := costs t p b (j + r)) get_last (by simp [costs]; omega)]
        rw [R.wp_ok]
        refine ⟨by rw [← hS1]; exact get_grow get_mid, ?_⟩
        have hrow : (rowS t r p b)[j]? = some (leastO (costs t p b (j + r))) := by
          unfold rowS
          rw [List.getElem?_map, List.getElem?_range hj]
          rfl
        refine ⟨_, _, _, _, Z ++ [GO.lst true ((costs t p b (j + r)).map oG)], rfl, ?_⟩
        rw [← hS1, List.append_assoc, List.cons_append, set_mid, take_snoc hrow, List.map_append]
        rfl
  · rintro l S' ⟨u4, u5, u6, u7, Z, rfl, rfl⟩
    refine wp_ret ?_
    rw [show ((List.range (t.lim + 1)).map nG).length = (rowS t r p b).length by simp [rowS], List.take_length]
    simp only [nG, sSet, sRet, sRetN, sIf, sDrop, sNx, sBrk, sPar, sTg, sr_ok, rb_ok, ro_ok, so_ok, e1, e2, eA, eCl, eV, eC, eAnd, eOr, eNot, eIf, eCh, tV, tNot, tAnd, tOr, tYes, bof_bl, aNil, aCons, tgSet, setAll, lo0, bodyR_nx, bodyR_rt, R.wp_ok, SR.wp_nx, SR.wp_rt, SR.wp_bk, gAddA, gAdd, gSub, gLe, gLt, gGt, gGe, is_non, is_int, is_tup, is_bl, isn_non, isn_int, isn_tup, isn_bl, is_o, isn_o, gNeg, gTup1, gTup2, gTup3, gTup4, gTup5, gLst0, gLst1, gLst2, gLst3, eLstA0, List.length_cons, List.length_nil, List.map_cons, List.map_nil, List.cons_append, List.nil_append, List.replicate, Nat.sub_self, Nat.reduceSub, Nat.reduceAdd, List.getElem?_cons_zero, List.getElem?_cons_succ, List.set_cons_zero, List.set_cons_succ, Option.map_some, Bool.not_true, Bool.not_false, ite_true, ite_false, if_true, if_false, Bool.false_eq_true, gEq_int, gNe_int, gEq_bl, gNe_bl, gEq_non, gNe_non, List.isEmpty_cons, List.isEmpty_nil, gTuple, seqG, lst_mid]
    exact ⟨trivial, .push _ _⟩
def rowG (b : List (Option Int)) : G := .tup (b.map oG)
def zeros (t : Tk) : List (Option Int) := List.replicate (t.lim + 1) (some 0)
def rowAt (t : Tk) : List (Nat × Nat) → List (Option Int)
  | [] => zeros t
  | (r, p) :: l => rowS t r p (rowAt t l)
def tabs (t : Tk) : List (Nat × Nat) → List (List (Option Int))
  | [] => [rowAt t []]
  | x :: l => rowAt t (x :: l) :: tabs t l
def Tk.rp (t : Tk) : List (Nat × Nat) := t.rain.zip t.prices
theorem rowAt_len (t : Tk) (l : List (Nat × Nat)) : (rowAt t l).length = t.lim + 1 := by
  cases l with
  | nil => simp [rowAt, zeros]
  | cons x l => simp [rowAt, rowS]
theorem tabs_head (t : Tk) (l : List (Nat × Nat)) : ∃ r, tabs t l = rowAt t l :: r := by cases l <;> exact ⟨_, rfl⟩
theorem tabs_len (t : Tk) (l : List (Nat × Nat)) : (tabs t l).length = l.length + 1 := by
  induction l with
  | nil => rfl
  | cons x l ih => simp [tabs, ih]
theorem tabs_get (t : Tk) : ∀ (l : List (Nat × Nat)) (k : Nat), k ≤ l.length → (tabs t l)[k]? = some (rowAt t (l.drop k))
  | [], 0, _ => rfl
  | _ :: _, 0, _ => rfl
  | x :: l, k + 1, h => by
    show (tabs t l)[k]? = _
    exact tabs_get t l k (by simpa using h)
theorem rp_get {t : Tk} (ok : t.Ok) {k : Nat} (h : k < t.rain.length) : ∃ r p, t.rain[k]? = some r ∧ t.prices[k]? = some p ∧ t.rp.drop k = (r, p) :: t.rp.drop (k + 1) := by
  have hk : k < t.prices.length := by rw [ok.len]; exact h
  refine ⟨t.rain[k], t.prices[k], List.getElem?_eq_getElem h, List.getElem?_eq_getElem hk, ?_⟩
  have hz : k < t.rp.length := by simp [Tk.rp]; omega
  rw [List.drop_eq_getElem_cons hz]
  simp [Tk.rp]
theorem rp_len {t : Tk} (ok : t.Ok) : t.rp.length = t.rain.length := by simp [Tk.rp, ok.len]
theorem len_nsG {l : List Nat} : gLen [nsG l] S = some (.int (l.length : Nat)) := by
  show (seqG S (nsG l)).map (fun l => G.int (l.length : Nat)) = _
  simp [nsG, seqG]
theorem tables_of_ok {t : Tk} {o : Nat} (ok : t.Ok) (a : At S o t) :
    (callN tab (n + 4) (.fn "tables_of") [.ref o] S).wp fun g S' => g = .tl ((tabs t t.rp).map rowG) ∧ Grow S S' := by
  have hl := ok.lim
  have hn := ok.most
  have hz : gMulA (.tup [.int 0]) (.int ((t.lim : Int) + 1)) S = some (rowG (zeros t)) := by
    have := mul_tup1 (S := S) (x := .int 0) (n := t.lim + 1) (by omega)
    rw [show ((t.lim + 1 : Nat) : Int) = (t.lim : Int) + 1 by omega] at this
    rw [this]
    simp [rowG, zeros, oG]
  rw [cn_tables_of (n + 3) _ _ rfl]
  refine wp_body ?_
  unfold sh_tables_of
  refine wp_seq (wp_set ?_)
  rw [eLstA1 (x := rowG (zeros t)) (S' := S) (by simp only [nG, sSet, sRet, sRetN, sIf, sDrop, sNx, sBrk, sPar, sTg, sr_ok, rb_ok, ro_ok, so_ok, e1, e2, eA, eCl, eV, eC, eAnd, eOr, eNot, eIf, eCh, tV, tNot, tAnd, tOr, tYes, bof_bl, aNil, aCons, tgSet, setAll, lo0, bodyR_nx, bodyR_rt, R.wp_ok, SR.wp_nx, SR.wp_rt, SR.wp_bk, gAddA, gAdd, gSub, gLe, gLt, gGt, gGe, is_non, is_int, is_tup, is_bl, isn_non, isn_int, isn_tup, isn_bl, is_o, isn_o, gNeg, gTup1, gTup2, gTup3, gTup4, gTup5, gLst0, gLst1, gLst2, gLst3, eLstA0, List.length_cons, List.length_nil, List.map_cons, List.map_nil, List.cons_append, List.nil_append, List.replicate, Nat.sub_self, Nat.reduceSub, Nat.reduceAdd, List.getElem?_cons_zero, List.getElem?_cons_succ, List.set_cons_zero, List.set_cons_succ, Option.map_some, Bool.not_true, Bool.not_false, ite_true, ite_false, if_true, if_false, Bool.false_eq_true, gEq_int, gNe_int, gEq_bl, gNe_bl, gEq_non, gNe_non, List.isEmpty_cons, List.isEmpty_nil, a.lim, hz])]
  simp only [nG, sSet, sRet, sRetN, sIf, sDrop, sNx, sBrk, sPar, sTg, sr_ok, rb_ok, ro_ok, so_ok, e1, e2, eA, eCl, eV, eC, eAnd, eOr, eNot, eIf, eCh, tV, tNot, tAnd, tOr, tYes, bof_bl, aNil, aCons, tgSet, setAll, lo0, bodyR_nx, bodyR_rt, R.wp_ok, SR.wp_nx, SR.wp_rt, SR.wp_bk, gAddA, gAdd, gSub, gLe, gLt, gGt, gGe, is_non, is_int, is_tup, is_bl, isn_non, isn_int, isn_tup, isn_bl, is_o, isn_o, gNeg, gTup1, gTup2, gTup3, gTup4, gTup5, gLst0, gLst1, gLst2, gLst3, eLstA0, List.length_cons, List.length_nil, List.map_cons, List.map_nil, List.cons_append, List.nil_append, List.replicate, Nat.sub_self, Nat.reduceSub, Nat.reduceAdd, List.getElem?_cons_zero, List.getElem?_cons_succ, List.set_cons_zero, List.set_cons_succ, Option.map_some, Bool.not_true, Bool.not_false, ite_true, ite_false, if_true, if_false, Bool.false_eq_true, gEq_int, gNe_int, gEq_bl, gNe_bl, gEq_non, gNe_non, List.isEmpty_cons, List.isEmpty_nil]
  refine wp_seq (wp_for (xs := intsDown ((t.rain.length : Int) - 1) t.rain.length) ?_
    (fun j l S' => ∃ u2 Z, l = [some (.ref o), some (.ref S.length), u2] ∧ S' = S ++ .lst true ((tabs t (t.rp.drop (t.rain.length - j))).reverse.map rowG) :: Z) ?_ ⟨_, [], rfl, ?_⟩ ?_)
  · exact itR3_nat (by simp [nG, sSeq, sSet, sRet, sRetN, sIf, sDrop, sNx, sBrk, sPar, sTg, sr_ok, rb_ok, ro_ok, so_ok, e1, e2, eA, eCl, eV, eC, eAnd, eOr, eNot, eIf, eCh, tV, tNot, tAnd, tOr, tYes, bof_bl, aNil, aCons, tgSet, setAll, lo0, bodyR_nx, bodyR_rt, R.wp_ok, SR.wp_nx, SR.wp_rt, SR.wp_bk, gAddA, gAdd, gSub, gLe, gLt, gGt, gGe, is_non, is_int, is_tup, is_bl, isn_non, isn_int, isn_tup, isn_bl, is_o, isn_o, gNeg, gTup1, gTup2, gTup3, gTup4, gTup5, gLst0, gLst1, gLst2, gLst3, eLstA0, List.length_cons, List.length_nil, List.map_cons, List.map_nil, List.cons_append, List.nil_append, List.replicate, Nat.sub_self, Nat.reduceSub, Nat.reduceAdd, List.getElem?_cons_zero, List.getElem?_cons_succ, List.set_cons_zero, List.set_cons_succ, Option.map_some, Bool.not_true, Bool.not_false, ite_true, ite_false, if_true, if_false, Bool.false_eq_true, gEq_int, gNe_int, gEq_bl, gNe_bl, gEq_non, gNe_non, List.isEmpty_cons, List.isEmpty_nil, (a.grow (.push _ _)).rain, len_nsG]) (by omega)
  · rintro j x l S' hx ⟨u2, Z, rfl, rfl⟩
    obtain ⟨hj, rfl⟩ := intsDown_get hx
    refine ⟨_, rfl, ?_⟩
    obtain ⟨r, p, hr, hp, hd⟩ := rp_get ok (k := t.rain.length - 1 - j) (by omega)
    rw [show t.rain.length - 1 - j + 1 = t.rain.length - j by omega] at hd
    rw [show t.rain.length - (j + 1) = t.rain.length - 1 - j by omega]
    generalize hT : t.rp.drop (t.rain.length - j) = T at hd ⊢
    obtain ⟨R', hR⟩ := tabs_head t T
    have hrev : (tabs t T).reverse.map rowG = R'.reverse.map rowG ++ [rowG (rowAt t T)] := by rw [hR]; simp
    refine wp_drop (eML_wp (o := S.length) (xs := (tabs t T).reverse.map rowG) rfl get_mid ?_ ?_)
    · have := tabs_len t T
      have h2 : T.length ≤ t.rp.length := by rw [← hT]; simp
      rw [rp_len ok] at h2
      simp
      omega
    · have a1 := a.grow (.push S (.lst true ((tabs t T).reverse.map rowG) :: Z))
      have hix : gIx (.ref S.length) (.int (-1)) (S ++ .lst true ((tabs t T).reverse.map rowG) :: Z) = some (rowG (rowAt t T)) := ix_last (by rw [lst_mid, hrev])
      obtain ⟨_, S2, e, rfl, Y, rfl⟩ := R.wp_iff.mp (row_of_ok (n := n) ok a1 hr hp (rowAt_len t T))
      rw [show G.tup ((rowAt t T).map oG) = rowG (rowAt t T) from rfl] at e
      simp only [nG, sSet, sRet, sRetN, sIf, sDrop, sNx, sBrk, sPar, sTg, sr_ok, rb_ok, ro_ok, so_ok, e1, e2, eA, eCl, eV, eC, eAnd, eOr, eNot, eIf, eCh, tV, tNot, tAnd, tOr, tYes, bof_bl, aNil, aCons, tgSet, setAll, lo0, bodyR_nx, bodyR_rt, R.wp_ok, SR.wp_nx, SR.wp_rt, SR.wp_bk, gAddA, gAdd, gSub, gLe, gLt, gGt, gGe, is_non, is_int, is_tup, is_bl, isn_non, isn_int, isn_tup, isn_bl, is_o, isn_o, gNeg, gTup1, gTup2, gTup3, gTup4, gTup5, gLst0, gLst1, gLst2, gLst3, eLstA0, List.length_cons, List.length_nil, List.map_cons, List.map_nil, List.cons_append, List.nil_append, List.replicate, Nat.sub_self, Nat.reduceSub, Nat.reduceAdd, List.getElem?_cons_zero, List.getElem?_cons_succ, List.set_cons_zero, List.set_cons_succ, Option.map_some, Bool.not_true, Bool.not_false, ite_true, ite_false, if_true, if_false, Bool.false_eq_true, gEq_int, gNe_int, gEq_bl, gNe_bl, gEq_non, gNe_non, List.isEmpty_cons, List.isEmpty_nil, hix, e]
      refine ⟨get_grow get_mid, _, Z ++ Y, rfl, ?_⟩
      rw [List.append_assoc, List.cons_append, set_mid, hd]
      simp [tabs, rowAt, rowG]
  · rw [Nat.sub_zero, ← rp_len ok, List.drop_length]
    rfl
  · rintro l S' ⟨u2, Z, rfl, rfl⟩
    refine wp_ret ?_
    rw [intsDown_len, Nat.sub_self, List.drop_zero]
    have hrv : gRev (.ref S.length) (S ++ .lst true ((tabs t t.rp).reverse.map rowG) :: Z) = some (.tl ((tabs t t.rp).map rowG)) := by
      show (seqG _ (.ref S.length)).map (fun l => G.tl l.reverse) = _
      simp [seqG, lst_mid]
    simp only [nG, sSet, sRet, sRetN, sIf, sDrop, sNx, sBrk, sPar, sTg, sr_ok, rb_ok, ro_ok, so_ok, e1, e2, eA, eCl, eV, eC, eAnd, eOr, eNot, eIf, eCh, tV, tNot, tAnd, tOr, tYes, bof_bl, aNil, aCons, tgSet, setAll, lo0, bodyR_nx, bodyR_rt, R.wp_ok, SR.wp_nx, SR.wp_rt, SR.wp_bk, gAddA, gAdd, gSub, gLe, gLt, gGt, gGe, is_non, is_int, is_tup, is_bl, isn_non, isn_int, isn_tup, isn_bl, is_o, isn_o, gNeg, gTup1, gTup2, gTup3, gTup4, gTup5, gLst0, gLst1, gLst2, gLst3, eLstA0, List.length_cons, List.length_nil, List.map_cons, List.map_nil, List.cons_append, List.nil_append, List.replicate, Nat.sub_self, Nat.reduceSub, Nat.reduceAdd, List.getElem?_cons_zero, List.getElem?_cons_succ, List.set_cons_zero, List.set_cons_succ, Option.map_some, Bool.not_true, Bool.not_false, ite_true, ite_false, if_true, if_false, Bool.false_eq_true, gEq_int, gNe_int, gEq_bl, gNe_bl, gEq_non, gNe_non, List.isEmpty_cons, List.isEmpty_nil, hrv]
    exact ⟨trivial, .push _ _⟩
theorem tables_ok {t : Tk} {o : Nat} (ok : t.Ok) (a : At S o t) : (callN tab (n + 5) (.fn "tables") [.ref o] S).wp fun g S' => g = .tup ((tabs t t.rp).map rowG) ∧ Grow S S' := by
  obtain ⟨_, S1, e, rfl, gr⟩ := R.wp_iff.mp (tables_of_ok (n := n) ok a)
  rw [cn_tables (n + 4) _ _ rfl]
  refine wp_body ?_
  unfold sh_tables
  refine wp_ret ?_
  simp only [nG, sSet, sRet, sRetN, sIf, sDrop, sNx, sBrk, sPar, sTg, sr_ok, rb_ok, ro_ok, so_ok, e1, e2, eA, eCl, eV, eC, eAnd, eOr, eNot, eIf, eCh, tV, tNot, tAnd, tOr, tYes, bof_bl, aNil, aCons, tgSet, setAll, lo0, bodyR_nx, bodyR_rt, R.wp_ok, SR.wp_nx, SR.wp_rt, SR.wp_bk, gAddA, gAdd, gSub, gLe, gLt, gGt, gGe, is_non, is_int, is_tup, is_bl, isn_non, isn_int, isn_tup, isn_bl, is_o, isn_o, gNeg, gTup1, gTup2, gTup3, gTup4, gTup5, gLst0, gLst1, gLst2, gLst3, eLstA0, List.length_cons, List.length_nil, List.map_cons, List.map_nil, List.cons_append, List.nil_append, List.replicate, Nat.sub_self, Nat.reduceSub, Nat.reduceAdd, List.getElem?_cons_zero, List.getElem?_cons_succ, List.set_cons_zero, List.set_cons_succ, Option.map_some, Bool.not_true, Bool.not_false, ite_true, ite_false, if_true, if_false, Bool.false_eq_true, gEq_int, gNe_int, gEq_bl, gNe_bl, gEq_non, gNe_non, List.isEmpty_cons, List.isEmpty_nil, e, gTuple, seqG]
  exact ⟨trivial, gr⟩
theorem least_price_ok {t : Tk} {o : Nat} (ok : t.Ok) (a : At S o t) : (callN tab (n + 5) (.fn "least_price") [.ref o] S).wp fun g S' => g = oG (((rowAt t t.rp)[t.lvl]?).getD none) ∧ Grow S S' := by
  obtain ⟨_, S1, e, rfl, gr⟩ := R.wp_iff.mp (tables_of_ok (n := n) ok a)
  obtain ⟨R', hR⟩ := tabs_head t t.rp
  have hv : t.lvl < (rowAt t t.rp).length := by rw [rowAt_len]; have := ok.lvl; omega
  have h0 : gIx (.tl ((tabs t t.rp).map rowG)) (.int 0) S1 = some (rowG (rowAt t t.rp)) := ix_tl (k := 0) (by rw [hR]; rfl)
  have h1 : gIx (rowG (rowAt t t.rp)) (.int (t.lvl : Nat)) S1 = some (oG ((rowAt t t.rp)[t.lvl])) := ix_tup (by rw [List.getElem?_map, List.getElem?_eq_getElem hv]; rfl)
  rw [cn_least_price (n + 4) _ _ rfl]
  refine wp_body ?_
  unfold sh_least_price
  refine wp_ret ?_
  simp only [nG, sSet, sRet, sRetN, sIf, sDrop, sNx, sBrk, sPar, sTg, sr_ok, rb_ok, ro_ok, so_ok, e1, e2, eA, eCl, eV, eC, eAnd, eOr, eNot, eIf, eCh, tV, tNot, tAnd, tOr, tYes, bof_bl, aNil, aCons, tgSet, setAll, lo0, bodyR_nx, bodyR_rt, R.wp_ok, SR.wp_nx, SR.wp_rt, SR.wp_bk, gAddA, gAdd, gSub, gLe, gLt, gGt, gGe, is_non, is_int, is_tup, is_bl, isn_non, isn_int, isn_tup, isn_bl, is_o, isn_o, gNeg, gTup1, gTup2, gTup3, gTup4, gTup5, gLst0, gLst1, gLst2, gLst3, eLstA0, List.length_cons, List.length_nil, List.map_cons, List.map_nil, List.cons_append, List.nil_append, List.replicate, Nat.sub_self, Nat.reduceSub, Nat.reduceAdd, List.getElem?_cons_zero, List.getElem?_cons_succ, List.set_cons_zero, List.set_cons_succ, Option.map_some, Bool.not_true, Bool.not_false, ite_true, ite_false, if_true, if_false, Bool.false_eq_true, gEq_int, gNe_int, gEq_bl, gNe_bl, gEq_non, gNe_non, List.isEmpty_cons, List.isEmpty_nil, e, h0, (a.grow gr).lvl, h1]
  rw [List.getElem?_eq_getElem hv]
  exact ⟨rfl, gr⟩
end Lk14

end

section
set_option Elab.async false
set_option linter.all false
set_option maxRecDepth 100000
set_option maxHeartbeats 4000000
namespace Lk14
open PySem GL
variable {n : Nat} {S : Sto}
theorem foldl_min : ∀ (l : List Int) (a : Int), (l.foldl (fun a b => if b < a then b else a) a = a ∨ l.foldl (fun a b => if b < a then b else a) a ∈ l) ∧ l.foldl (fun a b => if b < a then b else a) a ≤ a ∧ ∀ x ∈ l, l.foldl (fun a b => if b < a then b else a) a ≤ x
  | [], a => ⟨.inl rfl, Int.le_refl _, fun _ h => by cases h⟩
  | y :: l, a => by
    rw [List.foldl_cons]
    obtain ⟨h1, h2, h3⟩ := foldl_min l (if y < a then y else a)
    have hy : (if y < a then y else a) ≤ y ∧ (if y < a then y else a) ≤ a := by split <;> omega
    refine ⟨?_, by omega, fun x hx => ?_⟩
    · rcases h1 with h1 | h1
      · rw [h1]
        split
        · exact .inr List.mem_cons_self
        · exact .inl rfl
      · exact .inr (List.mem_cons_of_mem _ h1)
    · rcases List.mem_cons.mp hx with rfl | hx
      · omega
      · exact h3 x hx
theorem leastI_mem {l : List Int} {v : Int} (h : leastI l = some v) : v ∈ l ∧ ∀ x ∈ l, v ≤ x := by
  cases l with
  | nil => cases h
  | cons y l =>
    obtain ⟨h1, h2, h3⟩ := foldl_min l y
    have e : l.foldl (fun a b => if b < a then b else a) y = v := Option.some.inj h
    rw [e] at h1 h2 h3
    refine ⟨?_, fun x hx => ?_⟩
    · rcases h1 with rfl | h1
      · exact List.mem_cons_self
      · exact List.mem_cons_of_mem _ h1
    · rcases List.mem_cons.mp hx with rfl | hx
      · exact h2
      · exact h3 x hx
theorem leastI_none {l : List Int} (h : leastI l = none) : l = [] := by
  cases l with
  | nil => rfl
  | cons y l => cases h
theorem leastO_mem {l : List (Option Int)} {v : Int} (h : leastO l = some v) : some v ∈ l ∧ ∀ x, some x ∈ l → v ≤ x := by
  obtain ⟨h1, h2⟩ := leastI_mem h
  refine ⟨?_, fun x hx => h2 x (List.mem_filterMap.mpr ⟨_, hx, rfl⟩)⟩
  obtain ⟨y, hy, e⟩ := List.mem_filterMap.mp h1
  have : y = some v := e
  rw [← this]; exact hy
theorem leastO_none {l : List (Option Int)} (h : leastO l = none) : ∀ x, some x ∉ l := fun x hx => by
  have := leastI_none h
  have h2 := List.mem_filterMap.mpr ⟨some x, hx, (rfl : id (some x) = some x)⟩
  rw [this] at h2
  cases h2
def val (t : Tk) (l : List (Nat × Nat)) (w : Nat) : Option Int := ((rowAt t l)[w]?).getD none
theorem val_cons {t : Tk} {r p : Nat} {l : List (Nat × Nat)} {w : Nat} (hw : w ≤ t.lim) : val t ((r, p) :: l) w = leastO (costs t p (rowAt t l) (w + r)) := by
  show ((rowS t r p (rowAt t l))[w]?).getD none = _
  unfold rowS
  rw [List.getElem?_map, List.getElem?_range (by omega)]
  rfl
theorem cst_val (t : Tk) (p : Nat) (l : List (Nat × Nat)) (w m : Nat) : cst p (rowAt t l) w m = (val t l (w - m)).map fun v => (m : Int) * p + v := rfl
/-- a plan from a water on -/
def IsPath (t : Tk) : List (Nat × Nat) → Nat → List Nat → Prop
  | [], _, [] => True
  | (r, p) :: l, w, m :: ms => m ≤ t.cap ∧ m ≤ w + r ∧ w + r - m ≤ t.lim ∧ (∃ v, val t l (w + r - m) = some v ∧ val t ((r, p) :: l) w = some ((m : Int) * p + v)) ∧ IsPath t l (w + r - m) ms
  | _, _, _ => False
theorem IsPath.len {t : Tk} : ∀ {l : List (Nat × Nat)} {w : Nat} {ms : List Nat}, IsPath t l w ms → ms.length = l.length
  | [], _, [], _ => rfl
  | _ :: _, _, _ :: _, h => by rw [List.length_cons, List.length_cons, IsPath.len h.2.2.2.2]
  | [], _, _ :: _, h => h.elim
  | _ :: _, _, [], h => h.elim
theorem ixrow {t : Tk} {l : List (Nat × Nat)} {w : Nat} (hw : w ≤ t.lim) : gIx (rowG (rowAt t l)) (.int (w : Nat)) S = some (oG (val t l w)) := by
  have hv : w < (rowAt t l).length := by rw [rowAt_len]; omega
  unfold val
  rw [List.getElem?_eq_getElem hv]
  exact ix_tup (by rw [List.getElem?_map, List.getElem?_eq_getElem hv]; rfl)
theorem ixtab {t : Tk} {l : List (Nat × Nat)} {k : Nat} (hk : k ≤ l.length) : gIx (.tl ((tabs t l).map rowG)) (.int (k : Nat)) S = some (rowG (rowAt t (l.drop k))) := ix_tl (by rw [List.getElem?_map, tabs_get t l k hk]; rfl)
theorem ixtabT {t : Tk} {l : List (Nat × Nat)} {k : Nat} (hk : k ≤ l.length) : gIx (.tup ((tabs t l).map rowG)) (.int (k : Nat)) S = some (rowG (rowAt t (l.drop k))) := ix_tup (by rw [List.getElem?_map, tabs_get t l k hk]; rfl)
theorem plan_ok {t : Tk} {o : Nat} (ok : t.Ok) (a : At S o t) : (callN tab (n + 5) (.fn "plan") [.ref o] S).wp fun g S' => Grow S S' ∧
    (val t t.rp t.lvl = none → g = .non) ∧ (∀ v, val t t.rp t.lvl = some v → ∃ ms, g = nsG ms ∧ IsPath t t.rp t.lvl ms) := by
  obtain ⟨_, S1, e, rfl, gr⟩ := R.wp_iff.mp (tables_of_ok (n := n) ok a)
  have a1 := a.grow gr
  have hn := ok.most
  have h0 : gIx (.tl ((tabs t t.rp).map rowG)) (.int 0) S1 = some (rowG (rowAt t t.rp)) := ixtab (k := 0) (Nat.zero_le _)
  rw [cn_plan (n + 4) _ _ rfl]
  refine wp_body ?_
  unfold sh_plan
  refine wp_seq (wp_set ?_)
  simp only [nG, sSet, sRet, sRetN, sIf, sDrop, sNx, sBrk, sPar, sTg, sr_ok, rb_ok, ro_ok, so_ok, e1, e2, eA, eCl, eV, eC, eAnd, eOr, eNot, eIf, eCh, tV, tNot, tAnd, tOr, tYes, bof_bl, aNil, aCons, tgSet, setAll, lo0, bodyR_nx, bodyR_rt, R.wp_ok, SR.wp_nx, SR.wp_rt, SR.wp_bk, gAddA, gAdd, gSub, gLe, gLt, gGt, gGe, is_non, is_int, is_tup, is_bl, isn_non, isn_int, isn_tup, isn_bl, is_o, isn_o, gNeg, gTup1, gTup2, gTup3, gTup4, gTup5, gLst0, gLst1, gLst2, gLst3, eLstA0, List.length_cons, List.length_nil, List.map_cons, List.map_nil, List.cons_append, List.nil_append, List.replicate, Nat.sub_self, Nat.reduceSub, Nat.reduceAdd, List.getElem?_cons_zero, List.getElem?_cons_succ, List.set_cons_zero, List.set_cons_succ, Option.map_some, Bool.not_true, Bool.not_false, ite_true, ite_false, if_true, if_false, Bool.false_eq_true, gEq_int, gNe_int, gEq_bl, gNe_bl, gEq_non, gNe_non, List.isEmpty_cons, List.isEmpty_nil, e]
  refine wp_seq ?_
  simp only [nG, sSet, sRet, sRetN, sIf, sDrop, sNx, sBrk, sPar, sTg, sr_ok, rb_ok, ro_ok, so_ok, e1, e2, eA, eCl, eV, eC, eAnd, eOr, eNot, eIf, eCh, tV, tNot, tAnd, tOr, tYes, bof_bl, aNil, aCons, tgSet, setAll, lo0, bodyR_nx, bodyR_rt, R.wp_ok, SR.wp_nx, SR.wp_rt, SR.wp_bk, gAddA, gAdd, gSub, gLe, gLt, gGt, gGe, is_non, is_int, is_tup, is_bl, isn_non, isn_int, isn_tup, isn_bl, is_o, isn_o, gNeg, gTup1, gTup2, gTup3, gTup4, gTup5, gLst0, gLst1, gLst2, gLst3, eLstA0, List.length_cons, List.length_nil, List.map_cons, List.map_nil, List.cons_append, List.nil_append, List.replicate, Nat.sub_self, Nat.reduceSub, Nat.reduceAdd, List.getElem?_cons_zero, List.getElem?_cons_succ, List.set_cons_zero, List.set_cons_succ, Option.map_some, Bool.not_true, Bool.not_false, ite_true, ite_false, if_true, if_false, Bool.false_eq_true, gEq_int, gNe_int, gEq_bl, gNe_bl, gEq_non, gNe_non, List.isEmpty_cons, List.isEmpty_nil, h0, a1.lvl, ixrow ok.lvl]
  cases hv : val t t.rp t.lvl with
  | none =>
    simp only [Option.isNone, nG, sSet, sRet, sRetN, sIf, sDrop, sNx, sBrk, sPar, sTg, sr_ok, rb_ok, ro_ok, so_ok, e1, e2, eA, eCl, eV, eC, eAnd, eOr, eNot, eIf, eCh, tV, tNot, tAnd, tOr, tYes, bof_bl, aNil, aCons, tgSet, setAll, lo0, bodyR_nx, bodyR_rt, R.wp_ok, SR.wp_nx, SR.wp_rt, SR.wp_bk, gAddA, gAdd, gSub, gLe, gLt, gGt, gGe, is_non, is_int, is_tup, is_bl, isn_non, isn_int, isn_tup, isn_bl, is_o, isn_o, gNeg, gTup1, gTup2, gTup3, gTup4, gTup5, gLst0, gLst1, gLst2, gLst3, eLstA0, List.length_cons, List.length_nil, List.map_cons, List.map_nil, List.cons_append, List.nil_append, List.replicate, Nat.sub_self, Nat.reduceSub, Nat.reduceAdd, List.getElem?_cons_zero, List.getElem?_cons_succ, List.set_cons_zero, List.set_cons_succ, Option.map_some, Bool.not_true, Bool.not_false, ite_true, ite_false, if_true, if_false, Bool.false_eq_true, gEq_int, gNe_int, gEq_bl, gNe_bl, gEq_non, gNe_non, List.isEmpty_cons, List.isEmpty_nil]
    exact ⟨gr, fun _ => trivial, fun _ h => by cases h⟩
  | some v0 =>
    simp only [Option.isNone, nG, sSet, sRet, sRetN, sIf, sDrop, sNx, sBrk, sPar, sTg, sr_ok, rb_ok, ro_ok, so_ok, e1, e2, eA, eCl, eV, eC, eAnd, eOr, eNot, eIf, eCh, tV, tNot, tAnd, tOr, tYes, bof_bl, aNil, aCons, tgSet, setAll, lo0, bodyR_nx, bodyR_rt, R.wp_ok, SR.wp_nx, SR.wp_rt, SR.wp_bk, gAddA, gAdd, gSub, gLe, gLt, gGt, gGe, is_non, is_int, is_tup, is_bl, isn_non, isn_int, isn_tup, isn_bl, is_o, isn_o, gNeg, gTup1, gTup2, gTup3, gTup4, gTup5, gLst0, gLst1, gLst2, gLst3, eLstA0, List.length_cons, List.length_nil, List.map_cons, List.map_nil, List.cons_append, List.nil_append, List.replicate, Nat.sub_self, Nat.reduceSub, Nat.reduceAdd, List.getElem?_cons_zero, List.getElem?_cons_succ, List.set_cons_zero, List.set_cons_succ, Option.map_some, Bool.not_true, Bool.not_false, ite_true, ite_false, if_true, if_false, Bool.false_eq_true, gEq_int, gNe_int, gEq_bl, gNe_bl, gEq_non, gNe_non, List.isEmpty_cons, List.isEmpty_nil]
    refine wp_seq ?_
    simp only [nG, sSet, sRet, sRetN, sIf, sDrop, sNx, sBrk, sPar, sTg, sr_ok, rb_ok, ro_ok, so_ok, e1, e2, eA, eCl, eV, eC, eAnd, eOr, eNot, eIf, eCh, tV, tNot, tAnd, tOr, tYes, bof_bl, aNil, aCons, tgSet, setAll, lo0, bodyR_nx, bodyR_rt, R.wp_ok, SR.wp_nx, SR.wp_rt, SR.wp_bk, gAddA, gAdd, gSub, gLe, gLt, gGt, gGe, is_non, is_int, is_tup, is_bl, isn_non, isn_int, isn_tup, isn_bl, is_o, isn_o, gNeg, gTup1, gTup2, gTup3, gTup4, gTup5, gLst0, gLst1, gLst2, gLst3, eLstA0, List.length_cons, List.length_nil, List.map_cons, List.map_nil, List.cons_append, List.nil_append, List.replicate, Nat.sub_self, Nat.reduceSub, Nat.reduceAdd, List.getElem?_cons_zero, List.getElem?_cons_succ, List.set_cons_zero, List.set_cons_succ, Option.map_some, Bool.not_true, Bool.not_false, ite_true, ite_false, if_true, if_false, Bool.false_eq_true, gEq_int, gNe_int, gEq_bl, gNe_bl, gEq_non, gNe_non, List.isEmpty_cons, List.isEmpty_nil, (a1.grow (.push S1 [.lst true []])).lvl]
    refine wp_seq (wp_for (xs := (List.range t.rain.length).map nG) ?_
      (fun k l S' => ∃ u4 u5 u6 Z w ms, l = [some (.ref o), some (.tl ((tabs t t.rp).map rowG)), some (.ref S1.length), some (.int (w : Nat)), u4, u5, u6] ∧ S' = S1 ++ .lst true (ms.map nG) :: Z ∧
        ms.length ≤ k ∧ w ≤ t.lim ∧ (∃ v, val t (t.rp.drop k) w = some v) ∧ ∀ ms', IsPath t (t.rp.drop k) w ms' → IsPath t t.rp t.lvl (ms ++ ms')) ?_ ⟨_, _, _, [], t.lvl, [], rfl, rfl, Nat.le_refl _, ok.lvl, ⟨_, hv⟩, fun _ h => h⟩ ?_)
    · exact itR1_nat (n := t.rain.length) (by simp [nG, sSeq, sSet, sRet, sRetN, sIf, sDrop, sNx, sBrk, sPar, sTg, sr_ok, rb_ok, ro_ok, so_ok, e1, e2, eA, eCl, eV, eC, eAnd, eOr, eNot, eIf, eCh, tV, tNot, tAnd, tOr, tYes, bof_bl, aNil, aCons, tgSet, setAll, lo0, bodyR_nx, bodyR_rt, R.wp_ok, SR.wp_nx, SR.wp_rt, SR.wp_bk, gAddA, gAdd, gSub, gLe, gLt, gGt, gGe, is_non, is_int, is_tup, is_bl, isn_non, isn_int, isn_tup, isn_bl, is_o, isn_o, gNeg, gTup1, gTup2, gTup3, gTup4, gTup5, gLst0, gLst1, gLst2, gLst3, eLstA0, List.length_cons, List.length_nil, List.map_cons, List.map_nil, List.cons_append, List.nil_append, List.replicate, Nat.sub_self, Nat.reduceSub, Nat.reduceAdd, List.getElem?_cons_zero, List.getElem?_cons_succ, List.set_cons_zero, List.set_cons_succ, Option.map_some, Bool.not_true, Bool.not_false, ite_true, ite_false, if_true, if_false, Bool.false_eq_true, gEq_int, gNe_int, gEq_bl, gNe_bl, gEq_non, gNe_non, List.isEmpty_cons, List.isEmpty_nil, (a1.grow (.push _ _)).rain, len_nsG]) (by omega)
    · rintro k x l S' hx ⟨u4, u5, u6, Z, w, ms, rfl, rfl, hms, hw, ⟨v, hval⟩, hpath⟩
      rw [← intsFrom_zero] at hx
      obtain ⟨hk, rfl⟩ := intsFrom_get hx
      refine ⟨_, rfl, ?_⟩
      have a2 : At (S1 ++ .lst true (ms.map nG) :: Z) o t := a1.grow (.push _ _)
      obtain ⟨r, p, hr, hp, hd⟩ := rp_get ok hk
      have hval' := hval
      rw [hd] at hval hpath
      rw [val_cons hw] at hval
      refine wp_for (xs := (chs t (w + r)).map (chG (w + r))) ?_
        (fun i l S' => (∃ u5 u6, l = [some (.ref o), some (.tl ((tabs t t.rp).map rowG)), some (.ref S1.length), some (.int (w : Nat)), some (.int (k : Nat)), u5, u6]) ∧ S' = S1 ++ .lst true (ms.map nG) :: Z ∧
          ∀ c ∈ (costs t p (rowAt t (t.rp.drop (k + 1))) (w + r)).take i, c ≠ some v) ?_ ⟨⟨_, _, rfl⟩, rfl, fun _ h => by cases h⟩ ?_
      · simp only [nG, sSet, sRet, sRetN, sIf, sDrop, sNx, sBrk, sPar, sTg, sr_ok, rb_ok, ro_ok, so_ok, e1, e2, eA, eCl, eV, eC, eAnd, eOr, eNot, eIf, eCh, tV, tNot, tAnd, tOr, tYes, bof_bl, aNil, aCons, tgSet, setAll, lo0, bodyR_nx, bodyR_rt, R.wp_ok, SR.wp_nx, SR.wp_rt, SR.wp_bk, gAddA, gAdd, gSub, gLe, gLt, gGt, gGe, is_non, is_int, is_tup, is_bl, isn_non, isn_int, isn_tup, isn_bl, is_o, isn_o, gNeg, gTup1, gTup2, gTup3, gTup4, gTup5, gLst0, gLst1, gLst2, gLst3, eLstA0, List.length_cons, List.length_nil, List.map_cons, List.map_nil, List.cons_append, List.nil_append, List.replicate, Nat.sub_self, Nat.reduceSub, Nat.reduceAdd, List.getElem?_cons_zero, List.getElem?_cons_succ, List.set_cons_zero, List.set_cons_succ, Option.map_some, Bool.not_true, Bool.not_false, ite_true, ite_false, if_true, if_false, Bool.false_eq_true, gEq_int, gNe_int, gEq_bl, gNe_bl, gEq_non, gNe_non, List.isEmpty_cons, List.isEmpty_nil, itV, choices_eq ok a2 hr]
      · rintro i x l S' hx ⟨⟨u5, u6, rfl⟩, rfl, hno⟩
        obtain ⟨m, hm, rfl, h1, h2, h3⟩ := chs_get hx
        refine ⟨_, rfl, ?_⟩
        have hci : (costs t p (rowAt t (t.rp.drop (k + 1))) (w + r))[i]? = some (cst p (rowAt t (t.rp.drop (k + 1))) (w + r) m) := by
          unfold costs
          rw [List.getElem?_map, hm]
          rfl
        have hkl := rp_len ok
        have i1 : ∀ S, gIx (.tl ((tabs t t.rp).map rowG)) (.int ((k : Int) + 1)) S = some (rowG (rowAt t (t.rp.drop (k + 1)))) := fun S => by
          have := ixtab (S := S) (t := t) (l := t.rp) (k := k + 1) (by omega)
          rwa [show ((k + 1 : Nat) : Int) = (k : Int) + 1 by omega] at this
        have i2 : ∀ S, gIx (.tl ((tabs t t.rp).map rowG)) (.int (k : Nat)) S = some (rowG (rowAt t (t.rp.drop k))) := fun S => ixtab (S := S) (t := t) (l := t.rp) (k := k) (by omega)
        have hcap := ok.cap
        have hmul := mul_sm (S := S1 ++ .lst true (ms.map nG) :: Z) (m := m) (p := p) (by omega)
        simp only [nG, sSet, sRet, sRetN, sIf, sDrop, sNx, sBrk, sPar, sTg, sr_ok, rb_ok, ro_ok, so_ok, e1, e2, eA, eCl, eV, eC, eAnd, eOr, eNot, eIf, eCh, tV, tNot, tAnd, tOr, tYes, bof_bl, aNil, aCons, tgSet, setAll, lo0, bodyR_nx, bodyR_rt, R.wp_ok, SR.wp_nx, SR.wp_rt, SR.wp_bk, gAddA, gAdd, gSub, gLe, gLt, gGt, gGe, is_non, is_int, is_tup, is_bl, isn_non, isn_int, isn_tup, isn_bl, is_o, isn_o, gNeg, gTup1, gTup2, gTup3, gTup4, gTup5, gLst0, gLst1, gLst2, gLst3, eLstA0, List.length_cons, List.length_nil, List.map_cons, List.map_nil, List.cons_append, List.nil_append, List.replicate, Nat.sub_self, Nat.reduceSub, Nat.reduceAdd, List.getElem?_cons_zero, List.getElem?_cons_succ, List.set_cons_zero, List.set_cons_succ, Option.map_some, Bool.not_true, Bool.not_false, ite_true, ite_false, if_true, if_false, Bool.false_eq_true, gEq_int, gNe_int, gEq_bl, gNe_bl, gEq_non, gNe_non, List.isEmpty_cons, List.isEmpty_nil, chG, i1, ixrow h3]
        cases h4 : val t (t.rp.drop (k + 1)) (w + r - m) with
        | none =>
          simp only [Option.isSome, nG, sSet, sRet, sRetN, sIf, sDrop, sNx, sBrk, sPar, sTg, sr_ok, rb_ok, ro_ok, so_ok, e1, e2, eA, eCl, eV, eC, eAnd, eOr, eNot, eIf, eCh, tV, tNot, tAnd, tOr, tYes, bof_bl, aNil, aCons, tgSet, setAll, lo0, bodyR_nx, bodyR_rt, R.wp_ok, SR.wp_nx, SR.wp_rt, SR.wp_bk, gAddA, gAdd, gSub, gLe, gLt, gGt, gGe, is_non, is_int, is_tup, is_bl, isn_non, isn_int, isn_tup, isn_bl, is_o, isn_o, gNeg, gTup1, gTup2, gTup3, gTup4, gTup5, gLst0, gLst1, gLst2, gLst3, eLstA0, List.length_cons, List.length_nil, List.map_cons, List.map_nil, List.cons_append, List.nil_append, List.replicate, Nat.sub_self, Nat.reduceSub, Nat.reduceAdd, List.getElem?_cons_zero, List.getElem?_cons_succ, List.set_cons_zero, List.set_cons_succ, Option.map_some, Bool.not_true, Bool.not_false, ite_true, ite_false, if_true, if_false, Bool.false_eq_true, gEq_int, gNe_int, gEq_bl, gNe_bl, gEq_non, gNe_non, List.isEmpty_cons, List.isEmpty_nil]
          refine ⟨⟨_, _, rfl⟩, (by first | trivial | rfl), fun c hc => ?_⟩
          rw [take_snoc hci] at hc
          rcases List.mem_append.mp hc with hc | hc
          · exact hno c hc
          · rw [List.mem_singleton.mp hc, cst_val, h4]; exact fun h => by cases h
        | some v2 =>
          simp only [Option.isSome, nG, sSet, sRet, sRetN, sIf, sDrop, sNx, sBrk, sPar, sTg, sr_ok, rb_ok, ro_ok, so_ok, e1, e2, eA, eCl, eV, eC, eAnd, eOr, eNot, eIf, eCh, tV, tNot, tAnd, tOr, tYes, bof_bl, aNil, aCons, tgSet, setAll, lo0, bodyR_nx, bodyR_rt, R.wp_ok, SR.wp_nx, SR.wp_rt, SR.wp_bk, gAddA, gAdd, gSub, gLe, gLt, gGt, gGe, is_non, is_int, is_tup, is_bl, isn_non, isn_int, isn_tup, isn_bl, is_o, isn_o, gNeg, gTup1, gTup2, gTup3, gTup4, gTup5, gLst0, gLst1, gLst2, gLst3, eLstA0, List.length_cons, List.length_nil, List.map_cons, List.map_nil, List.cons_append, List.nil_append, List.replicate, Nat.sub_self, Nat.reduceSub, Nat.reduceAdd, List.getElem?_cons_zero, List.getElem?_cons_succ, List.set_cons_zero, List.set_cons_succ, Option.map_some, Bool.not_true, Bool.not_false, ite_true, ite_false, if_true, if_false, Bool.false_eq_true, gEq_int, gNe_int, gEq_bl, gNe_bl, gEq_non, gNe_non, List.isEmpty_cons, List.isEmpty_nil, a2.prices, ixn hp, hmul, i1, ixrow h3, h4, oG, i2, ixrow hw, hval']
          by_cases hq : (m : Int) * p + v2 = v
          · simp only [hq, decide_true, nG, sSet, sRet, sRetN, sIf, sDrop, sNx, sBrk, sPar, sTg, sr_ok, rb_ok, ro_ok, so_ok, e1, e2, eA, eCl, eV, eC, eAnd, eOr, eNot, eIf, eCh, tV, tNot, tAnd, tOr, tYes, bof_bl, aNil, aCons, tgSet, setAll, lo0, bodyR_nx, bodyR_rt, R.wp_ok, SR.wp_nx, SR.wp_rt, SR.wp_bk, gAddA, gAdd, gSub, gLe, gLt, gGt, gGe, is_non, is_int, is_tup, is_bl, isn_non, isn_int, isn_tup, isn_bl, is_o, isn_o, gNeg, gTup1, gTup2, gTup3, gTup4, gTup5, gLst0, gLst1, gLst2, gLst3, eLstA0, List.length_cons, List.length_nil, List.map_cons, List.map_nil, List.cons_append, List.nil_append, List.replicate, Nat.sub_self, Nat.reduceSub, Nat.reduceAdd, List.getElem?_cons_zero, List.getElem?_cons_succ, List.set_cons_zero, List.set_cons_succ, Option.map_some, Bool.not_true, Bool.not_false, ite_true, ite_false, if_true, if_false, Bool.false_eq_true, gEq_int, gNe_int, gEq_bl, gNe_bl, gEq_non, gNe_non, List.isEmpty_cons, List.isEmpty_nil]
            refine wp_seq (wp_drop ?_)
            rw [eML_of (o := S1.length) (xs := ms.map nG) (x := nG m) rfl get_mid rfl (by simp; omega), R.wp_ok, set_mid]
            simp only [nG, sSeq, sSet, sRet, sRetN, sIf, sDrop, sNx, sBrk, sPar, sTg, sr_ok, rb_ok, ro_ok, so_ok, e1, e2, eA, eCl, eV, eC, eAnd, eOr, eNot, eIf, eCh, tV, tNot, tAnd, tOr, tYes, bof_bl, aNil, aCons, tgSet, setAll, lo0, bodyR_nx, bodyR_rt, R.wp_ok, SR.wp_nx, SR.wp_rt, SR.wp_bk, gAddA, gAdd, gSub, gLe, gLt, gGt, gGe, is_non, is_int, is_tup, is_bl, isn_non, isn_int, isn_tup, isn_bl, is_o, isn_o, gNeg, gTup1, gTup2, gTup3, gTup4, gTup5, gLst0, gLst1, gLst2, gLst3, eLstA0, List.length_cons, List.length_nil, List.map_cons, List.map_nil, List.cons_append, List.nil_append, List.replicate, Nat.sub_self, Nat.reduceSub, Nat.reduceAdd, List.getElem?_cons_zero, List.getElem?_cons_succ, List.set_cons_zero, List.set_cons_succ, Option.map_some, Bool.not_true, Bool.not_false, ite_true, ite_false, if_true, if_false, Bool.false_eq_true, gEq_int, gNe_int, gEq_bl, gNe_bl, gEq_non, gNe_non, List.isEmpty_cons, List.isEmpty_nil]
            refine ⟨_, _, _, Z, w + r - m, ms ++ [m], rfl, by simp [nG], by simp; omega, h3, ⟨v2, h4⟩, fun ms' hp' => ?_⟩
            rw [List.append_assoc]
            exact hpath _ ⟨h1, h2, h3, ⟨v2, h4, by rw [← hd, hval', hq]⟩, hp'⟩
          · simp only [hq, decide_false, nG, sSet, sRet, sRetN, sIf, sDrop, sNx, sBrk, sPar, sTg, sr_ok, rb_ok, ro_ok, so_ok, e1, e2, eA, eCl, eV, eC, eAnd, eOr, eNot, eIf, eCh, tV, tNot, tAnd, tOr, tYes, bof_bl, aNil, aCons, tgSet, setAll, lo0, bodyR_nx, bodyR_rt, R.wp_ok, SR.wp_nx, SR.wp_rt, SR.wp_bk, gAddA, gAdd, gSub, gLe, gLt, gGt, gGe, is_non, is_int, is_tup, is_bl, isn_non, isn_int, isn_tup, isn_bl, is_o, isn_o, gNeg, gTup1, gTup2, gTup3, gTup4, gTup5, gLst0, gLst1, gLst2, gLst3, eLstA0, List.length_cons, List.length_nil, List.map_cons, List.map_nil, List.cons_append, List.nil_append, List.replicate, Nat.sub_self, Nat.reduceSub, Nat.reduceAdd, List.getElem?_cons_zero, List.getElem?_cons_succ, List.set_cons_zero, List.set_cons_succ, Option.map_some, Bool.not_true, Bool.not_false, ite_true, ite_false, if_true, if_false, Bool.false_eq_true, gEq_int, gNe_int, gEq_bl, gNe_bl, gEq_non, gNe_non, List.isEmpty_cons, List.isEmpty_nil]
            refine ⟨⟨_, _, rfl⟩, (by first | trivial | rfl), fun c hc => ?_⟩
            rw [take_snoc hci] at hc
            rcases List.mem_append.mp hc with hc | hc
            · exact hno c hc
            · rw [List.mem_singleton.mp hc, cst_val, h4]; exact fun h => hq (Option.some.inj h)
      · rintro l S' ⟨⟨u5, u6, rfl⟩, rfl, hno⟩
        have hlen : ((chs t (w + r)).map (chG (w + r))).length = (costs t p (rowAt t (t.rp.drop (k + 1))) (w + r)).length := by simp [costs]
        rw [hlen, List.take_length] at hno
        exact absurd rfl (hno _ (leastO_mem hval).1)
    · rintro l S' ⟨u4, u5, u6, Z, w, ms, rfl, rfl, hms, hw, _, hpath⟩
      refine wp_ret ?_
      rw [List.length_map, List.length_range, ← rp_len ok, List.drop_length] at hpath
      have := hpath [] trivial
      rw [List.append_nil] at this
      simp only [nG, sSet, sRet, sRetN, sIf, sDrop, sNx, sBrk, sPar, sTg, sr_ok, rb_ok, ro_ok, so_ok, e1, e2, eA, eCl, eV, eC, eAnd, eOr, eNot, eIf, eCh, tV, tNot, tAnd, tOr, tYes, bof_bl, aNil, aCons, tgSet, setAll, lo0, bodyR_nx, bodyR_rt, R.wp_ok, SR.wp_nx, SR.wp_rt, SR.wp_bk, gAddA, gAdd, gSub, gLe, gLt, gGt, gGe, is_non, is_int, is_tup, is_bl, isn_non, isn_int, isn_tup, isn_bl, is_o, isn_o, gNeg, gTup1, gTup2, gTup3, gTup4, gTup5, gLst0, gLst1, gLst2, gLst3, eLstA0, List.length_cons, List.length_nil, List.map_cons, List.map_nil, List.cons_append, List.nil_append, List.replicate, Nat.sub_self, Nat.reduceSub, Nat.reduceAdd, List.getElem?_cons_zero, List.getElem?_cons_succ, List.set_cons_zero, List.set_cons_succ, Option.map_some, Bool.not_true, Bool.not_false, ite_true, ite_false, if_true, if_false, Bool.false_eq_true, gEq_int, gNe_int, gEq_bl, gNe_bl, gEq_non, gNe_non, List.isEmpty_cons, List.isEmpty_nil, gTuple, seqG, lst_mid]
      exact ⟨gr.trans (.push _ _), fun h => (by cases h), fun _ _ => ⟨ms, rfl, this⟩⟩
end Lk14

end

section
set_option Elab.async false
set_option linter.all false
set_option maxRecDepth 100000
set_option maxHeartbeats 4000000
namespace Lk14
open PySem GL
variable {n : Nat} {S : Sto}
theorem lam0_eq (x : Int) (y : G) : callN tab (n + 3) (.la 0 0) [.int x, y] S = .ok (.bl (decide (0 ≤ x ∧ x ≤ 9))) S := by
  rw [cn_lam0 (n + 2) _ _ rfl]
  simp only [nG, sSeq, sSet, sRet, sRetN, sIf, sDrop, sNx, sBrk, sPar, sTg, sr_ok, rb_ok, ro_ok, so_ok, e1, e2, eA, eCl, eV, eC, eAnd, eOr, eNot, eIf, eCh, tV, tNot, tAnd, tOr, tYes, bof_bl, aNil, aCons, tgSet, setAll, lo0, bodyR_nx, bodyR_rt, R.wp_ok, SR.wp_nx, SR.wp_rt, SR.wp_bk, gAddA, gAdd, gSub, gLe, gLt, gGt, gGe, is_non, is_int, is_tup, is_bl, isn_non, isn_int, isn_tup, isn_bl, is_o, isn_o, gNeg, gTup1, gTup2, gTup3, gTup4, gTup5, gLst0, gLst1, gLst2, gLst3, eLstA0, List.length_cons, List.length_nil, List.map_cons, List.map_nil, List.cons_append, List.nil_append, List.replicate, Nat.sub_self, Nat.reduceSub, Nat.reduceAdd, List.getElem?_cons_zero, List.getElem?_cons_succ, List.set_cons_zero, List.set_cons_succ, Option.map_some, Bool.not_true, Bool.not_false, ite_true, ite_false, if_true, if_false, Bool.false_eq_true, gEq_int, gNe_int, gEq_bl, gNe_bl, gEq_non, gNe_non, List.isEmpty_cons, List.isEmpty_nil, she_lam0, is_within_eq]
theorem lam1_eq (x : Int) (y : G) : callN tab (n + 3) (.la 1 0) [.int x, y] S = .ok (.bl (decide (0 ≤ x ∧ x ≤ 9))) S := by
  rw [cn_lam1 (n + 2) _ _ rfl]
  simp only [nG, sSeq, sSet, sRet, sRetN, sIf, sDrop, sNx, sBrk, sPar, sTg, sr_ok, rb_ok, ro_ok, so_ok, e1, e2, eA, eCl, eV, eC, eAnd, eOr, eNot, eIf, eCh, tV, tNot, tAnd, tOr, tYes, bof_bl, aNil, aCons, tgSet, setAll, lo0, bodyR_nx, bodyR_rt, R.wp_ok, SR.wp_nx, SR.wp_rt, SR.wp_bk, gAddA, gAdd, gSub, gLe, gLt, gGt, gGe, is_non, is_int, is_tup, is_bl, isn_non, isn_int, isn_tup, isn_bl, is_o, isn_o, gNeg, gTup1, gTup2, gTup3, gTup4, gTup5, gLst0, gLst1, gLst2, gLst3, eLstA0, List.length_cons, List.length_nil, List.map_cons, List.map_nil, List.cons_append, List.nil_append, List.replicate, Nat.sub_self, Nat.reduceSub, Nat.reduceAdd, List.getElem?_cons_zero, List.getElem?_cons_succ, List.set_cons_zero, List.set_cons_succ, Option.map_some, Bool.not_true, Bool.not_false, ite_true, ite_false, if_true, if_false, Bool.false_eq_true, gEq_int, gNe_int, gEq_bl, gNe_bl, gEq_non, gNe_non, List.isEmpty_cons, List.isEmpty_nil, she_lam1, is_within_eq]
theorem first_wrong_eq {l : List Nat} {i j c : Nat} (hl : ∀ x ∈ l, x ≤ 9) (h1 : i ≤ l.length) (h2 : l.length ≤ j) (hc : c = 0 ∨ c = 1) :
    callN tab (n + 4) (.fn "first_wrong") [nsG l, .int (i : Nat), .int (j : Nat), .clo c 0 []] S = .ok .non S := by
  rw [cn_first_wrong (n + 3) _ _ rfl]
  have hi : gIsi isaT [nsG l, .ty "tuple"] S = some (.bl true) := isi_tup_tuple _
  have ha : (decide ((i : Int) ≤ (l.length : Int))) = true := decide_eq_true (by omega)
  have hb : (decide ((l.length : Int) ≤ (j : Int))) = true := decide_eq_true (by omega)
  refine R_ok_of ?_
  unfold sh_first_wrong
  refine wp_seq ?_
  simp only [nG, sSet, sRet, sRetN, sIf, sDrop, sNx, sBrk, sPar, sTg, sr_ok, rb_ok, ro_ok, so_ok, e1, e2, eA, eCl, eV, eC, eAnd, eOr, eNot, eIf, eCh, tV, tNot, tAnd, tOr, tYes, bof_bl, aNil, aCons, tgSet, setAll, lo0, bodyR_nx, bodyR_rt, R.wp_ok, SR.wp_nx, SR.wp_rt, SR.wp_bk, gAddA, gAdd, gSub, gLe, gLt, gGt, gGe, is_non, is_int, is_tup, is_bl, isn_non, isn_int, isn_tup, isn_bl, is_o, isn_o, gNeg, gTup1, gTup2, gTup3, gTup4, gTup5, gLst0, gLst1, gLst2, gLst3, eLstA0, List.length_cons, List.length_nil, List.map_cons, List.map_nil, List.cons_append, List.nil_append, List.replicate, Nat.sub_self, Nat.reduceSub, Nat.reduceAdd, List.getElem?_cons_zero, List.getElem?_cons_succ, List.set_cons_zero, List.set_cons_succ, Option.map_some, Bool.not_true, Bool.not_false, ite_true, ite_false, if_true, if_false, Bool.false_eq_true, gEq_int, gNe_int, gEq_bl, gNe_bl, gEq_non, gNe_non, List.isEmpty_cons, List.isEmpty_nil, hi, len_nsG, ha, hb]
  refine wp_seq (wp_for (xs := numd 0 (l.map nG)) ?_ (fun k l' S' => ∃ u4 u5, l' = [some (nsG l), some (.int (i : Nat)), some (.int (j : Nat)), some (.clo c 0 []), u4, u5] ∧ S' = S) ?_ ⟨_, _, rfl, rfl⟩ ?_)
  · simp only [nG, sSet, sRet, sRetN, sIf, sDrop, sNx, sBrk, sPar, sTg, sr_ok, rb_ok, ro_ok, so_ok, e1, e2, eA, eCl, eV, eC, eAnd, eOr, eNot, eIf, eCh, tV, tNot, tAnd, tOr, tYes, bof_bl, aNil, aCons, tgSet, setAll, lo0, bodyR_nx, bodyR_rt, R.wp_ok, SR.wp_nx, SR.wp_rt, SR.wp_bk, gAddA, gAdd, gSub, gLe, gLt, gGt, gGe, is_non, is_int, is_tup, is_bl, isn_non, isn_int, isn_tup, isn_bl, is_o, isn_o, gNeg, gTup1, gTup2, gTup3, gTup4, gTup5, gLst0, gLst1, gLst2, gLst3, eLstA0, List.length_cons, List.length_nil, List.map_cons, List.map_nil, List.cons_append, List.nil_append, List.replicate, Nat.sub_self, Nat.reduceSub, Nat.reduceAdd, List.getElem?_cons_zero, List.getElem?_cons_succ, List.set_cons_zero, List.set_cons_succ, Option.map_some, Bool.not_true, Bool.not_false, ite_true, ite_false, if_true, if_false, Bool.false_eq_true, gEq_int, gNe_int, gEq_bl, gNe_bl, gEq_non, gNe_non, List.isEmpty_cons, List.isEmpty_nil, itEn, nsG]
  · rintro k x l' S' hx ⟨u4, u5, rfl, rfl⟩
    obtain ⟨y, hy, rfl⟩ := numd_at _ _ _ _ hx
    rw [List.getElem?_map] at hy
    cases e : l[k]? with
    | none => rw [e] at hy; cases hy
    | some z =>
      rw [e] at hy
      cases hy
      have hz := hl z (List.mem_of_getElem? e)
      have hd : decide (0 ≤ (z : Int) ∧ (z : Int) ≤ 9) = true := decide_eq_true (by omega)
      refine ⟨_, rfl, ?_⟩
      rcases hc with rfl | rfl
      · simp only [nG, sSet, sRet, sRetN, sIf, sDrop, sNx, sBrk, sPar, sTg, sr_ok, rb_ok, ro_ok, so_ok, e1, e2, eA, eCl, eV, eC, eAnd, eOr, eNot, eIf, eCh, tV, tNot, tAnd, tOr, tYes, bof_bl, aNil, aCons, tgSet, setAll, lo0, bodyR_nx, bodyR_rt, R.wp_ok, SR.wp_nx, SR.wp_rt, SR.wp_bk, gAddA, gAdd, gSub, gLe, gLt, gGt, gGe, is_non, is_int, is_tup, is_bl, isn_non, isn_int, isn_tup, isn_bl, is_o, isn_o, gNeg, gTup1, gTup2, gTup3, gTup4, gTup5, gLst0, gLst1, gLst2, gLst3, eLstA0, List.length_cons, List.length_nil, List.map_cons, List.map_nil, List.cons_append, List.nil_append, List.replicate, Nat.sub_self, Nat.reduceSub, Nat.reduceAdd, List.getElem?_cons_zero, List.getElem?_cons_succ, List.set_cons_zero, List.set_cons_succ, Option.map_some, Bool.not_true, Bool.not_false, ite_true, ite_false, if_true, if_false, Bool.false_eq_true, gEq_int, gNe_int, gEq_bl, gNe_bl, gEq_non, gNe_non, List.isEmpty_cons, List.isEmpty_nil, eClL, eSl, oE, nsG, gSl, lam0_eq, hd]
        exact ⟨_, _, rfl, trivial⟩
      · simp only [nG, sSet, sRet, sRetN, sIf, sDrop, sNx, sBrk, sPar, sTg, sr_ok, rb_ok, ro_ok, so_ok, e1, e2, eA, eCl, eV, eC, eAnd, eOr, eNot, eIf, eCh, tV, tNot, tAnd, tOr, tYes, bof_bl, aNil, aCons, tgSet, setAll, lo0, bodyR_nx, bodyR_rt, R.wp_ok, SR.wp_nx, SR.wp_rt, SR.wp_bk, gAddA, gAdd, gSub, gLe, gLt, gGt, gGe, is_non, is_int, is_tup, is_bl, isn_non, isn_int, isn_tup, isn_bl, is_o, isn_o, gNeg, gTup1, gTup2, gTup3, gTup4, gTup5, gLst0, gLst1, gLst2, gLst3, eLstA0, List.length_cons, List.length_nil, List.map_cons, List.map_nil, List.cons_append, List.nil_append, List.replicate, Nat.sub_self, Nat.reduceSub, Nat.reduceAdd, List.getElem?_cons_zero, List.getElem?_cons_succ, List.set_cons_zero, List.set_cons_succ, Option.map_some, Bool.not_true, Bool.not_false, ite_true, ite_false, if_true, if_false, Bool.false_eq_true, gEq_int, gNe_int, gEq_bl, gNe_bl, gEq_non, gNe_non, List.isEmpty_cons, List.isEmpty_nil, eClL, eSl, oE, nsG, gSl, lam1_eq, hd]
        exact ⟨_, _, rfl, trivial⟩
  · rintro l' S' ⟨u4, u5, rfl, rfl⟩
    simp only [nG, sSeq, sSet, sRet, sRetN, sIf, sDrop, sNx, sBrk, sPar, sTg, sr_ok, rb_ok, ro_ok, so_ok, e1, e2, eA, eCl, eV, eC, eAnd, eOr, eNot, eIf, eCh, tV, tNot, tAnd, tOr, tYes, bof_bl, aNil, aCons, tgSet, setAll, lo0, bodyR_nx, bodyR_rt, R.wp_ok, SR.wp_nx, SR.wp_rt, SR.wp_bk, gAddA, gAdd, gSub, gLe, gLt, gGt, gGe, is_non, is_int, is_tup, is_bl, isn_non, isn_int, isn_tup, isn_bl, is_o, isn_o, gNeg, gTup1, gTup2, gTup3, gTup4, gTup5, gLst0, gLst1, gLst2, gLst3, eLstA0, List.length_cons, List.length_nil, List.map_cons, List.map_nil, List.cons_append, List.nil_append, List.replicate, Nat.sub_self, Nat.reduceSub, Nat.reduceAdd, List.getElem?_cons_zero, List.getElem?_cons_succ, List.set_cons_zero, List.set_cons_succ, Option.map_some, Bool.not_true, Bool.not_false, ite_true, ite_false, if_true, if_false, Bool.false_eq_true, gEq_int, gNe_int, gEq_bl, gNe_bl, gEq_non, gNe_non, List.isEmpty_cons, List.isEmpty_nil]
    exact ⟨trivial, trivial⟩
def fieldsOf (t : Tk) : List (Str × G) := [("rain", nsG t.rain), ("prices", nsG t.prices), ("capacity", nG t.cap), ("limit", nG t.lim), ("level", nG t.lvl), ("whole", t.parts)]
theorem setF_task {f : Str} {fs fs' : List (Str × G)} {y : G} (ht : fldT.contains ("Task", f) = true) (hf : fs.length < 1000) (hp : putG f y fs = fs') : setF fldT (.ref S.length) f y (S ++ [.ins "Task" fs]) = some (S ++ [.ins "Task" fs']) := by
  rw [setF_of get_last ht hf, set_last, hp]
theorem init_eq {t : Tk} (ok : t.Ok) : callN tab (n + 5) (.me "Task" "__init__") [.ref S.length, nsG t.rain, nsG t.prices, .int (t.cap : Nat), .int (t.lim : Nat), .int (t.lvl : Nat)] (S ++ [.ins "Task" []]) = .ok .non (S ++ [.ins "Task" (fieldsOf t)]) := by
  have hd1 : (decide (0 ≤ (t.cap : Int) ∧ (t.cap : Int) ≤ 9)) = true := decide_eq_true (by have := ok.cap; omega)
  have hd2 : (decide (0 ≤ (t.lim : Int) ∧ (t.lim : Int) ≤ 20)) = true := decide_eq_true (by have := ok.lim; omega)
  have hd3 : (decide (0 ≤ (t.lvl : Int) ∧ (t.lvl : Int) ≤ (t.lim : Int))) = true := decide_eq_true (by have := ok.lvl; omega)
  have fw1 : ∀ S, callN tab (n + 4) (.fn "first_wrong") [nsG t.rain, .int 0, .int 12, .clo 0 0 []] S = .ok .non S := fun S => first_wrong_eq (i := 0) (j := 12) ok.rain (Nat.zero_le _) ok.most (.inl rfl)
  have fw2 : ∀ S, callN tab (n + 4) (.fn "first_wrong") [nsG t.prices, .int (t.rain.length : Nat), .int (t.rain.length : Nat), .clo 1 0 []] S = .ok .non S := fun S => first_wrong_eq (i := t.rain.length) (j := t.rain.length) ok.prices (by rw [ok.len]; exact Nat.le_refl _) (by rw [ok.len]; exact Nat.le_refl _) (.inr rfl)
  rw [cn_Task___init__ (n + 4) _ _ rfl]
  refine R_ok_of ?_
  unfold sh_Task___init__
  refine wp_seq ?_
  simp only [nG, sSet, sRet, sRetN, sIf, sDrop, sNx, sBrk, sPar, sTg, sr_ok, rb_ok, ro_ok, so_ok, e1, e2, eA, eCl, eV, eC, eAnd, eOr, eNot, eIf, eCh, tV, tNot, tAnd, tOr, tYes, bof_bl, aNil, aCons, tgSet, setAll, lo0, bodyR_nx, bodyR_rt, R.wp_ok, SR.wp_nx, SR.wp_rt, SR.wp_bk, gAddA, gAdd, gSub, gLe, gLt, gGt, gGe, is_non, is_int, is_tup, is_bl, isn_non, isn_int, isn_tup, isn_bl, is_o, isn_o, gNeg, gTup1, gTup2, gTup3, gTup4, gTup5, gLst0, gLst1, gLst2, gLst3, eLstA0, List.length_cons, List.length_nil, List.map_cons, List.map_nil, List.cons_append, List.nil_append, List.replicate, Nat.sub_self, Nat.reduceSub, Nat.reduceAdd, List.getElem?_cons_zero, List.getElem?_cons_succ, List.set_cons_zero, List.set_cons_succ, Option.map_some, Bool.not_true, Bool.not_false, ite_true, ite_false, if_true, if_false, Bool.false_eq_true, gEq_int, gNe_int, gEq_bl, gNe_bl, gEq_non, gNe_non, List.isEmpty_cons, List.isEmpty_nil]
  refine wp_seq ?_
  simp only [nG, sSet, sRet, sRetN, sIf, sDrop, sNx, sBrk, sPar, sTg, sr_ok, rb_ok, ro_ok, so_ok, e1, e2, eA, eCl, eV, eC, eAnd, eOr, eNot, eIf, eCh, tV, tNot, tAnd, tOr, tYes, bof_bl, aNil, aCons, tgSet, setAll, lo0, bodyR_nx, bodyR_rt, R.wp_ok, SR.wp_nx, SR.wp_rt, SR.wp_bk, gAddA, gAdd, gSub, gLe, gLt, gGt, gGe, is_non, is_int, is_tup, is_bl, isn_non, isn_int, isn_tup, isn_bl, is_o, isn_o, gNeg, gTup1, gTup2, gTup3, gTup4, gTup5, gLst0, gLst1, gLst2, gLst3, eLstA0, List.length_cons, List.length_nil, List.map_cons, List.map_nil, List.cons_append, List.nil_append, List.replicate, Nat.sub_self, Nat.reduceSub, Nat.reduceAdd, List.getElem?_cons_zero, List.getElem?_cons_succ, List.set_cons_zero, List.set_cons_succ, Option.map_some, Bool.not_true, Bool.not_false, ite_true, ite_false, if_true, if_false, Bool.false_eq_true, gEq_int, gNe_int, gEq_bl, gNe_bl, gEq_non, gNe_non, List.isEmpty_cons, List.isEmpty_nil, fw1]
  refine wp_seq ?_
  simp only [nG, sSet, sRet, sRetN, sIf, sDrop, sNx, sBrk, sPar, sTg, sr_ok, rb_ok, ro_ok, so_ok, e1, e2, eA, eCl, eV, eC, eAnd, eOr, eNot, eIf, eCh, tV, tNot, tAnd, tOr, tYes, bof_bl, aNil, aCons, tgSet, setAll, lo0, bodyR_nx, bodyR_rt, R.wp_ok, SR.wp_nx, SR.wp_rt, SR.wp_bk, gAddA, gAdd, gSub, gLe, gLt, gGt, gGe, is_non, is_int, is_tup, is_bl, isn_non, isn_int, isn_tup, isn_bl, is_o, isn_o, gNeg, gTup1, gTup2, gTup3, gTup4, gTup5, gLst0, gLst1, gLst2, gLst3, eLstA0, List.length_cons, List.length_nil, List.map_cons, List.map_nil, List.cons_append, List.nil_append, List.replicate, Nat.sub_self, Nat.reduceSub, Nat.reduceAdd, List.getElem?_cons_zero, List.getElem?_cons_succ, List.set_cons_zero, List.set_cons_succ, Option.map_some, Bool.not_true, Bool.not_false, ite_true, ite_false, if_true, if_false, Bool.false_eq_true, gEq_int, gNe_int, gEq_bl, gNe_bl, gEq_non, gNe_non, List.isEmpty_cons, List.isEmpty_nil]
  refine wp_seq ?_
  simp only [nG, sSet, sRet, sRetN, sIf, sDrop, sNx, sBrk, sPar, sTg, sr_ok, rb_ok, ro_ok, so_ok, e1, e2, eA, eCl, eV, eC, eAnd, eOr, eNot, eIf, eCh, tV, tNot, tAnd, tOr, tYes, bof_bl, aNil, aCons, tgSet, setAll, lo0, bodyR_nx, bodyR_rt, R.wp_ok, SR.wp_nx, SR.wp_rt, SR.wp_bk, gAddA, gAdd, gSub, gLe, gLt, gGt, gGe, is_non, is_int, is_tup, is_bl, isn_non, isn_int, isn_tup, isn_bl, is_o, isn_o, gNeg, gTup1, gTup2, gTup3, gTup4, gTup5, gLst0, gLst1, gLst2, gLst3, eLstA0, List.length_cons, List.length_nil, List.map_cons, List.map_nil, List.cons_append, List.nil_append, List.replicate, Nat.sub_self, Nat.reduceSub, Nat.reduceAdd, List.getElem?_cons_zero, List.getElem?_cons_succ, List.set_cons_zero, List.set_cons_succ, Option.map_some, Bool.not_true, Bool.not_false, ite_true, ite_false, if_true, if_false, Bool.false_eq_true, gEq_int, gNe_int, gEq_bl, gNe_bl, gEq_non, gNe_non, List.isEmpty_cons, List.isEmpty_nil]
  refine wp_seq ?_
  simp only [nG, sSet, sRet, sRetN, sIf, sDrop, sNx, sBrk, sPar, sTg, sr_ok, rb_ok, ro_ok, so_ok, e1, e2, eA, eCl, eV, eC, eAnd, eOr, eNot, eIf, eCh, tV, tNot, tAnd, tOr, tYes, bof_bl, aNil, aCons, tgSet, setAll, lo0, bodyR_nx, bodyR_rt, R.wp_ok, SR.wp_nx, SR.wp_rt, SR.wp_bk, gAddA, gAdd, gSub, gLe, gLt, gGt, gGe, is_non, is_int, is_tup, is_bl, isn_non, isn_int, isn_tup, isn_bl, is_o, isn_o, gNeg, gTup1, gTup2, gTup3, gTup4, gTup5, gLst0, gLst1, gLst2, gLst3, eLstA0, List.length_cons, List.length_nil, List.map_cons, List.map_nil, List.cons_append, List.nil_append, List.replicate, Nat.sub_self, Nat.reduceSub, Nat.reduceAdd, List.getElem?_cons_zero, List.getElem?_cons_succ, List.set_cons_zero, List.set_cons_succ, Option.map_some, Bool.not_true, Bool.not_false, ite_true, ite_false, if_true, if_false, Bool.false_eq_true, gEq_int, gNe_int, gEq_bl, gNe_bl, gEq_non, gNe_non, List.isEmpty_cons, List.isEmpty_nil, len_nsG, fw2]
  refine wp_seq ?_
  simp only [nG, sSet, sRet, sRetN, sIf, sDrop, sNx, sBrk, sPar, sTg, sr_ok, rb_ok, ro_ok, so_ok, e1, e2, eA, eCl, eV, eC, eAnd, eOr, eNot, eIf, eCh, tV, tNot, tAnd, tOr, tYes, bof_bl, aNil, aCons, tgSet, setAll, lo0, bodyR_nx, bodyR_rt, R.wp_ok, SR.wp_nx, SR.wp_rt, SR.wp_bk, gAddA, gAdd, gSub, gLe, gLt, gGt, gGe, is_non, is_int, is_tup, is_bl, isn_non, isn_int, isn_tup, isn_bl, is_o, isn_o, gNeg, gTup1, gTup2, gTup3, gTup4, gTup5, gLst0, gLst1, gLst2, gLst3, eLstA0, List.length_cons, List.length_nil, List.map_cons, List.map_nil, List.cons_append, List.nil_append, List.replicate, Nat.sub_self, Nat.reduceSub, Nat.reduceAdd, List.getElem?_cons_zero, List.getElem?_cons_succ, List.set_cons_zero, List.set_cons_succ, Option.map_some, Bool.not_true, Bool.not_false, ite_true, ite_false, if_true, if_false, Bool.false_eq_true, gEq_int, gNe_int, gEq_bl, gNe_bl, gEq_non, gNe_non, List.isEmpty_cons, List.isEmpty_nil]
  refine wp_seq ?_
  simp only [nG, sSet, sRet, sRetN, sIf, sDrop, sNx, sBrk, sPar, sTg, sr_ok, rb_ok, ro_ok, so_ok, e1, e2, eA, eCl, eV, eC, eAnd, eOr, eNot, eIf, eCh, tV, tNot, tAnd, tOr, tYes, bof_bl, aNil, aCons, tgSet, setAll, lo0, bodyR_nx, bodyR_rt, R.wp_ok, SR.wp_nx, SR.wp_rt, SR.wp_bk, gAddA, gAdd, gSub, gLe, gLt, gGt, gGe, is_non, is_int, is_tup, is_bl, isn_non, isn_int, isn_tup, isn_bl, is_o, isn_o, gNeg, gTup1, gTup2, gTup3, gTup4, gTup5, gLst0, gLst1, gLst2, gLst3, eLstA0, List.length_cons, List.length_nil, List.map_cons, List.map_nil, List.cons_append, List.nil_append, List.replicate, Nat.sub_self, Nat.reduceSub, Nat.reduceAdd, List.getElem?_cons_zero, List.getElem?_cons_succ, List.set_cons_zero, List.set_cons_succ, Option.map_some, Bool.not_true, Bool.not_false, ite_true, ite_false, if_true, if_false, Bool.false_eq_true, gEq_int, gNe_int, gEq_bl, gNe_bl, gEq_non, gNe_non, List.isEmpty_cons, List.isEmpty_nil, sFor, itV, fGo, fTurn, is_within_eq, hd1, hd2]
  refine wp_seq ?_
  simp only [nG, sSet, sRet, sRetN, sIf, sDrop, sNx, sBrk, sPar, sTg, sr_ok, rb_ok, ro_ok, so_ok, e1, e2, eA, eCl, eV, eC, eAnd, eOr, eNot, eIf, eCh, tV, tNot, tAnd, tOr, tYes, bof_bl, aNil, aCons, tgSet, setAll, lo0, bodyR_nx, bodyR_rt, R.wp_ok, SR.wp_nx, SR.wp_rt, SR.wp_bk, gAddA, gAdd, gSub, gLe, gLt, gGt, gGe, is_non, is_int, is_tup, is_bl, isn_non, isn_int, isn_tup, isn_bl, is_o, isn_o, gNeg, gTup1, gTup2, gTup3, gTup4, gTup5, gLst0, gLst1, gLst2, gLst3, eLstA0, List.length_cons, List.length_nil, List.map_cons, List.map_nil, List.cons_append, List.nil_append, List.replicate, Nat.sub_self, Nat.reduceSub, Nat.reduceAdd, List.getElem?_cons_zero, List.getElem?_cons_succ, List.set_cons_zero, List.set_cons_succ, Option.map_some, Bool.not_true, Bool.not_false, ite_true, ite_false, if_true, if_false, Bool.false_eq_true, gEq_int, gNe_int, gEq_bl, gNe_bl, gEq_non, gNe_non, List.isEmpty_cons, List.isEmpty_nil, is_within_eq, hd3]
  refine wp_seq ?_
  simp only [nG, sSet, sRet, sRetN, sIf, sDrop, sNx, sBrk, sPar, sTg, sr_ok, rb_ok, ro_ok, so_ok, e1, e2, eA, eCl, eV, eC, eAnd, eOr, eNot, eIf, eCh, tV, tNot, tAnd, tOr, tYes, bof_bl, aNil, aCons, tgSet, setAll, lo0, bodyR_nx, bodyR_rt, R.wp_ok, SR.wp_nx, SR.wp_rt, SR.wp_bk, gAddA, gAdd, gSub, gLe, gLt, gGt, gGe, is_non, is_int, is_tup, is_bl, isn_non, isn_int, isn_tup, isn_bl, is_o, isn_o, gNeg, gTup1, gTup2, gTup3, gTup4, gTup5, gLst0, gLst1, gLst2, gLst3, eLstA0, List.length_cons, List.length_nil, List.map_cons, List.map_nil, List.cons_append, List.nil_append, List.replicate, Nat.sub_self, Nat.reduceSub, Nat.reduceAdd, List.getElem?_cons_zero, List.getElem?_cons_succ, List.set_cons_zero, List.set_cons_succ, Option.map_some, Bool.not_true, Bool.not_false, ite_true, ite_false, if_true, if_false, Bool.false_eq_true, gEq_int, gNe_int, gEq_bl, gNe_bl, gEq_non, gNe_non, List.isEmpty_cons, List.isEmpty_nil, sFldS]
  rw [setF_task (f := "rain") (fs := []) (fs' := [("rain", nsG t.rain)]) rfl (by simp) rfl]
  simp only [nG, sSet, sRet, sRetN, sIf, sDrop, sNx, sBrk, sPar, sTg, sr_ok, rb_ok, ro_ok, so_ok, e1, e2, eA, eCl, eV, eC, eAnd, eOr, eNot, eIf, eCh, tV, tNot, tAnd, tOr, tYes, bof_bl, aNil, aCons, tgSet, setAll, lo0, bodyR_nx, bodyR_rt, R.wp_ok, SR.wp_nx, SR.wp_rt, SR.wp_bk, gAddA, gAdd, gSub, gLe, gLt, gGt, gGe, is_non, is_int, is_tup, is_bl, isn_non, isn_int, isn_tup, isn_bl, is_o, isn_o, gNeg, gTup1, gTup2, gTup3, gTup4, gTup5, gLst0, gLst1, gLst2, gLst3, eLstA0, List.length_cons, List.length_nil, List.map_cons, List.map_nil, List.cons_append, List.nil_append, List.replicate, Nat.sub_self, Nat.reduceSub, Nat.reduceAdd, List.getElem?_cons_zero, List.getElem?_cons_succ, List.set_cons_zero, List.set_cons_succ, Option.map_some, Bool.not_true, Bool.not_false, ite_true, ite_false, if_true, if_false, Bool.false_eq_true, gEq_int, gNe_int, gEq_bl, gNe_bl, gEq_non, gNe_non, List.isEmpty_cons, List.isEmpty_nil]
  refine wp_seq ?_
  simp only [nG, sSet, sRet, sRetN, sIf, sDrop, sNx, sBrk, sPar, sTg, sr_ok, rb_ok, ro_ok, so_ok, e1, e2, eA, eCl, eV, eC, eAnd, eOr, eNot, eIf, eCh, tV, tNot, tAnd, tOr, tYes, bof_bl, aNil, aCons, tgSet, setAll, lo0, bodyR_nx, bodyR_rt, R.wp_ok, SR.wp_nx, SR.wp_rt, SR.wp_bk, gAddA, gAdd, gSub, gLe, gLt, gGt, gGe, is_non, is_int, is_tup, is_bl, isn_non, isn_int, isn_tup, isn_bl, is_o, isn_o, gNeg, gTup1, gTup2, gTup3, gTup4, gTup5, gLst0, gLst1, gLst2, gLst3, eLstA0, List.length_cons, List.length_nil, List.map_cons, List.map_nil, List.cons_append, List.nil_append, List.replicate, Nat.sub_self, Nat.reduceSub, Nat.reduceAdd, List.getElem?_cons_zero, List.getElem?_cons_succ, List.set_cons_zero, List.set_cons_succ, Option.map_some, Bool.not_true, Bool.not_false, ite_true, ite_false, if_true, if_false, Bool.false_eq_true, gEq_int, gNe_int, gEq_bl, gNe_bl, gEq_non, gNe_non, List.isEmpty_cons, List.isEmpty_nil, sFldS]
  rw [setF_task (f := "prices") (fs' := [("rain", nsG t.rain), ("prices", nsG t.prices)]) rfl (by simp) rfl]
  simp only [nG, sSet, sRet, sRetN, sIf, sDrop, sNx, sBrk, sPar, sTg, sr_ok, rb_ok, ro_ok, so_ok, e1, e2, eA, eCl, eV, eC, eAnd, eOr, eNot, eIf, eCh, tV, tNot, tAnd, tOr, tYes, bof_bl, aNil, aCons, tgSet, setAll, lo0, bodyR_nx, bodyR_rt, R.wp_ok, SR.wp_nx, SR.wp_rt, SR.wp_bk, gAddA, gAdd, gSub, gLe, gLt, gGt, gGe, is_non, is_int, is_tup, is_bl, isn_non, isn_int, isn_tup, isn_bl, is_o, isn_o, gNeg, gTup1, gTup2, gTup3, gTup4, gTup5, gLst0, gLst1, gLst2, gLst3, eLstA0, List.length_cons, List.length_nil, List.map_cons, List.map_nil, List.cons_append, List.nil_append, List.replicate, Nat.sub_self, Nat.reduceSub, Nat.reduceAdd, List.getElem?_cons_zero, List.getElem?_cons_succ, List.set_cons_zero, List.set_cons_succ, Option.map_some, Bool.not_true, Bool.not_false, ite_true, ite_false, if_true, if_false, Bool.false_eq_true, gEq_int, gNe_int, gEq_bl, gNe_bl, gEq_non, gNe_non, List.isEmpty_cons, List.isEmpty_nil]
  refine wp_seq ?_
  simp only [nG, sSet, sRet, sRetN, sIf, sDrop, sNx, sBrk, sPar, sTg, sr_ok, rb_ok, ro_ok, so_ok, e1, e2, eA, eCl, eV, eC, eAnd, eOr, eNot, eIf, eCh, tV, tNot, tAnd, tOr, tYes, bof_bl, aNil, aCons, tgSet, setAll, lo0, bodyR_nx, bodyR_rt, R.wp_ok, SR.wp_nx, SR.wp_rt, SR.wp_bk, gAddA, gAdd, gSub, gLe, gLt, gGt, gGe, is_non, is_int, is_tup, is_bl, isn_non, isn_int, isn_tup, isn_bl, is_o, isn_o, gNeg, gTup1, gTup2, gTup3, gTup4, gTup5, gLst0, gLst1, gLst2, gLst3, eLstA0, List.length_cons, List.length_nil, List.map_cons, List.map_nil, List.cons_append, List.nil_append, List.replicate, Nat.sub_self, Nat.reduceSub, Nat.reduceAdd, List.getElem?_cons_zero, List.getElem?_cons_succ, List.set_cons_zero, List.set_cons_succ, Option.map_some, Bool.not_true, Bool.not_false, ite_true, ite_false, if_true, if_false, Bool.false_eq_true, gEq_int, gNe_int, gEq_bl, gNe_bl, gEq_non, gNe_non, List.isEmpty_cons, List.isEmpty_nil, sFldS]
  rw [setF_task (f := "capacity") (fs' := [("rain", nsG t.rain), ("prices", nsG t.prices), ("capacity", nG t.cap)]) rfl (by simp) rfl]
  simp only [nG, sSet, sRet, sRetN, sIf, sDrop, sNx, sBrk, sPar, sTg, sr_ok, rb_ok, ro_ok, so_ok, e1, e2, eA, eCl, eV, eC, eAnd, eOr, eNot, eIf, eCh, tV, tNot, tAnd, tOr, tYes, bof_bl, aNil, aCons, tgSet, setAll, lo0, bodyR_nx, bodyR_rt, R.wp_ok, SR.wp_nx, SR.wp_rt, SR.wp_bk, gAddA, gAdd, gSub, gLe, gLt, gGt, gGe, is_non, is_int, is_tup, is_bl, isn_non, isn_int, isn_tup, isn_bl, is_o, isn_o, gNeg, gTup1, gTup2, gTup3, gTup4, gTup5, gLst0, gLst1, gLst2, gLst3, eLstA0, List.length_cons, List.length_nil, List.map_cons, List.map_nil, List.cons_append, List.nil_append, List.replicate, Nat.sub_self, Nat.reduceSub, Nat.reduceAdd, List.getElem?_cons_zero, List.getElem?_cons_succ, List.set_cons_zero, List.set_cons_succ, Option.map_some, Bool.not_true, Bool.not_false, ite_true, ite_false, if_true, if_false, Bool.false_eq_true, gEq_int, gNe_int, gEq_bl, gNe_bl, gEq_non, gNe_non, List.isEmpty_cons, List.isEmpty_nil]
  refine wp_seq ?_
  simp only [nG, sSet, sRet, sRetN, sIf, sDrop, sNx, sBrk, sPar, sTg, sr_ok, rb_ok, ro_ok, so_ok, e1, e2, eA, eCl, eV, eC, eAnd, eOr, eNot, eIf, eCh, tV, tNot, tAnd, tOr, tYes, bof_bl, aNil, aCons, tgSet, setAll, lo0, bodyR_nx, bodyR_rt, R.wp_ok, SR.wp_nx, SR.wp_rt, SR.wp_bk, gAddA, gAdd, gSub, gLe, gLt, gGt, gGe, is_non, is_int, is_tup, is_bl, isn_non, isn_int, isn_tup, isn_bl, is_o, isn_o, gNeg, gTup1, gTup2, gTup3, gTup4, gTup5, gLst0, gLst1, gLst2, gLst3, eLstA0, List.length_cons, List.length_nil, List.map_cons, List.map_nil, List.cons_append, List.nil_append, List.replicate, Nat.sub_self, Nat.reduceSub, Nat.reduceAdd, List.getElem?_cons_zero, List.getElem?_cons_succ, List.set_cons_zero, List.set_cons_succ, Option.map_some, Bool.not_true, Bool.not_false, ite_true, ite_false, if_true, if_false, Bool.false_eq_true, gEq_int, gNe_int, gEq_bl, gNe_bl, gEq_non, gNe_non, List.isEmpty_cons, List.isEmpty_nil, sFldS]
  rw [setF_task (f := "limit") (fs' := [("rain", nsG t.rain), ("prices", nsG t.prices), ("capacity", nG t.cap), ("limit", nG t.lim)]) rfl (by simp) rfl]
  simp only [nG, sSet, sRet, sRetN, sIf, sDrop, sNx, sBrk, sPar, sTg, sr_ok, rb_ok, ro_ok, so_ok, e1, e2, eA, eCl, eV, eC, eAnd, eOr, eNot, eIf, eCh, tV, tNot, tAnd, tOr, tYes, bof_bl, aNil, aCons, tgSet, setAll, lo0, bodyR_nx, bodyR_rt, R.wp_ok, SR.wp_nx, SR.wp_rt, SR.wp_bk, gAddA, gAdd, gSub, gLe, gLt, gGt, gGe, is_non, is_int, is_tup, is_bl, isn_non, isn_int, isn_tup, isn_bl, is_o, isn_o, gNeg, gTup1, gTup2, gTup3, gTup4, gTup5, gLst0, gLst1, gLst2, gLst3, eLstA0, List.length_cons, List.length_nil, List.map_cons, List.map_nil, List.cons_append, List.nil_append, List.replicate, Nat.sub_self, Nat.reduceSub, Nat.reduceAdd, List.getElem?_cons_zero, List.getElem?_cons_succ, List.set_cons_zero, List.set_cons_succ, Option.map_some, Bool.not_true, Bool.not_false, ite_true, ite_false, if_true, if_false, Bool.false_eq_true, gEq_int, gNe_int, gEq_bl, gNe_bl, gEq_non, gNe_non, List.isEmpty_cons, List.isEmpty_nil]
  refine wp_seq ?_
  simp only [nG, sSet, sRet, sRetN, sIf, sDrop, sNx, sBrk, sPar, sTg, sr_ok, rb_ok, ro_ok, so_ok, e1, e2, eA, eCl, eV, eC, eAnd, eOr, eNot, eIf, eCh, tV, tNot, tAnd, tOr, tYes, bof_bl, aNil, aCons, tgSet, setAll, lo0, bodyR_nx, bodyR_rt, R.wp_ok, SR.wp_nx, SR.wp_rt, SR.wp_bk, gAddA, gAdd, gSub, gLe, gLt, gGt, gGe, is_non, is_int, is_tup, is_bl, isn_non, isn_int, isn_tup, isn_bl, is_o, isn_o, gNeg, gTup1, gTup2, gTup3, gTup4, gTup5, gLst0, gLst1, gLst2, gLst3, eLstA0, List.length_cons, List.length_nil, List.map_cons, List.map_nil, List.cons_append, List.nil_append, List.replicate, Nat.sub_self, Nat.reduceSub, Nat.reduceAdd, List.getElem?_cons_zero, List.getElem?_cons_succ, List.set_cons_zero, List.set_cons_succ, Option.map_some, Bool.not_true, Bool.not_false, ite_true, ite_false, if_true, if_false, Bool.false_eq_true, gEq_int, gNe_int, gEq_bl, gNe_bl, gEq_non, gNe_non, List.isEmpty_cons, List.isEmpty_nil, sFldS]
  rw [setF_task (f := "level") (fs' := [("rain", nsG t.rain), ("prices", nsG t.prices), ("capacity", nG t.cap), ("limit", nG t.lim), ("level", nG t.lvl)]) rfl (by simp) rfl]
  simp only [nG, sSet, sRet, sRetN, sIf, sDrop, sNx, sBrk, sPar, sTg, sr_ok, rb_ok, ro_ok, so_ok, e1, e2, eA, eCl, eV, eC, eAnd, eOr, eNot, eIf, eCh, tV, tNot, tAnd, tOr, tYes, bof_bl, aNil, aCons, tgSet, setAll, lo0, bodyR_nx, bodyR_rt, R.wp_ok, SR.wp_nx, SR.wp_rt, SR.wp_bk, gAddA, gAdd, gSub, gLe, gLt, gGt, gGe, is_non, is_int, is_tup, is_bl, isn_non, isn_int, isn_tup, isn_bl, is_o, isn_o, gNeg, gTup1, gTup2, gTup3, gTup4, gTup5, gLst0, gLst1, gLst2, gLst3, eLstA0, List.length_cons, List.length_nil, List.map_cons, List.map_nil, List.cons_append, List.nil_append, List.replicate, Nat.sub_self, Nat.reduceSub, Nat.reduceAdd, List.getElem?_cons_zero, List.getElem?_cons_succ, List.set_cons_zero, List.set_cons_succ, Option.map_some, Bool.not_true, Bool.not_false, ite_true, ite_false, if_true, if_false, Bool.false_eq_true, gEq_int, gNe_int, gEq_bl, gNe_bl, gEq_non, gNe_non, List.isEmpty_cons, List.isEmpty_nil, sFldS]
  rw [setF_task (f := "whole") (fs' := fieldsOf t) rfl (by simp) rfl]
  simp only [nG, sSet, sRet, sRetN, sIf, sDrop, sNx, sBrk, sPar, sTg, sr_ok, rb_ok, ro_ok, so_ok, e1, e2, eA, eCl, eV, eC, eAnd, eOr, eNot, eIf, eCh, tV, tNot, tAnd, tOr, tYes, bof_bl, aNil, aCons, tgSet, setAll, lo0, bodyR_nx, bodyR_rt, R.wp_ok, SR.wp_nx, SR.wp_rt, SR.wp_bk, gAddA, gAdd, gSub, gLe, gLt, gGt, gGe, is_non, is_int, is_tup, is_bl, isn_non, isn_int, isn_tup, isn_bl, is_o, isn_o, gNeg, gTup1, gTup2, gTup3, gTup4, gTup5, gLst0, gLst1, gLst2, gLst3, eLstA0, List.length_cons, List.length_nil, List.map_cons, List.map_nil, List.cons_append, List.nil_append, List.replicate, Nat.sub_self, Nat.reduceSub, Nat.reduceAdd, List.getElem?_cons_zero, List.getElem?_cons_succ, List.set_cons_zero, List.set_cons_succ, Option.map_some, Bool.not_true, Bool.not_false, ite_true, ite_false, if_true, if_false, Bool.false_eq_true, gEq_int, gNe_int, gEq_bl, gNe_bl, gEq_non, gNe_non, List.isEmpty_cons, List.isEmpty_nil]
  exact ⟨trivial, trivial⟩
theorem gFld_of {o : Nat} {f : Str} {fs : List (Str × G)} (h : S[o]? = some (.ins "Task" fs)) (ht : fldT.contains ("Task", f) = true) : gFld fldT f (.ref o) S = fs.lookup f := by
  unfold gFld
  dsimp only
  rw [h]
  dsimp only
  rw [if_pos ht]
theorem at_new (t : Tk) : At (S ++ [.ins "Task" (fieldsOf t)]) S.length t :=
  ⟨(gFld_of get_last rfl).trans rfl, (gFld_of get_last rfl).trans rfl, (gFld_of get_last rfl).trans rfl, (gFld_of get_last rfl).trans rfl, (gFld_of get_last rfl).trans rfl, (gFld_of get_last rfl).trans rfl, _, get_last⟩
theorem eMk_of {t : Tk} (ok : t.Ok) {a : As} {l : GL.Loc} (ha : a l S = .ok [nsG t.rain, nsG t.prices, .int (t.cap : Nat), .int (t.lim : Nat), .int (t.lvl : Nat)] S) :
    eMk (callN tab (n + 5)) "Task" a l S = .ok (.ref S.length) (S ++ [.ins "Task" (fieldsOf t)]) := by
  unfold eMk
  rw [ha, rb_ok, init_eq ok, rb_ok]
theorem oks_n (k : Nat) : ∀ l : List Nat, gOks k (l.map nG) = true
  | [] => by simp [gOks]
  | x :: l => by simp [gOks, gOk, nG, oks_n k l]
theorem ok_parts (t : Tk) : gOk 60 t.parts = true := by
  simp [Tk.parts, gOk, gOks, nsG, oks_n, nG]
theorem isa_task {o : Nat} {t : Tk} (a : At S o t) : gIsi isaT [.ref o, .gl "Task"] S = some (.bl true) := by
  obtain ⟨fs, h⟩ := a.isa
  show (isiOne isaT S (.ref o) (.gl "Task")).map G.bl = _
  have h1 : tyName S (.ref o) = none := by unfold tyName; dsimp only; rw [h]
  have h2 : ownC S (.ref o) = some (Str.ofString "Task") := by unfold ownC; dsimp only; rw [h]
  unfold isiOne
  dsimp only
  rw [h1, h2]
  rfl
theorem isa_tup (l : List G) : gIsi isaT [.tup l, .gl "Task"] S = some (.bl false) := rfl
theorem gEq_parts (t t2 : Tk) : gEq t.parts t2.parts S = some (.bl (PyData.eqv (gD t.parts) (gD t2.parts))) := by
  show (gEqD S t.parts t2.parts).map (fun b => G.bl b) = _
  unfold gEqD
  rw [show gRes S t.parts = t.parts from rfl, show gRes S t2.parts = t2.parts from rfl, if_pos ⟨ok_parts t, ok_parts t2⟩]
  rfl
theorem eq_same {o o2 : Nat} {t : Tk} (a : At S o t) (a2 : At S o2 t) : callN tab (n + 1) (.me "Task" "__eq__") [.ref o, .ref o2] S = .ok (.bl true) S := by
  rw [cn_Task___eq__ n _ _ rfl]
  have e : PyData.eqv (gD t.parts) (gD t.parts) = true := SeqAt.eqv_refl _ (ok_lay (ok_parts t)).1
  simp only [nG, sSeq, sSet, sRet, sRetN, sIf, sDrop, sNx, sBrk, sPar, sTg, sr_ok, rb_ok, ro_ok, so_ok, e1, e2, eA, eCl, eV, eC, eAnd, eOr, eNot, eIf, eCh, tV, tNot, tAnd, tOr, tYes, bof_bl, aNil, aCons, tgSet, setAll, lo0, bodyR_nx, bodyR_rt, R.wp_ok, SR.wp_nx, SR.wp_rt, SR.wp_bk, gAddA, gAdd, gSub, gLe, gLt, gGt, gGe, is_non, is_int, is_tup, is_bl, isn_non, isn_int, isn_tup, isn_bl, is_o, isn_o, gNeg, gTup1, gTup2, gTup3, gTup4, gTup5, gLst0, gLst1, gLst2, gLst3, eLstA0, List.length_cons, List.length_nil, List.map_cons, List.map_nil, List.cons_append, List.nil_append, List.replicate, Nat.sub_self, Nat.reduceSub, Nat.reduceAdd, List.getElem?_cons_zero, List.getElem?_cons_succ, List.set_cons_zero, List.set_cons_succ, Option.map_some, Bool.not_true, Bool.not_false, ite_true, ite_false, if_true, if_false, Bool.false_eq_true, gEq_int, gNe_int, gEq_bl, gNe_bl, gEq_non, gNe_non, List.isEmpty_cons, List.isEmpty_nil, sh_Task___eq__, isa_task a2, a.whole, a2.whole, gEq_parts, e]
theorem eq_other {o o2 : Nat} {t : Tk} {c : Nat} (hc : c ≠ t.cap) (a : At S o t) (a2 : At S o2 { t with cap := c }) : callN tab (n + 1) (.me "Task" "__eq__") [.ref o, .ref o2] S = .ok (.bl false) S := by
  rw [cn_Task___eq__ n _ _ rfl]
  have e : PyData.eqv (gD t.parts) (gD ({ t with cap := c } : Tk).parts) = false := by
    have : ((t.cap : Int) == (c : Int)) = false := by rw [beq_eq_false_iff_ne]; omega
    simp only [Tk.parts, gD, gDs, nG, PyData.eqv, PyData.eqvAll, this, Bool.false_and, Bool.and_false]
  simp only [nG, sSeq, sSet, sRet, sRetN, sIf, sDrop, sNx, sBrk, sPar, sTg, sr_ok, rb_ok, ro_ok, so_ok, e1, e2, eA, eCl, eV, eC, eAnd, eOr, eNot, eIf, eCh, tV, tNot, tAnd, tOr, tYes, bof_bl, aNil, aCons, tgSet, setAll, lo0, bodyR_nx, bodyR_rt, R.wp_ok, SR.wp_nx, SR.wp_rt, SR.wp_bk, gAddA, gAdd, gSub, gLe, gLt, gGt, gGe, is_non, is_int, is_tup, is_bl, isn_non, isn_int, isn_tup, isn_bl, is_o, isn_o, gNeg, gTup1, gTup2, gTup3, gTup4, gTup5, gLst0, gLst1, gLst2, gLst3, eLstA0, List.length_cons, List.length_nil, List.map_cons, List.map_nil, List.cons_append, List.nil_append, List.replicate, Nat.sub_self, Nat.reduceSub, Nat.reduceAdd, List.getElem?_cons_zero, List.getElem?_cons_succ, List.set_cons_zero, List.set_cons_succ, Option.map_some, Bool.not_true, Bool.not_false, ite_true, ite_false, if_true, if_false, Bool.false_eq_true, gEq_int, gNe_int, gEq_bl, gNe_bl, gEq_non, gNe_non, List.isEmpty_cons, List.isEmpty_nil, sh_Task___eq__, isa_task a2, a.whole, a2.whole, gEq_parts, e]
theorem eq_parts {o : Nat} {t : Tk} (t2 : Tk) : callN tab (n + 1) (.me "Task" "__eq__") [.ref o, t2.parts] S = .ok (.bl false) S := by
  rw [cn_Task___eq__ n _ _ rfl]
  have e : gIsi isaT [t2.parts, .gl "Task"] S = some (.bl false) := rfl
  simp only [nG, sSeq, sSet, sRet, sRetN, sIf, sDrop, sNx, sBrk, sPar, sTg, sr_ok, rb_ok, ro_ok, so_ok, e1, e2, eA, eCl, eV, eC, eAnd, eOr, eNot, eIf, eCh, tV, tNot, tAnd, tOr, tYes, bof_bl, aNil, aCons, tgSet, setAll, lo0, bodyR_nx, bodyR_rt, R.wp_ok, SR.wp_nx, SR.wp_rt, SR.wp_bk, gAddA, gAdd, gSub, gLe, gLt, gGt, gGe, is_non, is_int, is_tup, is_bl, isn_non, isn_int, isn_tup, isn_bl, is_o, isn_o, gNeg, gTup1, gTup2, gTup3, gTup4, gTup5, gLst0, gLst1, gLst2, gLst3, eLstA0, List.length_cons, List.length_nil, List.map_cons, List.map_nil, List.cons_append, List.nil_append, List.replicate, Nat.sub_self, Nat.reduceSub, Nat.reduceAdd, List.getElem?_cons_zero, List.getElem?_cons_succ, List.set_cons_zero, List.set_cons_succ, Option.map_some, Bool.not_true, Bool.not_false, ite_true, ite_false, if_true, if_false, Bool.false_eq_true, gEq_int, gNe_int, gEq_bl, gNe_bl, gEq_non, gNe_non, List.isEmpty_cons, List.isEmpty_nil, sh_Task___eq__, e]
end Lk14

end

section
set_option Elab.async false
set_option linter.all false
set_option maxRecDepth 100000
set_option maxHeartbeats 4000000
namespace Lk14
open PySem GL
variable {n : Nat} {S : Sto}
theorem blsG_true {a : Type} : ∀ L : List a, blsG (L.map fun _ => G.bl true) = some (L.map fun _ => true)
  | [] => rfl
  | x :: L => by
    show (blsG (L.map fun _ => G.bl true)).map (fun l => true :: l) = _
    rw [blsG_true L]; rfl
theorem gAll_true {a : Type} (L : List a) : gAll [.tl (L.map fun _ => G.bl true)] S = some (.bl true) := by
  show ((seqG S (.tl (L.map fun _ => G.bl true))).bind fun l => (blsG l).map fun l => G.bl (l.all id)) = _
  rw [show seqG S (.tl (L.map fun _ => G.bl true)) = some (L.map fun _ => G.bl true) from rfl, Option.bind_some, blsG_true, Option.map_some]
  congr 2
  simp
theorem isRow_true {l : List G} {k : Int} (h : (l.length : Int) = k) : callN tab (n + 1) (.fn "is_row") [.tup l, .int k] S = .ok (.bl true) S := by
  rw [is_row_eq, decide_eq_true h]
def levs (w : Nat) : List (Nat × Nat) → List Nat → List Nat
  | (r, _) :: l, m :: ms => (w + r - m) :: levs (w + r - m) l ms
  | _, _ => []
theorem drop_cons {a : Type} {l : List a} {k : Nat} (h : k < l.length) : ∃ x, l[k]? = some x ∧ l.drop k = x :: l.drop (k + 1) := ⟨l[k], List.getElem?_eq_getElem h, List.drop_eq_getElem_cons h⟩
theorem levels_of_ok {t : Tk} {o : Nat} {ms : List Nat} (ok : t.Ok) (a : At S o t) (hp : IsPath t t.rp t.lvl ms) :
    (callN tab (n + 2) (.fn "levels_of") [.ref o, nsG ms] S).wp fun g S' => g = nsG (levs t.lvl t.rp ms) ∧ Grow S S' := by
  have hlen := hp.len
  rw [rp_len ok] at hlen
  have hn := ok.most
  have hrow : ∀ S, callN tab (n + 1) (.fn "is_row") [nsG ms, .int (t.rain.length : Nat)] S = .ok (.bl true) S := fun S => isRow_true (by simp [hlen])
  rw [cn_levels_of (n + 1) _ _ rfl]
  refine wp_body ?_
  unfold sh_levels_of
  refine wp_seq ?_
  simp only [nG, sSet, sRet, sRetN, sIf, sDrop, sNx, sBrk, sPar, sTg, sr_ok, rb_ok, ro_ok, so_ok, e1, e2, eA, eCl, eV, eC, eAnd, eOr, eNot, eIf, eCh, tV, tNot, tAnd, tOr, tYes, bof_bl, aNil, aCons, tgSet, setAll, lo0, bodyR_nx, bodyR_rt, R.wp_ok, SR.wp_nx, SR.wp_rt, SR.wp_bk, gAddA, gAdd, gSub, gLe, gLt, gGt, gGe, is_non, is_int, is_tup, is_bl, isn_non, isn_int, isn_tup, isn_bl, is_o, isn_o, gNeg, gTup1, gTup2, gTup3, gTup4, gTup5, gLst0, gLst1, gLst2, gLst3, eLstA0, List.length_cons, List.length_nil, List.map_cons, List.map_nil, List.cons_append, List.nil_append, List.replicate, Nat.sub_self, Nat.reduceSub, Nat.reduceAdd, List.getElem?_cons_zero, List.getElem?_cons_succ, List.set_cons_zero, List.set_cons_succ, Option.map_some, Bool.not_true, Bool.not_false, ite_true, ite_false, if_true, if_false, Bool.false_eq_true, gEq_int, gNe_int, gEq_bl, gNe_bl, gEq_non, gNe_non, List.isEmpty_cons, List.isEmpty_nil, a.rain, len_nsG, hrow]
  rw [eLc_all (c := nG) (L := ms) (f := fun _ => .bl true) (by simp only [nG, sSet, sRet, sRetN, sIf, sDrop, sNx, sBrk, sPar, sTg, sr_ok, rb_ok, ro_ok, so_ok, e1, e2, eA, eCl, eV, eC, eAnd, eOr, eNot, eIf, eCh, tV, tNot, tAnd, tOr, tYes, bof_bl, aNil, aCons, tgSet, setAll, lo0, bodyR_nx, bodyR_rt, R.wp_ok, SR.wp_nx, SR.wp_rt, SR.wp_bk, gAddA, gAdd, gSub, gLe, gLt, gGt, gGe, is_non, is_int, is_tup, is_bl, isn_non, isn_int, isn_tup, isn_bl, is_o, isn_o, gNeg, gTup1, gTup2, gTup3, gTup4, gTup5, gLst0, gLst1, gLst2, gLst3, eLstA0, List.length_cons, List.length_nil, List.map_cons, List.map_nil, List.cons_append, List.nil_append, List.replicate, Nat.sub_self, Nat.reduceSub, Nat.reduceAdd, List.getElem?_cons_zero, List.getElem?_cons_succ, List.set_cons_zero, List.set_cons_succ, Option.map_some, Bool.not_true, Bool.not_false, ite_true, ite_false, if_true, if_false, Bool.false_eq_true, gEq_int, gNe_int, gEq_bl, gNe_bl, gEq_non, gNe_non, List.isEmpty_cons, List.isEmpty_nil, itV, nsG]) fun x hx => ⟨_, rfl, by
    have h0 : decide (0 ≤ (x : Int)) = true := decide_eq_true (by omega)
    simp only [nG, sSeq, sSet, sRet, sRetN, sIf, sDrop, sNx, sBrk, sPar, sTg, sr_ok, rb_ok, ro_ok, so_ok, e1, e2, eA, eCl, eV, eC, eAnd, eOr, eNot, eIf, eCh, tV, tNot, tAnd, tOr, tYes, bof_bl, aNil, aCons, tgSet, setAll, lo0, bodyR_nx, bodyR_rt, R.wp_ok, SR.wp_nx, SR.wp_rt, SR.wp_bk, gAddA, gAdd, gSub, gLe, gLt, gGt, gGe, is_non, is_int, is_tup, is_bl, isn_non, isn_int, isn_tup, isn_bl, is_o, isn_o, gNeg, gTup1, gTup2, gTup3, gTup4, gTup5, gLst0, gLst1, gLst2, gLst3, eLstA0, List.length_cons, List.length_nil, List.map_cons, List.map_nil, List.cons_append, List.nil_append, List.replicate, Nat.sub_self, Nat.reduceSub, Nat.reduceAdd, List.getElem?_cons_zero, List.getElem?_cons_succ, List.set_cons_zero, List.set_cons_succ, Option.map_some, Bool.not_true, Bool.not_false, ite_true, ite_false, if_true, if_false, Bool.false_eq_true, gEq_int, gNe_int, gEq_bl, gNe_bl, gEq_non, gNe_non, List.isEmpty_cons, List.isEmpty_nil, wipeL, is_whole_eq, h0]⟩]
  simp only [nG, sSet, sRet, sRetN, sIf, sDrop, sNx, sBrk, sPar, sTg, sr_ok, rb_ok, ro_ok, so_ok, e1, e2, eA, eCl, eV, eC, eAnd, eOr, eNot, eIf, eCh, tV, tNot, tAnd, tOr, tYes, bof_bl, aNil, aCons, tgSet, setAll, lo0, bodyR_nx, bodyR_rt, R.wp_ok, SR.wp_nx, SR.wp_rt, SR.wp_bk, gAddA, gAdd, gSub, gLe, gLt, gGt, gGe, is_non, is_int, is_tup, is_bl, isn_non, isn_int, isn_tup, isn_bl, is_o, isn_o, gNeg, gTup1, gTup2, gTup3, gTup4, gTup5, gLst0, gLst1, gLst2, gLst3, eLstA0, List.length_cons, List.length_nil, List.map_cons, List.map_nil, List.cons_append, List.nil_append, List.replicate, Nat.sub_self, Nat.reduceSub, Nat.reduceAdd, List.getElem?_cons_zero, List.getElem?_cons_succ, List.set_cons_zero, List.set_cons_succ, Option.map_some, Bool.not_true, Bool.not_false, ite_true, ite_false, if_true, if_false, Bool.false_eq_true, gEq_int, gNe_int, gEq_bl, gNe_bl, gEq_non, gNe_non, List.isEmpty_cons, List.isEmpty_nil, gAll_true]
  refine wp_seq ?_
  simp only [nG, sSet, sRet, sRetN, sIf, sDrop, sNx, sBrk, sPar, sTg, sr_ok, rb_ok, ro_ok, so_ok, e1, e2, eA, eCl, eV, eC, eAnd, eOr, eNot, eIf, eCh, tV, tNot, tAnd, tOr, tYes, bof_bl, aNil, aCons, tgSet, setAll, lo0, bodyR_nx, bodyR_rt, R.wp_ok, SR.wp_nx, SR.wp_rt, SR.wp_bk, gAddA, gAdd, gSub, gLe, gLt, gGt, gGe, is_non, is_int, is_tup, is_bl, isn_non, isn_int, isn_tup, isn_bl, is_o, isn_o, gNeg, gTup1, gTup2, gTup3, gTup4, gTup5, gLst0, gLst1, gLst2, gLst3, eLstA0, List.length_cons, List.length_nil, List.map_cons, List.map_nil, List.cons_append, List.nil_append, List.replicate, Nat.sub_self, Nat.reduceSub, Nat.reduceAdd, List.getElem?_cons_zero, List.getElem?_cons_succ, List.set_cons_zero, List.set_cons_succ, Option.map_some, Bool.not_true, Bool.not_false, ite_true, ite_false, if_true, if_false, Bool.false_eq_true, gEq_int, gNe_int, gEq_bl, gNe_bl, gEq_non, gNe_non, List.isEmpty_cons, List.isEmpty_nil, (a.grow (.push S [.lst true []])).lvl]
  refine wp_seq (wp_for (xs := numd 0 (ms.map nG)) ?_
    (fun k l S' => ∃ u2 u5 w Z acc, l = [some (.ref o), some (nsG ms), u2, some (.ref S.length), some (.int (w : Nat)), u5] ∧ S' = S ++ .lst true (acc.map nG) :: Z ∧
      IsPath t (t.rp.drop k) w (ms.drop k) ∧ levs t.lvl t.rp ms = acc ++ levs w (t.rp.drop k) (ms.drop k) ∧ acc.length ≤ k) ?_ ⟨_, _, t.lvl, [], [], rfl, rfl, hp, rfl, Nat.le_refl _⟩ ?_)
  · simp only [nG, sSet, sRet, sRetN, sIf, sDrop, sNx, sBrk, sPar, sTg, sr_ok, rb_ok, ro_ok, so_ok, e1, e2, eA, eCl, eV, eC, eAnd, eOr, eNot, eIf, eCh, tV, tNot, tAnd, tOr, tYes, bof_bl, aNil, aCons, tgSet, setAll, lo0, bodyR_nx, bodyR_rt, R.wp_ok, SR.wp_nx, SR.wp_rt, SR.wp_bk, gAddA, gAdd, gSub, gLe, gLt, gGt, gGe, is_non, is_int, is_tup, is_bl, isn_non, isn_int, isn_tup, isn_bl, is_o, isn_o, gNeg, gTup1, gTup2, gTup3, gTup4, gTup5, gLst0, gLst1, gLst2, gLst3, eLstA0, List.length_cons, List.length_nil, List.map_cons, List.map_nil, List.cons_append, List.nil_append, List.replicate, Nat.sub_self, Nat.reduceSub, Nat.reduceAdd, List.getElem?_cons_zero, List.getElem?_cons_succ, List.set_cons_zero, List.set_cons_succ, Option.map_some, Bool.not_true, Bool.not_false, ite_true, ite_false, if_true, if_false, Bool.false_eq_true, gEq_int, gNe_int, gEq_bl, gNe_bl, gEq_non, gNe_non, List.isEmpty_cons, List.isEmpty_nil, itEn, nsG]
  · rintro k x l S' hx ⟨u2, u5, w, Z, acc, rfl, rfl, hpath, hlev, hacc⟩
    obtain ⟨y, hy, rfl⟩ := numd_at _ _ _ _ hx
    rw [List.getElem?_map] at hy
    have hk : k < ms.length := by
      by_cases c : k < ms.length
      · exact c
      · rw [List.getElem?_eq_none (by omega)] at hy; cases hy
    obtain ⟨m, hm, hdm⟩ := drop_cons hk
    rw [hm] at hy
    cases hy
    obtain ⟨r, p, hr, hp', hd⟩ := rp_get ok (k := k) (by omega)
    rw [hd, hdm] at hpath hlev
    obtain ⟨h1, h2, h3, h4, h5⟩ := hpath
    refine ⟨_, rfl, ?_⟩
    have a1 := a.grow (.push S (.lst true (acc.map nG) :: Z))
    have he : (w : Int) + ((r : Int) - (m : Int)) = ((w + r - m : Nat) : Int) := by omega
    have t1 : decide ((t.cap : Int) < (m : Int)) = false := decide_eq_false (by omega)
    have t2 : decide (((w + r - m : Nat) : Int) < 0) = false := decide_eq_false (by omega)
    have t3 : decide ((t.lim : Int) < ((w + r - m : Nat) : Int)) = false := decide_eq_false (by omega)
    refine wp_seq ?_
    rw [Nat.zero_add]
    simp only [nG, sSet, sRet, sRetN, sIf, sDrop, sNx, sBrk, sPar, sTg, sr_ok, rb_ok, ro_ok, so_ok, e1, e2, eA, eCl, eV, eC, eAnd, eOr, eNot, eIf, eCh, tV, tNot, tAnd, tOr, tYes, bof_bl, aNil, aCons, tgSet, setAll, lo0, bodyR_nx, bodyR_rt, R.wp_ok, SR.wp_nx, SR.wp_rt, SR.wp_bk, gAddA, gAdd, gSub, gLe, gLt, gGt, gGe, is_non, is_int, is_tup, is_bl, isn_non, isn_int, isn_tup, isn_bl, is_o, isn_o, gNeg, gTup1, gTup2, gTup3, gTup4, gTup5, gLst0, gLst1, gLst2, gLst3, eLstA0, List.length_cons, List.length_nil, List.map_cons, List.map_nil, List.cons_append, List.nil_append, List.replicate, Nat.sub_self, Nat.reduceSub, Nat.reduceAdd, List.getElem?_cons_zero, List.getElem?_cons_succ, List.set_cons_zero, List.set_cons_succ, Option.map_some, Bool.not_true, Bool.not_false, ite_true, ite_false, if_true, if_false, Bool.false_eq_true, gEq_int, gNe_int, gEq_bl, gNe_bl, gEq_non, gNe_non, List.isEmpty_cons, List.isEmpty_nil, sAugN, a1.rain, ixn hr, he]
    refine wp_seq ?_
    simp only [nG, sSet, sRet, sRetN, sIf, sDrop, sNx, sBrk, sPar, sTg, sr_ok, rb_ok, ro_ok, so_ok, e1, e2, eA, eCl, eV, eC, eAnd, eOr, eNot, eIf, eCh, tV, tNot, tAnd, tOr, tYes, bof_bl, aNil, aCons, tgSet, setAll, lo0, bodyR_nx, bodyR_rt, R.wp_ok, SR.wp_nx, SR.wp_rt, SR.wp_bk, gAddA, gAdd, gSub, gLe, gLt, gGt, gGe, is_non, is_int, is_tup, is_bl, isn_non, isn_int, isn_tup, isn_bl, is_o, isn_o, gNeg, gTup1, gTup2, gTup3, gTup4, gTup5, gLst0, gLst1, gLst2, gLst3, eLstA0, List.length_cons, List.length_nil, List.map_cons, List.map_nil, List.cons_append, List.nil_append, List.replicate, Nat.sub_self, Nat.reduceSub, Nat.reduceAdd, List.getElem?_cons_zero, List.getElem?_cons_succ, List.set_cons_zero, List.set_cons_succ, Option.map_some, Bool.not_true, Bool.not_false, ite_true, ite_false, if_true, if_false, Bool.false_eq_true, gEq_int, gNe_int, gEq_bl, gNe_bl, gEq_non, gNe_non, List.isEmpty_cons, List.isEmpty_nil, a1.cap, a1.lim, t1, t2, t3]
    refine wp_drop ?_
    rw [eML_of (o := S.length) (xs := acc.map nG) (x := nG (w + r - m)) rfl get_mid rfl (by simp; omega), R.wp_ok, set_mid]
    refine ⟨_, _, w + r - m, Z, acc ++ [w + r - m], rfl, by simp, h5, ?_, by simp; omega⟩
    rw [hlev, List.append_assoc]
    rfl
  · rintro l S' ⟨u2, u5, w, Z, acc, rfl, rfl, _, hlev, _⟩
    refine wp_ret ?_
    rw [numd_len, List.length_map, List.drop_length] at hlev
    have : levs t.lvl t.rp ms = acc := by rw [hlev]; cases (List.drop ms.length t.rp) <;> simp [levs]
    rw [this]
    simp only [nG, sSet, sRet, sRetN, sIf, sDrop, sNx, sBrk, sPar, sTg, sr_ok, rb_ok, ro_ok, so_ok, e1, e2, eA, eCl, eV, eC, eAnd, eOr, eNot, eIf, eCh, tV, tNot, tAnd, tOr, tYes, bof_bl, aNil, aCons, tgSet, setAll, lo0, bodyR_nx, bodyR_rt, R.wp_ok, SR.wp_nx, SR.wp_rt, SR.wp_bk, gAddA, gAdd, gSub, gLe, gLt, gGt, gGe, is_non, is_int, is_tup, is_bl, isn_non, isn_int, isn_tup, isn_bl, is_o, isn_o, gNeg, gTup1, gTup2, gTup3, gTup4, gTup5, gLst0, gLst1, gLst2, gLst3, eLstA0, List.length_cons, List.length_nil, List.map_cons, List.map_nil, List.cons_append, List.nil_append, List.replicate, Nat.sub_self, Nat.reduceSub, Nat.reduceAdd, List.getElem?_cons_zero, List.getElem?_cons_succ, List.set_cons_zero, List.set_cons_succ, Option.map_some, Bool.not_true, Bool.not_false, ite_true, ite_false, if_true, if_false, Bool.false_eq_true, gEq_int, gNe_int, gEq_bl, gNe_bl, gEq_non, gNe_non, List.isEmpty_cons, List.isEmpty_nil, gTuple, seqG, lst_mid]
    exact ⟨rfl, .push _ _⟩
theorem isn_ns {l : List Nat} : gIsNot (nsG l) .non S = some (.bl true) := rfl
theorem is_plan_ok {t : Tk} {o : Nat} {ms : List Nat} (ok : t.Ok) (a : At S o t) (hp : IsPath t t.rp t.lvl ms) :
    (callN tab (n + 3) (.fn "is_plan") [.ref o, nsG ms] S).wp fun g S' => g = .bl true ∧ Grow S S' := by
  obtain ⟨_, S1, e, rfl, gr⟩ := R.wp_iff.mp (levels_of_ok (n := n) ok a hp)
  rw [cn_is_plan (n + 2) _ _ rfl]
  refine wp_body ?_
  unfold sh_is_plan
  refine wp_ret ?_
  simp only [nG, sSet, sRet, sRetN, sIf, sDrop, sNx, sBrk, sPar, sTg, sr_ok, rb_ok, ro_ok, so_ok, e1, e2, eA, eCl, eV, eC, eAnd, eOr, eNot, eIf, eCh, tV, tNot, tAnd, tOr, tYes, bof_bl, aNil, aCons, tgSet, setAll, lo0, bodyR_nx, bodyR_rt, R.wp_ok, SR.wp_nx, SR.wp_rt, SR.wp_bk, gAddA, gAdd, gSub, gLe, gLt, gGt, gGe, is_non, is_int, is_tup, is_bl, isn_non, isn_int, isn_tup, isn_bl, is_o, isn_o, gNeg, gTup1, gTup2, gTup3, gTup4, gTup5, gLst0, gLst1, gLst2, gLst3, eLstA0, List.length_cons, List.length_nil, List.map_cons, List.map_nil, List.cons_append, List.nil_append, List.replicate, Nat.sub_self, Nat.reduceSub, Nat.reduceAdd, List.getElem?_cons_zero, List.getElem?_cons_succ, List.set_cons_zero, List.set_cons_succ, Option.map_some, Bool.not_true, Bool.not_false, ite_true, ite_false, if_true, if_false, Bool.false_eq_true, gEq_int, gNe_int, gEq_bl, gNe_bl, gEq_non, gNe_non, List.isEmpty_cons, List.isEmpty_nil, e, isn_ns]
  exact ⟨trivial, gr⟩
theorem IsPath.le {t : Tk} : ∀ {l : List (Nat × Nat)} {w : Nat} {ms : List Nat}, IsPath t l w ms → ∀ m ∈ ms, m ≤ t.cap
  | [], _, [], _, _, hm => by cases hm
  | (_, _) :: _, _, m :: ms, h, x, hx => by
    rcases List.mem_cons.mp hx with rfl | hx
    · exact h.1
    · exact IsPath.le h.2.2.2.2 x hx
def costP (ms ps : List Nat) : Int := ((ms.zip ps).map fun mp => (mp.1 : Int) * mp.2).sum
theorem val_nil {t : Tk} {w : Nat} (hw : w ≤ t.lim) : val t [] w = some 0 := by
  unfold val rowAt zeros
  rw [List.getElem?_replicate, if_pos (by omega)]
  rfl
theorem IsPath.cost {t : Tk} : ∀ {l : List (Nat × Nat)} {w : Nat} {ms : List Nat}, w ≤ t.lim → IsPath t l w ms → val t l w = some (costP ms (l.map (·.2)))
  | [], w, [], hw, _ => val_nil hw
  | (r, p) :: l, w, m :: ms, hw, ⟨h1, h2, h3, ⟨v, h4, h5⟩, h6⟩ => by
    have ih := IsPath.cost h3 h6
    rw [h4] at ih
    rw [h5]
    have : v = costP ms (l.map (·.2)) := Option.some.inj ih
    rw [this]
    simp [costP]
theorem rp_prices {t : Tk} (ok : t.Ok) : t.rp.map (·.2) = t.prices := by
  unfold Tk.rp
  have : ∀ (a b : List Nat), b.length = a.length → (a.zip b).map (·.2) = b := by
    intro a
    induction a with
    | nil => intro b h; cases b with
      | nil => rfl
      | cons _ _ => cases h
    | cons x a ih => intro b h; cases b with
      | nil => rfl
      | cons y b => simp at h; simp [ih b h]
  exact this _ _ ok.len
theorem pairG_map : ∀ a b : List Nat, pairG (a.map nG) (b.map nG) = (a.zip b).map fun x => G.tup [nG x.1, nG x.2]
  | [], _ => by simp [pairG]
  | _ :: _, [] => by simp [pairG]
  | x :: a, y :: b => by simp [pairG, pairG_map a b]
theorem price_of_ok {t : Tk} {o : Nat} {ms : List Nat} (ok : t.Ok) (a : At S o t) (hp : IsPath t t.rp t.lvl ms) :
    (callN tab (n + 4) (.fn "price_of") [.ref o, nsG ms] S).wp fun g S' => g = .int (costP ms t.prices) ∧ Grow S S' := by
  obtain ⟨_, S1, e, rfl, gr⟩ := R.wp_iff.mp (is_plan_ok (n := n) ok a hp)
  have a1 := a.grow gr
  rw [cn_price_of (n + 3) _ _ rfl]
  refine wp_body ?_
  unfold sh_price_of
  refine wp_seq ?_
  simp only [nG, sSet, sRet, sRetN, sIf, sDrop, sNx, sBrk, sPar, sTg, sr_ok, rb_ok, ro_ok, so_ok, e1, e2, eA, eCl, eV, eC, eAnd, eOr, eNot, eIf, eCh, tV, tNot, tAnd, tOr, tYes, bof_bl, aNil, aCons, tgSet, setAll, lo0, bodyR_nx, bodyR_rt, R.wp_ok, SR.wp_nx, SR.wp_rt, SR.wp_bk, gAddA, gAdd, gSub, gLe, gLt, gGt, gGe, is_non, is_int, is_tup, is_bl, isn_non, isn_int, isn_tup, isn_bl, is_o, isn_o, gNeg, gTup1, gTup2, gTup3, gTup4, gTup5, gLst0, gLst1, gLst2, gLst3, eLstA0, List.length_cons, List.length_nil, List.map_cons, List.map_nil, List.cons_append, List.nil_append, List.replicate, Nat.sub_self, Nat.reduceSub, Nat.reduceAdd, List.getElem?_cons_zero, List.getElem?_cons_succ, List.set_cons_zero, List.set_cons_succ, Option.map_some, Bool.not_true, Bool.not_false, ite_true, ite_false, if_true, if_false, Bool.false_eq_true, gEq_int, gNe_int, gEq_bl, gNe_bl, gEq_non, gNe_non, List.isEmpty_cons, List.isEmpty_nil, e]
  rw [eLc_all (c := fun x : Nat × Nat => G.tup [nG x.1, nG x.2]) (L := ms.zip t.prices) (f := fun x => iG ((x.1 : Int) * x.2)) (by simp only [nG, sSet, sRet, sRetN, sIf, sDrop, sNx, sBrk, sPar, sTg, sr_ok, rb_ok, ro_ok, so_ok, e1, e2, eA, eCl, eV, eC, eAnd, eOr, eNot, eIf, eCh, tV, tNot, tAnd, tOr, tYes, bof_bl, aNil, aCons, tgSet, setAll, lo0, bodyR_nx, bodyR_rt, R.wp_ok, SR.wp_nx, SR.wp_rt, SR.wp_bk, gAddA, gAdd, gSub, gLe, gLt, gGt, gGe, is_non, is_int, is_tup, is_bl, isn_non, isn_int, isn_tup, isn_bl, is_o, isn_o, gNeg, gTup1, gTup2, gTup3, gTup4, gTup5, gLst0, gLst1, gLst2, gLst3, eLstA0, List.length_cons, List.length_nil, List.map_cons, List.map_nil, List.cons_append, List.nil_append, List.replicate, Nat.sub_self, Nat.reduceSub, Nat.reduceAdd, List.getElem?_cons_zero, List.getElem?_cons_succ, List.set_cons_zero, List.set_cons_succ, Option.map_some, Bool.not_true, Bool.not_false, ite_true, ite_false, if_true, if_false, Bool.false_eq_true, gEq_int, gNe_int, gEq_bl, gNe_bl, gEq_non, gNe_non, List.isEmpty_cons, List.isEmpty_nil, itZip, a1.prices]; simp only [nsG, pairG_map]; rfl) fun x hx => ⟨_, rfl, by
    have h1 := hp.le x.1 (List.of_mem_zip hx).1
    have h2 := ok.cap
    simp only [nG, sSeq, sSet, sRet, sRetN, sIf, sDrop, sNx, sBrk, sPar, sTg, sr_ok, rb_ok, ro_ok, so_ok, e1, e2, eA, eCl, eV, eC, eAnd, eOr, eNot, eIf, eCh, tV, tNot, tAnd, tOr, tYes, bof_bl, aNil, aCons, tgSet, setAll, lo0, bodyR_nx, bodyR_rt, R.wp_ok, SR.wp_nx, SR.wp_rt, SR.wp_bk, gAddA, gAdd, gSub, gLe, gLt, gGt, gGe, is_non, is_int, is_tup, is_bl, isn_non, isn_int, isn_tup, isn_bl, is_o, isn_o, gNeg, gTup1, gTup2, gTup3, gTup4, gTup5, gLst0, gLst1, gLst2, gLst3, eLstA0, List.length_cons, List.length_nil, List.map_cons, List.map_nil, List.cons_append, List.nil_append, List.replicate, Nat.sub_self, Nat.reduceSub, Nat.reduceAdd, List.getElem?_cons_zero, List.getElem?_cons_succ, List.set_cons_zero, List.set_cons_succ, Option.map_some, Bool.not_true, Bool.not_false, ite_true, ite_false, if_true, if_false, Bool.false_eq_true, gEq_int, gNe_int, gEq_bl, gNe_bl, gEq_non, gNe_non, List.isEmpty_cons, List.isEmpty_nil, wipeL, mul_sm (S := S1) (m := x.1) (p := x.2) (by omega), iG]⟩]
  have : gSum [.tl ((ms.zip t.prices).map fun x => iG ((x.1 : Int) * x.2))] S1 = some (.int (costP ms t.prices)) := by
    show ((seqG S1 (.tl ((ms.zip t.prices).map fun x => iG ((x.1 : Int) * x.2)))).bind fun l => (intsG l).map fun l => G.int l.sum) = _
    rw [show seqG S1 (.tl ((ms.zip t.prices).map fun x => iG ((x.1 : Int) * x.2))) = some (((ms.zip t.prices).map fun x => (x.1 : Int) * x.2).map iG) by simp [seqG], Option.bind_some, intsG_map]
    rfl
  simp only [nG, sSet, sRet, sRetN, sIf, sDrop, sNx, sBrk, sPar, sTg, sr_ok, rb_ok, ro_ok, so_ok, e1, e2, eA, eCl, eV, eC, eAnd, eOr, eNot, eIf, eCh, tV, tNot, tAnd, tOr, tYes, bof_bl, aNil, aCons, tgSet, setAll, lo0, bodyR_nx, bodyR_rt, R.wp_ok, SR.wp_nx, SR.wp_rt, SR.wp_bk, gAddA, gAdd, gSub, gLe, gLt, gGt, gGe, is_non, is_int, is_tup, is_bl, isn_non, isn_int, isn_tup, isn_bl, is_o, isn_o, gNeg, gTup1, gTup2, gTup3, gTup4, gTup5, gLst0, gLst1, gLst2, gLst3, eLstA0, List.length_cons, List.length_nil, List.map_cons, List.map_nil, List.cons_append, List.nil_append, List.replicate, Nat.sub_self, Nat.reduceSub, Nat.reduceAdd, List.getElem?_cons_zero, List.getElem?_cons_succ, List.set_cons_zero, List.set_cons_succ, Option.map_some, Bool.not_true, Bool.not_false, ite_true, ite_false, if_true, if_false, Bool.false_eq_true, gEq_int, gNe_int, gEq_bl, gNe_bl, gEq_non, gNe_non, List.isEmpty_cons, List.isEmpty_nil, this]
  exact ⟨trivial, gr⟩
end Lk14

end

section
set_option Elab.async false
set_option linter.all false
set_option maxRecDepth 100000
set_option maxHeartbeats 4000000
namespace Lk14
open PySem GL
variable {n : Nat} {S : Sto}
theorem isi_non : gIsi isaT [.non, .ty "int"] S = some (.bl false) := rfl
theorem is_entry_eq {x : Option Int} (h : ∀ v, x = some v → 0 ≤ v) : callN tab (n + 2) (.fn "is_entry") [oG x] S = .ok (.bl true) S := by
  rw [cn_is_entry (n + 1) _ _ rfl]
  cases x with
  | none => simp only [nG, sSeq, sSet, sRet, sRetN, sIf, sDrop, sNx, sBrk, sPar, sTg, sr_ok, rb_ok, ro_ok, so_ok, e1, e2, eA, eCl, eV, eC, eAnd, eOr, eNot, eIf, eCh, tV, tNot, tAnd, tOr, tYes, bof_bl, aNil, aCons, tgSet, setAll, lo0, bodyR_nx, bodyR_rt, R.wp_ok, SR.wp_nx, SR.wp_rt, SR.wp_bk, gAddA, gAdd, gSub, gLe, gLt, gGt, gGe, is_non, is_int, is_tup, is_bl, isn_non, isn_int, isn_tup, isn_bl, is_o, isn_o, gNeg, gTup1, gTup2, gTup3, gTup4, gTup5, gLst0, gLst1, gLst2, gLst3, eLstA0, List.length_cons, List.length_nil, List.map_cons, List.map_nil, List.cons_append, List.nil_append, List.replicate, Nat.sub_self, Nat.reduceSub, Nat.reduceAdd, List.getElem?_cons_zero, List.getElem?_cons_succ, List.set_cons_zero, List.set_cons_succ, Option.map_some, Bool.not_true, Bool.not_false, ite_true, ite_false, if_true, if_false, Bool.false_eq_true, gEq_int, gNe_int, gEq_bl, gNe_bl, gEq_non, gNe_non, List.isEmpty_cons, List.isEmpty_nil, sh_is_entry, oG]
  | some v =>
    have hd : decide (0 ≤ v) = true := decide_eq_true (h v rfl)
    simp only [nG, sSeq, sSet, sRet, sRetN, sIf, sDrop, sNx, sBrk, sPar, sTg, sr_ok, rb_ok, ro_ok, so_ok, e1, e2, eA, eCl, eV, eC, eAnd, eOr, eNot, eIf, eCh, tV, tNot, tAnd, tOr, tYes, bof_bl, aNil, aCons, tgSet, setAll, lo0, bodyR_nx, bodyR_rt, R.wp_ok, SR.wp_nx, SR.wp_rt, SR.wp_bk, gAddA, gAdd, gSub, gLe, gLt, gGt, gGe, is_non, is_int, is_tup, is_bl, isn_non, isn_int, isn_tup, isn_bl, is_o, isn_o, gNeg, gTup1, gTup2, gTup3, gTup4, gTup5, gLst0, gLst1, gLst2, gLst3, eLstA0, List.length_cons, List.length_nil, List.map_cons, List.map_nil, List.cons_append, List.nil_append, List.replicate, Nat.sub_self, Nat.reduceSub, Nat.reduceAdd, List.getElem?_cons_zero, List.getElem?_cons_succ, List.set_cons_zero, List.set_cons_succ, Option.map_some, Bool.not_true, Bool.not_false, ite_true, ite_false, if_true, if_false, Bool.false_eq_true, gEq_int, gNe_int, gEq_bl, gNe_bl, gEq_non, gNe_non, List.isEmpty_cons, List.isEmpty_nil, sh_is_entry, oG, is_whole_eq, hd]
theorem rowAt_nonneg {t : Tk} : ∀ {l : List (Nat × Nat)} {x : Option Int}, x ∈ rowAt t l → ∀ v, x = some v → 0 ≤ v
  | [], x, hx, v, e => by
    unfold rowAt zeros at hx
    rw [List.mem_replicate] at hx
    rw [e] at hx
    have := Option.some.inj hx.2
    omega
  | (r, p) :: l, x, hx, v, e => by
    have hx : x ∈ rowS t r p (rowAt t l) := hx
    unfold rowS at hx
    obtain ⟨w, _, h⟩ := List.mem_map.mp hx
    rw [e] at h
    have := (leastO_mem h).1
    unfold costs at this
    obtain ⟨m, _, h2⟩ := List.mem_map.mp this
    unfold cst at h2
    cases q : (rowAt t l)[w + r - m]? with
    | none => rw [q] at h2; cases h2
    | some y =>
      rw [q] at h2
      cases y with
      | none => cases h2
      | some u =>
        have hu := rowAt_nonneg (List.mem_of_getElem? q) u rfl
        have h3 : (m : Int) * p + u = v := Option.some.inj h2
        have : (0 : Int) ≤ (m : Int) * p := Int.mul_nonneg (by omega) (by omega)
        omega
theorem tabs_mem {t : Tk} : ∀ {l : List (Nat × Nat)} {b : List (Option Int)}, b ∈ tabs t l → ∃ l', b = rowAt t l'
  | [], b, h => by
    have : b ∈ [rowAt t []] := h
    exact ⟨[], List.mem_singleton.mp this⟩
  | x :: l, b, h => by
    have : b ∈ rowAt t (x :: l) :: tabs t l := h
    rcases List.mem_cons.mp this with rfl | h2
    · exact ⟨_, rfl⟩
    · exact tabs_mem h2
theorem flat_len {a b : Type} {M : a → List b} {k : Nat} : ∀ {L : List a}, (∀ x ∈ L, (M x).length ≤ k) → (L.flatMap M).length ≤ L.length * k
  | [], _ => by simp
  | x :: L, h => by
    rw [List.flatMap_cons, List.length_append, List.length_cons, Nat.succ_mul]
    have := h x List.mem_cons_self
    have := flat_len (L := L) fun y hy => h y (List.mem_cons_of_mem _ hy)
    omega
def tabG (t : Tk) : G := .tup ((tabs t t.rp).map rowG)
theorem has_form_eq {t : Tk} {o : Nat} (ok : t.Ok) (a : At S o t) : callN tab (n + 3) (.fn "has_form") [.ref o, tabG t] S = .ok (.bl true) S := by
  have hl := tabs_len t t.rp
  rw [rp_len ok] at hl
  have hn := ok.most
  have hlim := ok.lim
  have hrow : ∀ S, callN tab (n + 2) (.fn "is_row") [tabG t, .int ((t.rain.length : Int) + 1)] S = .ok (.bl true) S := fun S => isRow_true (by simp [hl])
  rw [cn_has_form (n + 2) _ _ rfl]
  refine R_ok_of ?_
  unfold sh_has_form
  refine wp_seq ?_
  simp only [nG, sSet, sRet, sRetN, sIf, sDrop, sNx, sBrk, sPar, sTg, sr_ok, rb_ok, ro_ok, so_ok, e1, e2, eA, eCl, eV, eC, eAnd, eOr, eNot, eIf, eCh, tV, tNot, tAnd, tOr, tYes, bof_bl, aNil, aCons, tgSet, setAll, lo0, bodyR_nx, bodyR_rt, R.wp_ok, SR.wp_nx, SR.wp_rt, SR.wp_bk, gAddA, gAdd, gSub, gLe, gLt, gGt, gGe, is_non, is_int, is_tup, is_bl, isn_non, isn_int, isn_tup, isn_bl, is_o, isn_o, gNeg, gTup1, gTup2, gTup3, gTup4, gTup5, gLst0, gLst1, gLst2, gLst3, eLstA0, List.length_cons, List.length_nil, List.map_cons, List.map_nil, List.cons_append, List.nil_append, List.replicate, Nat.sub_self, Nat.reduceSub, Nat.reduceAdd, List.getElem?_cons_zero, List.getElem?_cons_succ, List.set_cons_zero, List.set_cons_succ, Option.map_some, Bool.not_true, Bool.not_false, ite_true, ite_false, if_true, if_false, Bool.false_eq_true, gEq_int, gNe_int, gEq_bl, gNe_bl, gEq_non, gNe_non, List.isEmpty_cons, List.isEmpty_nil, a.rain, len_nsG, hrow]
  rw [eLc_all (c := rowG) (L := tabs t t.rp) (f := fun _ => .bl true) (by simp only [nG, sSet, sRet, sRetN, sIf, sDrop, sNx, sBrk, sPar, sTg, sr_ok, rb_ok, ro_ok, so_ok, e1, e2, eA, eCl, eV, eC, eAnd, eOr, eNot, eIf, eCh, tV, tNot, tAnd, tOr, tYes, bof_bl, aNil, aCons, tgSet, setAll, lo0, bodyR_nx, bodyR_rt, R.wp_ok, SR.wp_nx, SR.wp_rt, SR.wp_bk, gAddA, gAdd, gSub, gLe, gLt, gGt, gGe, is_non, is_int, is_tup, is_bl, isn_non, isn_int, isn_tup, isn_bl, is_o, isn_o, gNeg, gTup1, gTup2, gTup3, gTup4, gTup5, gLst0, gLst1, gLst2, gLst3, eLstA0, List.length_cons, List.length_nil, List.map_cons, List.map_nil, List.cons_append, List.nil_append, List.replicate, Nat.sub_self, Nat.reduceSub, Nat.reduceAdd, List.getElem?_cons_zero, List.getElem?_cons_succ, List.set_cons_zero, List.set_cons_succ, Option.map_some, Bool.not_true, Bool.not_false, ite_true, ite_false, if_true, if_false, Bool.false_eq_true, gEq_int, gNe_int, gEq_bl, gNe_bl, gEq_non, gNe_non, List.isEmpty_cons, List.isEmpty_nil, itV, tabG]) fun x hx => ⟨_, rfl, by
    obtain ⟨l', rfl⟩ := tabs_mem hx
    have h0 : callN tab (n + 2) (.fn "is_row") [rowG (rowAt t l'), .int ((t.lim : Int) + 1)] S = .ok (.bl true) S := isRow_true (by simp [rowAt_len])
    simp only [nG, sSeq, sSet, sRet, sRetN, sIf, sDrop, sNx, sBrk, sPar, sTg, sr_ok, rb_ok, ro_ok, so_ok, e1, e2, eA, eCl, eV, eC, eAnd, eOr, eNot, eIf, eCh, tV, tNot, tAnd, tOr, tYes, bof_bl, aNil, aCons, tgSet, setAll, lo0, bodyR_nx, bodyR_rt, R.wp_ok, SR.wp_nx, SR.wp_rt, SR.wp_bk, gAddA, gAdd, gSub, gLe, gLt, gGt, gGe, is_non, is_int, is_tup, is_bl, isn_non, isn_int, isn_tup, isn_bl, is_o, isn_o, gNeg, gTup1, gTup2, gTup3, gTup4, gTup5, gLst0, gLst1, gLst2, gLst3, eLstA0, List.length_cons, List.length_nil, List.map_cons, List.map_nil, List.cons_append, List.nil_append, List.replicate, Nat.sub_self, Nat.reduceSub, Nat.reduceAdd, List.getElem?_cons_zero, List.getElem?_cons_succ, List.set_cons_zero, List.set_cons_succ, Option.map_some, Bool.not_true, Bool.not_false, ite_true, ite_false, if_true, if_false, Bool.false_eq_true, gEq_int, gNe_int, gEq_bl, gNe_bl, gEq_non, gNe_non, List.isEmpty_cons, List.isEmpty_nil, wipeL, a.lim, h0]⟩]
  simp only [nG, sSet, sRet, sRetN, sIf, sDrop, sNx, sBrk, sPar, sTg, sr_ok, rb_ok, ro_ok, so_ok, e1, e2, eA, eCl, eV, eC, eAnd, eOr, eNot, eIf, eCh, tV, tNot, tAnd, tOr, tYes, bof_bl, aNil, aCons, tgSet, setAll, lo0, bodyR_nx, bodyR_rt, R.wp_ok, SR.wp_nx, SR.wp_rt, SR.wp_bk, gAddA, gAdd, gSub, gLe, gLt, gGt, gGe, is_non, is_int, is_tup, is_bl, isn_non, isn_int, isn_tup, isn_bl, is_o, isn_o, gNeg, gTup1, gTup2, gTup3, gTup4, gTup5, gLst0, gLst1, gLst2, gLst3, eLstA0, List.length_cons, List.length_nil, List.map_cons, List.map_nil, List.cons_append, List.nil_append, List.replicate, Nat.sub_self, Nat.reduceSub, Nat.reduceAdd, List.getElem?_cons_zero, List.getElem?_cons_succ, List.set_cons_zero, List.set_cons_succ, Option.map_some, Bool.not_true, Bool.not_false, ite_true, ite_false, if_true, if_false, Bool.false_eq_true, gEq_int, gNe_int, gEq_bl, gNe_bl, gEq_non, gNe_non, List.isEmpty_cons, List.isEmpty_nil, gAll_true]
  rw [eLc2_true (c := rowG) (L := tabs t t.rp) (d := oG) (M := fun b => b) (by simp only [nG, sSet, sRet, sRetN, sIf, sDrop, sNx, sBrk, sPar, sTg, sr_ok, rb_ok, ro_ok, so_ok, e1, e2, eA, eCl, eV, eC, eAnd, eOr, eNot, eIf, eCh, tV, tNot, tAnd, tOr, tYes, bof_bl, aNil, aCons, tgSet, setAll, lo0, bodyR_nx, bodyR_rt, R.wp_ok, SR.wp_nx, SR.wp_rt, SR.wp_bk, gAddA, gAdd, gSub, gLe, gLt, gGt, gGe, is_non, is_int, is_tup, is_bl, isn_non, isn_int, isn_tup, isn_bl, is_o, isn_o, gNeg, gTup1, gTup2, gTup3, gTup4, gTup5, gLst0, gLst1, gLst2, gLst3, eLstA0, List.length_cons, List.length_nil, List.map_cons, List.map_nil, List.cons_append, List.nil_append, List.replicate, Nat.sub_self, Nat.reduceSub, Nat.reduceAdd, List.getElem?_cons_zero, List.getElem?_cons_succ, List.set_cons_zero, List.set_cons_succ, Option.map_some, Bool.not_true, Bool.not_false, ite_true, ite_false, if_true, if_false, Bool.false_eq_true, gEq_int, gNe_int, gEq_bl, gNe_bl, gEq_non, gNe_non, List.isEmpty_cons, List.isEmpty_nil, itV, tabG]) ?_ fun x hx => ⟨_, rfl, by simp only [nG, sSeq, sSet, sRet, sRetN, sIf, sDrop, sNx, sBrk, sPar, sTg, sr_ok, rb_ok, ro_ok, so_ok, e1, e2, eA, eCl, eV, eC, eAnd, eOr, eNot, eIf, eCh, tV, tNot, tAnd, tOr, tYes, bof_bl, aNil, aCons, tgSet, setAll, lo0, bodyR_nx, bodyR_rt, R.wp_ok, SR.wp_nx, SR.wp_rt, SR.wp_bk, gAddA, gAdd, gSub, gLe, gLt, gGt, gGe, is_non, is_int, is_tup, is_bl, isn_non, isn_int, isn_tup, isn_bl, is_o, isn_o, gNeg, gTup1, gTup2, gTup3, gTup4, gTup5, gLst0, gLst1, gLst2, gLst3, eLstA0, List.length_cons, List.length_nil, List.map_cons, List.map_nil, List.cons_append, List.nil_append, List.replicate, Nat.sub_self, Nat.reduceSub, Nat.reduceAdd, List.getElem?_cons_zero, List.getElem?_cons_succ, List.set_cons_zero, List.set_cons_succ, Option.map_some, Bool.not_true, Bool.not_false, ite_true, ite_false, if_true, if_false, Bool.false_eq_true, gEq_int, gNe_int, gEq_bl, gNe_bl, gEq_non, gNe_non, List.isEmpty_cons, List.isEmpty_nil, itV, wipeL, rowG], fun y hy => ⟨_, rfl, by
    obtain ⟨l', rfl⟩ := tabs_mem hx
    simp only [nG, sSeq, sSet, sRet, sRetN, sIf, sDrop, sNx, sBrk, sPar, sTg, sr_ok, rb_ok, ro_ok, so_ok, e1, e2, eA, eCl, eV, eC, eAnd, eOr, eNot, eIf, eCh, tV, tNot, tAnd, tOr, tYes, bof_bl, aNil, aCons, tgSet, setAll, lo0, bodyR_nx, bodyR_rt, R.wp_ok, SR.wp_nx, SR.wp_rt, SR.wp_bk, gAddA, gAdd, gSub, gLe, gLt, gGt, gGe, is_non, is_int, is_tup, is_bl, isn_non, isn_int, isn_tup, isn_bl, is_o, isn_o, gNeg, gTup1, gTup2, gTup3, gTup4, gTup5, gLst0, gLst1, gLst2, gLst3, eLstA0, List.length_cons, List.length_nil, List.map_cons, List.map_nil, List.cons_append, List.nil_append, List.replicate, Nat.sub_self, Nat.reduceSub, Nat.reduceAdd, List.getElem?_cons_zero, List.getElem?_cons_succ, List.set_cons_zero, List.set_cons_succ, Option.map_some, Bool.not_true, Bool.not_false, ite_true, ite_false, if_true, if_false, Bool.false_eq_true, gEq_int, gNe_int, gEq_bl, gNe_bl, gEq_non, gNe_non, List.isEmpty_cons, List.isEmpty_nil, wipeL, is_entry_eq (rowAt_nonneg hy)]⟩⟩]
  · simp only [nG, sSet, sRet, sRetN, sIf, sDrop, sNx, sBrk, sPar, sTg, sr_ok, rb_ok, ro_ok, so_ok, e1, e2, eA, eCl, eV, eC, eAnd, eOr, eNot, eIf, eCh, tV, tNot, tAnd, tOr, tYes, bof_bl, aNil, aCons, tgSet, setAll, lo0, bodyR_nx, bodyR_rt, R.wp_ok, SR.wp_nx, SR.wp_rt, SR.wp_bk, gAddA, gAdd, gSub, gLe, gLt, gGt, gGe, is_non, is_int, is_tup, is_bl, isn_non, isn_int, isn_tup, isn_bl, is_o, isn_o, gNeg, gTup1, gTup2, gTup3, gTup4, gTup5, gLst0, gLst1, gLst2, gLst3, eLstA0, List.length_cons, List.length_nil, List.map_cons, List.map_nil, List.cons_append, List.nil_append, List.replicate, Nat.sub_self, Nat.reduceSub, Nat.reduceAdd, List.getElem?_cons_zero, List.getElem?_cons_succ, List.set_cons_zero, List.set_cons_succ, Option.map_some, Bool.not_true, Bool.not_false, ite_true, ite_false, if_true, if_false, Bool.false_eq_true, gEq_int, gNe_int, gEq_bl, gNe_bl, gEq_non, gNe_non, List.isEmpty_cons, List.isEmpty_nil, gAll_true]
    exact ⟨trivial, trivial⟩
  · refine Nat.le_trans (flat_len (k := t.lim + 1) fun x hx => ?_) ?_
    · obtain ⟨l', rfl⟩ := tabs_mem hx
      rw [rowAt_len]; exact Nat.le_refl _
    · rw [hl]
      exact Nat.le_trans (Nat.mul_le_mul (show t.rain.length + 1 ≤ 13 by omega) (show t.lim + 1 ≤ 21 by omega)) (by omega)
theorem is_lower_eq {t : Tk} {o k w : Nat} (ok : t.Ok) (a : At S o t) (hk : k < t.rain.length) (hw : w ≤ t.lim) :
    callN tab (n + 3) (.fn "is_lower_entry") [.ref o, tabG t, .int (k : Nat), .int (w : Nat)] S = .ok (.bl true) S := by
  have hkl := rp_len ok
  obtain ⟨r, p, hr, hp, hd⟩ := rp_get ok hk
  have i1 : ∀ S, gIx (tabG t) (.int ((k : Int) + 1)) S = some (rowG (rowAt t (t.rp.drop (k + 1)))) := fun S => by
    have := ixtabT (S := S) (t := t) (l := t.rp) (k := k + 1) (by omega)
    rwa [show ((k + 1 : Nat) : Int) = (k : Int) + 1 by omega] at this
  have i2 : ∀ S, gIx (tabG t) (.int (k : Nat)) S = some (rowG (rowAt t (t.rp.drop k))) := fun S => ixtabT (S := S) (t := t) (l := t.rp) (k := k) (by omega)
  rw [cn_is_lower_entry (n + 2) _ _ rfl]
  refine R_ok_of ?_
  unfold sh_is_lower_entry
  refine wp_seq ?_
  simp only [nG, sSet, sRet, sRetN, sIf, sDrop, sNx, sBrk, sPar, sTg, sr_ok, rb_ok, ro_ok, so_ok, e1, e2, eA, eCl, eV, eC, eAnd, eOr, eNot, eIf, eCh, tV, tNot, tAnd, tOr, tYes, bof_bl, aNil, aCons, tgSet, setAll, lo0, bodyR_nx, bodyR_rt, R.wp_ok, SR.wp_nx, SR.wp_rt, SR.wp_bk, gAddA, gAdd, gSub, gLe, gLt, gGt, gGe, is_non, is_int, is_tup, is_bl, isn_non, isn_int, isn_tup, isn_bl, is_o, isn_o, gNeg, gTup1, gTup2, gTup3, gTup4, gTup5, gLst0, gLst1, gLst2, gLst3, eLstA0, List.length_cons, List.length_nil, List.map_cons, List.map_nil, List.cons_append, List.nil_append, List.replicate, Nat.sub_self, Nat.reduceSub, Nat.reduceAdd, List.getElem?_cons_zero, List.getElem?_cons_succ, List.set_cons_zero, List.set_cons_succ, Option.map_some, Bool.not_true, Bool.not_false, ite_true, ite_false, if_true, if_false, Bool.false_eq_true, gEq_int, gNe_int, gEq_bl, gNe_bl, gEq_non, gNe_non, List.isEmpty_cons, List.isEmpty_nil, i2, ixrow hw]
  have hval := val_cons (t := t) (r := r) (p := p) (l := t.rp.drop (k + 1)) hw
  rw [← hd] at hval
  refine wp_seq (wp_for (xs := (chs t (w + r)).map (chG (w + r))) ?_
    (fun i l S' => (∃ u5 u6 u7, l = [some (.ref o), some (tabG t), some (.int (k : Nat)), some (.int (w : Nat)), some (oG (val t (t.rp.drop k) w)), u5, u6, u7]) ∧ S' = S) ?_ ⟨⟨_, _, _, rfl⟩, rfl⟩ ?_)
  · simp only [nG, sSet, sRet, sRetN, sIf, sDrop, sNx, sBrk, sPar, sTg, sr_ok, rb_ok, ro_ok, so_ok, e1, e2, eA, eCl, eV, eC, eAnd, eOr, eNot, eIf, eCh, tV, tNot, tAnd, tOr, tYes, bof_bl, aNil, aCons, tgSet, setAll, lo0, bodyR_nx, bodyR_rt, R.wp_ok, SR.wp_nx, SR.wp_rt, SR.wp_bk, gAddA, gAdd, gSub, gLe, gLt, gGt, gGe, is_non, is_int, is_tup, is_bl, isn_non, isn_int, isn_tup, isn_bl, is_o, isn_o, gNeg, gTup1, gTup2, gTup3, gTup4, gTup5, gLst0, gLst1, gLst2, gLst3, eLstA0, List.length_cons, List.length_nil, List.map_cons, List.map_nil, List.cons_append, List.nil_append, List.replicate, Nat.sub_self, Nat.reduceSub, Nat.reduceAdd, List.getElem?_cons_zero, List.getElem?_cons_succ, List.set_cons_zero, List.set_cons_succ, Option.map_some, Bool.not_true, Bool.not_false, ite_true, ite_false, if_true, if_false, Bool.false_eq_true, gEq_int, gNe_int, gEq_bl, gNe_bl, gEq_non, gNe_non, List.isEmpty_cons, List.isEmpty_nil, itV, choices_eq ok a hr]
  · rintro i x l S' hx ⟨⟨u5, u6, u7, rfl⟩, rfl⟩
    obtain ⟨m, hm, rfl, h1, h2, h3⟩ := chs_get hx
    have hcm : cst p (rowAt t (t.rp.drop (k + 1))) (w + r) m ∈ costs t p (rowAt t (t.rp.drop (k + 1))) (w + r) := List.mem_map.mpr ⟨m, List.mem_of_getElem? hm, rfl⟩
    have hcap := ok.cap
    refine ⟨_, rfl, ?_⟩
    refine wp_seq ?_
    simp only [nG, sSet, sRet, sRetN, sIf, sDrop, sNx, sBrk, sPar, sTg, sr_ok, rb_ok, ro_ok, so_ok, e1, e2, eA, eCl, eV, eC, eAnd, eOr, eNot, eIf, eCh, tV, tNot, tAnd, tOr, tYes, bof_bl, aNil, aCons, tgSet, setAll, lo0, bodyR_nx, bodyR_rt, R.wp_ok, SR.wp_nx, SR.wp_rt, SR.wp_bk, gAddA, gAdd, gSub, gLe, gLt, gGt, gGe, is_non, is_int, is_tup, is_bl, isn_non, isn_int, isn_tup, isn_bl, is_o, isn_o, gNeg, gTup1, gTup2, gTup3, gTup4, gTup5, gLst0, gLst1, gLst2, gLst3, eLstA0, List.length_cons, List.length_nil, List.map_cons, List.map_nil, List.cons_append, List.nil_append, List.replicate, Nat.sub_self, Nat.reduceSub, Nat.reduceAdd, List.getElem?_cons_zero, List.getElem?_cons_succ, List.set_cons_zero, List.set_cons_succ, Option.map_some, Bool.not_true, Bool.not_false, ite_true, ite_false, if_true, if_false, Bool.false_eq_true, gEq_int, gNe_int, gEq_bl, gNe_bl, gEq_non, gNe_non, List.isEmpty_cons, List.isEmpty_nil, chG, i1, ixrow h3]
    cases h4 : val t (t.rp.drop (k + 1)) (w + r - m) with
    | none =>
      simp only [nG, sSet, sRet, sRetN, sIf, sDrop, sNx, sBrk, sPar, sTg, sr_ok, rb_ok, ro_ok, so_ok, e1, e2, eA, eCl, eV, eC, eAnd, eOr, eNot, eIf, eCh, tV, tNot, tAnd, tOr, tYes, bof_bl, aNil, aCons, tgSet, setAll, lo0, bodyR_nx, bodyR_rt, R.wp_ok, SR.wp_nx, SR.wp_rt, SR.wp_bk, gAddA, gAdd, gSub, gLe, gLt, gGt, gGe, is_non, is_int, is_tup, is_bl, isn_non, isn_int, isn_tup, isn_bl, is_o, isn_o, gNeg, gTup1, gTup2, gTup3, gTup4, gTup5, gLst0, gLst1, gLst2, gLst3, eLstA0, List.length_cons, List.length_nil, List.map_cons, List.map_nil, List.cons_append, List.nil_append, List.replicate, Nat.sub_self, Nat.reduceSub, Nat.reduceAdd, List.getElem?_cons_zero, List.getElem?_cons_succ, List.set_cons_zero, List.set_cons_succ, Option.map_some, Bool.not_true, Bool.not_false, ite_true, ite_false, if_true, if_false, Bool.false_eq_true, gEq_int, gNe_int, gEq_bl, gNe_bl, gEq_non, gNe_non, List.isEmpty_cons, List.isEmpty_nil, oG, Option.isSome]
      exact ⟨⟨_, _, _, rfl⟩, by first | trivial | rfl⟩
    | some v2 =>
      rw [cst_val, h4] at hcm
      cases h5 : leastO (costs t p (rowAt t (t.rp.drop (k + 1))) (w + r)) with
      | none => exact absurd hcm (leastO_none h5 _)
      | some v =>
        have hle : v ≤ (m : Int) * p + v2 := (leastO_mem h5).2 _ hcm
        have hmul : ∀ S, gMulA (.int (m : Int)) (.int (p : Int)) S = some (.int ((m : Int) * p)) := fun S => mul_sm (by omega)
        have hdd : decide ((m : Int) * p + v2 < v) = false := decide_eq_false (by omega)
        rw [hval, h5]
        simp only [nG, sSet, sRet, sRetN, sIf, sDrop, sNx, sBrk, sPar, sTg, sr_ok, rb_ok, ro_ok, so_ok, e1, e2, eA, eCl, eV, eC, eAnd, eOr, eNot, eIf, eCh, tV, tNot, tAnd, tOr, tYes, bof_bl, aNil, aCons, tgSet, setAll, lo0, bodyR_nx, bodyR_rt, R.wp_ok, SR.wp_nx, SR.wp_rt, SR.wp_bk, gAddA, gAdd, gSub, gLe, gLt, gGt, gGe, is_non, is_int, is_tup, is_bl, isn_non, isn_int, isn_tup, isn_bl, is_o, isn_o, gNeg, gTup1, gTup2, gTup3, gTup4, gTup5, gLst0, gLst1, gLst2, gLst3, eLstA0, List.length_cons, List.length_nil, List.map_cons, List.map_nil, List.cons_append, List.nil_append, List.replicate, Nat.sub_self, Nat.reduceSub, Nat.reduceAdd, List.getElem?_cons_zero, List.getElem?_cons_succ, List.set_cons_zero, List.set_cons_succ, Option.map_some, Bool.not_true, Bool.not_false, ite_true, ite_false, if_true, if_false, Bool.false_eq_true, gEq_int, gNe_int, gEq_bl, gNe_bl, gEq_non, gNe_non, List.isEmpty_cons, List.isEmpty_nil, oG, Option.isSome, Option.isNone, a.prices, ixn hp, hmul, hdd]
        exact ⟨⟨_, _, _, rfl⟩, by first | trivial | rfl⟩
  · rintro l S' ⟨⟨u5, u6, u7, rfl⟩, rfl⟩
    simp only [nG, sSeq, sSet, sRet, sRetN, sIf, sDrop, sNx, sBrk, sPar, sTg, sr_ok, rb_ok, ro_ok, so_ok, e1, e2, eA, eCl, eV, eC, eAnd, eOr, eNot, eIf, eCh, tV, tNot, tAnd, tOr, tYes, bof_bl, aNil, aCons, tgSet, setAll, lo0, bodyR_nx, bodyR_rt, R.wp_ok, SR.wp_nx, SR.wp_rt, SR.wp_bk, gAddA, gAdd, gSub, gLe, gLt, gGt, gGe, is_non, is_int, is_tup, is_bl, isn_non, isn_int, isn_tup, isn_bl, is_o, isn_o, gNeg, gTup1, gTup2, gTup3, gTup4, gTup5, gLst0, gLst1, gLst2, gLst3, eLstA0, List.length_cons, List.length_nil, List.map_cons, List.map_nil, List.cons_append, List.nil_append, List.replicate, Nat.sub_self, Nat.reduceSub, Nat.reduceAdd, List.getElem?_cons_zero, List.getElem?_cons_succ, List.set_cons_zero, List.set_cons_succ, Option.map_some, Bool.not_true, Bool.not_false, ite_true, ite_false, if_true, if_false, Bool.false_eq_true, gEq_int, gNe_int, gEq_bl, gNe_bl, gEq_non, gNe_non, List.isEmpty_cons, List.isEmpty_nil]
    exact ⟨trivial, trivial⟩
theorem gOk_row (k : Nat) : ∀ b : List (Option Int), gOks k (b.map oG) = true
  | [] => by simp [gOks]
  | none :: b => by simp [gOks, gOk, oG, gOk_row k b]
  | some v :: b => by simp [gOks, gOk, oG, gOk_row k b]
theorem tabs_last {t : Tk} : ∀ l : List (Nat × Nat), ∃ r, (tabs t l).map rowG = r ++ [rowG (zeros t)]
  | [] => ⟨[], rfl⟩
  | x :: l => by
    obtain ⟨r, h⟩ := tabs_last (t := t) l
    exact ⟨rowG (rowAt t (x :: l)) :: r, by show rowG (rowAt t (x :: l)) :: (tabs t l).map rowG = _; rw [h]; rfl⟩
theorem are_lower_eq {t : Tk} {o : Nat} (ok : t.Ok) (a : At S o t) : callN tab (n + 4) (.fn "are_lower") [.ref o, tabG t] S = .ok (.bl true) S := by
  have hlim := ok.lim
  have hn := ok.most
  obtain ⟨R', hR⟩ := tabs_last (t := t) t.rp
  have hlast : gIx (tabG t) (.int (-1)) S = some (rowG (zeros t)) := by
    show (match seqG S (tabG t) with | some l => L2.atI l (-1) | none => none) = _
    unfold tabG
    simp only [seqG, hR, atI_last]
  have hz : gMulA (.tup [.int 0]) (.int ((t.lim : Int) + 1)) S = some (rowG (zeros t)) := by
    have := mul_tup1 (S := S) (x := .int 0) (n := t.lim + 1) (by omega)
    rw [show ((t.lim + 1 : Nat) : Int) = (t.lim : Int) + 1 by omega] at this
    rw [this]
    simp [rowG, zeros, oG]
  have hne : gNe (rowG (zeros t)) (rowG (zeros t)) S = some (.bl false) := gNe_refl (by rw [gOk]; exact gOk_row _ _)
  rw [cn_are_lower (n + 3) _ _ rfl]
  refine R_ok_of ?_
  unfold sh_are_lower
  refine wp_seq ?_
  simp only [nG, sSet, sRet, sRetN, sIf, sDrop, sNx, sBrk, sPar, sTg, sr_ok, rb_ok, ro_ok, so_ok, e1, e2, eA, eCl, eV, eC, eAnd, eOr, eNot, eIf, eCh, tV, tNot, tAnd, tOr, tYes, bof_bl, aNil, aCons, tgSet, setAll, lo0, bodyR_nx, bodyR_rt, R.wp_ok, SR.wp_nx, SR.wp_rt, SR.wp_bk, gAddA, gAdd, gSub, gLe, gLt, gGt, gGe, is_non, is_int, is_tup, is_bl, isn_non, isn_int, isn_tup, isn_bl, is_o, isn_o, gNeg, gTup1, gTup2, gTup3, gTup4, gTup5, gLst0, gLst1, gLst2, gLst3, eLstA0, List.length_cons, List.length_nil, List.map_cons, List.map_nil, List.cons_append, List.nil_append, List.replicate, Nat.sub_self, Nat.reduceSub, Nat.reduceAdd, List.getElem?_cons_zero, List.getElem?_cons_succ, List.set_cons_zero, List.set_cons_succ, Option.map_some, Bool.not_true, Bool.not_false, ite_true, ite_false, if_true, if_false, Bool.false_eq_true, gEq_int, gNe_int, gEq_bl, gNe_bl, gEq_non, gNe_non, List.isEmpty_cons, List.isEmpty_nil, has_form_eq ok a, hlast, a.lim, hz, hne]
  refine wp_seq (wp_set ?_)
  rw [lstR1_nat (n := t.lim + 1) (by simp [nG, sSeq, sSet, sRet, sRetN, sIf, sDrop, sNx, sBrk, sPar, sTg, sr_ok, rb_ok, ro_ok, so_ok, e1, e2, eA, eCl, eV, eC, eAnd, eOr, eNot, eIf, eCh, tV, tNot, tAnd, tOr, tYes, bof_bl, aNil, aCons, tgSet, setAll, lo0, bodyR_nx, bodyR_rt, R.wp_ok, SR.wp_nx, SR.wp_rt, SR.wp_bk, gAddA, gAdd, gSub, gLe, gLt, gGt, gGe, is_non, is_int, is_tup, is_bl, isn_non, isn_int, isn_tup, isn_bl, is_o, isn_o, gNeg, gTup1, gTup2, gTup3, gTup4, gTup5, gLst0, gLst1, gLst2, gLst3, eLstA0, List.length_cons, List.length_nil, List.map_cons, List.map_nil, List.cons_append, List.nil_append, List.replicate, Nat.sub_self, Nat.reduceSub, Nat.reduceAdd, List.getElem?_cons_zero, List.getElem?_cons_succ, List.set_cons_zero, List.set_cons_succ, Option.map_some, Bool.not_true, Bool.not_false, ite_true, ite_false, if_true, if_false, Bool.false_eq_true, gEq_int, gNe_int, gEq_bl, gNe_bl, gEq_non, gNe_non, List.isEmpty_cons, List.isEmpty_nil, a.lim]) (by omega), R.wp_ok]
  refine wp_seq (wp_set ?_)
  rw [lstR1_nat (n := t.rain.length) (by simp [nG, sSeq, sSet, sRet, sRetN, sIf, sDrop, sNx, sBrk, sPar, sTg, sr_ok, rb_ok, ro_ok, so_ok, e1, e2, eA, eCl, eV, eC, eAnd, eOr, eNot, eIf, eCh, tV, tNot, tAnd, tOr, tYes, bof_bl, aNil, aCons, tgSet, setAll, lo0, bodyR_nx, bodyR_rt, R.wp_ok, SR.wp_nx, SR.wp_rt, SR.wp_bk, gAddA, gAdd, gSub, gLe, gLt, gGt, gGe, is_non, is_int, is_tup, is_bl, isn_non, isn_int, isn_tup, isn_bl, is_o, isn_o, gNeg, gTup1, gTup2, gTup3, gTup4, gTup5, gLst0, gLst1, gLst2, gLst3, eLstA0, List.length_cons, List.length_nil, List.map_cons, List.map_nil, List.cons_append, List.nil_append, List.replicate, Nat.sub_self, Nat.reduceSub, Nat.reduceAdd, List.getElem?_cons_zero, List.getElem?_cons_succ, List.set_cons_zero, List.set_cons_succ, Option.map_some, Bool.not_true, Bool.not_false, ite_true, ite_false, if_true, if_false, Bool.false_eq_true, gEq_int, gNe_int, gEq_bl, gNe_bl, gEq_non, gNe_non, List.isEmpty_cons, List.isEmpty_nil, a.rain, len_nsG]) (by omega), R.wp_ok]
  simp only [nG, sSet, sRet, sRetN, sIf, sDrop, sNx, sBrk, sPar, sTg, sr_ok, rb_ok, ro_ok, so_ok, e1, e2, eA, eCl, eV, eC, eAnd, eOr, eNot, eIf, eCh, tV, tNot, tAnd, tOr, tYes, bof_bl, aNil, aCons, tgSet, setAll, lo0, bodyR_nx, bodyR_rt, R.wp_ok, SR.wp_nx, SR.wp_rt, SR.wp_bk, gAddA, gAdd, gSub, gLe, gLt, gGt, gGe, is_non, is_int, is_tup, is_bl, isn_non, isn_int, isn_tup, isn_bl, is_o, isn_o, gNeg, gTup1, gTup2, gTup3, gTup4, gTup5, gLst0, gLst1, gLst2, gLst3, eLstA0, List.length_cons, List.length_nil, List.map_cons, List.map_nil, List.cons_append, List.nil_append, List.replicate, Nat.sub_self, Nat.reduceSub, Nat.reduceAdd, List.getElem?_cons_zero, List.getElem?_cons_succ, List.set_cons_zero, List.set_cons_succ, Option.map_some, Bool.not_true, Bool.not_false, ite_true, ite_false, if_true, if_false, Bool.false_eq_true, gEq_int, gNe_int, gEq_bl, gNe_bl, gEq_non, gNe_non, List.isEmpty_cons, List.isEmpty_nil]
  rw [eLc2_true (c := nG) (L := List.range t.rain.length) (d := nG) (M := fun _ => List.range (t.lim + 1)) (by simp only [nG, sSet, sRet, sRetN, sIf, sDrop, sNx, sBrk, sPar, sTg, sr_ok, rb_ok, ro_ok, so_ok, e1, e2, eA, eCl, eV, eC, eAnd, eOr, eNot, eIf, eCh, tV, tNot, tAnd, tOr, tYes, bof_bl, aNil, aCons, tgSet, setAll, lo0, bodyR_nx, bodyR_rt, R.wp_ok, SR.wp_nx, SR.wp_rt, SR.wp_bk, gAddA, gAdd, gSub, gLe, gLt, gGt, gGe, is_non, is_int, is_tup, is_bl, isn_non, isn_int, isn_tup, isn_bl, is_o, isn_o, gNeg, gTup1, gTup2, gTup3, gTup4, gTup5, gLst0, gLst1, gLst2, gLst3, eLstA0, List.length_cons, List.length_nil, List.map_cons, List.map_nil, List.cons_append, List.nil_append, List.replicate, Nat.sub_self, Nat.reduceSub, Nat.reduceAdd, List.getElem?_cons_zero, List.getElem?_cons_succ, List.set_cons_zero, List.set_cons_succ, Option.map_some, Bool.not_true, Bool.not_false, ite_true, ite_false, if_true, if_false, Bool.false_eq_true, gEq_int, gNe_int, gEq_bl, gNe_bl, gEq_non, gNe_non, List.isEmpty_cons, List.isEmpty_nil, itV]) ?_ fun x hx => ⟨_, rfl, by simp only [nG, sSeq, sSet, sRet, sRetN, sIf, sDrop, sNx, sBrk, sPar, sTg, sr_ok, rb_ok, ro_ok, so_ok, e1, e2, eA, eCl, eV, eC, eAnd, eOr, eNot, eIf, eCh, tV, tNot, tAnd, tOr, tYes, bof_bl, aNil, aCons, tgSet, setAll, lo0, bodyR_nx, bodyR_rt, R.wp_ok, SR.wp_nx, SR.wp_rt, SR.wp_bk, gAddA, gAdd, gSub, gLe, gLt, gGt, gGe, is_non, is_int, is_tup, is_bl, isn_non, isn_int, isn_tup, isn_bl, is_o, isn_o, gNeg, gTup1, gTup2, gTup3, gTup4, gTup5, gLst0, gLst1, gLst2, gLst3, eLstA0, List.length_cons, List.length_nil, List.map_cons, List.map_nil, List.cons_append, List.nil_append, List.replicate, Nat.sub_self, Nat.reduceSub, Nat.reduceAdd, List.getElem?_cons_zero, List.getElem?_cons_succ, List.set_cons_zero, List.set_cons_succ, Option.map_some, Bool.not_true, Bool.not_false, ite_true, ite_false, if_true, if_false, Bool.false_eq_true, gEq_int, gNe_int, gEq_bl, gNe_bl, gEq_non, gNe_non, List.isEmpty_cons, List.isEmpty_nil, itV, wipeL], fun y hy => ⟨_, rfl, by
    have hx := List.mem_range.mp hx
    have hy := List.mem_range.mp hy
    simp only [nG, sSeq, sSet, sRet, sRetN, sIf, sDrop, sNx, sBrk, sPar, sTg, sr_ok, rb_ok, ro_ok, so_ok, e1, e2, eA, eCl, eV, eC, eAnd, eOr, eNot, eIf, eCh, tV, tNot, tAnd, tOr, tYes, bof_bl, aNil, aCons, tgSet, setAll, lo0, bodyR_nx, bodyR_rt, R.wp_ok, SR.wp_nx, SR.wp_rt, SR.wp_bk, gAddA, gAdd, gSub, gLe, gLt, gGt, gGe, is_non, is_int, is_tup, is_bl, isn_non, isn_int, isn_tup, isn_bl, is_o, isn_o, gNeg, gTup1, gTup2, gTup3, gTup4, gTup5, gLst0, gLst1, gLst2, gLst3, eLstA0, List.length_cons, List.length_nil, List.map_cons, List.map_nil, List.cons_append, List.nil_append, List.replicate, Nat.sub_self, Nat.reduceSub, Nat.reduceAdd, List.getElem?_cons_zero, List.getElem?_cons_succ, List.set_cons_zero, List.set_cons_succ, Option.map_some, Bool.not_true, Bool.not_false, ite_true, ite_false, if_true, if_false, Bool.false_eq_true, gEq_int, gNe_int, gEq_bl, gNe_bl, gEq_non, gNe_non, List.isEmpty_cons, List.isEmpty_nil, wipeL]
    rw [is_lower_eq ok a hx (by omega)]⟩⟩]
  · simp only [nG, sSet, sRet, sRetN, sIf, sDrop, sNx, sBrk, sPar, sTg, sr_ok, rb_ok, ro_ok, so_ok, e1, e2, eA, eCl, eV, eC, eAnd, eOr, eNot, eIf, eCh, tV, tNot, tAnd, tOr, tYes, bof_bl, aNil, aCons, tgSet, setAll, lo0, bodyR_nx, bodyR_rt, R.wp_ok, SR.wp_nx, SR.wp_rt, SR.wp_bk, gAddA, gAdd, gSub, gLe, gLt, gGt, gGe, is_non, is_int, is_tup, is_bl, isn_non, isn_int, isn_tup, isn_bl, is_o, isn_o, gNeg, gTup1, gTup2, gTup3, gTup4, gTup5, gLst0, gLst1, gLst2, gLst3, eLstA0, List.length_cons, List.length_nil, List.map_cons, List.map_nil, List.cons_append, List.nil_append, List.replicate, Nat.sub_self, Nat.reduceSub, Nat.reduceAdd, List.getElem?_cons_zero, List.getElem?_cons_succ, List.set_cons_zero, List.set_cons_succ, Option.map_some, Bool.not_true, Bool.not_false, ite_true, ite_false, if_true, if_false, Bool.false_eq_true, gEq_int, gNe_int, gEq_bl, gNe_bl, gEq_non, gNe_non, List.isEmpty_cons, List.isEmpty_nil, gAll_true]
    exact ⟨trivial, trivial⟩
  · refine Nat.le_trans (flat_len (k := t.lim + 1) fun x hx => by simp) ?_
    rw [List.length_range]
    exact Nat.le_trans (Nat.mul_le_mul (show t.rain.length ≤ 12 by omega) (show t.lim + 1 ≤ 21 by omega)) (by omega)
theorem shows_ok {t : Tk} {o : Nat} {ms : List Nat} (ok : t.Ok) (a : At S o t) (hp : IsPath t t.rp t.lvl ms) :
    (callN tab (n + 5) (.fn "shows_cheapest") [.ref o, nsG ms, tabG t] S).wp fun g S' => g = .bl true ∧ Grow S S' := by
  obtain ⟨_, S1, e, rfl, gr⟩ := R.wp_iff.mp (is_plan_ok (n := n + 1) ok a hp)
  have a1 := a.grow gr
  obtain ⟨_, S2, f, rfl, gr2⟩ := R.wp_iff.mp (price_of_ok (n := n) ok a1 hp)
  have h0 : gIx (tabG t) (.int 0) S1 = some (rowG (rowAt t t.rp)) := ixtabT (k := 0) (Nat.zero_le _)
  have hc := hp.cost ok.lvl
  rw [rp_prices ok] at hc
  rw [cn_shows_cheapest (n + 4) _ _ rfl]
  refine wp_body ?_
  unfold sh_shows_cheapest
  refine wp_seq ?_
  simp only [nG, sSet, sRet, sRetN, sIf, sDrop, sNx, sBrk, sPar, sTg, sr_ok, rb_ok, ro_ok, so_ok, e1, e2, eA, eCl, eV, eC, eAnd, eOr, eNot, eIf, eCh, tV, tNot, tAnd, tOr, tYes, bof_bl, aNil, aCons, tgSet, setAll, lo0, bodyR_nx, bodyR_rt, R.wp_ok, SR.wp_nx, SR.wp_rt, SR.wp_bk, gAddA, gAdd, gSub, gLe, gLt, gGt, gGe, is_non, is_int, is_tup, is_bl, isn_non, isn_int, isn_tup, isn_bl, is_o, isn_o, gNeg, gTup1, gTup2, gTup3, gTup4, gTup5, gLst0, gLst1, gLst2, gLst3, eLstA0, List.length_cons, List.length_nil, List.map_cons, List.map_nil, List.cons_append, List.nil_append, List.replicate, Nat.sub_self, Nat.reduceSub, Nat.reduceAdd, List.getElem?_cons_zero, List.getElem?_cons_succ, List.set_cons_zero, List.set_cons_succ, Option.map_some, Bool.not_true, Bool.not_false, ite_true, ite_false, if_true, if_false, Bool.false_eq_true, gEq_int, gNe_int, gEq_bl, gNe_bl, gEq_non, gNe_non, List.isEmpty_cons, List.isEmpty_nil, e, are_lower_eq ok a1]
  simp only [nG, sSet, sRet, sRetN, sIf, sDrop, sNx, sBrk, sPar, sTg, sr_ok, rb_ok, ro_ok, so_ok, e1, e2, eA, eCl, eV, eC, eAnd, eOr, eNot, eIf, eCh, tV, tNot, tAnd, tOr, tYes, bof_bl, aNil, aCons, tgSet, setAll, lo0, bodyR_nx, bodyR_rt, R.wp_ok, SR.wp_nx, SR.wp_rt, SR.wp_bk, gAddA, gAdd, gSub, gLe, gLt, gGt, gGe, is_non, is_int, is_tup, is_bl, isn_non, isn_int, isn_tup, isn_bl, is_o, isn_o, gNeg, gTup1, gTup2, gTup3, gTup4, gTup5, gLst0, gLst1, gLst2, gLst3, eLstA0, List.length_cons, List.length_nil, List.map_cons, List.map_nil, List.cons_append, List.nil_append, List.replicate, Nat.sub_self, Nat.reduceSub, Nat.reduceAdd, List.getElem?_cons_zero, List.getElem?_cons_succ, List.set_cons_zero, List.set_cons_succ, Option.map_some, Bool.not_true, Bool.not_false, ite_true, ite_false, if_true, if_false, Bool.false_eq_true, gEq_int, gNe_int, gEq_bl, gNe_bl, gEq_non, gNe_non, List.isEmpty_cons, List.isEmpty_nil, h0, a1.lvl, ixrow ok.lvl, hc, oG, f, decide_true]
  exact ⟨trivial, gr.trans gr2⟩
end Lk14

end

section
set_option Elab.async false
set_option linter.all false
set_option maxRecDepth 100000
set_option maxHeartbeats 4000000
namespace Lk14
open PySem GL
variable {n : Nat} {S : Sto}
def rowO (sc : List Int) (a : Nat) (b c : Int) : GO := .lst true [.fz (sc.map iG), .int (a : Nat), .int b, .int c]
def Row (Z S : Sto) : Prop := ∃ (sc : List Int) (a : Nat) (b c : Int), S = rowO sc a b c :: Z ∧ 0 ≤ b ∧ b < 2147483647
section
variable {Z : Sto} {sc : List Int} {a : Nat} {b c : Int}
theorem row0 : gIx (.ref 0) (.int 0) (rowO sc a b c :: Z) = some (.fz (sc.map iG)) := rfl
theorem row1 : gIx (.ref 0) (.int 1) (rowO sc a b c :: Z) = some (.int (a : Nat)) := rfl
theorem row2 : gIx (.ref 0) (.int 2) (rowO sc a b c :: Z) = some (.int b) := rfl
theorem row3 : gIx (.ref 0) (.int 3) (rowO sc a b c :: Z) = some (.int c) := rfl
theorem set1 {x : Nat} : setI (.ref 0) (.int 1) (.int ((a : Int) + 1)) (rowO sc a b c :: Z) = some (rowO sc (a + 1) b c :: Z) := rfl
theorem set2 {x : Int} : setI (.ref 0) (.int 2) (.int x) (rowO sc a b c :: Z) = some (rowO sc a x c :: Z) := rfl
theorem set3 {x : Int} : setI (.ref 0) (.int 3) (.int x) (rowO sc a b c :: Z) = some (rowO sc a b x :: Z) := rfl
theorem mod_ok {S : Sto} {i j : Int} (h : 0 < j) : gMod (.int i) (.int j) S = some (.int (i % j)) := if_pos h
theorem fdv_ok {S : Sto} {i j : Int} (h : 0 < j) (h2 : j < 1073741824) : gFdv (.int i) (.int j) S = some (.int (i / j)) := if_pos ⟨h, by rw [b30_eq]; exact h2⟩
theorem mul_b {S : Sto} {i j : Int} (h : 0 ≤ i) (h2 : i < 2147483647) : gMulA (.int i) (.int j) S = some (.int (i * j)) := by
  show (if mulOk i j = true then some (G.int (i * j)) else none) = _
  refine if_pos ?_
  unfold mulOk
  have hb := b64_eq
  simp only [Bool.or_eq_true, Bool.and_eq_true, decide_eq_true_eq]
  exact .inl ⟨by omega, by omega⟩
theorem pow_ok {S : Sto} : gPow (.int 10) (.int 18) S = some (.int (10 ^ 18)) := by
  have h1 := big_eq
  have h2 := b64_eq
  show (if (0 : Int) ≤ 18 ∧ (18 : Int) ≤ big ∧ (((10 : Int).natAbs : Nat) : Int) < b64 then some (G.int (10 ^ (18 : Int).toNat)) else none) = _
  rw [if_pos ⟨by omega, by omega, by rw [h2]; decide⟩]
  rfl
theorem len_fz {S : Sto} {l : List G} : gLen [.fz l] S = some (.int (l.length : Nat)) := rfl
theorem int_ok {S : Sto} {i : Int} : gInt [.int i] S = some (.int i) := rfl
theorem nat_of {v : Int} {many : Nat} (h : 0 < many) : ∃ x : Nat, x < many ∧ G.int (v % (many : Int)) = .int (x : Nat) := by
  have h1 := Int.emod_nonneg v (b := (many : Int)) (by omega)
  have h2 := Int.emod_lt_of_pos v (b := (many : Int)) (by omega)
  exact ⟨(v % (many : Int)).toNat, by omega, by rw [Int.toNat_of_nonneg h1]⟩
end
theorem taken_ok {Z : Sto} {many : Nat} (h : Row Z S) (h0 : 0 < many) (h1 : many ≤ 1000) :
    (callN tab (n + 1) (.fn "_law_taken") [.ref 0, .int (many : Nat)] S).wp fun g S' => (∃ x : Nat, x < many ∧ g = .int (x : Nat)) ∧ Row Z S' := by
  obtain ⟨sc, a, b, c, rfl, hb0, hb1⟩ := h
  have m1 : ∀ {S : Sto} {i : Int}, gMod (.int i) (.int (many : Int)) S = some (.int (i % many)) := mod_ok (by omega)
  have m2 : ∀ {S : Sto} {i : Int}, gMod (.int i) (.int 2147483647) S = some (.int (i % 2147483647)) := mod_ok (by omega)
  have m3 : ∀ {S : Sto} {i : Int}, gMod (.int i) (.int 1000003) S = some (.int (i % 1000003)) := mod_ok (by omega)
  have f1 : ∀ {S : Sto} {i : Int}, gFdv (.int i) (.int (many : Int)) S = some (.int (i / many)) := fdv_ok (by omega) (by omega)
  have f2 : ∀ {S : Sto} {i : Int}, gFdv (.int i) (.int 7) S = some (.int (i / 7)) := fdv_ok (by omega) (by omega)
  have f3 : ∀ {S : Sto} {i : Int}, gFdv (.int i) (.int 11) S = some (.int (i / 11)) := fdv_ok (by omega) (by omega)
  have q1 : ∀ {S : Sto}, gMulA (.int b) (.int 48271) S = some (.int (b * 48271)) := mul_b hb0 hb1
  rw [cn__law_taken n _ _ rfl]
  refine wp_body ?_
  unfold sh__law_taken
  refine wp_seq ?_
  simp only [nG, sSet, sRet, sRetN, sIf, sDrop, sNx, sBrk, sPar, sTg, sr_ok, rb_ok, ro_ok, so_ok, e1, e2, eA, eCl, eV, eC, eAnd, eOr, eNot, eIf, eCh, tV, tNot, tAnd, tOr, tYes, bof_bl, aNil, aCons, tgSet, setAll, lo0, bodyR_nx, bodyR_rt, R.wp_ok, SR.wp_nx, SR.wp_rt, SR.wp_bk, gAddA, gAdd, gSub, gLe, gLt, gGt, gGe, is_non, is_int, is_tup, is_bl, isn_non, isn_int, isn_tup, isn_bl, is_o, isn_o, gNeg, gTup1, gTup2, gTup3, gTup4, gTup5, gLst0, gLst1, gLst2, gLst3, eLstA0, List.length_cons, List.length_nil, List.map_cons, List.map_nil, List.cons_append, List.nil_append, List.replicate, Nat.sub_self, Nat.reduceSub, Nat.reduceAdd, List.getElem?_cons_zero, List.getElem?_cons_succ, List.set_cons_zero, List.set_cons_succ, Option.map_some, Bool.not_true, Bool.not_false, ite_true, ite_false, if_true, if_false, Bool.false_eq_true, gEq_int, gNe_int, gEq_bl, gNe_bl, gEq_non, gNe_non, List.isEmpty_cons, List.isEmpty_nil, row3]
  by_cases hc : 0 < c
  · simp only [hc, decide_true, nG, sSet, sRet, sRetN, sIf, sDrop, sNx, sBrk, sPar, sTg, sr_ok, rb_ok, ro_ok, so_ok, e1, e2, eA, eCl, eV, eC, eAnd, eOr, eNot, eIf, eCh, tV, tNot, tAnd, tOr, tYes, bof_bl, aNil, aCons, tgSet, setAll, lo0, bodyR_nx, bodyR_rt, R.wp_ok, SR.wp_nx, SR.wp_rt, SR.wp_bk, gAddA, gAdd, gSub, gLe, gLt, gGt, gGe, is_non, is_int, is_tup, is_bl, isn_non, isn_int, isn_tup, isn_bl, is_o, isn_o, gNeg, gTup1, gTup2, gTup3, gTup4, gTup5, gLst0, gLst1, gLst2, gLst3, eLstA0, List.length_cons, List.length_nil, List.map_cons, List.map_nil, List.cons_append, List.nil_append, List.replicate, Nat.sub_self, Nat.reduceSub, Nat.reduceAdd, List.getElem?_cons_zero, List.getElem?_cons_succ, List.set_cons_zero, List.set_cons_succ, Option.map_some, Bool.not_true, Bool.not_false, ite_true, ite_false, if_true, if_false, Bool.false_eq_true, gEq_int, gNe_int, gEq_bl, gNe_bl, gEq_non, gNe_non, List.isEmpty_cons, List.isEmpty_nil]
    refine wp_seq ?_
    simp only [nG, sSet, sRet, sRetN, sIf, sDrop, sNx, sBrk, sPar, sTg, sr_ok, rb_ok, ro_ok, so_ok, e1, e2, eA, eCl, eV, eC, eAnd, eOr, eNot, eIf, eCh, tV, tNot, tAnd, tOr, tYes, bof_bl, aNil, aCons, tgSet, setAll, lo0, bodyR_nx, bodyR_rt, R.wp_ok, SR.wp_nx, SR.wp_rt, SR.wp_bk, gAddA, gAdd, gSub, gLe, gLt, gGt, gGe, is_non, is_int, is_tup, is_bl, isn_non, isn_int, isn_tup, isn_bl, is_o, isn_o, gNeg, gTup1, gTup2, gTup3, gTup4, gTup5, gLst0, gLst1, gLst2, gLst3, eLstA0, List.length_cons, List.length_nil, List.map_cons, List.map_nil, List.cons_append, List.nil_append, List.replicate, Nat.sub_self, Nat.reduceSub, Nat.reduceAdd, List.getElem?_cons_zero, List.getElem?_cons_succ, List.set_cons_zero, List.set_cons_succ, Option.map_some, Bool.not_true, Bool.not_false, ite_true, ite_false, if_true, if_false, Bool.false_eq_true, gEq_int, gNe_int, gEq_bl, gNe_bl, gEq_non, gNe_non, List.isEmpty_cons, List.isEmpty_nil, row3, int_ok, m1]
    refine wp_seq ?_
    simp only [nG, sSet, sRet, sRetN, sIf, sDrop, sNx, sBrk, sPar, sTg, sr_ok, rb_ok, ro_ok, so_ok, e1, e2, eA, eCl, eV, eC, eAnd, eOr, eNot, eIf, eCh, tV, tNot, tAnd, tOr, tYes, bof_bl, aNil, aCons, tgSet, setAll, lo0, bodyR_nx, bodyR_rt, R.wp_ok, SR.wp_nx, SR.wp_rt, SR.wp_bk, gAddA, gAdd, gSub, gLe, gLt, gGt, gGe, is_non, is_int, is_tup, is_bl, isn_non, isn_int, isn_tup, isn_bl, is_o, isn_o, gNeg, gTup1, gTup2, gTup3, gTup4, gTup5, gLst0, gLst1, gLst2, gLst3, eLstA0, List.length_cons, List.length_nil, List.map_cons, List.map_nil, List.cons_append, List.nil_append, List.replicate, Nat.sub_self, Nat.reduceSub, Nat.reduceAdd, List.getElem?_cons_zero, List.getElem?_cons_succ, List.set_cons_zero, List.set_cons_succ, Option.map_some, Bool.not_true, Bool.not_false, ite_true, ite_false, if_true, if_false, Bool.false_eq_true, gEq_int, gNe_int, gEq_bl, gNe_bl, gEq_non, gNe_non, List.isEmpty_cons, List.isEmpty_nil, sIxS, row3, f1, set3]
    exact ⟨nat_of h0, _, _, _, _, rfl, hb0, hb1⟩
  · simp only [hc, decide_false, nG, sSet, sRet, sRetN, sIf, sDrop, sNx, sBrk, sPar, sTg, sr_ok, rb_ok, ro_ok, so_ok, e1, e2, eA, eCl, eV, eC, eAnd, eOr, eNot, eIf, eCh, tV, tNot, tAnd, tOr, tYes, bof_bl, aNil, aCons, tgSet, setAll, lo0, bodyR_nx, bodyR_rt, R.wp_ok, SR.wp_nx, SR.wp_rt, SR.wp_bk, gAddA, gAdd, gSub, gLe, gLt, gGt, gGe, is_non, is_int, is_tup, is_bl, isn_non, isn_int, isn_tup, isn_bl, is_o, isn_o, gNeg, gTup1, gTup2, gTup3, gTup4, gTup5, gLst0, gLst1, gLst2, gLst3, eLstA0, List.length_cons, List.length_nil, List.map_cons, List.map_nil, List.cons_append, List.nil_append, List.replicate, Nat.sub_self, Nat.reduceSub, Nat.reduceAdd, List.getElem?_cons_zero, List.getElem?_cons_succ, List.set_cons_zero, List.set_cons_succ, Option.map_some, Bool.not_true, Bool.not_false, ite_true, ite_false, if_true, if_false, Bool.false_eq_true, gEq_int, gNe_int, gEq_bl, gNe_bl, gEq_non, gNe_non, List.isEmpty_cons, List.isEmpty_nil]
    refine wp_seq ?_
    simp only [nG, sSet, sRet, sRetN, sIf, sDrop, sNx, sBrk, sPar, sTg, sr_ok, rb_ok, ro_ok, so_ok, e1, e2, eA, eCl, eV, eC, eAnd, eOr, eNot, eIf, eCh, tV, tNot, tAnd, tOr, tYes, bof_bl, aNil, aCons, tgSet, setAll, lo0, bodyR_nx, bodyR_rt, R.wp_ok, SR.wp_nx, SR.wp_rt, SR.wp_bk, gAddA, gAdd, gSub, gLe, gLt, gGt, gGe, is_non, is_int, is_tup, is_bl, isn_non, isn_int, isn_tup, isn_bl, is_o, isn_o, gNeg, gTup1, gTup2, gTup3, gTup4, gTup5, gLst0, gLst1, gLst2, gLst3, eLstA0, List.length_cons, List.length_nil, List.map_cons, List.map_nil, List.cons_append, List.nil_append, List.replicate, Nat.sub_self, Nat.reduceSub, Nat.reduceAdd, List.getElem?_cons_zero, List.getElem?_cons_succ, List.set_cons_zero, List.set_cons_succ, Option.map_some, Bool.not_true, Bool.not_false, ite_true, ite_false, if_true, if_false, Bool.false_eq_true, gEq_int, gNe_int, gEq_bl, gNe_bl, gEq_non, gNe_non, List.isEmpty_cons, List.isEmpty_nil, sIxS, row1, set1 (x := 0)]
    refine wp_seq ?_
    simp only [nG, sSet, sRet, sRetN, sIf, sDrop, sNx, sBrk, sPar, sTg, sr_ok, rb_ok, ro_ok, so_ok, e1, e2, eA, eCl, eV, eC, eAnd, eOr, eNot, eIf, eCh, tV, tNot, tAnd, tOr, tYes, bof_bl, aNil, aCons, tgSet, setAll, lo0, bodyR_nx, bodyR_rt, R.wp_ok, SR.wp_nx, SR.wp_rt, SR.wp_bk, gAddA, gAdd, gSub, gLe, gLt, gGt, gGe, is_non, is_int, is_tup, is_bl, isn_non, isn_int, isn_tup, isn_bl, is_o, isn_o, gNeg, gTup1, gTup2, gTup3, gTup4, gTup5, gLst0, gLst1, gLst2, gLst3, eLstA0, List.length_cons, List.length_nil, List.map_cons, List.map_nil, List.cons_append, List.nil_append, List.replicate, Nat.sub_self, Nat.reduceSub, Nat.reduceAdd, List.getElem?_cons_zero, List.getElem?_cons_succ, List.set_cons_zero, List.set_cons_succ, Option.map_some, Bool.not_true, Bool.not_false, ite_true, ite_false, if_true, if_false, Bool.false_eq_true, gEq_int, gNe_int, gEq_bl, gNe_bl, gEq_non, gNe_non, List.isEmpty_cons, List.isEmpty_nil, row1, row0, len_fz]
    by_cases hl : ((sc.map iG).length : Int) < ((a + 1 : Nat) : Int)
    · simp only [hl, decide_true, nG, sSet, sRet, sRetN, sIf, sDrop, sNx, sBrk, sPar, sTg, sr_ok, rb_ok, ro_ok, so_ok, e1, e2, eA, eCl, eV, eC, eAnd, eOr, eNot, eIf, eCh, tV, tNot, tAnd, tOr, tYes, bof_bl, aNil, aCons, tgSet, setAll, lo0, bodyR_nx, bodyR_rt, R.wp_ok, SR.wp_nx, SR.wp_rt, SR.wp_bk, gAddA, gAdd, gSub, gLe, gLt, gGt, gGe, is_non, is_int, is_tup, is_bl, isn_non, isn_int, isn_tup, isn_bl, is_o, isn_o, gNeg, gTup1, gTup2, gTup3, gTup4, gTup5, gLst0, gLst1, gLst2, gLst3, eLstA0, List.length_cons, List.length_nil, List.map_cons, List.map_nil, List.cons_append, List.nil_append, List.replicate, Nat.sub_self, Nat.reduceSub, Nat.reduceAdd, List.getElem?_cons_zero, List.getElem?_cons_succ, List.set_cons_zero, List.set_cons_succ, Option.map_some, Bool.not_true, Bool.not_false, ite_true, ite_false, if_true, if_false, Bool.false_eq_true, gEq_int, gNe_int, gEq_bl, gNe_bl, gEq_non, gNe_non, List.isEmpty_cons, List.isEmpty_nil]
      refine wp_seq ?_
      simp only [nG, sSet, sRet, sRetN, sIf, sDrop, sNx, sBrk, sPar, sTg, sr_ok, rb_ok, ro_ok, so_ok, e1, e2, eA, eCl, eV, eC, eAnd, eOr, eNot, eIf, eCh, tV, tNot, tAnd, tOr, tYes, bof_bl, aNil, aCons, tgSet, setAll, lo0, bodyR_nx, bodyR_rt, R.wp_ok, SR.wp_nx, SR.wp_rt, SR.wp_bk, gAddA, gAdd, gSub, gLe, gLt, gGt, gGe, is_non, is_int, is_tup, is_bl, isn_non, isn_int, isn_tup, isn_bl, is_o, isn_o, gNeg, gTup1, gTup2, gTup3, gTup4, gTup5, gLst0, gLst1, gLst2, gLst3, eLstA0, List.length_cons, List.length_nil, List.map_cons, List.map_nil, List.cons_append, List.nil_append, List.replicate, Nat.sub_self, Nat.reduceSub, Nat.reduceAdd, List.getElem?_cons_zero, List.getElem?_cons_succ, List.set_cons_zero, List.set_cons_succ, Option.map_some, Bool.not_true, Bool.not_false, ite_true, ite_false, if_true, if_false, Bool.false_eq_true, gEq_int, gNe_int, gEq_bl, gNe_bl, gEq_non, gNe_non, List.isEmpty_cons, List.isEmpty_nil, sIxS, row2, q1, int_ok, m2, set2]
      simp only [nG, sSet, sRet, sRetN, sIf, sDrop, sNx, sBrk, sPar, sTg, sr_ok, rb_ok, ro_ok, so_ok, e1, e2, eA, eCl, eV, eC, eAnd, eOr, eNot, eIf, eCh, tV, tNot, tAnd, tOr, tYes, bof_bl, aNil, aCons, tgSet, setAll, lo0, bodyR_nx, bodyR_rt, R.wp_ok, SR.wp_nx, SR.wp_rt, SR.wp_bk, gAddA, gAdd, gSub, gLe, gLt, gGt, gGe, is_non, is_int, is_tup, is_bl, isn_non, isn_int, isn_tup, isn_bl, is_o, isn_o, gNeg, gTup1, gTup2, gTup3, gTup4, gTup5, gLst0, gLst1, gLst2, gLst3, eLstA0, List.length_cons, List.length_nil, List.map_cons, List.map_nil, List.cons_append, List.nil_append, List.replicate, Nat.sub_self, Nat.reduceSub, Nat.reduceAdd, List.getElem?_cons_zero, List.getElem?_cons_succ, List.set_cons_zero, List.set_cons_succ, Option.map_some, Bool.not_true, Bool.not_false, ite_true, ite_false, if_true, if_false, Bool.false_eq_true, gEq_int, gNe_int, gEq_bl, gNe_bl, gEq_non, gNe_non, List.isEmpty_cons, List.isEmpty_nil, row2, f2, int_ok, m1]
      exact ⟨nat_of h0, _, _, _, _, rfl, by omega, by omega⟩
    · simp only [hl, decide_false, nG, sSet, sRet, sRetN, sIf, sDrop, sNx, sBrk, sPar, sTg, sr_ok, rb_ok, ro_ok, so_ok, e1, e2, eA, eCl, eV, eC, eAnd, eOr, eNot, eIf, eCh, tV, tNot, tAnd, tOr, tYes, bof_bl, aNil, aCons, tgSet, setAll, lo0, bodyR_nx, bodyR_rt, R.wp_ok, SR.wp_nx, SR.wp_rt, SR.wp_bk, gAddA, gAdd, gSub, gLe, gLt, gGt, gGe, is_non, is_int, is_tup, is_bl, isn_non, isn_int, isn_tup, isn_bl, is_o, isn_o, gNeg, gTup1, gTup2, gTup3, gTup4, gTup5, gLst0, gLst1, gLst2, gLst3, eLstA0, List.length_cons, List.length_nil, List.map_cons, List.map_nil, List.cons_append, List.nil_append, List.replicate, Nat.sub_self, Nat.reduceSub, Nat.reduceAdd, List.getElem?_cons_zero, List.getElem?_cons_succ, List.set_cons_zero, List.set_cons_succ, Option.map_some, Bool.not_true, Bool.not_false, ite_true, ite_false, if_true, if_false, Bool.false_eq_true, gEq_int, gNe_int, gEq_bl, gNe_bl, gEq_non, gNe_non, List.isEmpty_cons, List.isEmpty_nil]
      have hlt : a < sc.length := by simp at hl; omega
      have hcell : ∀ S, gIx (.fz (sc.map iG)) (.int (((a + 1 : Nat) : Int) - 1)) S = some (.int sc[a]) := fun S => by
        rw [show ((a + 1 : Nat) : Int) - 1 = ((a : Nat) : Int) by omega]
        show (match seqG S (.fz (sc.map iG)) with | some l => L2.atI l (a : Int) | none => none) = _
        simp only [seqG, atI_nat, List.getElem?_map, List.getElem?_eq_getElem hlt, Option.map_some]
        rfl
      refine wp_seq ?_
      simp only [nG, sSet, sRet, sRetN, sIf, sDrop, sNx, sBrk, sPar, sTg, sr_ok, rb_ok, ro_ok, so_ok, e1, e2, eA, eCl, eV, eC, eAnd, eOr, eNot, eIf, eCh, tV, tNot, tAnd, tOr, tYes, bof_bl, aNil, aCons, tgSet, setAll, lo0, bodyR_nx, bodyR_rt, R.wp_ok, SR.wp_nx, SR.wp_rt, SR.wp_bk, gAddA, gAdd, gSub, gLe, gLt, gGt, gGe, is_non, is_int, is_tup, is_bl, isn_non, isn_int, isn_tup, isn_bl, is_o, isn_o, gNeg, gTup1, gTup2, gTup3, gTup4, gTup5, gLst0, gLst1, gLst2, gLst3, eLstA0, List.length_cons, List.length_nil, List.map_cons, List.map_nil, List.cons_append, List.nil_append, List.replicate, Nat.sub_self, Nat.reduceSub, Nat.reduceAdd, List.getElem?_cons_zero, List.getElem?_cons_succ, List.set_cons_zero, List.set_cons_succ, Option.map_some, Bool.not_true, Bool.not_false, ite_true, ite_false, if_true, if_false, Bool.false_eq_true, gEq_int, gNe_int, gEq_bl, gNe_bl, gEq_non, gNe_non, List.isEmpty_cons, List.isEmpty_nil, row0, row1, hcell]
      refine wp_seq ?_
      simp only [nG, sSet, sRet, sRetN, sIf, sDrop, sNx, sBrk, sPar, sTg, sr_ok, rb_ok, ro_ok, so_ok, e1, e2, eA, eCl, eV, eC, eAnd, eOr, eNot, eIf, eCh, tV, tNot, tAnd, tOr, tYes, bof_bl, aNil, aCons, tgSet, setAll, lo0, bodyR_nx, bodyR_rt, R.wp_ok, SR.wp_nx, SR.wp_rt, SR.wp_bk, gAddA, gAdd, gSub, gLe, gLt, gGt, gGe, is_non, is_int, is_tup, is_bl, isn_non, isn_int, isn_tup, isn_bl, is_o, isn_o, gNeg, gTup1, gTup2, gTup3, gTup4, gTup5, gLst0, gLst1, gLst2, gLst3, eLstA0, List.length_cons, List.length_nil, List.map_cons, List.map_nil, List.cons_append, List.nil_append, List.replicate, Nat.sub_self, Nat.reduceSub, Nat.reduceAdd, List.getElem?_cons_zero, List.getElem?_cons_succ, List.set_cons_zero, List.set_cons_succ, Option.map_some, Bool.not_true, Bool.not_false, ite_true, ite_false, if_true, if_false, Bool.false_eq_true, gEq_int, gNe_int, gEq_bl, gNe_bl, gEq_non, gNe_non, List.isEmpty_cons, List.isEmpty_nil, sIxS, row2, q1, int_ok, m2, set2]
      refine wp_seq ?_
      simp only [nG, sSet, sRet, sRetN, sIf, sDrop, sNx, sBrk, sPar, sTg, sr_ok, rb_ok, ro_ok, so_ok, e1, e2, eA, eCl, eV, eC, eAnd, eOr, eNot, eIf, eCh, tV, tNot, tAnd, tOr, tYes, bof_bl, aNil, aCons, tgSet, setAll, lo0, bodyR_nx, bodyR_rt, R.wp_ok, SR.wp_nx, SR.wp_rt, SR.wp_bk, gAddA, gAdd, gSub, gLe, gLt, gGt, gGe, is_non, is_int, is_tup, is_bl, isn_non, isn_int, isn_tup, isn_bl, is_o, isn_o, gNeg, gTup1, gTup2, gTup3, gTup4, gTup5, gLst0, gLst1, gLst2, gLst3, eLstA0, List.length_cons, List.length_nil, List.map_cons, List.map_nil, List.cons_append, List.nil_append, List.replicate, Nat.sub_self, Nat.reduceSub, Nat.reduceAdd, List.getElem?_cons_zero, List.getElem?_cons_succ, List.set_cons_zero, List.set_cons_succ, Option.map_some, Bool.not_true, Bool.not_false, ite_true, ite_false, if_true, if_false, Bool.false_eq_true, gEq_int, gNe_int, gEq_bl, gNe_bl, gEq_non, gNe_non, List.isEmpty_cons, List.isEmpty_nil, pow_ok]
      by_cases hp : (10 : Int) ^ 18 ≤ sc[a]
      · simp only [hp, decide_true, nG, sSet, sRet, sRetN, sIf, sDrop, sNx, sBrk, sPar, sTg, sr_ok, rb_ok, ro_ok, so_ok, e1, e2, eA, eCl, eV, eC, eAnd, eOr, eNot, eIf, eCh, tV, tNot, tAnd, tOr, tYes, bof_bl, aNil, aCons, tgSet, setAll, lo0, bodyR_nx, bodyR_rt, R.wp_ok, SR.wp_nx, SR.wp_rt, SR.wp_bk, gAddA, gAdd, gSub, gLe, gLt, gGt, gGe, is_non, is_int, is_tup, is_bl, isn_non, isn_int, isn_tup, isn_bl, is_o, isn_o, gNeg, gTup1, gTup2, gTup3, gTup4, gTup5, gLst0, gLst1, gLst2, gLst3, eLstA0, List.length_cons, List.length_nil, List.map_cons, List.map_nil, List.cons_append, List.nil_append, List.replicate, Nat.sub_self, Nat.reduceSub, Nat.reduceAdd, List.getElem?_cons_zero, List.getElem?_cons_succ, List.set_cons_zero, List.set_cons_succ, Option.map_some, Bool.not_true, Bool.not_false, ite_true, ite_false, if_true, if_false, Bool.false_eq_true, gEq_int, gNe_int, gEq_bl, gNe_bl, gEq_non, gNe_non, List.isEmpty_cons, List.isEmpty_nil]
        refine wp_seq ?_
        simp only [nG, sSet, sRet, sRetN, sIf, sDrop, sNx, sBrk, sPar, sTg, sr_ok, rb_ok, ro_ok, so_ok, e1, e2, eA, eCl, eV, eC, eAnd, eOr, eNot, eIf, eCh, tV, tNot, tAnd, tOr, tYes, bof_bl, aNil, aCons, tgSet, setAll, lo0, bodyR_nx, bodyR_rt, R.wp_ok, SR.wp_nx, SR.wp_rt, SR.wp_bk, gAddA, gAdd, gSub, gLe, gLt, gGt, gGe, is_non, is_int, is_tup, is_bl, isn_non, isn_int, isn_tup, isn_bl, is_o, isn_o, gNeg, gTup1, gTup2, gTup3, gTup4, gTup5, gLst0, gLst1, gLst2, gLst3, eLstA0, List.length_cons, List.length_nil, List.map_cons, List.map_nil, List.cons_append, List.nil_append, List.replicate, Nat.sub_self, Nat.reduceSub, Nat.reduceAdd, List.getElem?_cons_zero, List.getElem?_cons_succ, List.set_cons_zero, List.set_cons_succ, Option.map_some, Bool.not_true, Bool.not_false, ite_true, ite_false, if_true, if_false, Bool.false_eq_true, gEq_int, gNe_int, gEq_bl, gNe_bl, gEq_non, gNe_non, List.isEmpty_cons, List.isEmpty_nil, sIxS, f1, set3]
        simp only [nG, sSet, sRet, sRetN, sIf, sDrop, sNx, sBrk, sPar, sTg, sr_ok, rb_ok, ro_ok, so_ok, e1, e2, eA, eCl, eV, eC, eAnd, eOr, eNot, eIf, eCh, tV, tNot, tAnd, tOr, tYes, bof_bl, aNil, aCons, tgSet, setAll, lo0, bodyR_nx, bodyR_rt, R.wp_ok, SR.wp_nx, SR.wp_rt, SR.wp_bk, gAddA, gAdd, gSub, gLe, gLt, gGt, gGe, is_non, is_int, is_tup, is_bl, isn_non, isn_int, isn_tup, isn_bl, is_o, isn_o, gNeg, gTup1, gTup2, gTup3, gTup4, gTup5, gLst0, gLst1, gLst2, gLst3, eLstA0, List.length_cons, List.length_nil, List.map_cons, List.map_nil, List.cons_append, List.nil_append, List.replicate, Nat.sub_self, Nat.reduceSub, Nat.reduceAdd, List.getElem?_cons_zero, List.getElem?_cons_succ, List.set_cons_zero, List.set_cons_succ, Option.map_some, Bool.not_true, Bool.not_false, ite_true, ite_false, if_true, if_false, Bool.false_eq_true, gEq_int, gNe_int, gEq_bl, gNe_bl, gEq_non, gNe_non, List.isEmpty_cons, List.isEmpty_nil, int_ok, m1]
        exact ⟨nat_of h0, _, _, _, _, rfl, by omega, by omega⟩
      · simp only [hp, decide_false, nG, sSet, sRet, sRetN, sIf, sDrop, sNx, sBrk, sPar, sTg, sr_ok, rb_ok, ro_ok, so_ok, e1, e2, eA, eCl, eV, eC, eAnd, eOr, eNot, eIf, eCh, tV, tNot, tAnd, tOr, tYes, bof_bl, aNil, aCons, tgSet, setAll, lo0, bodyR_nx, bodyR_rt, R.wp_ok, SR.wp_nx, SR.wp_rt, SR.wp_bk, gAddA, gAdd, gSub, gLe, gLt, gGt, gGe, is_non, is_int, is_tup, is_bl, isn_non, isn_int, isn_tup, isn_bl, is_o, isn_o, gNeg, gTup1, gTup2, gTup3, gTup4, gTup5, gLst0, gLst1, gLst2, gLst3, eLstA0, List.length_cons, List.length_nil, List.map_cons, List.map_nil, List.cons_append, List.nil_append, List.replicate, Nat.sub_self, Nat.reduceSub, Nat.reduceAdd, List.getElem?_cons_zero, List.getElem?_cons_succ, List.set_cons_zero, List.set_cons_succ, Option.map_some, Bool.not_true, Bool.not_false, ite_true, ite_false, if_true, if_false, Bool.false_eq_true, gEq_int, gNe_int, gEq_bl, gNe_bl, gEq_non, gNe_non, List.isEmpty_cons, List.isEmpty_nil]
        have q2 : ∀ {S : Sto}, gMulA (.int (sc[a] % 1000003)) (.int 31) S = some (.int (sc[a] % 1000003 * 31)) := mul_b (by omega) (by omega)
        simp only [nG, sSet, sRet, sRetN, sIf, sDrop, sNx, sBrk, sPar, sTg, sr_ok, rb_ok, ro_ok, so_ok, e1, e2, eA, eCl, eV, eC, eAnd, eOr, eNot, eIf, eCh, tV, tNot, tAnd, tOr, tYes, bof_bl, aNil, aCons, tgSet, setAll, lo0, bodyR_nx, bodyR_rt, R.wp_ok, SR.wp_nx, SR.wp_rt, SR.wp_bk, gAddA, gAdd, gSub, gLe, gLt, gGt, gGe, is_non, is_int, is_tup, is_bl, isn_non, isn_int, isn_tup, isn_bl, is_o, isn_o, gNeg, gTup1, gTup2, gTup3, gTup4, gTup5, gLst0, gLst1, gLst2, gLst3, eLstA0, List.length_cons, List.length_nil, List.map_cons, List.map_nil, List.cons_append, List.nil_append, List.replicate, Nat.sub_self, Nat.reduceSub, Nat.reduceAdd, List.getElem?_cons_zero, List.getElem?_cons_succ, List.set_cons_zero, List.set_cons_succ, Option.map_some, Bool.not_true, Bool.not_false, ite_true, ite_false, if_true, if_false, Bool.false_eq_true, gEq_int, gNe_int, gEq_bl, gNe_bl, gEq_non, gNe_non, List.isEmpty_cons, List.isEmpty_nil, int_ok, m3, q2, row2, f3, m1]
        exact ⟨nat_of h0, _, _, _, _, rfl, by omega, by omega⟩
theorem pick_ok {Z : Sto} {xs : List Nat} (h : Row Z S) (h0 : 0 < xs.length) (h1 : xs.length ≤ 1000) :
    (callN tab (n + 2) (.fn "_law_pick") [.ref 0, .tl (xs.map nG)] S).wp fun g S' => (∃ x ∈ xs, g = .int (x : Nat)) ∧ Row Z S' := by
  obtain ⟨_, S1, e, ⟨k, hk, rfl⟩, hr⟩ := R.wp_iff.mp (taken_ok (n := n) h h0 h1)
  have hl : gLen [.tl (xs.map nG)] S = some (.int (xs.length : Nat)) := by
    show (seqG S (.tl (xs.map nG))).map (fun l => G.int (l.length : Nat)) = _
    simp [seqG]
  have hi : gIx (.tl (xs.map nG)) (.int (k : Nat)) S1 = some (.int (xs[k] : Nat)) := ix_tl (by rw [List.getElem?_map, List.getElem?_eq_getElem hk]; rfl)
  rw [cn__law_pick (n + 1) _ _ rfl]
  refine wp_body ?_
  unfold sh__law_pick
  refine wp_ret ?_
  simp only [nG, sSet, sRet, sRetN, sIf, sDrop, sNx, sBrk, sPar, sTg, sr_ok, rb_ok, ro_ok, so_ok, e1, e2, eA, eCl, eV, eC, eAnd, eOr, eNot, eIf, eCh, tV, tNot, tAnd, tOr, tYes, bof_bl, aNil, aCons, tgSet, setAll, lo0, bodyR_nx, bodyR_rt, R.wp_ok, SR.wp_nx, SR.wp_rt, SR.wp_bk, gAddA, gAdd, gSub, gLe, gLt, gGt, gGe, is_non, is_int, is_tup, is_bl, isn_non, isn_int, isn_tup, isn_bl, is_o, isn_o, gNeg, gTup1, gTup2, gTup3, gTup4, gTup5, gLst0, gLst1, gLst2, gLst3, eLstA0, List.length_cons, List.length_nil, List.map_cons, List.map_nil, List.cons_append, List.nil_append, List.replicate, Nat.sub_self, Nat.reduceSub, Nat.reduceAdd, List.getElem?_cons_zero, List.getElem?_cons_succ, List.set_cons_zero, List.set_cons_succ, Option.map_some, Bool.not_true, Bool.not_false, ite_true, ite_false, if_true, if_false, Bool.false_eq_true, gEq_int, gNe_int, gEq_bl, gNe_bl, gEq_non, gNe_non, List.isEmpty_cons, List.isEmpty_nil, hl, e, hi]
  exact ⟨⟨_, List.getElem_mem hk, rfl⟩, hr⟩
end Lk14

end

section
set_option Elab.async false
set_option linter.all false
set_option maxRecDepth 100000
set_option maxHeartbeats 4000000
namespace GL
theorem eLc_wp {S : Sto} {l : Loc} {it : Loc → Sto → R It} {own : List Nat} {g : Tg} {e : Ev} {xs : List G} (h : it l S = .ok (.fix xs) S) (I : Nat → List G → Sto → Prop)
    (st : ∀ k x acc S, xs[k]? = some x → I k acc S → ∃ l', tgSet g x (wipeL l own) = some l' ∧ (e l' S).wp fun y S => I (k + 1) (acc ++ [y]) S) (h0 : I 0 [] S) :
    (eLc it own g tYes e l S).wp fun g S' => ∃ ys, g = .tl ys ∧ I xs.length ys S' := by
  unfold eLc lcV
  rw [h, rb_ok]
  dsimp only
  refine wp_rb (R.wp_mono (lcGo_wp (I := I) (Q := I xs.length) xs 0 [] S (fun k x acc S q hi => ?_) h0 fun acc S hi => ?_) fun ys S hi => ?_)
  · rw [Nat.zero_add] at hi
    obtain ⟨l', e1, e2⟩ := st k x acc S q hi
    refine ⟨l', e1, ?_⟩
    show (if true = true then (e l' S).wp fun y S => I (0 + k + 1) (acc ++ [y]) S else I (0 + k + 1) acc S)
    rw [if_pos rfl, Nat.zero_add]
    exact e2
  · rw [Nat.zero_add] at hi; exact hi
  · exact ⟨ys, rfl, hi⟩
end GL
namespace Lk14
open PySem GL
variable {n : Nat} {S : Sto}
theorem comp_ok {Z : Sto} {many m : Nat} {v1 v3 v4 v5 v6 : Option G} {em : Ev} (hr : Row Z S) (hm : many ≤ 1000) (h0 : 0 < m) (h1 : m ≤ 1000)
    (hem : ∀ u S, em [some (.ref 0), v1, some (.int (many : Nat)), v3, v4, u, v6] S = .ok (.int (m : Nat)) S) :
    (eLc (itR1 (aCons (eV 2) aNil)) [5] (.nm 5) tYes (eCl (callN tab (n + 1)) (.fn "_law_taken") (aCons (eV 0) (aCons em aNil))) [some (.ref 0), v1, some (.int (many : Nat)), v3, v4, v5, v6] S).wp
      fun g S' => ∃ xs : List Nat, g = .tl (xs.map nG) ∧ xs.length = many ∧ (∀ x ∈ xs, x < m) ∧ Row Z S' := by
  refine R.wp_mono (eLc_wp (xs := (List.range many).map nG) (itR1_nat (by simp only [nG, sSeq, sSet, sRet, sRetN, sIf, sDrop, sNx, sBrk, sPar, sTg, sr_ok, rb_ok, ro_ok, so_ok, e1, e2, eA, eCl, eV, eC, eAnd, eOr, eNot, eIf, eCh, tV, tNot, tAnd, tOr, tYes, bof_bl, aNil, aCons, tgSet, setAll, lo0, bodyR_nx, bodyR_rt, R.wp_ok, SR.wp_nx, SR.wp_rt, SR.wp_bk, gAddA, gAdd, gSub, gLe, gLt, gGt, gGe, is_non, is_int, is_tup, is_bl, isn_non, isn_int, isn_tup, isn_bl, is_o, isn_o, gNeg, gTup1, gTup2, gTup3, gTup4, gTup5, gLst0, gLst1, gLst2, gLst3, eLstA0, List.length_cons, List.length_nil, List.map_cons, List.map_nil, List.cons_append, List.nil_append, List.replicate, Nat.sub_self, Nat.reduceSub, Nat.reduceAdd, List.getElem?_cons_zero, List.getElem?_cons_succ, List.set_cons_zero, List.set_cons_succ, Option.map_some, Bool.not_true, Bool.not_false, ite_true, ite_false, if_true, if_false, Bool.false_eq_true, gEq_int, gNe_int, gEq_bl, gNe_bl, gEq_non, gNe_non, List.isEmpty_cons, List.isEmpty_nil]) (by omega)) (fun k acc S => ∃ xs : List Nat, acc = xs.map nG ∧ xs.length = k ∧ (∀ x ∈ xs, x < m) ∧ Row Z S) ?_ ⟨[], rfl, rfl, fun _ h => (by cases h), hr⟩) ?_
  · rintro k x acc S hx ⟨xs, rfl, hk, hlt, hr⟩
    obtain ⟨_, S1, e, ⟨y, hy, rfl⟩, hr1⟩ := R.wp_iff.mp (taken_ok (n := n) hr h0 h1)
    refine ⟨_, rfl, ?_⟩
    simp only [nG, sSet, sRet, sRetN, sIf, sDrop, sNx, sBrk, sPar, sTg, sr_ok, rb_ok, ro_ok, so_ok, e1, e2, eA, eCl, eV, eC, eAnd, eOr, eNot, eIf, eCh, tV, tNot, tAnd, tOr, tYes, bof_bl, aNil, aCons, tgSet, setAll, lo0, bodyR_nx, bodyR_rt, R.wp_ok, SR.wp_nx, SR.wp_rt, SR.wp_bk, gAddA, gAdd, gSub, gLe, gLt, gGt, gGe, is_non, is_int, is_tup, is_bl, isn_non, isn_int, isn_tup, isn_bl, is_o, isn_o, gNeg, gTup1, gTup2, gTup3, gTup4, gTup5, gLst0, gLst1, gLst2, gLst3, eLstA0, List.length_cons, List.length_nil, List.map_cons, List.map_nil, List.cons_append, List.nil_append, List.replicate, Nat.sub_self, Nat.reduceSub, Nat.reduceAdd, List.getElem?_cons_zero, List.getElem?_cons_succ, List.set_cons_zero, List.set_cons_succ, Option.map_some, Bool.not_true, Bool.not_false, ite_true, ite_false, if_true, if_false, Bool.false_eq_true, gEq_int, gNe_int, gEq_bl, gNe_bl, gEq_non, gNe_non, List.isEmpty_cons, List.isEmpty_nil, wipeL, hem, e]
    refine ⟨xs ++ [y], by simp [nG], by simp [hk], fun x hx => ?_, hr1⟩
    rcases List.mem_append.mp hx with hx | hx
    · exact hlt x hx
    · rw [List.mem_singleton.mp hx]; exact hy
  · rintro g S' ⟨ys, rfl, xs, rfl, hk, hlt, hr⟩
    rw [List.length_map, List.length_range] at hk
    exact ⟨xs, rfl, hk, hlt, hr⟩
theorem tupOf (l : List Nat) : gTuple [.tl (l.map nG)] S = some (nsG l) := rfl
theorem task_ok {Z : Sto} {most : Nat} (hr : Row Z S) (hm : most ≤ 12) : (callN tab (n + 3) (.fn "_law_task") [.ref 0, .int (most : Nat)] S).wp fun g S' => (∃ t : Tk, t.Ok ∧ g = t.parts) ∧ Row Z S' := by
  rw [cn__law_task (n + 2) _ _ rfl]
  refine wp_body ?_
  unfold sh__law_task
  obtain ⟨_, S1, e1', ⟨many, hmany, rfl⟩, hr1⟩ := R.wp_iff.mp (taken_ok (n := n + 1) (many := most + 1) hr (by omega) (by omega))
  rw [show ((most + 1 : Nat) : Int) = (most : Int) + 1 by omega] at e1'
  obtain ⟨_, S2, e2', ⟨wet, hwet, rfl⟩, hr2⟩ := R.wp_iff.mp (pick_ok (n := n) (xs := [3, 10]) hr1 (by simp) (by simp))
  have hw : 0 < wet ∧ wet ≤ 10 := by simp at hwet; omega
  refine wp_seq ?_
  simp only [nG, List.map_cons, List.map_nil, Int.cast_ofNat_Int] at e2'
  simp only [nG, sSet, sRet, sRetN, sIf, sDrop, sNx, sBrk, sPar, sTg, sr_ok, rb_ok, ro_ok, so_ok, e1, e2, eA, eCl, eV, eC, eAnd, eOr, eNot, eIf, eCh, tV, tNot, tAnd, tOr, tYes, bof_bl, aNil, aCons, tgSet, setAll, lo0, bodyR_nx, bodyR_rt, R.wp_ok, SR.wp_nx, SR.wp_rt, SR.wp_bk, gAddA, gAdd, gSub, gLe, gLt, gGt, gGe, is_non, is_int, is_tup, is_bl, isn_non, isn_int, isn_tup, isn_bl, is_o, isn_o, gNeg, gTup1, gTup2, gTup3, gTup4, gTup5, gLst0, gLst1, gLst2, gLst3, eLstA0, List.length_cons, List.length_nil, List.map_cons, List.map_nil, List.cons_append, List.nil_append, List.replicate, Nat.sub_self, Nat.reduceSub, Nat.reduceAdd, List.getElem?_cons_zero, List.getElem?_cons_succ, List.set_cons_zero, List.set_cons_succ, Option.map_some, Bool.not_true, Bool.not_false, ite_true, ite_false, if_true, if_false, Bool.false_eq_true, gEq_int, gNe_int, gEq_bl, gNe_bl, gEq_non, gNe_non, List.isEmpty_cons, List.isEmpty_nil, e1', e2']
  refine wp_seq (wp_set ?_)
  obtain ⟨_, S3, e3', rain, rfl, hlr, hrr, hr3⟩ := R.wp_iff.mp (comp_ok (n := n + 1) (many := many) (m := wet) (v1 := some (.int (most : Nat))) (v3 := some (.int (wet : Nat))) (v4 := none) (v5 := none) (v6 := none) (em := eV 3) hr2 (by omega) hw.1 (by omega) (fun u S => rfl))
  simp only [aCons, aNil, eA, rb_ok] 
  rw [e3']
  simp only [nG, sSet, sRet, sRetN, sIf, sDrop, sNx, sBrk, sPar, sTg, sr_ok, rb_ok, ro_ok, so_ok, e1, e2, eA, eCl, eV, eC, eAnd, eOr, eNot, eIf, eCh, tV, tNot, tAnd, tOr, tYes, bof_bl, aNil, aCons, tgSet, setAll, lo0, bodyR_nx, bodyR_rt, R.wp_ok, SR.wp_nx, SR.wp_rt, SR.wp_bk, gAddA, gAdd, gSub, gLe, gLt, gGt, gGe, is_non, is_int, is_tup, is_bl, isn_non, isn_int, isn_tup, isn_bl, is_o, isn_o, gNeg, gTup1, gTup2, gTup3, gTup4, gTup5, gLst0, gLst1, gLst2, gLst3, eLstA0, List.length_cons, List.length_nil, List.map_cons, List.map_nil, List.cons_append, List.nil_append, List.replicate, Nat.sub_self, Nat.reduceSub, Nat.reduceAdd, List.getElem?_cons_zero, List.getElem?_cons_succ, List.set_cons_zero, List.set_cons_succ, Option.map_some, Bool.not_true, Bool.not_false, ite_true, ite_false, if_true, if_false, Bool.false_eq_true, gEq_int, gNe_int, gEq_bl, gNe_bl, gEq_non, gNe_non, List.isEmpty_cons, List.isEmpty_nil, tupOf]
  refine wp_seq (wp_set ?_)
  obtain ⟨_, S4, e4', ⟨lm, hlm, rfl⟩, hr4⟩ := R.wp_iff.mp (pick_ok (n := n) (xs := [6, 21]) hr3 (by simp) (by simp))
  have hlm' : 0 < lm ∧ lm ≤ 21 := by simp at hlm; omega
  obtain ⟨_, S5, e5', ⟨lim, hlim, rfl⟩, hr5⟩ := R.wp_iff.mp (taken_ok (n := n + 1) (many := lm) hr4 (by omega) (by omega))
  simp only [nG, List.map_cons, List.map_nil, Int.cast_ofNat_Int] at e4'
  simp only [nG, sSet, sRet, sRetN, sIf, sDrop, sNx, sBrk, sPar, sTg, sr_ok, rb_ok, ro_ok, so_ok, e1, e2, eA, eCl, eV, eC, eAnd, eOr, eNot, eIf, eCh, tV, tNot, tAnd, tOr, tYes, bof_bl, aNil, aCons, tgSet, setAll, lo0, bodyR_nx, bodyR_rt, R.wp_ok, SR.wp_nx, SR.wp_rt, SR.wp_bk, gAddA, gAdd, gSub, gLe, gLt, gGt, gGe, is_non, is_int, is_tup, is_bl, isn_non, isn_int, isn_tup, isn_bl, is_o, isn_o, gNeg, gTup1, gTup2, gTup3, gTup4, gTup5, gLst0, gLst1, gLst2, gLst3, eLstA0, List.length_cons, List.length_nil, List.map_cons, List.map_nil, List.cons_append, List.nil_append, List.replicate, Nat.sub_self, Nat.reduceSub, Nat.reduceAdd, List.getElem?_cons_zero, List.getElem?_cons_succ, List.set_cons_zero, List.set_cons_succ, Option.map_some, Bool.not_true, Bool.not_false, ite_true, ite_false, if_true, if_false, Bool.false_eq_true, gEq_int, gNe_int, gEq_bl, gNe_bl, gEq_non, gNe_non, List.isEmpty_cons, List.isEmpty_nil, e4', e5']
  obtain ⟨_, S6, e6', prices, rfl, hlp, hpp, hr6⟩ := R.wp_iff.mp (comp_ok (n := n + 1) (many := many) (m := 10) (v1 := some (.int (most : Nat))) (v3 := some (.int (wet : Nat))) (v4 := some (nsG rain)) (v5 := none) (v6 := some (.int (lim : Nat))) (em := eC (.int 10)) hr5 (by omega) (by omega) (by omega) (fun u S => rfl))
  obtain ⟨_, S7, e7', ⟨cm, hcm, rfl⟩, hr7⟩ := R.wp_iff.mp (pick_ok (n := n) (xs := [4, 10]) hr6 (by simp) (by simp))
  have hcm' : 0 < cm ∧ cm ≤ 10 := by simp at hcm; omega
  obtain ⟨_, S8, e8', ⟨cap, hcap, rfl⟩, hr8⟩ := R.wp_iff.mp (taken_ok (n := n + 1) (many := cm) hr7 (by omega) (by omega))
  obtain ⟨_, S9, e9', ⟨lvl, hlvl, rfl⟩, hr9⟩ := R.wp_iff.mp (taken_ok (n := n + 1) (many := lim + 1) hr8 (by omega) (by omega))
  rw [show ((lim + 1 : Nat) : Int) = (lim : Int) + 1 by omega] at e9'
  simp only [nG, List.map_cons, List.map_nil, Int.cast_ofNat_Int] at e7'
  rw [e6']
  simp only [nG, sSet, sRet, sRetN, sIf, sDrop, sNx, sBrk, sPar, sTg, sr_ok, rb_ok, ro_ok, so_ok, e1, e2, eA, eCl, eV, eC, eAnd, eOr, eNot, eIf, eCh, tV, tNot, tAnd, tOr, tYes, bof_bl, aNil, aCons, tgSet, setAll, lo0, bodyR_nx, bodyR_rt, R.wp_ok, SR.wp_nx, SR.wp_rt, SR.wp_bk, gAddA, gAdd, gSub, gLe, gLt, gGt, gGe, is_non, is_int, is_tup, is_bl, isn_non, isn_int, isn_tup, isn_bl, is_o, isn_o, gNeg, gTup1, gTup2, gTup3, gTup4, gTup5, gLst0, gLst1, gLst2, gLst3, eLstA0, List.length_cons, List.length_nil, List.map_cons, List.map_nil, List.cons_append, List.nil_append, List.replicate, Nat.sub_self, Nat.reduceSub, Nat.reduceAdd, List.getElem?_cons_zero, List.getElem?_cons_succ, List.set_cons_zero, List.set_cons_succ, Option.map_some, Bool.not_true, Bool.not_false, ite_true, ite_false, if_true, if_false, Bool.false_eq_true, gEq_int, gNe_int, gEq_bl, gNe_bl, gEq_non, gNe_non, List.isEmpty_cons, List.isEmpty_nil, tupOf, e7', e8', e9']
  exact ⟨⟨⟨rain, prices, cap, lim, lvl⟩, ⟨by simp only; omega, by simp only; omega, fun x hx => by have := hrr x hx; omega, fun x hx => by have := hpp x hx; omega, by simp only; omega, by simp only; omega, by simp only; omega⟩, rfl⟩, hr9⟩
/-! ### alike -/
theorem isi_tt_tup (l : List G) : gIsi isaT [.tup l, .tup [.ty "tuple", .ty "list"]] S = some (.bl true) := rfl
theorem isi_l_tup (l : List G) : gIsi isaT [.tup l, .ty "list"] S = some (.bl false) := rfl
theorem isi_tt_non : gIsi isaT [.non, .tup [.ty "tuple", .ty "list"]] S = some (.bl false) := rfl
theorem isi_tt_int (i : Int) : gIsi isaT [.int i, .tup [.ty "tuple", .ty "list"]] S = some (.bl false) := rfl
theorem isi_s_non : gIsi isaT [.non, .ty "str"] S = some (.bl false) := rfl
theorem isi_s_int (i : Int) : gIsi isaT [.int i, .ty "str"] S = some (.bl false) := rfl
theorem len_tup (l : List G) : gLen [.tup l] S = some (.int (l.length : Nat)) := rfl
theorem alike_int (i : Int) : callN tab (n + 1) (.fn "_law_alike") [.int i, .int i] S = .ok (.bl true) S := by
  rw [cn__law_alike n _ _ rfl]
  simp only [nG, sSeq, sSet, sRet, sRetN, sIf, sDrop, sNx, sBrk, sPar, sTg, sr_ok, rb_ok, ro_ok, so_ok, e1, e2, eA, eCl, eV, eC, eAnd, eOr, eNot, eIf, eCh, tV, tNot, tAnd, tOr, tYes, bof_bl, aNil, aCons, tgSet, setAll, lo0, bodyR_nx, bodyR_rt, R.wp_ok, SR.wp_nx, SR.wp_rt, SR.wp_bk, gAddA, gAdd, gSub, gLe, gLt, gGt, gGe, is_non, is_int, is_tup, is_bl, isn_non, isn_int, isn_tup, isn_bl, is_o, isn_o, gNeg, gTup1, gTup2, gTup3, gTup4, gTup5, gLst0, gLst1, gLst2, gLst3, eLstA0, List.length_cons, List.length_nil, List.map_cons, List.map_nil, List.cons_append, List.nil_append, List.replicate, Nat.sub_self, Nat.reduceSub, Nat.reduceAdd, List.getElem?_cons_zero, List.getElem?_cons_succ, List.set_cons_zero, List.set_cons_succ, Option.map_some, Bool.not_true, Bool.not_false, ite_true, ite_false, if_true, if_false, Bool.false_eq_true, gEq_int, gNe_int, gEq_bl, gNe_bl, gEq_non, gNe_non, List.isEmpty_cons, List.isEmpty_nil, sh__law_alike, isi_tt_int, isi_s_int, isi_int_int, isi_int_bool, decide_true]
theorem alike_non : callN tab (n + 1) (.fn "_law_alike") [.non, .non] S = .ok (.bl true) S := by
  rw [cn__law_alike n _ _ rfl]
  simp only [nG, sSeq, sSet, sRet, sRetN, sIf, sDrop, sNx, sBrk, sPar, sTg, sr_ok, rb_ok, ro_ok, so_ok, e1, e2, eA, eCl, eV, eC, eAnd, eOr, eNot, eIf, eCh, tV, tNot, tAnd, tOr, tYes, bof_bl, aNil, aCons, tgSet, setAll, lo0, bodyR_nx, bodyR_rt, R.wp_ok, SR.wp_nx, SR.wp_rt, SR.wp_bk, gAddA, gAdd, gSub, gLe, gLt, gGt, gGe, is_non, is_int, is_tup, is_bl, isn_non, isn_int, isn_tup, isn_bl, is_o, isn_o, gNeg, gTup1, gTup2, gTup3, gTup4, gTup5, gLst0, gLst1, gLst2, gLst3, eLstA0, List.length_cons, List.length_nil, List.map_cons, List.map_nil, List.cons_append, List.nil_append, List.replicate, Nat.sub_self, Nat.reduceSub, Nat.reduceAdd, List.getElem?_cons_zero, List.getElem?_cons_succ, List.set_cons_zero, List.set_cons_succ, Option.map_some, Bool.not_true, Bool.not_false, ite_true, ite_false, if_true, if_false, Bool.false_eq_true, gEq_int, gNe_int, gEq_bl, gNe_bl, gEq_non, gNe_non, List.isEmpty_cons, List.isEmpty_nil, sh__law_alike, isi_tt_non, isi_s_non, decide_true]
theorem alike_o (x : Option Int) : callN tab (n + 1) (.fn "_law_alike") [oG x, oG x] S = .ok (.bl true) S := by
  cases x with
  | none => exact alike_non
  | some v => exact alike_int v
theorem alike_tup {l : List G} (hl : l.length ≤ 1000) (h : ∀ x ∈ l, callN tab n (.fn "_law_alike") [x, x] S = .ok (.bl true) S) : callN tab (n + 1) (.fn "_law_alike") [.tup l, .tup l] S = .ok (.bl true) S := by
  rw [cn__law_alike n _ _ rfl]
  refine R_ok_of ?_
  unfold sh__law_alike
  refine wp_seq ?_
  simp only [nG, sSet, sRet, sRetN, sIf, sDrop, sNx, sBrk, sPar, sTg, sr_ok, rb_ok, ro_ok, so_ok, e1, e2, eA, eCl, eV, eC, eAnd, eOr, eNot, eIf, eCh, tV, tNot, tAnd, tOr, tYes, bof_bl, aNil, aCons, tgSet, setAll, lo0, bodyR_nx, bodyR_rt, R.wp_ok, SR.wp_nx, SR.wp_rt, SR.wp_bk, gAddA, gAdd, gSub, gLe, gLt, gGt, gGe, is_non, is_int, is_tup, is_bl, isn_non, isn_int, isn_tup, isn_bl, is_o, isn_o, gNeg, gTup1, gTup2, gTup3, gTup4, gTup5, gLst0, gLst1, gLst2, gLst3, eLstA0, List.length_cons, List.length_nil, List.map_cons, List.map_nil, List.cons_append, List.nil_append, List.replicate, Nat.sub_self, Nat.reduceSub, Nat.reduceAdd, List.getElem?_cons_zero, List.getElem?_cons_succ, List.set_cons_zero, List.set_cons_succ, Option.map_some, Bool.not_true, Bool.not_false, ite_true, ite_false, if_true, if_false, Bool.false_eq_true, gEq_int, gNe_int, gEq_bl, gNe_bl, gEq_non, gNe_non, List.isEmpty_cons, List.isEmpty_nil, isi_tt_tup]
  refine wp_seq ?_
  simp only [nG, sSet, sRet, sRetN, sIf, sDrop, sNx, sBrk, sPar, sTg, sr_ok, rb_ok, ro_ok, so_ok, e1, e2, eA, eCl, eV, eC, eAnd, eOr, eNot, eIf, eCh, tV, tNot, tAnd, tOr, tYes, bof_bl, aNil, aCons, tgSet, setAll, lo0, bodyR_nx, bodyR_rt, R.wp_ok, SR.wp_nx, SR.wp_rt, SR.wp_bk, gAddA, gAdd, gSub, gLe, gLt, gGt, gGe, is_non, is_int, is_tup, is_bl, isn_non, isn_int, isn_tup, isn_bl, is_o, isn_o, gNeg, gTup1, gTup2, gTup3, gTup4, gTup5, gLst0, gLst1, gLst2, gLst3, eLstA0, List.length_cons, List.length_nil, List.map_cons, List.map_nil, List.cons_append, List.nil_append, List.replicate, Nat.sub_self, Nat.reduceSub, Nat.reduceAdd, List.getElem?_cons_zero, List.getElem?_cons_succ, List.set_cons_zero, List.set_cons_succ, Option.map_some, Bool.not_true, Bool.not_false, ite_true, ite_false, if_true, if_false, Bool.false_eq_true, gEq_int, gNe_int, gEq_bl, gNe_bl, gEq_non, gNe_non, List.isEmpty_cons, List.isEmpty_nil, isi_tt_tup, isi_l_tup, decide_true]
  refine wp_seq ?_
  simp only [nG, sSet, sRet, sRetN, sIf, sDrop, sNx, sBrk, sPar, sTg, sr_ok, rb_ok, ro_ok, so_ok, e1, e2, eA, eCl, eV, eC, eAnd, eOr, eNot, eIf, eCh, tV, tNot, tAnd, tOr, tYes, bof_bl, aNil, aCons, tgSet, setAll, lo0, bodyR_nx, bodyR_rt, R.wp_ok, SR.wp_nx, SR.wp_rt, SR.wp_bk, gAddA, gAdd, gSub, gLe, gLt, gGt, gGe, is_non, is_int, is_tup, is_bl, isn_non, isn_int, isn_tup, isn_bl, is_o, isn_o, gNeg, gTup1, gTup2, gTup3, gTup4, gTup5, gLst0, gLst1, gLst2, gLst3, eLstA0, List.length_cons, List.length_nil, List.map_cons, List.map_nil, List.cons_append, List.nil_append, List.replicate, Nat.sub_self, Nat.reduceSub, Nat.reduceAdd, List.getElem?_cons_zero, List.getElem?_cons_succ, List.set_cons_zero, List.set_cons_succ, Option.map_some, Bool.not_true, Bool.not_false, ite_true, ite_false, if_true, if_false, Bool.false_eq_true, gEq_int, gNe_int, gEq_bl, gNe_bl, gEq_non, gNe_non, List.isEmpty_cons, List.isEmpty_nil, len_tup, decide_true]
  rw [eLc_map (c := nG) (L := List.range l.length) (p := fun _ => false) (f := fun _ => .non) (itR1_nat (by simp only [nG, sSeq, sSet, sRet, sRetN, sIf, sDrop, sNx, sBrk, sPar, sTg, sr_ok, rb_ok, ro_ok, so_ok, e1, e2, eA, eCl, eV, eC, eAnd, eOr, eNot, eIf, eCh, tV, tNot, tAnd, tOr, tYes, bof_bl, aNil, aCons, tgSet, setAll, lo0, bodyR_nx, bodyR_rt, R.wp_ok, SR.wp_nx, SR.wp_rt, SR.wp_bk, gAddA, gAdd, gSub, gLe, gLt, gGt, gGe, is_non, is_int, is_tup, is_bl, isn_non, isn_int, isn_tup, isn_bl, is_o, isn_o, gNeg, gTup1, gTup2, gTup3, gTup4, gTup5, gLst0, gLst1, gLst2, gLst3, eLstA0, List.length_cons, List.length_nil, List.map_cons, List.map_nil, List.cons_append, List.nil_append, List.replicate, Nat.sub_self, Nat.reduceSub, Nat.reduceAdd, List.getElem?_cons_zero, List.getElem?_cons_succ, List.set_cons_zero, List.set_cons_succ, Option.map_some, Bool.not_true, Bool.not_false, ite_true, ite_false, if_true, if_false, Bool.false_eq_true, gEq_int, gNe_int, gEq_bl, gNe_bl, gEq_non, gNe_non, List.isEmpty_cons, List.isEmpty_nil, len_tup]) (by omega)) fun k hk => ⟨_, rfl, by
    have hk := List.mem_range.mp hk
    have hi : gIx (.tup l) (.int (k : Nat)) S = some l[k] := ix_tup (List.getElem?_eq_getElem hk)
    simp only [nG, sSeq, sSet, sRet, sRetN, sIf, sDrop, sNx, sBrk, sPar, sTg, sr_ok, rb_ok, ro_ok, so_ok, e1, e2, eA, eCl, eV, eC, eAnd, eOr, eNot, eIf, eCh, tV, tNot, tAnd, tOr, tYes, bof_bl, aNil, aCons, tgSet, setAll, lo0, bodyR_nx, bodyR_rt, R.wp_ok, SR.wp_nx, SR.wp_rt, SR.wp_bk, gAddA, gAdd, gSub, gLe, gLt, gGt, gGe, is_non, is_int, is_tup, is_bl, isn_non, isn_int, isn_tup, isn_bl, is_o, isn_o, gNeg, gTup1, gTup2, gTup3, gTup4, gTup5, gLst0, gLst1, gLst2, gLst3, eLstA0, List.length_cons, List.length_nil, List.map_cons, List.map_nil, List.cons_append, List.nil_append, List.replicate, Nat.sub_self, Nat.reduceSub, Nat.reduceAdd, List.getElem?_cons_zero, List.getElem?_cons_succ, List.set_cons_zero, List.set_cons_succ, Option.map_some, Bool.not_true, Bool.not_false, ite_true, ite_false, if_true, if_false, Bool.false_eq_true, gEq_int, gNe_int, gEq_bl, gNe_bl, gEq_non, gNe_non, List.isEmpty_cons, List.isEmpty_nil, wipeL, hi, h _ (List.getElem_mem hk)], fun h => by cases h⟩]
  have he : gEq (.tl []) (.tl []) S = some (.bl true) := gEq_tl S []
  rw [List.filter_eq_nil_iff.mpr (fun _ _ h => by cases h)]
  simp only [nG, sSet, sRet, sRetN, sIf, sDrop, sNx, sBrk, sPar, sTg, sr_ok, rb_ok, ro_ok, so_ok, e1, e2, eA, eCl, eV, eC, eAnd, eOr, eNot, eIf, eCh, tV, tNot, tAnd, tOr, tYes, bof_bl, aNil, aCons, tgSet, setAll, lo0, bodyR_nx, bodyR_rt, R.wp_ok, SR.wp_nx, SR.wp_rt, SR.wp_bk, gAddA, gAdd, gSub, gLe, gLt, gGt, gGe, is_non, is_int, is_tup, is_bl, isn_non, isn_int, isn_tup, isn_bl, is_o, isn_o, gNeg, gTup1, gTup2, gTup3, gTup4, gTup5, gLst0, gLst1, gLst2, gLst3, eLstA0, List.length_cons, List.length_nil, List.map_cons, List.map_nil, List.cons_append, List.nil_append, List.replicate, Nat.sub_self, Nat.reduceSub, Nat.reduceAdd, List.getElem?_cons_zero, List.getElem?_cons_succ, List.set_cons_zero, List.set_cons_succ, Option.map_some, Bool.not_true, Bool.not_false, ite_true, ite_false, if_true, if_false, Bool.false_eq_true, gEq_int, gNe_int, gEq_bl, gNe_bl, gEq_non, gNe_non, List.isEmpty_cons, List.isEmpty_nil, he]
  exact ⟨trivial, trivial⟩
theorem alike_ns {l : List Nat} (hl : l.length ≤ 1000) : callN tab (n + 2) (.fn "_law_alike") [nsG l, nsG l] S = .ok (.bl true) S :=
  alike_tup (by simpa using hl) fun x hx => by
    obtain ⟨y, _, rfl⟩ := List.mem_map.mp hx
    exact alike_int _
theorem alike_row {b : List (Option Int)} (hl : b.length ≤ 1000) : callN tab (n + 2) (.fn "_law_alike") [rowG b, rowG b] S = .ok (.bl true) S :=
  alike_tup (by simpa using hl) fun x hx => by
    obtain ⟨y, _, rfl⟩ := List.mem_map.mp hx
    exact alike_o _
theorem alike_tab {t : Tk} (ok : t.Ok) : callN tab (n + 3) (.fn "_law_alike") [tabG t, tabG t] S = .ok (.bl true) S := by
  have hl := tabs_len t t.rp
  rw [rp_len ok] at hl
  have hn := ok.most
  have hlim := ok.lim
  refine alike_tup (by simp; omega) fun x hx => ?_
  obtain ⟨b, hb, rfl⟩ := List.mem_map.mp hx
  obtain ⟨l', rfl⟩ := tabs_mem hb
  exact alike_row (by rw [rowAt_len]; omega)
theorem alike_parts {t : Tk} (ok : t.Ok) : callN tab (n + 3) (.fn "_law_alike") [t.parts, t.parts] S = .ok (.bl true) S := by
  have hn := ok.most
  have hl := ok.len
  refine alike_tup (by simp) fun x hx => ?_
  simp only [List.mem_cons, List.not_mem_nil, or_false] at hx
  rcases hx with rfl | rfl | rfl | rfl | rfl
  · exact alike_ns (by omega)
  · exact alike_ns (by omega)
  · exact alike_int _
  · exact alike_int _
  · exact alike_int _
end Lk14

end

section
set_option Elab.async false
set_option linter.all false
set_option maxRecDepth 100000
set_option maxHeartbeats 4000000
namespace Lk14
open PySem GL
variable {n : Nat} {S : Sto}
def Rd (S : Sto) (f : G) (b : List (Option Int)) : Prop := seqG S f = some (b.map oG)
def Rds (S : Sto) : List G → List (List (Option Int)) → Prop
  | [], [] => True
  | f :: fs, b :: bs => Rd S f b ∧ Rds S fs bs
  | _, _ => False
theorem Rd.grow {S S' : Sto} {f : G} {b : List (Option Int)} (h : Rd S f b) (g : Grow S S') : Rd S' f b := by
  unfold Rd at h ⊢
  cases f with
  | ref o =>
    have h : lstAt S o = some (b.map oG) := h
    show lstAt S' o = _
    unfold lstAt at h ⊢
    cases q : S[o]? with
    | none => rw [q] at h; cases h
    | some x => rw [q] at h; rw [g.get q]; exact h
  | _ => exact h
theorem Rds.grow {S S' : Sto} (g : Grow S S') : ∀ {fs : List G} {bs : List (List (Option Int))}, Rds S fs bs → Rds S' fs bs
  | [], [], _ => trivial
  | _ :: _, _ :: _, h => ⟨h.1.grow g, Rds.grow g h.2⟩
theorem Rds.len {S : Sto} : ∀ {fs : List G} {bs : List (List (Option Int))}, Rds S fs bs → fs.length = bs.length
  | [], [], _ => rfl
  | _ :: _, _ :: _, h => by rw [List.length_cons, List.length_cons, Rds.len h.2]
  | [], _ :: _, h => h.elim
  | _ :: _, [], h => h.elim
theorem Rd.ix {f : G} {b : List (Option Int)} (h : Rd S f b) {k : Nat} {x : Option Int} (hx : b[k]? = some x) : gIx f (.int (k : Nat)) S = some (oG x) := by
  unfold Rd at h
  have e : L2.atI (b.map oG) (k : Int) = some (oG x) := by rw [atI_nat, List.getElem?_map, hx]; rfl
  cases f with
  | str z => cases h
  | ref o => show (match seqG S (.ref o) with | some l => L2.atI l (k : Int) | none => none) = _; rw [h]; exact e
  | tl l => show (match seqG S (.tl l) with | some l => L2.atI l (k : Int) | none => none) = _; rw [h]; exact e
  | tup l => show (match seqG S (.tup l) with | some l => L2.atI l (k : Int) | none => none) = _; rw [h]; exact e
  | fz l => show (match seqG S (.fz l) with | some l => L2.atI l (k : Int) | none => none) = _; rw [h]; exact e
  | _ => cases h
def rdT (S : Sto) (g : G) : G := match seqG S g with
  | some l => .tup l
  | none => .non
theorem Rds.map {S : Sto} : ∀ {fs : List G} {bs : List (List (Option Int))}, Rds S fs bs → fs.map (rdT S) = bs.map rowG
  | [], [], _ => rfl
  | f :: fs, b :: bs, h => by
    have h1 : seqG S f = some (b.map oG) := h.1
    rw [List.map_cons, List.map_cons, Rds.map h.2]
    unfold rdT
    rw [h1]; rfl
  | [], _ :: _, h => h.elim
  | _ :: _, [], h => h.elim
theorem Rds.tuple {S : Sto} : ∀ {fs : List G} {bs : List (List (Option Int))}, Rds S fs bs → ∀ f ∈ fs, gTuple [f] S = some (rdT S f)
  | [], [], _, _, hf => by cases hf
  | f :: fs, b :: bs, h, x, hx => by
    rcases List.mem_cons.mp hx with rfl | hx
    · have h1 : seqG S x = some (b.map oG) := h.1
      show (seqG S x).map (fun l => G.tup l) = some (rdT S x)
      unfold rdT
      rw [h1]; rfl
    · exact Rds.tuple h.2 x hx
  | [], _ :: _, h, _, _ => h.elim
  | _ :: _, [], h, _, _ => h.elim
/-- what the law's own loop adds -/
def cF (t : Tk) (p : Nat) (b : List (Option Int)) (w m : Nat) : Option Int := if m ≤ w ∧ w - m ≤ t.lim then cst p b w m else none
theorem fm_zero {a b : Type} (F : a → Option b) : ∀ l : List a, (∀ x ∈ l, F x = none) → l.filterMap F = []
  | [], _ => rfl
  | x :: l, h => by rw [List.filterMap_cons_none (h x List.mem_cons_self)]; exact fm_zero F l fun y hy => h y (List.mem_cons_of_mem _ hy)
theorem fm_range {b : Type} (F : Nat → Option b) (k : Nat) : ∀ d, (∀ m, k ≤ m → F m = none) → (List.range (k + d)).filterMap F = (List.range k).filterMap F
  | 0, _ => rfl
  | d + 1, h => by
    rw [show k + (d + 1) = (k + d) + 1 by omega, List.range_succ, List.filterMap_append, fm_range F k d h, fm_zero F [k + d] (fun x hx => by rw [List.mem_singleton.mp hx]; exact h _ (by omega)), List.append_nil]
theorem law_costs (t : Tk) (p : Nat) (b : List (Option Int)) (w : Nat) : (List.range (t.cap + 1)).filterMap (cF t p b w) = (costs t p b w).filterMap id := by
  have h1 : (costs t p b w).filterMap id = (List.range (min t.cap w + 1)).filterMap (cF t p b w) := by
    unfold costs chs
    rw [List.filterMap_map]
    have : ∀ l : List Nat, (∀ m ∈ l, m ≤ w) → (l.filter fun m => decide (w - m ≤ t.lim)).filterMap (id ∘ cst p b w) = l.filterMap (cF t p b w) := by
      intro l
      induction l with
      | nil => intro _; rfl
      | cons m l ih =>
        intro hm
        have ih := ih fun x hx => hm x (List.mem_cons_of_mem _ hx)
        have hmw := hm m List.mem_cons_self
        by_cases c : w - m ≤ t.lim
        · rw [List.filter_cons_of_pos (by simpa using c)]
          have e : cF t p b w m = cst p b w m := by unfold cF; rw [if_pos ⟨hmw, c⟩]
          rw [List.filterMap_cons, List.filterMap_cons, ih, e]
          rfl
        · rw [List.filter_cons_of_neg (by simpa using c), ih, List.filterMap_cons_none (by unfold cF; rw [if_neg (by omega)])]
    exact this _ fun m hm => by have := List.mem_range.mp hm; omega
  rw [h1]
  by_cases c : t.cap ≤ w
  · rw [Nat.min_eq_left c]
  · rw [Nat.min_eq_right (by omega), show t.cap + 1 = (w + 1) + (t.cap - w) by omega]
    exact fm_range _ _ _ fun m hm => by unfold cF; rw [if_neg (by omega)]
theorem gNe_ref {o : Nat} {z : List Int} (h : lstAt S o = some (z.map iG)) : gNe (.ref o) (.tl []) S = some (.bl (!z.isEmpty)) := by
  show (gEqD S (.ref o) (.tl [])).map (fun b => G.bl (!b)) = _
  have h1 : gOk 60 (.tl (z.map iG)) = true := by rw [gOk]; exact gOks_ints _ z
  have h2 : gOk 60 (.tl []) = true := by rw [gOk]; rfl
  have h3 : gRes S (.ref o) = .tl (z.map iG) := by unfold gRes; dsimp only; rw [h]
  unfold gEqD
  rw [h3, show gRes S (.tl []) = .tl [] from rfl, if_pos ⟨h1, h2⟩]
  cases z with
  | nil => rfl
  | cons x z => rfl
theorem gMin_ref {o : Nat} {z : List Int} (h : lstAt S o = some (z.map iG)) : gMin [.ref o] S = (leastI z).map .int := by
  show (lstAt S o).bind _ = _
  rw [h, Option.bind_some, intsG_map]; rfl
theorem add_tl {x : G} {l : List G} (h : l.length ≤ 1000) : gAddA (.tl [x]) (.tl l) S = some (.tl (x :: l)) := by
  show (if ([x] : List G).length + l.length ≤ sizeLine then some (G.tl ([x] ++ l)) else none) = _
  rw [if_pos (by rw [sizeLine_eq]; simp; omega)]
  rfl
theorem law_tables_ok {t : Tk} (ok : t.Ok) : (callN tab (n + 1) (.fn "_law_tables") [t.parts] S).wp fun g S' => g = .tl ((tabs t t.rp).map rowG) ∧ Grow S S' := by
  have hn := ok.most
  have hlim := ok.lim
  have hcap := ok.cap
  have hkl := rp_len ok
  have hz : ∀ S, gMulA (.tl [.int 0]) (.int ((t.lim : Int) + 1)) S = some (.tl ((zeros t).map oG)) := fun S => by
    have := mul_tl1 (S := S) (x := .int 0) (n := t.lim + 1) (by omega)
    rw [show ((t.lim + 1 : Nat) : Int) = (t.lim : Int) + 1 by omega] at this
    rw [this]
    simp [zeros, oG]
  rw [cn__law_tables n _ _ rfl]
  refine wp_body ?_
  unfold sh__law_tables
  refine wp_seq ?_
  simp only [nG, sSet, sRet, sRetN, sIf, sDrop, sNx, sBrk, sPar, sTg, sr_ok, rb_ok, ro_ok, so_ok, e1, e2, eA, eCl, eV, eC, eAnd, eOr, eNot, eIf, eCh, tV, tNot, tAnd, tOr, tYes, bof_bl, aNil, aCons, tgSet, setAll, lo0, bodyR_nx, bodyR_rt, R.wp_ok, SR.wp_nx, SR.wp_rt, SR.wp_bk, gAddA, gAdd, gSub, gLe, gLt, gGt, gGe, is_non, is_int, is_tup, is_bl, isn_non, isn_int, isn_tup, isn_bl, is_o, isn_o, gNeg, gTup1, gTup2, gTup3, gTup4, gTup5, gLst0, gLst1, gLst2, gLst3, eLstA0, List.length_cons, List.length_nil, List.map_cons, List.map_nil, List.cons_append, List.nil_append, List.replicate, Nat.sub_self, Nat.reduceSub, Nat.reduceAdd, List.getElem?_cons_zero, List.getElem?_cons_succ, List.set_cons_zero, List.set_cons_succ, Option.map_some, Bool.not_true, Bool.not_false, ite_true, ite_false, if_true, if_false, Bool.false_eq_true, gEq_int, gNe_int, gEq_bl, gNe_bl, gEq_non, gNe_non, List.isEmpty_cons, List.isEmpty_nil, Tk.parts]
  refine wp_seq ?_
  simp only [nG, sSet, sRet, sRetN, sIf, sDrop, sNx, sBrk, sPar, sTg, sr_ok, rb_ok, ro_ok, so_ok, e1, e2, eA, eCl, eV, eC, eAnd, eOr, eNot, eIf, eCh, tV, tNot, tAnd, tOr, tYes, bof_bl, aNil, aCons, tgSet, setAll, lo0, bodyR_nx, bodyR_rt, R.wp_ok, SR.wp_nx, SR.wp_rt, SR.wp_bk, gAddA, gAdd, gSub, gLe, gLt, gGt, gGe, is_non, is_int, is_tup, is_bl, isn_non, isn_int, isn_tup, isn_bl, is_o, isn_o, gNeg, gTup1, gTup2, gTup3, gTup4, gTup5, gLst0, gLst1, gLst2, gLst3, eLstA0, List.length_cons, List.length_nil, List.map_cons, List.map_nil, List.cons_append, List.nil_append, List.replicate, Nat.sub_self, Nat.reduceSub, Nat.reduceAdd, List.getElem?_cons_zero, List.getElem?_cons_succ, List.set_cons_zero, List.set_cons_succ, Option.map_some, Bool.not_true, Bool.not_false, ite_true, ite_false, if_true, if_false, Bool.false_eq_true, gEq_int, gNe_int, gEq_bl, gNe_bl, gEq_non, gNe_non, List.isEmpty_cons, List.isEmpty_nil, hz]
  refine wp_seq (wp_for (xs := intsDown ((t.rain.length : Int) - 1) t.rain.length) ?_
    (fun j l S' => ∃ fs u7 u8 u9 u10 u11 u12, l = [some t.parts, some (nsG t.rain), some (nsG t.prices), some (.int (t.cap : Nat)), some (.int (t.lim : Nat)), some (.int (t.lvl : Nat)), some (.tl fs), u7, u8, u9, u10, u11, u12] ∧
      Grow S S' ∧ Rds S' fs (tabs t (t.rp.drop (t.rain.length - j)))) ?_ ⟨_, _, _, _, _, _, _, rfl, .refl _, ?_⟩ ?_)
  · exact itR3_nat (by simp [nG, sSeq, sSet, sRet, sRetN, sIf, sDrop, sNx, sBrk, sPar, sTg, sr_ok, rb_ok, ro_ok, so_ok, e1, e2, eA, eCl, eV, eC, eAnd, eOr, eNot, eIf, eCh, tV, tNot, tAnd, tOr, tYes, bof_bl, aNil, aCons, tgSet, setAll, lo0, bodyR_nx, bodyR_rt, R.wp_ok, SR.wp_nx, SR.wp_rt, SR.wp_bk, gAddA, gAdd, gSub, gLe, gLt, gGt, gGe, is_non, is_int, is_tup, is_bl, isn_non, isn_int, isn_tup, isn_bl, is_o, isn_o, gNeg, gTup1, gTup2, gTup3, gTup4, gTup5, gLst0, gLst1, gLst2, gLst3, eLstA0, List.length_cons, List.length_nil, List.map_cons, List.map_nil, List.cons_append, List.nil_append, List.replicate, Nat.sub_self, Nat.reduceSub, Nat.reduceAdd, List.getElem?_cons_zero, List.getElem?_cons_succ, List.set_cons_zero, List.set_cons_succ, Option.map_some, Bool.not_true, Bool.not_false, ite_true, ite_false, if_true, if_false, Bool.false_eq_true, gEq_int, gNe_int, gEq_bl, gNe_bl, gEq_non, gNe_non, List.isEmpty_cons, List.isEmpty_nil, len_nsG]) (by omega)
  · rintro j x l S' hx ⟨fs, u7, u8, u9, u10, u11, u12, rfl, hg, hfs⟩
    obtain ⟨hj, rfl⟩ := intsDown_get hx
    obtain ⟨r, p, hr, hp, hd⟩ := rp_get ok (k := t.rain.length - 1 - j) (by omega)
    rw [show t.rain.length - 1 - j + 1 = t.rain.length - j by omega] at hd
    rw [show t.rain.length - (j + 1) = t.rain.length - 1 - j by omega, hd]
    have hTl : (t.rp.drop (t.rain.length - j)).length ≤ 12 := by simp; omega
    generalize hT : t.rp.drop (t.rain.length - j) = T at hd hfs hTl ⊢
    obtain ⟨R', hR⟩ := tabs_head t T
    have hflen := hfs.len
    rw [tabs_len] at hflen
    obtain ⟨f0, fs', rfl⟩ : ∃ f0 fs', fs = f0 :: fs' := by cases fs with
      | nil => simp at hflen
      | cons f0 fs' => exact ⟨_, _, rfl⟩
    have hf0 : Rd S' f0 (rowAt t T) := by rw [hR] at hfs; exact hfs.1
    have hx0 : ∀ S, gIx (.tl (f0 :: fs')) (.int 0) S = some f0 := fun S => ix_tl (k := 0) rfl
    refine ⟨_, rfl, ?_⟩
    refine wp_seq ?_
    simp only [nG, sSet, sRet, sRetN, sIf, sDrop, sNx, sBrk, sPar, sTg, sr_ok, rb_ok, ro_ok, so_ok, e1, e2, eA, eCl, eV, eC, eAnd, eOr, eNot, eIf, eCh, tV, tNot, tAnd, tOr, tYes, bof_bl, aNil, aCons, tgSet, setAll, lo0, bodyR_nx, bodyR_rt, R.wp_ok, SR.wp_nx, SR.wp_rt, SR.wp_bk, gAddA, gAdd, gSub, gLe, gLt, gGt, gGe, is_non, is_int, is_tup, is_bl, isn_non, isn_int, isn_tup, isn_bl, is_o, isn_o, gNeg, gTup1, gTup2, gTup3, gTup4, gTup5, gLst0, gLst1, gLst2, gLst3, eLstA0, List.length_cons, List.length_nil, List.map_cons, List.map_nil, List.cons_append, List.nil_append, List.replicate, Nat.sub_self, Nat.reduceSub, Nat.reduceAdd, List.getElem?_cons_zero, List.getElem?_cons_succ, List.set_cons_zero, List.set_cons_succ, Option.map_some, Bool.not_true, Bool.not_false, ite_true, ite_false, if_true, if_false, Bool.false_eq_true, gEq_int, gNe_int, gEq_bl, gNe_bl, gEq_non, gNe_non, List.isEmpty_cons, List.isEmpty_nil]
    refine wp_seq (wp_for (xs := (List.range (t.lim + 1)).map nG) ?_
      (fun w l S2 => ∃ u9 u10 u11 u12 Z, l = [some t.parts, some (nsG t.rain), some (nsG t.prices), some (.int (t.cap : Nat)), some (.int (t.lim : Nat)), some (.int (t.lvl : Nat)), some (.tl (f0 :: fs')), some (.int ((t.rain.length - 1 - j : Nat) : Int)), some (.ref S'.length), u9, u10, u11, u12] ∧
        S2 = S' ++ .lst true (((rowS t r p (rowAt t T)).take w).map oG) :: Z) ?_ ⟨_, _, _, _, [], rfl, rfl⟩ ?_)
    · exact itR1_nat (n := t.lim + 1) (by simp [nG, sSeq, sSet, sRet, sRetN, sIf, sDrop, sNx, sBrk, sPar, sTg, sr_ok, rb_ok, ro_ok, so_ok, e1, e2, eA, eCl, eV, eC, eAnd, eOr, eNot, eIf, eCh, tV, tNot, tAnd, tOr, tYes, bof_bl, aNil, aCons, tgSet, setAll, lo0, bodyR_nx, bodyR_rt, R.wp_ok, SR.wp_nx, SR.wp_rt, SR.wp_bk, gAddA, gAdd, gSub, gLe, gLt, gGt, gGe, is_non, is_int, is_tup, is_bl, isn_non, isn_int, isn_tup, isn_bl, is_o, isn_o, gNeg, gTup1, gTup2, gTup3, gTup4, gTup5, gLst0, gLst1, gLst2, gLst3, eLstA0, List.length_cons, List.length_nil, List.map_cons, List.map_nil, List.cons_append, List.nil_append, List.replicate, Nat.sub_self, Nat.reduceSub, Nat.reduceAdd, List.getElem?_cons_zero, List.getElem?_cons_succ, List.set_cons_zero, List.set_cons_succ, Option.map_some, Bool.not_true, Bool.not_false, ite_true, ite_false, if_true, if_false, Bool.false_eq_true, gEq_int, gNe_int, gEq_bl, gNe_bl, gEq_non, gNe_non, List.isEmpty_cons, List.isEmpty_nil]) (by omega)
    · rintro w x l S2 hx ⟨u9, u10, u11, u12, Z, rfl, rfl⟩
      rw [← intsFrom_zero] at hx
      obtain ⟨hw, rfl⟩ := intsFrom_get hx
      refine ⟨_, rfl, ?_⟩
      generalize hS2 : S' ++ GO.lst true (((rowS t r p (rowAt t T)).take w).map oG) :: Z = S2
      have g2 : Grow S' S2 := by rw [← hS2]; exact .push _ _
      refine wp_seq ?_
      simp only [nG, sSet, sRet, sRetN, sIf, sDrop, sNx, sBrk, sPar, sTg, sr_ok, rb_ok, ro_ok, so_ok, e1, e2, eA, eCl, eV, eC, eAnd, eOr, eNot, eIf, eCh, tV, tNot, tAnd, tOr, tYes, bof_bl, aNil, aCons, tgSet, setAll, lo0, bodyR_nx, bodyR_rt, R.wp_ok, SR.wp_nx, SR.wp_rt, SR.wp_bk, gAddA, gAdd, gSub, gLe, gLt, gGt, gGe, is_non, is_int, is_tup, is_bl, isn_non, isn_int, isn_tup, isn_bl, is_o, isn_o, gNeg, gTup1, gTup2, gTup3, gTup4, gTup5, gLst0, gLst1, gLst2, gLst3, eLstA0, List.length_cons, List.length_nil, List.map_cons, List.map_nil, List.cons_append, List.nil_append, List.replicate, Nat.sub_self, Nat.reduceSub, Nat.reduceAdd, List.getElem?_cons_zero, List.getElem?_cons_succ, List.set_cons_zero, List.set_cons_succ, Option.map_some, Bool.not_true, Bool.not_false, ite_true, ite_false, if_true, if_false, Bool.false_eq_true, gEq_int, gNe_int, gEq_bl, gNe_bl, gEq_non, gNe_non, List.isEmpty_cons, List.isEmpty_nil]
      refine wp_seq (wp_for (xs := (List.range (t.cap + 1)).map nG) ?_
        (fun i l S3 => ∃ u11 u12, l = [some t.parts, some (nsG t.rain), some (nsG t.prices), some (.int (t.cap : Nat)), some (.int (t.lim : Nat)), some (.int (t.lvl : Nat)), some (.tl (f0 :: fs')), some (.int ((t.rain.length - 1 - j : Nat) : Int)), some (.ref S'.length), some (.int (w : Nat)), some (.ref S2.length), u11, u12] ∧
          S3 = S2 ++ [.lst true (((List.range i).filterMap (cF t p (rowAt t T) (w + r))).map iG)]) ?_ ⟨_, _, rfl, rfl⟩ ?_)
      · exact itR1_nat (n := t.cap + 1) (by simp [nG, sSeq, sSet, sRet, sRetN, sIf, sDrop, sNx, sBrk, sPar, sTg, sr_ok, rb_ok, ro_ok, so_ok, e1, e2, eA, eCl, eV, eC, eAnd, eOr, eNot, eIf, eCh, tV, tNot, tAnd, tOr, tYes, bof_bl, aNil, aCons, tgSet, setAll, lo0, bodyR_nx, bodyR_rt, R.wp_ok, SR.wp_nx, SR.wp_rt, SR.wp_bk, gAddA, gAdd, gSub, gLe, gLt, gGt, gGe, is_non, is_int, is_tup, is_bl, isn_non, isn_int, isn_tup, isn_bl, is_o, isn_o, gNeg, gTup1, gTup2, gTup3, gTup4, gTup5, gLst0, gLst1, gLst2, gLst3, eLstA0, List.length_cons, List.length_nil, List.map_cons, List.map_nil, List.cons_append, List.nil_append, List.replicate, Nat.sub_self, Nat.reduceSub, Nat.reduceAdd, List.getElem?_cons_zero, List.getElem?_cons_succ, List.set_cons_zero, List.set_cons_succ, Option.map_some, Bool.not_true, Bool.not_false, ite_true, ite_false, if_true, if_false, Bool.false_eq_true, gEq_int, gNe_int, gEq_bl, gNe_bl, gEq_non, gNe_non, List.isEmpty_cons, List.isEmpty_nil]) (by omega)
      · rintro i x l S3 hx ⟨u11, u12, rfl, rfl⟩
        rw [← intsFrom_zero] at hx
        obtain ⟨hi, rfl⟩ := intsFrom_get hx
        refine ⟨_, rfl, ?_⟩
        have hlen : ((List.range i).filterMap (cF t p (rowAt t T) (w + r))).length ≤ i := Nat.le_trans (List.length_filterMap_le _ _) (by simp)
        generalize hcs : (List.range i).filterMap (cF t p (rowAt t T) (w + r)) = cs at hlen ⊢
        have hnext : (List.range (i + 1)).filterMap (cF t p (rowAt t T) (w + r)) = cs ++ (cF t p (rowAt t T) (w + r) i).toList := by
          rw [List.range_succ, List.filterMap_append, hcs]
          cases q : cF t p (rowAt t T) (w + r) i with
          | none => rw [List.filterMap_cons_none q]; rfl
          | some v => rw [List.filterMap_cons_some q]; rfl
        rw [hnext]
        have g3 : Grow S' (S2 ++ [.lst true (cs.map iG)]) := g2.trans (.push _ _)
        refine wp_seq ?_
        simp only [nG, sSet, sRet, sRetN, sIf, sDrop, sNx, sBrk, sPar, sTg, sr_ok, rb_ok, ro_ok, so_ok, e1, e2, eA, eCl, eV, eC, eAnd, eOr, eNot, eIf, eCh, tV, tNot, tAnd, tOr, tYes, bof_bl, aNil, aCons, tgSet, setAll, lo0, bodyR_nx, bodyR_rt, R.wp_ok, SR.wp_nx, SR.wp_rt, SR.wp_bk, gAddA, gAdd, gSub, gLe, gLt, gGt, gGe, is_non, is_int, is_tup, is_bl, isn_non, isn_int, isn_tup, isn_bl, is_o, isn_o, gNeg, gTup1, gTup2, gTup3, gTup4, gTup5, gLst0, gLst1, gLst2, gLst3, eLstA0, List.length_cons, List.length_nil, List.map_cons, List.map_nil, List.cons_append, List.nil_append, List.replicate, Nat.sub_self, Nat.reduceSub, Nat.reduceAdd, List.getElem?_cons_zero, List.getElem?_cons_succ, List.set_cons_zero, List.set_cons_succ, Option.map_some, Bool.not_true, Bool.not_false, ite_true, ite_false, if_true, if_false, Bool.false_eq_true, gEq_int, gNe_int, gEq_bl, gNe_bl, gEq_non, gNe_non, List.isEmpty_cons, List.isEmpty_nil, ixn hr]
        by_cases c1 : i ≤ w + r
        · have he : (w : Int) + (r : Int) - (i : Int) = ((w + r - i : Nat) : Int) := by omega
          have d1 : decide (0 ≤ ((w + r - i : Nat) : Int)) = true := decide_eq_true (by omega)
          by_cases c2 : w + r - i ≤ t.lim
          · have d2 : decide (((w + r - i : Nat) : Int) ≤ (t.lim : Int)) = true := decide_eq_true (by omega)
            have hlt : w + r - i < (rowAt t T).length := by rw [rowAt_len]; omega
            have hix : gIx f0 (.int ((w + r - i : Nat) : Int)) (S2 ++ [.lst true (cs.map iG)]) = some (oG (rowAt t T)[w + r - i]) := (hf0.grow g3).ix (List.getElem?_eq_getElem hlt)
            have hcF : cF t p (rowAt t T) (w + r) i = ((rowAt t T)[w + r - i]).map fun v => (i : Int) * p + v := by
              unfold cF
              rw [if_pos ⟨c1, c2⟩]
              unfold cst
              rw [List.getElem?_eq_getElem hlt]
              rfl
            rw [hcF]
            simp only [nG, sSet, sRet, sRetN, sIf, sDrop, sNx, sBrk, sPar, sTg, sr_ok, rb_ok, ro_ok, so_ok, e1, e2, eA, eCl, eV, eC, eAnd, eOr, eNot, eIf, eCh, tV, tNot, tAnd, tOr, tYes, bof_bl, aNil, aCons, tgSet, setAll, lo0, bodyR_nx, bodyR_rt, R.wp_ok, SR.wp_nx, SR.wp_rt, SR.wp_bk, gAddA, gAdd, gSub, gLe, gLt, gGt, gGe, is_non, is_int, is_tup, is_bl, isn_non, isn_int, isn_tup, isn_bl, is_o, isn_o, gNeg, gTup1, gTup2, gTup3, gTup4, gTup5, gLst0, gLst1, gLst2, gLst3, eLstA0, List.length_cons, List.length_nil, List.map_cons, List.map_nil, List.cons_append, List.nil_append, List.replicate, Nat.sub_self, Nat.reduceSub, Nat.reduceAdd, List.getElem?_cons_zero, List.getElem?_cons_succ, List.set_cons_zero, List.set_cons_succ, Option.map_some, Bool.not_true, Bool.not_false, ite_true, ite_false, if_true, if_false, Bool.false_eq_true, gEq_int, gNe_int, gEq_bl, gNe_bl, gEq_non, gNe_non, List.isEmpty_cons, List.isEmpty_nil, he, d1, d2, hx0, hix]
            cases hv : (rowAt t T)[w + r - i] with
            | none =>
              simp only [Option.isSome, nG, sSet, sRet, sRetN, sIf, sDrop, sNx, sBrk, sPar, sTg, sr_ok, rb_ok, ro_ok, so_ok, e1, e2, eA, eCl, eV, eC, eAnd, eOr, eNot, eIf, eCh, tV, tNot, tAnd, tOr, tYes, bof_bl, aNil, aCons, tgSet, setAll, lo0, bodyR_nx, bodyR_rt, R.wp_ok, SR.wp_nx, SR.wp_rt, SR.wp_bk, gAddA, gAdd, gSub, gLe, gLt, gGt, gGe, is_non, is_int, is_tup, is_bl, isn_non, isn_int, isn_tup, isn_bl, is_o, isn_o, gNeg, gTup1, gTup2, gTup3, gTup4, gTup5, gLst0, gLst1, gLst2, gLst3, eLstA0, List.length_cons, List.length_nil, List.map_cons, List.map_nil, List.cons_append, List.nil_append, List.replicate, Nat.sub_self, Nat.reduceSub, Nat.reduceAdd, List.getElem?_cons_zero, List.getElem?_cons_succ, List.set_cons_zero, List.set_cons_succ, Option.map_some, Bool.not_true, Bool.not_false, ite_true, ite_false, if_true, if_false, Bool.false_eq_true, gEq_int, gNe_int, gEq_bl, gNe_bl, gEq_non, gNe_non, List.isEmpty_cons, List.isEmpty_nil, Option.map_none, Option.toList, List.append_nil]
              exact ⟨_, _, rfl, by first | trivial | rfl⟩
            | some v =>
              rw [hv] at hix
              have hmul := mul_sm (S := S2 ++ [.lst true (cs.map iG)]) (m := i) (p := p) (by omega)
              simp only [Option.isSome, nG, sSet, sRet, sRetN, sIf, sDrop, sNx, sBrk, sPar, sTg, sr_ok, rb_ok, ro_ok, so_ok, e1, e2, eA, eCl, eV, eC, eAnd, eOr, eNot, eIf, eCh, tV, tNot, tAnd, tOr, tYes, bof_bl, aNil, aCons, tgSet, setAll, lo0, bodyR_nx, bodyR_rt, R.wp_ok, SR.wp_nx, SR.wp_rt, SR.wp_bk, gAddA, gAdd, gSub, gLe, gLt, gGt, gGe, is_non, is_int, is_tup, is_bl, isn_non, isn_int, isn_tup, isn_bl, is_o, isn_o, gNeg, gTup1, gTup2, gTup3, gTup4, gTup5, gLst0, gLst1, gLst2, gLst3, eLstA0, List.length_cons, List.length_nil, List.map_cons, List.map_nil, List.cons_append, List.nil_append, List.replicate, Nat.sub_self, Nat.reduceSub, Nat.reduceAdd, List.getElem?_cons_zero, List.getElem?_cons_succ, List.set_cons_zero, List.set_cons_succ, Option.map_some, Bool.not_true, Bool.not_false, ite_true, ite_false, if_true, if_false, Bool.false_eq_true, gEq_int, gNe_int, gEq_bl, gNe_bl, gEq_non, gNe_non, List.isEmpty_cons, List.isEmpty_nil]
              refine wp_drop ?_
              rw [eML_of (o := S2.length) (xs := cs.map iG) (x := iG ((i : Int) * p + v)) rfl get_last (by simp only [nG, sSeq, sSet, sRet, sRetN, sIf, sDrop, sNx, sBrk, sPar, sTg, sr_ok, rb_ok, ro_ok, so_ok, e1, e2, eA, eCl, eV, eC, eAnd, eOr, eNot, eIf, eCh, tV, tNot, tAnd, tOr, tYes, bof_bl, aNil, aCons, tgSet, setAll, lo0, bodyR_nx, bodyR_rt, R.wp_ok, SR.wp_nx, SR.wp_rt, SR.wp_bk, gAddA, gAdd, gSub, gLe, gLt, gGt, gGe, is_non, is_int, is_tup, is_bl, isn_non, isn_int, isn_tup, isn_bl, is_o, isn_o, gNeg, gTup1, gTup2, gTup3, gTup4, gTup5, gLst0, gLst1, gLst2, gLst3, eLstA0, List.length_cons, List.length_nil, List.map_cons, List.map_nil, List.cons_append, List.nil_append, List.replicate, Nat.sub_self, Nat.reduceSub, Nat.reduceAdd, List.getElem?_cons_zero, List.getElem?_cons_succ, List.set_cons_zero, List.set_cons_succ, Option.map_some, Bool.not_true, Bool.not_false, ite_true, ite_false, if_true, if_false, Bool.false_eq_true, gEq_int, gNe_int, gEq_bl, gNe_bl, gEq_non, gNe_non, List.isEmpty_cons, List.isEmpty_nil, ixn hp, hx0, hix, hmul, oG, iG]) (by simp; omega), R.wp_ok, set_last]
              exact ⟨_, _, rfl, by simp [Option.toList]⟩
          · have d2 : decide (((w + r - i : Nat) : Int) ≤ (t.lim : Int)) = false := decide_eq_false (by omega)
            have hcF : cF t p (rowAt t T) (w + r) i = none := by unfold cF; rw [if_neg (by omega)]
            rw [hcF]
            simp only [nG, sSet, sRet, sRetN, sIf, sDrop, sNx, sBrk, sPar, sTg, sr_ok, rb_ok, ro_ok, so_ok, e1, e2, eA, eCl, eV, eC, eAnd, eOr, eNot, eIf, eCh, tV, tNot, tAnd, tOr, tYes, bof_bl, aNil, aCons, tgSet, setAll, lo0, bodyR_nx, bodyR_rt, R.wp_ok, SR.wp_nx, SR.wp_rt, SR.wp_bk, gAddA, gAdd, gSub, gLe, gLt, gGt, gGe, is_non, is_int, is_tup, is_bl, isn_non, isn_int, isn_tup, isn_bl, is_o, isn_o, gNeg, gTup1, gTup2, gTup3, gTup4, gTup5, gLst0, gLst1, gLst2, gLst3, eLstA0, List.length_cons, List.length_nil, List.map_cons, List.map_nil, List.cons_append, List.nil_append, List.replicate, Nat.sub_self, Nat.reduceSub, Nat.reduceAdd, List.getElem?_cons_zero, List.getElem?_cons_succ, List.set_cons_zero, List.set_cons_succ, Option.map_some, Bool.not_true, Bool.not_false, ite_true, ite_false, if_true, if_false, Bool.false_eq_true, gEq_int, gNe_int, gEq_bl, gNe_bl, gEq_non, gNe_non, List.isEmpty_cons, List.isEmpty_nil, he, d1, d2, Option.toList, List.append_nil]
            exact ⟨_, _, rfl, by first | trivial | rfl⟩
        · have d1 : decide (0 ≤ (w : Int) + (r : Int) - (i : Int)) = false := decide_eq_false (by omega)
          have hcF : cF t p (rowAt t T) (w + r) i = none := by unfold cF; rw [if_neg (by omega)]
          rw [hcF]
          simp only [nG, sSet, sRet, sRetN, sIf, sDrop, sNx, sBrk, sPar, sTg, sr_ok, rb_ok, ro_ok, so_ok, e1, e2, eA, eCl, eV, eC, eAnd, eOr, eNot, eIf, eCh, tV, tNot, tAnd, tOr, tYes, bof_bl, aNil, aCons, tgSet, setAll, lo0, bodyR_nx, bodyR_rt, R.wp_ok, SR.wp_nx, SR.wp_rt, SR.wp_bk, gAddA, gAdd, gSub, gLe, gLt, gGt, gGe, is_non, is_int, is_tup, is_bl, isn_non, isn_int, isn_tup, isn_bl, is_o, isn_o, gNeg, gTup1, gTup2, gTup3, gTup4, gTup5, gLst0, gLst1, gLst2, gLst3, eLstA0, List.length_cons, List.length_nil, List.map_cons, List.map_nil, List.cons_append, List.nil_append, List.replicate, Nat.sub_self, Nat.reduceSub, Nat.reduceAdd, List.getElem?_cons_zero, List.getElem?_cons_succ, List.set_cons_zero, List.set_cons_succ, Option.map_some, Bool.not_true, Bool.not_false, ite_true, ite_false, if_true, if_false, Bool.false_eq_true, gEq_int, gNe_int, gEq_bl, gNe_bl, gEq_non, gNe_non, List.isEmpty_cons, List.isEmpty_nil, d1, Option.toList, List.append_nil]
          exact ⟨_, _, rfl, by first | trivial | rfl⟩
      · rintro l S3 ⟨u11, u12, rfl, rfl⟩
        rw [List.length_map, List.length_range, law_costs]
        refine wp_drop (eML_wp (o := S'.length) (xs := ((rowS t r p (rowAt t T)).take w).map oG) rfl ?_ ?_ ?_)
        · rw [← hS2]; exact get_grow get_mid
        · simp [rowS]; omega
        · have hst : lstAt (S2 ++ [.lst true (((costs t p (rowAt t T) (w + r)).filterMap id).map iG)]) S2.length = some (((costs t p (rowAt t T) (w + r)).filterMap id).map iG) := lst_mid
          simp only [nG, sSet, sRet, sRetN, sIf, sDrop, sNx, sBrk, sPar, sTg, sr_ok, rb_ok, ro_ok, so_ok, e1, e2, eA, eCl, eV, eC, eAnd, eOr, eNot, eIf, eCh, tV, tNot, tAnd, tOr, tYes, bof_bl, aNil, aCons, tgSet, setAll, lo0, bodyR_nx, bodyR_rt, R.wp_ok, SR.wp_nx, SR.wp_rt, SR.wp_bk, gAddA, gAdd, gSub, gLe, gLt, gGt, gGe, is_non, is_int, is_tup, is_bl, isn_non, isn_int, isn_tup, isn_bl, is_o, isn_o, gNeg, gTup1, gTup2, gTup3, gTup4, gTup5, gLst0, gLst1, gLst2, gLst3, eLstA0, List.length_cons, List.length_nil, List.map_cons, List.map_nil, List.cons_append, List.nil_append, List.replicate, Nat.sub_self, Nat.reduceSub, Nat.reduceAdd, List.getElem?_cons_zero, List.getElem?_cons_succ, List.set_cons_zero, List.set_cons_succ, Option.map_some, Bool.not_true, Bool.not_false, ite_true, ite_false, if_true, if_false, Bool.false_eq_true, gEq_int, gNe_int, gEq_bl, gNe_bl, gEq_non, gNe_non, List.isEmpty_cons, List.isEmpty_nil, gNe_ref hst, gMin_ref hst]
          have hrow : (rowS t r p (rowAt t T))[w]? = some (leastO (costs t p (rowAt t T) (w + r))) := by
            unfold rowS
            rw [List.getElem?_map, List.getElem?_range hw]
            rfl
          rw [take_snoc hrow]
          have fin : (S2 ++ [GO.lst true (((costs t p (rowAt t T) (w + r)).filterMap id).map iG)])[S'.length]? = some (.lst true (((rowS t r p (rowAt t T)).take w).map oG)) := by rw [← hS2]; exact get_grow get_mid
          have fin2 : (S2 ++ [GO.lst true (((costs t p (rowAt t T) (w + r)).filterMap id).map iG)]).set S'.length (.lst true (((rowS t r p (rowAt t T)).take w).map oG ++ [oG (leastO (costs t p (rowAt t T) (w + r)))])) = S' ++ .lst true (((rowS t r p (rowAt t T)).take w ++ [leastO (costs t p (rowAt t T) (w + r))]).map oG) :: (Z ++ [GO.lst true (((costs t p (rowAt t T) (w + r)).filterMap id).map iG)]) := by
            rw [← hS2, List.append_assoc, List.cons_append, set_mid, List.map_append]
            rfl
          have hle : leastO (costs t p (rowAt t T) (w + r)) = leastI ((costs t p (rowAt t T) (w + r)).filterMap id) := rfl
          cases hq : (costs t p (rowAt t T) (w + r)).filterMap id with
          | nil =>
            rw [hq] at fin fin2 hle
            rw [hle] at fin2 ⊢
            simp only [nG, sSet, sRet, sRetN, sIf, sDrop, sNx, sBrk, sPar, sTg, sr_ok, rb_ok, ro_ok, so_ok, e1, e2, eA, eCl, eV, eC, eAnd, eOr, eNot, eIf, eCh, tV, tNot, tAnd, tOr, tYes, bof_bl, aNil, aCons, tgSet, setAll, lo0, bodyR_nx, bodyR_rt, R.wp_ok, SR.wp_nx, SR.wp_rt, SR.wp_bk, gAddA, gAdd, gSub, gLe, gLt, gGt, gGe, is_non, is_int, is_tup, is_bl, isn_non, isn_int, isn_tup, isn_bl, is_o, isn_o, gNeg, gTup1, gTup2, gTup3, gTup4, gTup5, gLst0, gLst1, gLst2, gLst3, eLstA0, List.length_cons, List.length_nil, List.map_cons, List.map_nil, List.cons_append, List.nil_append, List.replicate, Nat.sub_self, Nat.reduceSub, Nat.reduceAdd, List.getElem?_cons_zero, List.getElem?_cons_succ, List.set_cons_zero, List.set_cons_succ, Option.map_some, Bool.not_true, Bool.not_false, ite_true, ite_false, if_true, if_false, Bool.false_eq_true, gEq_int, gNe_int, gEq_bl, gNe_bl, gEq_non, gNe_non, List.isEmpty_cons, List.isEmpty_nil, List.map_nil]
            exact ⟨fin, _, _, _, _, _, rfl, fin2⟩
          | cons y ys =>
            rw [hq] at fin fin2 hle
            rw [hle] at fin2 ⊢
            simp only [nG, sSet, sRet, sRetN, sIf, sDrop, sNx, sBrk, sPar, sTg, sr_ok, rb_ok, ro_ok, so_ok, e1, e2, eA, eCl, eV, eC, eAnd, eOr, eNot, eIf, eCh, tV, tNot, tAnd, tOr, tYes, bof_bl, aNil, aCons, tgSet, setAll, lo0, bodyR_nx, bodyR_rt, R.wp_ok, SR.wp_nx, SR.wp_rt, SR.wp_bk, gAddA, gAdd, gSub, gLe, gLt, gGt, gGe, is_non, is_int, is_tup, is_bl, isn_non, isn_int, isn_tup, isn_bl, is_o, isn_o, gNeg, gTup1, gTup2, gTup3, gTup4, gTup5, gLst0, gLst1, gLst2, gLst3, eLstA0, List.length_cons, List.length_nil, List.map_cons, List.map_nil, List.cons_append, List.nil_append, List.replicate, Nat.sub_self, Nat.reduceSub, Nat.reduceAdd, List.getElem?_cons_zero, List.getElem?_cons_succ, List.set_cons_zero, List.set_cons_succ, Option.map_some, Bool.not_true, Bool.not_false, ite_true, ite_false, if_true, if_false, Bool.false_eq_true, gEq_int, gNe_int, gEq_bl, gNe_bl, gEq_non, gNe_non, List.isEmpty_cons, List.isEmpty_nil, leastI]
            exact ⟨fin, _, _, _, _, _, rfl, fin2⟩
    · rintro l S2 ⟨u9, u10, u11, u12, Z, rfl, rfl⟩
      rw [show ((List.range (t.lim + 1)).map nG).length = (rowS t r p (rowAt t T)).length by simp [rowS], List.take_length]
      refine wp_set ?_
      simp only [nG, sSet, sRet, sRetN, sIf, sDrop, sNx, sBrk, sPar, sTg, sr_ok, rb_ok, ro_ok, so_ok, e1, e2, eA, eCl, eV, eC, eAnd, eOr, eNot, eIf, eCh, tV, tNot, tAnd, tOr, tYes, bof_bl, aNil, aCons, tgSet, setAll, lo0, bodyR_nx, bodyR_rt, R.wp_ok, SR.wp_nx, SR.wp_rt, SR.wp_bk, gSub, gLe, gLt, gGt, gGe, is_non, is_int, is_tup, is_bl, isn_non, isn_int, isn_tup, isn_bl, is_o, isn_o, gNeg, gTup1, gTup2, gTup3, gTup4, gTup5, gLst0, gLst1, gLst2, gLst3, eLstA0, List.length_cons, List.length_nil, List.map_cons, List.map_nil, List.cons_append, List.nil_append, List.replicate, Nat.sub_self, Nat.reduceSub, Nat.reduceAdd, List.getElem?_cons_zero, List.getElem?_cons_succ, List.set_cons_zero, List.set_cons_succ, Option.map_some, Bool.not_true, Bool.not_false, ite_true, ite_false, if_true, if_false, Bool.false_eq_true, gEq_int, gNe_int, gEq_bl, gNe_bl, gEq_non, gNe_non, List.isEmpty_cons, List.isEmpty_nil, add_tl (S := S' ++ GO.lst true ((rowS t r p (rowAt t T)).map oG) :: Z) (x := .ref S'.length) (l := f0 :: fs') (by omega)]
      refine ⟨_, _, _, _, _, _, _, rfl, hg.trans (.push _ _), ?_⟩
      exact ⟨lst_mid, hfs.grow (.push _ _)⟩
  · rw [Nat.sub_zero, ← hkl, List.drop_length]
    exact ⟨rfl, trivial⟩
  · rintro l S' ⟨fs, u7, u8, u9, u10, u11, u12, rfl, hg, hfs⟩
    rw [intsDown_len, Nat.sub_self, List.drop_zero] at hfs
    refine wp_ret ?_
    rw [eLc_all (c := fun x => x) (L := fs) (f := rdT S') (by simp only [nG, sSeq, sSet, sRet, sRetN, sIf, sDrop, sNx, sBrk, sPar, sTg, sr_ok, rb_ok, ro_ok, so_ok, e1, e2, eA, eCl, eV, eC, eAnd, eOr, eNot, eIf, eCh, tV, tNot, tAnd, tOr, tYes, bof_bl, aNil, aCons, tgSet, setAll, lo0, bodyR_nx, bodyR_rt, R.wp_ok, SR.wp_nx, SR.wp_rt, SR.wp_bk, gAddA, gAdd, gSub, gLe, gLt, gGt, gGe, is_non, is_int, is_tup, is_bl, isn_non, isn_int, isn_tup, isn_bl, is_o, isn_o, gNeg, gTup1, gTup2, gTup3, gTup4, gTup5, gLst0, gLst1, gLst2, gLst3, eLstA0, List.length_cons, List.length_nil, List.map_cons, List.map_nil, List.cons_append, List.nil_append, List.replicate, Nat.sub_self, Nat.reduceSub, Nat.reduceAdd, List.getElem?_cons_zero, List.getElem?_cons_succ, List.set_cons_zero, List.set_cons_succ, Option.map_some, Bool.not_true, Bool.not_false, ite_true, ite_false, if_true, if_false, Bool.false_eq_true, gEq_int, gNe_int, gEq_bl, gNe_bl, gEq_non, gNe_non, List.isEmpty_cons, List.isEmpty_nil, itV, List.map_id']) fun x hx => ⟨_, rfl, by simp only [nG, sSeq, sSet, sRet, sRetN, sIf, sDrop, sNx, sBrk, sPar, sTg, sr_ok, rb_ok, ro_ok, so_ok, e1, e2, eA, eCl, eV, eC, eAnd, eOr, eNot, eIf, eCh, tV, tNot, tAnd, tOr, tYes, bof_bl, aNil, aCons, tgSet, setAll, lo0, bodyR_nx, bodyR_rt, R.wp_ok, SR.wp_nx, SR.wp_rt, SR.wp_bk, gAddA, gAdd, gSub, gLe, gLt, gGt, gGe, is_non, is_int, is_tup, is_bl, isn_non, isn_int, isn_tup, isn_bl, is_o, isn_o, gNeg, gTup1, gTup2, gTup3, gTup4, gTup5, gLst0, gLst1, gLst2, gLst3, eLstA0, List.length_cons, List.length_nil, List.map_cons, List.map_nil, List.cons_append, List.nil_append, List.replicate, Nat.sub_self, Nat.reduceSub, Nat.reduceAdd, List.getElem?_cons_zero, List.getElem?_cons_succ, List.set_cons_zero, List.set_cons_succ, Option.map_some, Bool.not_true, Bool.not_false, ite_true, ite_false, if_true, if_false, Bool.false_eq_true, gEq_int, gNe_int, gEq_bl, gNe_bl, gEq_non, gNe_non, List.isEmpty_cons, List.isEmpty_nil, wipeL, hfs.tuple x hx]⟩, hfs.map]
    exact ⟨rfl, hg⟩
end Lk14

end

section
set_option Elab.async false
set_option linter.all false
set_option maxRecDepth 100000
set_option maxHeartbeats 4000000
namespace Lk14
open PySem GL
variable {n : Nat} {S : Sto}
def tc (t : Tk) (c : Nat) : Tk := { t with cap := c }
theorem tc_ok {t : Tk} (ok : t.Ok) {c : Nat} (h : c ≤ 9) : (tc t c).Ok := ⟨ok.len, ok.most, ok.rain, ok.prices, h, ok.lim, ok.lvl⟩
def canB (t : Tk) (c : Nat) : Bool := (val (tc t c) t.rp t.lvl).isSome
def hdG (l : List Nat) : G := match l.head? with
  | some c => .int (c : Nat)
  | none => .non
def cans (t : Tk) : List Nat := (List.range 10).filter (canB t)
theorem least_capacity_ok {t : Tk} (ok : t.Ok) : (callN tab (n + 6) (.fn "least_capacity") [nsG t.rain, nsG t.prices, .int (t.lim : Nat), .int (t.lvl : Nat)] S).wp fun g S' => g = hdG (cans t) ∧ Grow S S' := by
  rw [cn_least_capacity (n + 5) _ _ rfl]
  refine wp_body ?_
  unfold sh_least_capacity
  refine wp_seq (wp_for (xs := (List.range 10).map nG) ?_
    (fun k l S' => (∃ u, l = [some (nsG t.rain), some (nsG t.prices), some (.int (t.lim : Nat)), some (.int (t.lvl : Nat)), u]) ∧ Grow S S' ∧ ∀ c, c < k → canB t c = false) ?_ ⟨⟨_, rfl⟩, .refl _, fun _ h => by omega⟩ ?_)
  · exact itR1_nat (n := 10) (by simp only [nG, sSeq, sSet, sRet, sRetN, sIf, sDrop, sNx, sBrk, sPar, sTg, sr_ok, rb_ok, ro_ok, so_ok, e1, e2, eA, eCl, eV, eC, eAnd, eOr, eNot, eIf, eCh, tV, tNot, tAnd, tOr, tYes, bof_bl, aNil, aCons, tgSet, setAll, lo0, bodyR_nx, bodyR_rt, R.wp_ok, SR.wp_nx, SR.wp_rt, SR.wp_bk, gAddA, gAdd, gSub, gLe, gLt, gGt, gGe, is_non, is_int, is_tup, is_bl, isn_non, isn_int, isn_tup, isn_bl, is_o, isn_o, gNeg, gTup1, gTup2, gTup3, gTup4, gTup5, gLst0, gLst1, gLst2, gLst3, eLstA0, List.length_cons, List.length_nil, List.map_cons, List.map_nil, List.cons_append, List.nil_append, List.replicate, Nat.sub_self, Nat.reduceSub, Nat.reduceAdd, List.getElem?_cons_zero, List.getElem?_cons_succ, List.set_cons_zero, List.set_cons_succ, Option.map_some, Bool.not_true, Bool.not_false, ite_true, ite_false, if_true, if_false, Bool.false_eq_true, gEq_int, gNe_int, gEq_bl, gNe_bl, gEq_non, gNe_non, List.isEmpty_cons, List.isEmpty_nil]; rfl) (by omega)
  · rintro k x l S' hx ⟨⟨u, rfl⟩, hg, hno⟩
    rw [← intsFrom_zero] at hx
    obtain ⟨hk, rfl⟩ := intsFrom_get hx
    refine ⟨_, rfl, ?_⟩
    have okc := tc_ok ok (c := k) (by omega)
    have hmk := eMk_of (n := n) (S := S') okc (a := aCons (eV 0) (aCons (eV 1) (aCons (eV 4) (aCons (eV 2) (aCons (eV 3) aNil))))) (l := [some (nsG t.rain), some (nsG t.prices), some (.int (t.lim : Nat)), some (.int (t.lvl : Nat)), some (.int (k : Nat))]) rfl
    obtain ⟨_, S2, e2', rfl, gr⟩ := R.wp_iff.mp (least_price_ok (n := n) okc (at_new (S := S') (tc t k)))
    rw [show ((rowAt (tc t k) (tc t k).rp)[(tc t k).lvl]?).getD none = val (tc t k) t.rp t.lvl from rfl] at e2'
    simp only [sIf, tV, e2, aCons, eC, aNil, eCl, rb_ok, nG, sSet, sRet, sRetN, sIf, sDrop, sNx, sBrk, sPar, sTg, sr_ok, rb_ok, ro_ok, so_ok, e1, e2, eA, eCl, eV, eC, eAnd, eOr, eNot, eIf, eCh, tV, tNot, tAnd, tOr, tYes, bof_bl, aNil, aCons, tgSet, setAll, lo0, bodyR_nx, bodyR_rt, R.wp_ok, SR.wp_nx, SR.wp_rt, SR.wp_bk, gAddA, gAdd, gSub, gLe, gLt, gGt, gGe, is_non, is_int, is_tup, is_bl, isn_non, isn_int, isn_tup, isn_bl, is_o, isn_o, gNeg, gTup1, gTup2, gTup3, gTup4, gTup5, gLst0, gLst1, gLst2, gLst3, eLstA0, List.length_cons, List.length_nil, List.map_cons, List.map_nil, List.cons_append, List.nil_append, List.replicate, Nat.sub_self, Nat.reduceSub, Nat.reduceAdd, List.getElem?_cons_zero, List.getElem?_cons_succ, List.set_cons_zero, List.set_cons_succ, Option.map_some, Bool.not_true, Bool.not_false, ite_true, ite_false, if_true, if_false, Bool.false_eq_true, gEq_int, gNe_int, gEq_bl, gNe_bl, gEq_non, gNe_non, List.isEmpty_cons, List.isEmpty_nil] at hmk ⊢
    rw [hmk]
    simp only [nG, sSet, sRet, sRetN, sIf, sDrop, sNx, sBrk, sPar, sTg, sr_ok, rb_ok, ro_ok, so_ok, e1, e2, eA, eCl, eV, eC, eAnd, eOr, eNot, eIf, eCh, tV, tNot, tAnd, tOr, tYes, bof_bl, aNil, aCons, tgSet, setAll, lo0, bodyR_nx, bodyR_rt, R.wp_ok, SR.wp_nx, SR.wp_rt, SR.wp_bk, gAddA, gAdd, gSub, gLe, gLt, gGt, gGe, is_non, is_int, is_tup, is_bl, isn_non, isn_int, isn_tup, isn_bl, is_o, isn_o, gNeg, gTup1, gTup2, gTup3, gTup4, gTup5, gLst0, gLst1, gLst2, gLst3, eLstA0, List.length_cons, List.length_nil, List.map_cons, List.map_nil, List.cons_append, List.nil_append, List.replicate, Nat.sub_self, Nat.reduceSub, Nat.reduceAdd, List.getElem?_cons_zero, List.getElem?_cons_succ, List.set_cons_zero, List.set_cons_succ, Option.map_some, Bool.not_true, Bool.not_false, ite_true, ite_false, if_true, if_false, Bool.false_eq_true, gEq_int, gNe_int, gEq_bl, gNe_bl, gEq_non, gNe_non, List.isEmpty_cons, List.isEmpty_nil, e2']
    cases hq : val (tc t k) t.rp t.lvl with
    | none =>
      simp only [Option.isSome, nG, sSet, sRet, sRetN, sIf, sDrop, sNx, sBrk, sPar, sTg, sr_ok, rb_ok, ro_ok, so_ok, e1, e2, eA, eCl, eV, eC, eAnd, eOr, eNot, eIf, eCh, tV, tNot, tAnd, tOr, tYes, bof_bl, aNil, aCons, tgSet, setAll, lo0, bodyR_nx, bodyR_rt, R.wp_ok, SR.wp_nx, SR.wp_rt, SR.wp_bk, gAddA, gAdd, gSub, gLe, gLt, gGt, gGe, is_non, is_int, is_tup, is_bl, isn_non, isn_int, isn_tup, isn_bl, is_o, isn_o, gNeg, gTup1, gTup2, gTup3, gTup4, gTup5, gLst0, gLst1, gLst2, gLst3, eLstA0, List.length_cons, List.length_nil, List.map_cons, List.map_nil, List.cons_append, List.nil_append, List.replicate, Nat.sub_self, Nat.reduceSub, Nat.reduceAdd, List.getElem?_cons_zero, List.getElem?_cons_succ, List.set_cons_zero, List.set_cons_succ, Option.map_some, Bool.not_true, Bool.not_false, ite_true, ite_false, if_true, if_false, Bool.false_eq_true, gEq_int, gNe_int, gEq_bl, gNe_bl, gEq_non, gNe_non, List.isEmpty_cons, List.isEmpty_nil]
      refine ⟨⟨_, rfl⟩, hg.trans ((Grow.push _ _).trans gr), fun c hc => ?_⟩
      by_cases h2 : c = k
      · rw [h2]; unfold canB; rw [hq]; rfl
      · exact hno c (by omega)
    | some v =>
      simp only [Option.isSome, nG, sSet, sRet, sRetN, sIf, sDrop, sNx, sBrk, sPar, sTg, sr_ok, rb_ok, ro_ok, so_ok, e1, e2, eA, eCl, eV, eC, eAnd, eOr, eNot, eIf, eCh, tV, tNot, tAnd, tOr, tYes, bof_bl, aNil, aCons, tgSet, setAll, lo0, bodyR_nx, bodyR_rt, R.wp_ok, SR.wp_nx, SR.wp_rt, SR.wp_bk, gAddA, gAdd, gSub, gLe, gLt, gGt, gGe, is_non, is_int, is_tup, is_bl, isn_non, isn_int, isn_tup, isn_bl, is_o, isn_o, gNeg, gTup1, gTup2, gTup3, gTup4, gTup5, gLst0, gLst1, gLst2, gLst3, eLstA0, List.length_cons, List.length_nil, List.map_cons, List.map_nil, List.cons_append, List.nil_append, List.replicate, Nat.sub_self, Nat.reduceSub, Nat.reduceAdd, List.getElem?_cons_zero, List.getElem?_cons_succ, List.set_cons_zero, List.set_cons_succ, Option.map_some, Bool.not_true, Bool.not_false, ite_true, ite_false, if_true, if_false, Bool.false_eq_true, gEq_int, gNe_int, gEq_bl, gNe_bl, gEq_non, gNe_non, List.isEmpty_cons, List.isEmpty_nil]
      refine ⟨?_, hg.trans ((Grow.push _ _).trans gr)⟩
      have hh : (cans t).head? = some k := by
        unfold cans
        rw [List.head?_filter, List.find?_range_eq_some]
        refine ⟨by unfold canB; rw [hq]; rfl, List.mem_range.mpr hk, fun j hj => by rw [hno j hj]; rfl⟩
      unfold hdG
      rw [hh]
  · rintro l S' ⟨⟨u, rfl⟩, hg, hno⟩
    simp only [nG, sSeq, sSet, sRet, sRetN, sIf, sDrop, sNx, sBrk, sPar, sTg, sr_ok, rb_ok, ro_ok, so_ok, e1, e2, eA, eCl, eV, eC, eAnd, eOr, eNot, eIf, eCh, tV, tNot, tAnd, tOr, tYes, bof_bl, aNil, aCons, tgSet, setAll, lo0, bodyR_nx, bodyR_rt, R.wp_ok, SR.wp_nx, SR.wp_rt, SR.wp_bk, gAddA, gAdd, gSub, gLe, gLt, gGt, gGe, is_non, is_int, is_tup, is_bl, isn_non, isn_int, isn_tup, isn_bl, is_o, isn_o, gNeg, gTup1, gTup2, gTup3, gTup4, gTup5, gLst0, gLst1, gLst2, gLst3, eLstA0, List.length_cons, List.length_nil, List.map_cons, List.map_nil, List.cons_append, List.nil_append, List.replicate, Nat.sub_self, Nat.reduceSub, Nat.reduceAdd, List.getElem?_cons_zero, List.getElem?_cons_succ, List.set_cons_zero, List.set_cons_succ, Option.map_some, Bool.not_true, Bool.not_false, ite_true, ite_false, if_true, if_false, Bool.false_eq_true, gEq_int, gNe_int, gEq_bl, gNe_bl, gEq_non, gNe_non, List.isEmpty_cons, List.isEmpty_nil]
    refine ⟨?_, hg⟩
    have hh : (cans t).head? = none := by
      unfold cans
      rw [List.head?_filter, List.find?_range_eq_none]
      intro i hi
      have hi : i < 10 := by simpa using hi
      rw [hno i (by simpa using hi)]; rfl
    unfold hdG
    rw [hh]
end Lk14

end

section
set_option Elab.async false
set_option linter.all false
set_option maxRecDepth 100000
set_option maxHeartbeats 4000000
namespace Lk14
open PySem GL
variable {n : Nat} {S : Sto}
theorem Row.grow {Z S S' : Sto} (h : Row Z S) (g : Grow S S') : ∃ Z', Row Z' S' := by
  obtain ⟨sc, a, b, c, rfl, h1, h2⟩ := h
  obtain ⟨Y, rfl⟩ := g
  exact ⟨Z ++ Y, sc, a, b, c, rfl, h1, h2⟩
theorem pt0 {t : Tk} : gIx t.parts (.int 0) S = some (nsG t.rain) := rfl
theorem pt1 {t : Tk} : gIx t.parts (.int 1) S = some (nsG t.prices) := rfl
theorem pt2 {t : Tk} : gIx t.parts (.int 2) S = some (.int (t.cap : Nat)) := rfl
theorem pt3 {t : Tk} : gIx t.parts (.int 3) S = some (.int (t.lim : Nat)) := rfl
theorem pt4 {t : Tk} : gIx t.parts (.int 4) S = some (.int (t.lvl : Nat)) := rfl
theorem isOf_at {o : Nat} {t : Tk} (a : At S o t) : isOf "Task" S (.ref o) = true := by
  obtain ⟨fs, h⟩ := a.isa
  unfold isOf
  dsimp only
  rw [h]
  exact decide_eq_true rfl
theorem is_task_eq {o : Nat} {t : Tk} (a : At S o t) : callN tab (n + 1) (.fn "is_task") [.ref o] S = .ok (.bl true) S := by
  rw [cn_is_task n _ _ rfl]
  simp only [nG, sSeq, sSet, sRet, sRetN, sIf, sDrop, sNx, sBrk, sPar, sTg, sr_ok, rb_ok, ro_ok, so_ok, e1, e2, eA, eCl, eV, eC, eAnd, eOr, eNot, eIf, eCh, tV, tNot, tAnd, tOr, tYes, bof_bl, aNil, aCons, tgSet, setAll, lo0, bodyR_nx, bodyR_rt, R.wp_ok, SR.wp_nx, SR.wp_rt, SR.wp_bk, gAddA, gAdd, gSub, gLe, gLt, gGt, gGe, is_non, is_int, is_tup, is_bl, isn_non, isn_int, isn_tup, isn_bl, is_o, isn_o, gNeg, gTup1, gTup2, gTup3, gTup4, gTup5, gLst0, gLst1, gLst2, gLst3, eLstA0, List.length_cons, List.length_nil, List.map_cons, List.map_nil, List.cons_append, List.nil_append, List.replicate, Nat.sub_self, Nat.reduceSub, Nat.reduceAdd, List.getElem?_cons_zero, List.getElem?_cons_succ, List.set_cons_zero, List.set_cons_succ, Option.map_some, Bool.not_true, Bool.not_false, ite_true, ite_false, if_true, if_false, Bool.false_eq_true, gEq_int, gNe_int, gEq_bl, gNe_bl, gEq_non, gNe_non, List.isEmpty_cons, List.isEmpty_nil, sh_is_task, isa_task a]
theorem is_task_parts {t : Tk} : callN tab (n + 1) (.fn "is_task") [t.parts] S = .ok (.bl false) S := by
  rw [cn_is_task n _ _ rfl]
  have e : gIsi isaT [t.parts, .gl "Task"] S = some (.bl false) := rfl
  simp only [nG, sSeq, sSet, sRet, sRetN, sIf, sDrop, sNx, sBrk, sPar, sTg, sr_ok, rb_ok, ro_ok, so_ok, e1, e2, eA, eCl, eV, eC, eAnd, eOr, eNot, eIf, eCh, tV, tNot, tAnd, tOr, tYes, bof_bl, aNil, aCons, tgSet, setAll, lo0, bodyR_nx, bodyR_rt, R.wp_ok, SR.wp_nx, SR.wp_rt, SR.wp_bk, gAddA, gAdd, gSub, gLe, gLt, gGt, gGe, is_non, is_int, is_tup, is_bl, isn_non, isn_int, isn_tup, isn_bl, is_o, isn_o, gNeg, gTup1, gTup2, gTup3, gTup4, gTup5, gLst0, gLst1, gLst2, gLst3, eLstA0, List.length_cons, List.length_nil, List.map_cons, List.map_nil, List.cons_append, List.nil_append, List.replicate, Nat.sub_self, Nat.reduceSub, Nat.reduceAdd, List.getElem?_cons_zero, List.getElem?_cons_succ, List.set_cons_zero, List.set_cons_succ, Option.map_some, Bool.not_true, Bool.not_false, ite_true, ite_false, if_true, if_false, Bool.false_eq_true, gEq_int, gNe_int, gEq_bl, gNe_bl, gEq_non, gNe_non, List.isEmpty_cons, List.isEmpty_nil, sh_is_task, e]
theorem tupTab {t : Tk} : gTuple [.tl ((tabs t t.rp).map rowG)] S = some (tabG t) := rfl
theorem alike_pair {x y : G} (h1 : callN tab n (.fn "_law_alike") [x, x] S = .ok (.bl true) S) (h2 : callN tab n (.fn "_law_alike") [y, y] S = .ok (.bl true) S) : callN tab (n + 1) (.fn "_law_alike") [.tup [x, y], .tup [x, y]] S = .ok (.bl true) S :=
  alike_tup (by simp) fun z hz => by
    simp only [List.mem_cons, List.not_mem_nil, or_false] at hz
    rcases hz with rfl | rfl
    · exact h1
    · exact h2
theorem wp_cut {N : GL.Loc → Sto → Prop} {T : G → Sto → Prop} {B : GL.Loc → Sto → Prop} {p q : StM} {l : GL.Loc} (M : GL.Loc → Sto → Prop) (h1 : (p l S).wp M T B) (h2 : ∀ l S, M l S → (q l S).wp N T B) : (sSeq p q l S).wp N T B :=
  wp_seq (SR.wp_mono h1 h2 (fun _ _ h => h) fun _ _ h => h)
theorem sum_range {ms ps : List Nat} (h : ps.length = ms.length) : ((List.range ms.length).map fun k => (ms.getD k 0 : Int) * (ps.getD k 0 : Nat)) = (ms.zip ps).map fun x => (x.1 : Int) * x.2 := by
  apply List.ext_getElem
  · simp [h]
  · intro i h1 h2
    have hi : i < ms.length := by simpa using h1
    have hj : i < ps.length := by omega
    simp [List.getD, List.getElem?_eq_getElem hi, List.getElem?_eq_getElem hj]
theorem isi_ns {l : List Nat} : gIsi isaT [nsG l, .ty "tuple"] S = some (.bl true) := rfl
theorem eEqO_of {call : Calls} {a b : Ev} {l : GL.Loc} {S S1 S2 : Sto} {x y : G} {v : Bool} (ha : a l S = .ok x S1) (hb : b l S1 = .ok y S2) (hc : isOf "Task" S2 x = true ∧ (isTup y = true ∨ isOf "Task" S2 y = true)) (hcall : call (.me "Task" "__eq__") [x, y] S2 = .ok (.bl v) S2) :
    eEqO call "Task" a b l S = .ok (.bl v) S2 := by
  unfold eEqO
  rw [ha, rb_ok, hb, rb_ok, if_pos hc, hcall, rb_ok]
theorem eLc_wpT {S : Sto} {l : GL.Loc} {it : GL.Loc → Sto → R It} {own : List Nat} {g : Tg} {tt : Te} {e : Ev} {xs : List G} (h : it l S = .ok (.fix xs) S) (I : Nat → List G → Sto → Prop)
    (st : ∀ k x acc S, xs[k]? = some x → I k acc S → ∃ l', tgSet g x (wipeL l own) = some l' ∧ (tt l' S).wp fun b S => if b = true then (e l' S).wp fun y S => I (k + 1) (acc ++ [y]) S else I (k + 1) acc S) (h0 : I 0 [] S) :
    (eLc it own g tt e l S).wp fun g S' => ∃ ys, g = .tl ys ∧ I xs.length ys S' := by
  unfold eLc lcV
  rw [h, rb_ok]
  dsimp only
  refine wp_rb (R.wp_mono (lcGo_wp (I := I) (Q := I xs.length) xs 0 [] S (fun k x acc S q hi => ?_) h0 fun acc S hi => ?_) fun ys S hi => ?_)
  · rw [Nat.zero_add] at hi ⊢
    exact st k x acc S q hi
  · rw [Nat.zero_add] at hi; exact hi
  · exact ⟨ys, rfl, hi⟩
theorem addT {i j : List G} (h : i.length + j.length ≤ 1000) : gAddA (.tup i) (.tup j) S = some (.tup (i ++ j)) := by
  have e : gAdd (.tup i) (.tup j) S = some (.tup (i ++ j)) := if_pos (sz _ (by omega))
  unfold gAddA
  rw [e]
theorem sl1 {t : Tk} : gSl t.parts none (some 2) S = some (.tup [nsG t.rain, nsG t.prices]) := rfl
theorem sl2 {t : Tk} : gSl t.parts (some 3) none S = some (.tup [nG t.lim, nG t.lvl]) := rfl
theorem can_ok {t : Tk} (ok : t.Ok) {u0 u1 u2 u4 u5 u6 u7 u8 u9 u10 u11 u12 : Option G} :
    (eLc (itR1 (aCons (eC (.int 10)) aNil)) [12] (.nm 12) (tV (e2 gIsNot (e2 gIx (e2 gIx (eCl (callN tab (n + 11)) (.fn "_law_tables") (aCons (e2 gAddA (e2 gAddA (eSl (eV 3) none (some (eC (.int 2)))) (eA gTup (aCons (eV 12) aNil))) (eSl (eV 3) (some (eC (.int 3))) none)) aNil)) (eC (.int 0))) (e2 gIx (eV 3) (eC (.int 4)))) (eC .non))) (eV 12)
      [u0, u1, u2, some t.parts, u4, u5, u6, u7, u8, u9, u10, u11, u12] S).wp fun g S' => g = .tl ((cans t).map nG) ∧ Grow S S' := by
  refine R.wp_mono (eLc_wpT (xs := (List.range 10).map nG) (itR1_nat (n := 10) rfl (by omega)) (fun k acc S' => acc = ((List.range k).filter (canB t)).map nG ∧ Grow S S') ?_ ⟨rfl, .refl _⟩) ?_
  · rintro k x acc S' hx ⟨rfl, hg⟩
    rw [← intsFrom_zero] at hx
    obtain ⟨hk, rfl⟩ := intsFrom_get hx
    have okc := tc_ok ok (c := k) (by omega)
    obtain ⟨_, S2, d, rfl, g2⟩ := R.wp_iff.mp (law_tables_ok (n := n + 10) (S := S') okc)
    have h0 : gIx (.tl ((tabs (tc t k) (tc t k).rp).map rowG)) (.int 0) S2 = some (rowG (rowAt (tc t k) t.rp)) := ixtab (k := 0) (Nat.zero_le _)
    have h1 : gIx (rowG (rowAt (tc t k) t.rp)) (.int (t.lvl : Nat)) S2 = some (oG (val (tc t k) t.rp t.lvl)) := ixrow okc.lvl
    have ep : G.tup (([nsG t.rain, nsG t.prices] ++ [G.int (k : Nat)]) ++ [nG t.lim, nG t.lvl]) = (tc t k).parts := rfl
    refine ⟨_, rfl, ?_⟩
    simp only [wipeL, tV, e2, eCl, aCons, aNil, eSl, oE, eV, eC, eA, rb_ok, List.set_cons_zero, List.set_cons_succ, List.getElem?_cons_zero, List.getElem?_cons_succ, sl1, sl2, ro_ok, gTup1]
    rw [addT (by simp), ro_ok, rb_ok]
    rw [addT (by simp), ro_ok, rb_ok, rb_ok, ep, d, rb_ok, h0, ro_ok, rb_ok, pt4, ro_ok, rb_ok, h1, ro_ok, rb_ok, isn_o, ro_ok, rb_ok, bof_bl, R.wp_ok]
    have e : (List.range (k + 1)).filter (canB t) = (List.range k).filter (canB t) ++ (if canB t k = true then [k] else []) := by
      rw [List.range_succ, List.filter_append]
      cases q : canB t k with
      | true => rw [List.filter_cons_of_pos q]; rfl
      | false => rw [List.filter_cons_of_neg (by rw [q]; decide)]; rfl
    rw [e]
    have e2' : (val (tc t k) t.rp t.lvl).isSome = canB t k := rfl
    rw [e2']
    cases q : canB t k with
    | true => rw [if_pos rfl, if_pos rfl]; exact ⟨by simp [nG], hg.trans g2⟩
    | false => exact ⟨by simp, hg.trans g2⟩
  · rintro g S' ⟨ys, rfl, rfl, hg⟩
    exact ⟨rfl, hg⟩
theorem alike_hd (l : List Nat) : callN tab (n + 1) (.fn "_law_alike") [hdG l, hdG l] S = .ok (.bl true) S := by
  unfold hdG
  cases l.head? with
  | none => exact alike_non
  | some c => exact alike_int _
abbrev pA : As := aCons (e2 gIx (eV 3) (eC (.int 0))) (aCons (e2 gIx (eV 3) (eC (.int 1))) (aCons (e2 gIx (eV 3) (eC (.int 2))) (aCons (e2 gIx (eV 3) (eC (.int 3))) (aCons (e2 gIx (eV 3) (eC (.int 4))) aNil))))
noncomputable abbrev pB : As := aCons (e2 gIx (eV 3) (eC (.int 0))) (aCons (e2 gIx (eV 3) (eC (.int 1))) (aCons (e2 gMulA (e2 gAddA (e2 gIx (eV 3) (eC (.int 2))) (eC (.int 1))) (eA gInt (aCons (e2 gLt (e2 gIx (eV 3) (eC (.int 2))) (eC (.int 9))) aNil))) (aCons (e2 gIx (eV 3) (eC (.int 3))) (aCons (e2 gIx (eV 3) (eC (.int 4))) aNil))))
theorem pA_ev {t : Tk} {u0 u1 u2 u4 u5 u6 u7 u8 u9 u10 u11 u12 : Option G} : pA [u0, u1, u2, some t.parts, u4, u5, u6, u7, u8, u9, u10, u11, u12] S = .ok [nsG t.rain, nsG t.prices, .int (t.cap : Nat), .int (t.lim : Nat), .int (t.lvl : Nat)] S := by
  simp only [nG, sSeq, sSet, sRet, sRetN, sIf, sDrop, sNx, sBrk, sPar, sTg, sr_ok, rb_ok, ro_ok, so_ok, e1, e2, eA, eCl, eV, eC, eAnd, eOr, eNot, eIf, eCh, tV, tNot, tAnd, tOr, tYes, bof_bl, aNil, aCons, tgSet, setAll, lo0, bodyR_nx, bodyR_rt, R.wp_ok, SR.wp_nx, SR.wp_rt, SR.wp_bk, gAddA, gAdd, gSub, gLe, gLt, gGt, gGe, is_non, is_int, is_tup, is_bl, isn_non, isn_int, isn_tup, isn_bl, is_o, isn_o, gNeg, gTup1, gTup2, gTup3, gTup4, gTup5, gLst0, gLst1, gLst2, gLst3, eLstA0, List.length_cons, List.length_nil, List.map_cons, List.map_nil, List.cons_append, List.nil_append, List.replicate, Nat.sub_self, Nat.reduceSub, Nat.reduceAdd, List.getElem?_cons_zero, List.getElem?_cons_succ, List.set_cons_zero, List.set_cons_succ, Option.map_some, Bool.not_true, Bool.not_false, ite_true, ite_false, if_true, if_false, Bool.false_eq_true, gEq_int, gNe_int, gEq_bl, gNe_bl, gEq_non, gNe_non, List.isEmpty_cons, List.isEmpty_nil, pt0, pt1, pt2, pt3, pt4]
def nextC (c : Nat) : Nat := if c < 9 then c + 1 else 0
theorem pB_ev {t : Tk} (ok : t.Ok) {u0 u1 u2 u4 u5 u6 u7 u8 u9 u10 u11 u12 : Option G} : pB [u0, u1, u2, some t.parts, u4, u5, u6, u7, u8, u9, u10, u11, u12] S = .ok [nsG t.rain, nsG t.prices, .int (nextC t.cap : Nat), .int (t.lim : Nat), .int (t.lvl : Nat)] S := by
  have hcap := ok.cap
  have gi : ∀ b : Bool, gInt [.bl b] S = some (.int (if b then 1 else 0)) := fun _ => rfl
  have gm : ∀ j : Int, gMulA (.int ((t.cap : Int) + 1)) (.int j) S = some (.int (((t.cap : Int) + 1) * j)) := fun j => mul_b (by omega) (by omega)
  simp only [nG, sSeq, sSet, sRet, sRetN, sIf, sDrop, sNx, sBrk, sPar, sTg, sr_ok, rb_ok, ro_ok, so_ok, e1, e2, eA, eCl, eV, eC, eAnd, eOr, eNot, eIf, eCh, tV, tNot, tAnd, tOr, tYes, bof_bl, aNil, aCons, tgSet, setAll, lo0, bodyR_nx, bodyR_rt, R.wp_ok, SR.wp_nx, SR.wp_rt, SR.wp_bk, gAddA, gAdd, gSub, gLe, gLt, gGt, gGe, is_non, is_int, is_tup, is_bl, isn_non, isn_int, isn_tup, isn_bl, is_o, isn_o, gNeg, gTup1, gTup2, gTup3, gTup4, gTup5, gLst0, gLst1, gLst2, gLst3, eLstA0, List.length_cons, List.length_nil, List.map_cons, List.map_nil, List.cons_append, List.nil_append, List.replicate, Nat.sub_self, Nat.reduceSub, Nat.reduceAdd, List.getElem?_cons_zero, List.getElem?_cons_succ, List.set_cons_zero, List.set_cons_succ, Option.map_some, Bool.not_true, Bool.not_false, ite_true, ite_false, if_true, if_false, Bool.false_eq_true, gEq_int, gNe_int, gEq_bl, gNe_bl, gEq_non, gNe_non, List.isEmpty_cons, List.isEmpty_nil, pt0, pt1, pt2, pt3, pt4, gi, gm]
  unfold nextC
  by_cases c : t.cap < 9
  · have d : decide ((t.cap : Int) < 9) = true := decide_eq_true (by omega)
    rw [if_pos c, d, if_pos rfl, show ((t.cap : Int) + 1) * 1 = ((t.cap + 1 : Nat) : Int) by omega]
  · have d : decide ((t.cap : Int) < 9) = false := decide_eq_false (by omega)
    rw [if_neg c, d, if_neg (by decide), show ((t.cap : Int) + 1) * 0 = ((0 : Nat) : Int) by omega]
theorem law_ok (sc : List Int) : (callN tab (n + 12) (.fn "law") [.fz (sc.map iG)] []).wp fun g _ => g = .bl true := by
  rw [cn_law (n + 11) _ _ rfl]
  refine wp_body ?_
  unfold sh_law
  refine wp_seq (wp_set ?_)
  simp only [nG, sSeq, sSet, sRet, sRetN, sIf, sDrop, sNx, sBrk, sPar, sTg, sr_ok, rb_ok, ro_ok, so_ok, e1, e2, eA, eCl, eV, eC, eAnd, eOr, eNot, eIf, eCh, tV, tNot, tAnd, tOr, tYes, bof_bl, aNil, aCons, tgSet, setAll, lo0, bodyR_nx, bodyR_rt, R.wp_ok, SR.wp_nx, SR.wp_rt, SR.wp_bk, gAddA, gAdd, gSub, gLe, gLt, gGt, gGe, is_non, is_int, is_tup, is_bl, isn_non, isn_int, isn_tup, isn_bl, is_o, isn_o, gNeg, gTup1, gTup2, gTup3, gTup4, gTup5, gLst0, gLst1, gLst2, gLst3, eLstA0, List.length_cons, List.length_nil, List.map_cons, List.map_nil, List.cons_append, List.nil_append, List.replicate, Nat.sub_self, Nat.reduceSub, Nat.reduceAdd, List.getElem?_cons_zero, List.getElem?_cons_succ, List.set_cons_zero, List.set_cons_succ, Option.map_some, Bool.not_true, Bool.not_false, ite_true, ite_false, if_true, if_false, Bool.false_eq_true, gEq_int, gNe_int, gEq_bl, gNe_bl, gEq_non, gNe_non, List.isEmpty_cons, List.isEmpty_nil, eLstA]
  rw [if_pos (sz 4 (by omega)), R.wp_ok]
  refine wp_seq (wp_for (xs := (List.range 4).map nG) ?_
    (fun k l S => (∃ u2 u3 u4 u5 u6 u7 u8 u9 u10 u11 u12, l = [some (.fz (sc.map iG)), some (.ref 0), u2, u3, u4, u5, u6, u7, u8, u9, u10, u11, u12]) ∧ ∃ Z, Row Z S) ?_ ⟨⟨_, _, _, _, _, _, _, _, _, _, _, rfl⟩, [], sc, 0, 7141, 0, rfl, by omega, by omega⟩ ?_)
  · exact itR1_nat (n := 4) rfl (by omega)
  · rintro k' x l S hx ⟨⟨u2, u3, u4, u5, u6, u7, u8, u9, u10, u11, u12, rfl⟩, Z, hrow⟩
    rw [← intsFrom_zero] at hx
    obtain ⟨hk', rfl⟩ := intsFrom_get hx
    refine ⟨_, rfl, ?_⟩
    obtain ⟨_, S1, d1, ⟨most, hmost, rfl⟩, hr1⟩ := R.wp_iff.mp (pick_ok (n := n + 9) (xs := [4, 8, 12]) hrow (by simp) (by simp))
    have hm12 : most ≤ 12 := by simp at hmost; omega
    simp only [nG, List.map_cons, List.map_nil, Int.cast_ofNat_Int] at d1
    obtain ⟨_, S2, d2, ⟨t, ok, rfl⟩, hr2⟩ := R.wp_iff.mp (task_ok (n := n + 8) hr1 hm12)
    refine wp_seq ?_
    simp only [nG, sSet, sRet, sRetN, sIf, sDrop, sNx, sBrk, sPar, sTg, sr_ok, rb_ok, ro_ok, so_ok, e1, e2, eA, eCl, eV, eC, eAnd, eOr, eNot, eIf, eCh, tV, tNot, tAnd, tOr, tYes, bof_bl, aNil, aCons, tgSet, setAll, lo0, bodyR_nx, bodyR_rt, R.wp_ok, SR.wp_nx, SR.wp_rt, SR.wp_bk, gAddA, gAdd, gSub, gLe, gLt, gGt, gGe, is_non, is_int, is_tup, is_bl, isn_non, isn_int, isn_tup, isn_bl, is_o, isn_o, gNeg, gTup1, gTup2, gTup3, gTup4, gTup5, gLst0, gLst1, gLst2, gLst3, eLstA0, List.length_cons, List.length_nil, List.map_cons, List.map_nil, List.cons_append, List.nil_append, List.replicate, Nat.sub_self, Nat.reduceSub, Nat.reduceAdd, List.getElem?_cons_zero, List.getElem?_cons_succ, List.set_cons_zero, List.set_cons_succ, Option.map_some, Bool.not_true, Bool.not_false, ite_true, ite_false, if_true, if_false, Bool.false_eq_true, gEq_int, gNe_int, gEq_bl, gNe_bl, gEq_non, gNe_non, List.isEmpty_cons, List.isEmpty_nil, d1, d2]
    -- the task, the tables
    refine wp_seq ?_
    obtain ⟨_, S4, d4, rfl, g4⟩ := R.wp_iff.mp (law_tables_ok (n := n + 10) (S := S2 ++ [.ins "Task" (fieldsOf t)]) ok)
    have a4 : At S4 S2.length t := (at_new (S := S2) t).grow g4
    obtain ⟨Z4, hr4⟩ := hr2.grow ((Grow.push S2 [.ins "Task" (fieldsOf t)]).trans g4)
    simp only [sPar]
    rw [eMk_of (n := n + 6) (S := S2) ok (by simp only [nG, sSeq, sSet, sRet, sRetN, sIf, sDrop, sNx, sBrk, sPar, sTg, sr_ok, rb_ok, ro_ok, so_ok, e1, e2, eA, eCl, eV, eC, eAnd, eOr, eNot, eIf, eCh, tV, tNot, tAnd, tOr, tYes, bof_bl, aNil, aCons, tgSet, setAll, lo0, bodyR_nx, bodyR_rt, R.wp_ok, SR.wp_nx, SR.wp_rt, SR.wp_bk, gAddA, gAdd, gSub, gLe, gLt, gGt, gGe, is_non, is_int, is_tup, is_bl, isn_non, isn_int, isn_tup, isn_bl, is_o, isn_o, gNeg, gTup1, gTup2, gTup3, gTup4, gTup5, gLst0, gLst1, gLst2, gLst3, eLstA0, List.length_cons, List.length_nil, List.map_cons, List.map_nil, List.cons_append, List.nil_append, List.replicate, Nat.sub_self, Nat.reduceSub, Nat.reduceAdd, List.getElem?_cons_zero, List.getElem?_cons_succ, List.set_cons_zero, List.set_cons_succ, Option.map_some, Bool.not_true, Bool.not_false, ite_true, ite_false, if_true, if_false, Bool.false_eq_true, gEq_int, gNe_int, gEq_bl, gNe_bl, gEq_non, gNe_non, List.isEmpty_cons, List.isEmpty_nil, pt0, pt1, pt2, pt3, pt4])]
    simp only [nG, sSet, sRet, sRetN, sIf, sDrop, sNx, sBrk, sPar, sTg, sr_ok, rb_ok, ro_ok, so_ok, e1, e2, eA, eCl, eV, eC, eAnd, eOr, eNot, eIf, eCh, tV, tNot, tAnd, tOr, tYes, bof_bl, aNil, aCons, tgSet, setAll, lo0, bodyR_nx, bodyR_rt, R.wp_ok, SR.wp_nx, SR.wp_rt, SR.wp_bk, gAddA, gAdd, gSub, gLe, gLt, gGt, gGe, is_non, is_int, is_tup, is_bl, isn_non, isn_int, isn_tup, isn_bl, is_o, isn_o, gNeg, gTup1, gTup2, gTup3, gTup4, gTup5, gLst0, gLst1, gLst2, gLst3, eLstA0, List.length_cons, List.length_nil, List.map_cons, List.map_nil, List.cons_append, List.nil_append, List.replicate, Nat.sub_self, Nat.reduceSub, Nat.reduceAdd, List.getElem?_cons_zero, List.getElem?_cons_succ, List.set_cons_zero, List.set_cons_succ, Option.map_some, Bool.not_true, Bool.not_false, ite_true, ite_false, if_true, if_false, Bool.false_eq_true, gEq_int, gNe_int, gEq_bl, gNe_bl, gEq_non, gNe_non, List.isEmpty_cons, List.isEmpty_nil, d4]
    generalize S2.length = o at a4
    clear hr2 hr1 hrow d4 g4 d1 d2
    have h0 : ∀ S, gIx (.tl ((tabs t t.rp).map rowG)) (.int 0) S = some (rowG (rowAt t t.rp)) := fun S => ixtab (k := 0) (Nat.zero_le _)
    have h1 : ∀ S, gIx (rowG (rowAt t t.rp)) (.int (t.lvl : Nat)) S = some (oG (val t t.rp t.lvl)) := fun S => ixrow ok.lvl
    obtain ⟨fg, S5, d5, g5, hnone, hsome⟩ := R.wp_iff.mp (plan_ok (n := n + 6) ok a4)
    have a5 := a4.grow g5
    obtain ⟨Z5, hr5⟩ := hr4.grow g5
    refine wp_seq ?_
    simp only [nG, sSet, sRet, sRetN, sIf, sDrop, sNx, sBrk, sPar, sTg, sr_ok, rb_ok, ro_ok, so_ok, e1, e2, eA, eCl, eV, eC, eAnd, eOr, eNot, eIf, eCh, tV, tNot, tAnd, tOr, tYes, bof_bl, aNil, aCons, tgSet, setAll, lo0, bodyR_nx, bodyR_rt, R.wp_ok, SR.wp_nx, SR.wp_rt, SR.wp_bk, gAddA, gAdd, gSub, gLe, gLt, gGt, gGe, is_non, is_int, is_tup, is_bl, isn_non, isn_int, isn_tup, isn_bl, is_o, isn_o, gNeg, gTup1, gTup2, gTup3, gTup4, gTup5, gLst0, gLst1, gLst2, gLst3, eLstA0, List.length_cons, List.length_nil, List.map_cons, List.map_nil, List.cons_append, List.nil_append, List.replicate, Nat.sub_self, Nat.reduceSub, Nat.reduceAdd, List.getElem?_cons_zero, List.getElem?_cons_succ, List.set_cons_zero, List.set_cons_succ, Option.map_some, Bool.not_true, Bool.not_false, ite_true, ite_false, if_true, if_false, Bool.false_eq_true, gEq_int, gNe_int, gEq_bl, gNe_bl, gEq_non, gNe_non, List.isEmpty_cons, List.isEmpty_nil, h0, h1, pt4, d5]
    -- alike
    obtain ⟨_, S6, d6, rfl, g6⟩ := R.wp_iff.mp (tables_ok (n := n + 6) ok a5)
    have a6 := a5.grow g6
    obtain ⟨_, S7, d7, rfl, g7⟩ := R.wp_iff.mp (least_price_ok (n := n + 6) ok a6)
    have a7 := a6.grow g7
    obtain ⟨Z7, hr7⟩ := hr5.grow (g6.trans g7)
    rw [show ((rowAt t t.rp)[t.lvl]?).getD none = val t t.rp t.lvl from rfl] at d7
    rw [show G.tup ((tabs t t.rp).map rowG) = tabG t from rfl] at d6
    have al1 : callN tab (n + 11) (.fn "_law_alike") [.tup [tabG t, oG (val t t.rp t.lvl)], .tup [tabG t, oG (val t t.rp t.lvl)]] S7 = .ok (.bl true) S7 := alike_pair (alike_tab (n := n + 7) ok) (alike_o _)
    have al2 : callN tab (n + 11) (.fn "_law_alike") [t.parts, t.parts] S7 = .ok (.bl true) S7 := alike_parts (n := n + 8) ok
    have hfound : gIs fg .non S7 = some (.bl (val t t.rp t.lvl).isNone) := by
      cases q : val t t.rp t.lvl with
      | none => rw [hnone q]; rfl
      | some v => obtain ⟨ms, rfl, _⟩ := hsome v q; rfl
    refine wp_seq ?_
    simp only [nG, sSet, sRet, sRetN, sIf, sDrop, sNx, sBrk, sPar, sTg, sr_ok, rb_ok, ro_ok, so_ok, e1, e2, eA, eCl, eV, eC, eAnd, eOr, eNot, eIf, eCh, tV, tNot, tAnd, tOr, tYes, bof_bl, aNil, aCons, tgSet, setAll, lo0, bodyR_nx, bodyR_rt, R.wp_ok, SR.wp_nx, SR.wp_rt, SR.wp_bk, gAddA, gAdd, gSub, gLe, gLt, gGt, gGe, is_non, is_int, is_tup, is_bl, isn_non, isn_int, isn_tup, isn_bl, is_o, isn_o, gNeg, gTup1, gTup2, gTup3, gTup4, gTup5, gLst0, gLst1, gLst2, gLst3, eLstA0, List.length_cons, List.length_nil, List.map_cons, List.map_nil, List.cons_append, List.nil_append, List.replicate, Nat.sub_self, Nat.reduceSub, Nat.reduceAdd, List.getElem?_cons_zero, List.getElem?_cons_succ, List.set_cons_zero, List.set_cons_succ, Option.map_some, Bool.not_true, Bool.not_false, ite_true, ite_false, if_true, if_false, Bool.false_eq_true, gEq_int, gNe_int, gEq_bl, gNe_bl, gEq_non, gNe_non, List.isEmpty_cons, List.isEmpty_nil, d6, d7, tupTab, al1, hfound, decide_true]
    refine wp_seq ?_
    simp only [nG, sSet, sRet, sRetN, sIf, sDrop, sNx, sBrk, sPar, sTg, sr_ok, rb_ok, ro_ok, so_ok, e1, e2, eA, eCl, eV, eC, eAnd, eOr, eNot, eIf, eCh, tV, tNot, tAnd, tOr, tYes, bof_bl, aNil, aCons, tgSet, setAll, lo0, bodyR_nx, bodyR_rt, R.wp_ok, SR.wp_nx, SR.wp_rt, SR.wp_bk, gAddA, gAdd, gSub, gLe, gLt, gGt, gGe, is_non, is_int, is_tup, is_bl, isn_non, isn_int, isn_tup, isn_bl, is_o, isn_o, gNeg, gTup1, gTup2, gTup3, gTup4, gTup5, gLst0, gLst1, gLst2, gLst3, eLstA0, List.length_cons, List.length_nil, List.map_cons, List.map_nil, List.cons_append, List.nil_append, List.replicate, Nat.sub_self, Nat.reduceSub, Nat.reduceAdd, List.getElem?_cons_zero, List.getElem?_cons_succ, List.set_cons_zero, List.set_cons_succ, Option.map_some, Bool.not_true, Bool.not_false, ite_true, ite_false, if_true, if_false, Bool.false_eq_true, gEq_int, gNe_int, gEq_bl, gNe_bl, gEq_non, gNe_non, List.isEmpty_cons, List.isEmpty_nil, a7.rain, a7.prices, a7.cap, a7.lim, a7.lvl]
    rw [show G.tup [nsG t.rain, nsG t.prices, .int (t.cap : Nat), .int (t.lim : Nat), .int (t.lvl : Nat)] = t.parts from rfl]
    simp only [nG, sSet, sRet, sRetN, sIf, sDrop, sNx, sBrk, sPar, sTg, sr_ok, rb_ok, ro_ok, so_ok, e1, e2, eA, eCl, eV, eC, eAnd, eOr, eNot, eIf, eCh, tV, tNot, tAnd, tOr, tYes, bof_bl, aNil, aCons, tgSet, setAll, lo0, bodyR_nx, bodyR_rt, R.wp_ok, SR.wp_nx, SR.wp_rt, SR.wp_bk, gAddA, gAdd, gSub, gLe, gLt, gGt, gGe, is_non, is_int, is_tup, is_bl, isn_non, isn_int, isn_tup, isn_bl, is_o, isn_o, gNeg, gTup1, gTup2, gTup3, gTup4, gTup5, gLst0, gLst1, gLst2, gLst3, eLstA0, List.length_cons, List.length_nil, List.map_cons, List.map_nil, List.cons_append, List.nil_append, List.replicate, Nat.sub_self, Nat.reduceSub, Nat.reduceAdd, List.getElem?_cons_zero, List.getElem?_cons_succ, List.set_cons_zero, List.set_cons_succ, Option.map_some, Bool.not_true, Bool.not_false, ite_true, ite_false, if_true, if_false, Bool.false_eq_true, gEq_int, gNe_int, gEq_bl, gNe_bl, gEq_non, gNe_non, List.isEmpty_cons, List.isEmpty_nil, al2, is_task_eq a7, is_task_parts, decide_true]
    refine wp_cut (fun l S8 => (∃ u8 u9 u10, l = [some (.fz (sc.map iG)), some (.ref 0), some (.int (k' : Nat)), some t.parts, some (.ref o), some (.tl ((tabs t t.rp).map rowG)), some (oG (val t t.rp t.lvl)), some fg, u8, u9, u10, u11, u12]) ∧ Grow S7 S8) ?_ ?_
    · cases hv : val t t.rp t.lvl with
      | none =>
        rw [hnone hv]
        simp only [nG, sSet, sRet, sRetN, sIf, sDrop, sNx, sBrk, sPar, sTg, sr_ok, rb_ok, ro_ok, so_ok, e1, e2, eA, eCl, eV, eC, eAnd, eOr, eNot, eIf, eCh, tV, tNot, tAnd, tOr, tYes, bof_bl, aNil, aCons, tgSet, setAll, lo0, bodyR_nx, bodyR_rt, R.wp_ok, SR.wp_nx, SR.wp_rt, SR.wp_bk, gAddA, gAdd, gSub, gLe, gLt, gGt, gGe, is_non, is_int, is_tup, is_bl, isn_non, isn_int, isn_tup, isn_bl, is_o, isn_o, gNeg, gTup1, gTup2, gTup3, gTup4, gTup5, gLst0, gLst1, gLst2, gLst3, eLstA0, List.length_cons, List.length_nil, List.map_cons, List.map_nil, List.cons_append, List.nil_append, List.replicate, Nat.sub_self, Nat.reduceSub, Nat.reduceAdd, List.getElem?_cons_zero, List.getElem?_cons_succ, List.set_cons_zero, List.set_cons_succ, Option.map_some, Bool.not_true, Bool.not_false, ite_true, ite_false, if_true, if_false, Bool.false_eq_true, gEq_int, gNe_int, gEq_bl, gNe_bl, gEq_non, gNe_non, List.isEmpty_cons, List.isEmpty_nil]
        exact ⟨⟨_, _, _, rfl⟩, .refl _⟩
      | some v =>
        obtain ⟨ms, rfl, hp⟩ := hsome v hv
        have hlen := hp.len
        rw [rp_len ok] at hlen
        have hn := ok.most
        have hcost := hp.cost ok.lvl
        rw [rp_prices ok, hv] at hcost
        have hvc : v = costP ms t.prices := Option.some.inj hcost
        have dl : decide ((ms.length : Int) = (t.rain.length : Int)) = true := decide_eq_true (by omega)
        simp only [nG, sSet, sRet, sRetN, sIf, sDrop, sNx, sBrk, sPar, sTg, sr_ok, rb_ok, ro_ok, so_ok, e1, e2, eA, eCl, eV, eC, eAnd, eOr, eNot, eIf, eCh, tV, tNot, tAnd, tOr, tYes, bof_bl, aNil, aCons, tgSet, setAll, lo0, bodyR_nx, bodyR_rt, R.wp_ok, SR.wp_nx, SR.wp_rt, SR.wp_bk, gAddA, gAdd, gSub, gLe, gLt, gGt, gGe, is_non, is_int, is_tup, is_bl, isn_non, isn_int, isn_tup, isn_bl, is_o, isn_o, gNeg, gTup1, gTup2, gTup3, gTup4, gTup5, gLst0, gLst1, gLst2, gLst3, eLstA0, List.length_cons, List.length_nil, List.map_cons, List.map_nil, List.cons_append, List.nil_append, List.replicate, Nat.sub_self, Nat.reduceSub, Nat.reduceAdd, List.getElem?_cons_zero, List.getElem?_cons_succ, List.set_cons_zero, List.set_cons_succ, Option.map_some, Bool.not_true, Bool.not_false, ite_true, ite_false, if_true, if_false, Bool.false_eq_true, gEq_int, gNe_int, gEq_bl, gNe_bl, gEq_non, gNe_non, List.isEmpty_cons, List.isEmpty_nil, isn_ns]
        refine wp_seq ?_
        simp only [nG, sSet, sRet, sRetN, sIf, sDrop, sNx, sBrk, sPar, sTg, sr_ok, rb_ok, ro_ok, so_ok, e1, e2, eA, eCl, eV, eC, eAnd, eOr, eNot, eIf, eCh, tV, tNot, tAnd, tOr, tYes, bof_bl, aNil, aCons, tgSet, setAll, lo0, bodyR_nx, bodyR_rt, R.wp_ok, SR.wp_nx, SR.wp_rt, SR.wp_bk, gAddA, gAdd, gSub, gLe, gLt, gGt, gGe, is_non, is_int, is_tup, is_bl, isn_non, isn_int, isn_tup, isn_bl, is_o, isn_o, gNeg, gTup1, gTup2, gTup3, gTup4, gTup5, gLst0, gLst1, gLst2, gLst3, eLstA0, List.length_cons, List.length_nil, List.map_cons, List.map_nil, List.cons_append, List.nil_append, List.replicate, Nat.sub_self, Nat.reduceSub, Nat.reduceAdd, List.getElem?_cons_zero, List.getElem?_cons_succ, List.set_cons_zero, List.set_cons_succ, Option.map_some, Bool.not_true, Bool.not_false, ite_true, ite_false, if_true, if_false, Bool.false_eq_true, gEq_int, gNe_int, gEq_bl, gNe_bl, gEq_non, gNe_non, List.isEmpty_cons, List.isEmpty_nil, pt4]
        refine wp_seq ?_
        simp only [nG, sSet, sRet, sRetN, sIf, sDrop, sNx, sBrk, sPar, sTg, sr_ok, rb_ok, ro_ok, so_ok, e1, e2, eA, eCl, eV, eC, eAnd, eOr, eNot, eIf, eCh, tV, tNot, tAnd, tOr, tYes, bof_bl, aNil, aCons, tgSet, setAll, lo0, bodyR_nx, bodyR_rt, R.wp_ok, SR.wp_nx, SR.wp_rt, SR.wp_bk, gAddA, gAdd, gSub, gLe, gLt, gGt, gGe, is_non, is_int, is_tup, is_bl, isn_non, isn_int, isn_tup, isn_bl, is_o, isn_o, gNeg, gTup1, gTup2, gTup3, gTup4, gTup5, gLst0, gLst1, gLst2, gLst3, eLstA0, List.length_cons, List.length_nil, List.map_cons, List.map_nil, List.cons_append, List.nil_append, List.replicate, Nat.sub_self, Nat.reduceSub, Nat.reduceAdd, List.getElem?_cons_zero, List.getElem?_cons_succ, List.set_cons_zero, List.set_cons_succ, Option.map_some, Bool.not_true, Bool.not_false, ite_true, ite_false, if_true, if_false, Bool.false_eq_true, gEq_int, gNe_int, gEq_bl, gNe_bl, gEq_non, gNe_non, List.isEmpty_cons, List.isEmpty_nil, isi_ns, len_nsG, pt0, dl]
        refine wp_seq (wp_for (xs := (List.range ms.length).map nG) ?_
          (fun k l S' => ∃ u10 w Z acc, l = [some (.fz (sc.map iG)), some (.ref 0), some (.int (k' : Nat)), some t.parts, some (.ref o), some (.tl ((tabs t t.rp).map rowG)), some (oG (some v)), some (nsG ms), some (.ref S7.length), some (.int (w : Nat)), u10, u11, u12] ∧ S' = S7 ++ .lst true (acc.map nG) :: Z ∧
            IsPath t (t.rp.drop k) w (ms.drop k) ∧ levs t.lvl t.rp ms = acc ++ levs w (t.rp.drop k) (ms.drop k) ∧ acc.length ≤ k) ?_ ⟨_, t.lvl, [], [], rfl, rfl, hp, rfl, Nat.le_refl _⟩ ?_)
        · exact itR1_nat (n := ms.length) (by simp only [nG, sSeq, sSet, sRet, sRetN, sIf, sDrop, sNx, sBrk, sPar, sTg, sr_ok, rb_ok, ro_ok, so_ok, e1, e2, eA, eCl, eV, eC, eAnd, eOr, eNot, eIf, eCh, tV, tNot, tAnd, tOr, tYes, bof_bl, aNil, aCons, tgSet, setAll, lo0, bodyR_nx, bodyR_rt, R.wp_ok, SR.wp_nx, SR.wp_rt, SR.wp_bk, gAddA, gAdd, gSub, gLe, gLt, gGt, gGe, is_non, is_int, is_tup, is_bl, isn_non, isn_int, isn_tup, isn_bl, is_o, isn_o, gNeg, gTup1, gTup2, gTup3, gTup4, gTup5, gLst0, gLst1, gLst2, gLst3, eLstA0, List.length_cons, List.length_nil, List.map_cons, List.map_nil, List.cons_append, List.nil_append, List.replicate, Nat.sub_self, Nat.reduceSub, Nat.reduceAdd, List.getElem?_cons_zero, List.getElem?_cons_succ, List.set_cons_zero, List.set_cons_succ, Option.map_some, Bool.not_true, Bool.not_false, ite_true, ite_false, if_true, if_false, Bool.false_eq_true, gEq_int, gNe_int, gEq_bl, gNe_bl, gEq_non, gNe_non, List.isEmpty_cons, List.isEmpty_nil, len_nsG]) (by omega)
        · rintro k x l S' hx ⟨u10, w, Z, acc, rfl, rfl, hpath, hlev, hacc⟩
          rw [← intsFrom_zero] at hx
          obtain ⟨hk, rfl⟩ := intsFrom_get hx
          obtain ⟨m, hm, hdm⟩ := drop_cons hk
          obtain ⟨r, p, hr, hp', hd⟩ := rp_get ok (k := k) (by omega)
          rw [hd, hdm] at hpath hlev
          obtain ⟨q1, q2, q3, q4, q5⟩ := hpath
          have he : (w : Int) + (r : Int) - (m : Int) = ((w + r - m : Nat) : Int) := by omega
          have b1 : decide (0 ≤ (m : Int)) = true := decide_eq_true (by omega)
          have b2 : decide ((m : Int) ≤ (t.cap : Int)) = true := decide_eq_true (by omega)
          have b3 : decide (0 ≤ ((w + r - m : Nat) : Int)) = true := decide_eq_true (by omega)
          have b4 : decide (((w + r - m : Nat) : Int) ≤ (t.lim : Int)) = true := decide_eq_true (by omega)
          refine ⟨_, rfl, ?_⟩
          refine wp_seq ?_
          simp only [nG, sSet, sRet, sRetN, sIf, sDrop, sNx, sBrk, sPar, sTg, sr_ok, rb_ok, ro_ok, so_ok, e1, e2, eA, eCl, eV, eC, eAnd, eOr, eNot, eIf, eCh, tV, tNot, tAnd, tOr, tYes, bof_bl, aNil, aCons, tgSet, setAll, lo0, bodyR_nx, bodyR_rt, R.wp_ok, SR.wp_nx, SR.wp_rt, SR.wp_bk, gAddA, gAdd, gSub, gLe, gLt, gGt, gGe, is_non, is_int, is_tup, is_bl, isn_non, isn_int, isn_tup, isn_bl, is_o, isn_o, gNeg, gTup1, gTup2, gTup3, gTup4, gTup5, gLst0, gLst1, gLst2, gLst3, eLstA0, List.length_cons, List.length_nil, List.map_cons, List.map_nil, List.cons_append, List.nil_append, List.replicate, Nat.sub_self, Nat.reduceSub, Nat.reduceAdd, List.getElem?_cons_zero, List.getElem?_cons_succ, List.set_cons_zero, List.set_cons_succ, Option.map_some, Bool.not_true, Bool.not_false, ite_true, ite_false, if_true, if_false, Bool.false_eq_true, gEq_int, gNe_int, gEq_bl, gNe_bl, gEq_non, gNe_non, List.isEmpty_cons, List.isEmpty_nil, pt0, ixn hr, ixn hm, he]
          refine wp_seq (wp_drop ?_)
          rw [eML_of (o := S7.length) (xs := acc.map nG) (x := nG (w + r - m)) rfl get_mid rfl (by simp; omega), R.wp_ok, set_mid]
          simp only [nG, sSet, sRet, sRetN, sIf, sDrop, sNx, sBrk, sPar, sTg, sr_ok, rb_ok, ro_ok, so_ok, e1, e2, eA, eCl, eV, eC, eAnd, eOr, eNot, eIf, eCh, tV, tNot, tAnd, tOr, tYes, bof_bl, aNil, aCons, tgSet, setAll, lo0, bodyR_nx, bodyR_rt, R.wp_ok, SR.wp_nx, SR.wp_rt, SR.wp_bk, gAddA, gAdd, gSub, gLe, gLt, gGt, gGe, is_non, is_int, is_tup, is_bl, isn_non, isn_int, isn_tup, isn_bl, is_o, isn_o, gNeg, gTup1, gTup2, gTup3, gTup4, gTup5, gLst0, gLst1, gLst2, gLst3, eLstA0, List.length_cons, List.length_nil, List.map_cons, List.map_nil, List.cons_append, List.nil_append, List.replicate, Nat.sub_self, Nat.reduceSub, Nat.reduceAdd, List.getElem?_cons_zero, List.getElem?_cons_succ, List.set_cons_zero, List.set_cons_succ, Option.map_some, Bool.not_true, Bool.not_false, ite_true, ite_false, if_true, if_false, Bool.false_eq_true, gEq_int, gNe_int, gEq_bl, gNe_bl, gEq_non, gNe_non, List.isEmpty_cons, List.isEmpty_nil, ixn hm, b1, pt2, b2, b3, pt3, b4]
          refine ⟨_, w + r - m, Z, acc ++ [w + r - m], rfl, by simp [nG], q5, ?_, by simp; omega⟩
          rw [hlev, List.append_assoc]
          rfl
        · rintro l S' ⟨u10, w, Z, acc, rfl, rfl, _, hlev, _⟩
          rw [List.length_map, List.length_range, List.drop_length] at hlev
          have hacc : levs t.lvl t.rp ms = acc := by rw [hlev]; cases (List.drop ms.length t.rp) <;> simp [levs]
          generalize hS8 : S7 ++ GO.lst true (acc.map nG) :: Z = S8
          have g8 : Grow S7 S8 := by rw [← hS8]; exact .push _ _
          have hst : ∀ {S}, Grow S8 S → gTuple [.ref S7.length] S = some (nsG acc) := fun {S} g => by
            have : S[S7.length]? = some (.lst true (acc.map nG)) := g.get (by rw [← hS8]; exact get_mid)
            show (seqG S (.ref S7.length)).map (fun l => G.tup l) = _
            rw [show seqG S (.ref S7.length) = lstAt S S7.length from rfl, lst_of this]; rfl
          have a8 := a7.grow g8
          obtain ⟨_, S9, d9, rfl, g9⟩ := R.wp_iff.mp (levels_of_ok (n := n + 9) ok a8 hp)
          obtain ⟨_, S10, d10, rfl, g10⟩ := R.wp_iff.mp (price_of_ok (n := n + 7) ok (a8.grow g9) hp)
          obtain ⟨_, S11, d11, rfl, g11⟩ := R.wp_iff.mp (shows_ok (n := n + 6) ok ((a8.grow g9).grow g10) hp)
          obtain ⟨_, S12, d12, rfl, g12⟩ := R.wp_iff.mp (is_plan_ok (n := n + 8) ok (((a8.grow g9).grow g10).grow g11) hp)
          have ha12 : acc.length ≤ 12 := by
            have : ∀ (l : List (Nat × Nat)) (w : Nat) (ms : List Nat), (levs w l ms).length ≤ l.length := by
              intro l
              induction l with
              | nil => intro w ms; simp [levs]
              | cons x l ih => intro w ms; cases ms with
                | nil => simp [levs]
                | cons m ms => simp [levs]; exact ih _ _
            have h := this t.rp t.lvl ms
            rw [hacc, rp_len ok] at h
            omega
          have al3 : callN tab (n + 11) (.fn "_law_alike") [.tup [nsG acc, .int v], .tup [nsG acc, .int v]] S10 = .ok (.bl true) S10 := alike_pair (alike_ns (n := n + 8) (by omega)) (alike_int v)
          refine wp_seq ?_
          simp only [sIf, tOr, tV, e2, eA, aCons, aNil]
          rw [eLc_all (c := nG) (L := List.range ms.length) (f := fun k => iG ((ms.getD k 0 : Int) * (t.prices.getD k 0 : Nat))) (itR1_nat (by simp only [nG, sSeq, sSet, sRet, sRetN, sIf, sDrop, sNx, sBrk, sPar, sTg, sr_ok, rb_ok, ro_ok, so_ok, e1, e2, eA, eCl, eV, eC, eAnd, eOr, eNot, eIf, eCh, tV, tNot, tAnd, tOr, tYes, bof_bl, aNil, aCons, tgSet, setAll, lo0, bodyR_nx, bodyR_rt, R.wp_ok, SR.wp_nx, SR.wp_rt, SR.wp_bk, gAddA, gAdd, gSub, gLe, gLt, gGt, gGe, is_non, is_int, is_tup, is_bl, isn_non, isn_int, isn_tup, isn_bl, is_o, isn_o, gNeg, gTup1, gTup2, gTup3, gTup4, gTup5, gLst0, gLst1, gLst2, gLst3, eLstA0, List.length_cons, List.length_nil, List.map_cons, List.map_nil, List.cons_append, List.nil_append, List.replicate, Nat.sub_self, Nat.reduceSub, Nat.reduceAdd, List.getElem?_cons_zero, List.getElem?_cons_succ, List.set_cons_zero, List.set_cons_succ, Option.map_some, Bool.not_true, Bool.not_false, ite_true, ite_false, if_true, if_false, Bool.false_eq_true, gEq_int, gNe_int, gEq_bl, gNe_bl, gEq_non, gNe_non, List.isEmpty_cons, List.isEmpty_nil, len_nsG]) (by omega)) fun k hk => ⟨_, rfl, by
            have hk := List.mem_range.mp hk
            have hk2 : k < t.prices.length := by rw [ok.len]; omega
            have m1 : ms[k]? = some (ms.getD k 0) := by simp [List.getD, List.getElem?_eq_getElem hk]
            have m2 : t.prices[k]? = some (t.prices.getD k 0) := by simp [List.getD, List.getElem?_eq_getElem hk2]
            have hle := hp.le _ (List.mem_of_getElem? m1)
            have hcap := ok.cap
            have hmul := mul_sm (S := S8) (m := ms.getD k 0) (p := t.prices.getD k 0) (by omega)
            simp only [nG, sSeq, sSet, sRet, sRetN, sIf, sDrop, sNx, sBrk, sPar, sTg, sr_ok, rb_ok, ro_ok, so_ok, e1, e2, eA, eCl, eV, eC, eAnd, eOr, eNot, eIf, eCh, tV, tNot, tAnd, tOr, tYes, bof_bl, aNil, aCons, tgSet, setAll, lo0, bodyR_nx, bodyR_rt, R.wp_ok, SR.wp_nx, SR.wp_rt, SR.wp_bk, gAddA, gAdd, gSub, gLe, gLt, gGt, gGe, is_non, is_int, is_tup, is_bl, isn_non, isn_int, isn_tup, isn_bl, is_o, isn_o, gNeg, gTup1, gTup2, gTup3, gTup4, gTup5, gLst0, gLst1, gLst2, gLst3, eLstA0, List.length_cons, List.length_nil, List.map_cons, List.map_nil, List.cons_append, List.nil_append, List.replicate, Nat.sub_self, Nat.reduceSub, Nat.reduceAdd, List.getElem?_cons_zero, List.getElem?_cons_succ, List.set_cons_zero, List.set_cons_succ, Option.map_some, Bool.not_true, Bool.not_false, ite_true, ite_false, if_true, if_false, Bool.false_eq_true, gEq_int, gNe_int, gEq_bl, gNe_bl, gEq_non, gNe_non, List.isEmpty_cons, List.isEmpty_nil, wipeL, ixn m1, pt1, ixn m2, hmul, iG]⟩]
          have hsum : gSum [.tl ((List.range ms.length).map fun k => iG ((ms.getD k 0 : Int) * (t.prices.getD k 0 : Nat)))] S8 = some (.int v) := by
            have e : ((List.range ms.length).map fun k => iG ((ms.getD k 0 : Int) * (t.prices.getD k 0 : Nat))) = ((List.range ms.length).map fun k => (ms.getD k 0 : Int) * (t.prices.getD k 0 : Nat)).map iG := by rw [List.map_map]; rfl
            show ((seqG S8 (.tl ((List.range ms.length).map fun k => iG ((ms.getD k 0 : Int) * (t.prices.getD k 0 : Nat))))).bind fun l => (intsG l).map fun l => G.int l.sum) = _
            rw [show seqG S8 (.tl ((List.range ms.length).map fun k => iG ((ms.getD k 0 : Int) * (t.prices.getD k 0 : Nat)))) = some ((List.range ms.length).map fun k => iG ((ms.getD k 0 : Int) * (t.prices.getD k 0 : Nat))) from rfl, Option.bind_some, e, intsG_map, sum_range (by rw [ok.len]; omega), hvc]
            rfl
          rw [hacc] at d9
          rw [← hvc] at d10
          simp only [nG, sSet, sRet, sRetN, sIf, sDrop, sNx, sBrk, sPar, sTg, sr_ok, rb_ok, ro_ok, so_ok, e1, e2, eA, eCl, eV, eC, eAnd, eOr, eNot, eIf, eCh, tV, tNot, tAnd, tOr, tYes, bof_bl, aNil, aCons, tgSet, setAll, lo0, bodyR_nx, bodyR_rt, R.wp_ok, SR.wp_nx, SR.wp_rt, SR.wp_bk, gAddA, gAdd, gSub, gLe, gLt, gGt, gGe, is_non, is_int, is_tup, is_bl, isn_non, isn_int, isn_tup, isn_bl, is_o, isn_o, gNeg, gTup1, gTup2, gTup3, gTup4, gTup5, gLst0, gLst1, gLst2, gLst3, eLstA0, List.length_cons, List.length_nil, List.map_cons, List.map_nil, List.cons_append, List.nil_append, List.replicate, Nat.sub_self, Nat.reduceSub, Nat.reduceAdd, List.getElem?_cons_zero, List.getElem?_cons_succ, List.set_cons_zero, List.set_cons_succ, Option.map_some, Bool.not_true, Bool.not_false, ite_true, ite_false, if_true, if_false, Bool.false_eq_true, gEq_int, gNe_int, gEq_bl, gNe_bl, gEq_non, gNe_non, List.isEmpty_cons, List.isEmpty_nil, hsum, oG, decide_true, d9, d10, hst (g9.trans g10), al3]
          simp only [nG, sSet, sRet, sRetN, sIf, sDrop, sNx, sBrk, sPar, sTg, sr_ok, rb_ok, ro_ok, so_ok, e1, e2, eA, eCl, eV, eC, eAnd, eOr, eNot, eIf, eCh, tV, tNot, tAnd, tOr, tYes, bof_bl, aNil, aCons, tgSet, setAll, lo0, bodyR_nx, bodyR_rt, R.wp_ok, SR.wp_nx, SR.wp_rt, SR.wp_bk, gAddA, gAdd, gSub, gLe, gLt, gGt, gGe, is_non, is_int, is_tup, is_bl, isn_non, isn_int, isn_tup, isn_bl, is_o, isn_o, gNeg, gTup1, gTup2, gTup3, gTup4, gTup5, gLst0, gLst1, gLst2, gLst3, eLstA0, List.length_cons, List.length_nil, List.map_cons, List.map_nil, List.cons_append, List.nil_append, List.replicate, Nat.sub_self, Nat.reduceSub, Nat.reduceAdd, List.getElem?_cons_zero, List.getElem?_cons_succ, List.set_cons_zero, List.set_cons_succ, Option.map_some, Bool.not_true, Bool.not_false, ite_true, ite_false, if_true, if_false, Bool.false_eq_true, gEq_int, gNe_int, gEq_bl, gNe_bl, gEq_non, gNe_non, List.isEmpty_cons, List.isEmpty_nil, tupTab, d11, d12, decide_true]
          exact ⟨⟨_, _, _, rfl⟩, g8.trans (g9.trans (g10.trans (g11.trans g12)))⟩
    · rintro l S8 ⟨⟨u8, u9, u10, rfl⟩, g8⟩
      have a8 := a7.grow g8
      obtain ⟨Z8, hr8⟩ := hr7.grow g8
      have a9 : At (S8 ++ [.ins "Task" (fieldsOf t)]) o t := a8.grow (.push _ _)
      have an := at_new (S := S8) t
      refine wp_seq ?_
      simp only [sIf, tOr, tNot, tV]
      rw [show e2 gIsNot (eCl (callN tab (n + 11)) (FK.fn "are_lower") (aCons (eV 4) (aCons (eA gTuple (aCons (eV 5) aNil)) aNil))) (eC (.bl true)) [some (.fz (sc.map iG)), some (.ref 0), some (.int (k' : Nat)), some t.parts, some (.ref o), some (.tl ((tabs t t.rp).map rowG)), some (oG (val t t.rp t.lvl)), some fg, u8, u9, u10, u11, u12] S8 = .ok (.bl false) S8 by
        simp only [nG, sSeq, sSet, sRet, sRetN, sIf, sDrop, sNx, sBrk, sPar, sTg, sr_ok, rb_ok, ro_ok, so_ok, e1, e2, eA, eCl, eV, eC, eAnd, eOr, eNot, eIf, eCh, tV, tNot, tAnd, tOr, tYes, bof_bl, aNil, aCons, tgSet, setAll, lo0, bodyR_nx, bodyR_rt, R.wp_ok, SR.wp_nx, SR.wp_rt, SR.wp_bk, gAddA, gAdd, gSub, gLe, gLt, gGt, gGe, is_non, is_int, is_tup, is_bl, isn_non, isn_int, isn_tup, isn_bl, is_o, isn_o, gNeg, gTup1, gTup2, gTup3, gTup4, gTup5, gLst0, gLst1, gLst2, gLst3, eLstA0, List.length_cons, List.length_nil, List.map_cons, List.map_nil, List.cons_append, List.nil_append, List.replicate, Nat.sub_self, Nat.reduceSub, Nat.reduceAdd, List.getElem?_cons_zero, List.getElem?_cons_succ, List.set_cons_zero, List.set_cons_succ, Option.map_some, Bool.not_true, Bool.not_false, ite_true, ite_false, if_true, if_false, Bool.false_eq_true, gEq_int, gNe_int, gEq_bl, gNe_bl, gEq_non, gNe_non, List.isEmpty_cons, List.isEmpty_nil, tupTab, are_lower_eq (n := n + 7) ok a8, decide_true]]
      have G1 : eEqO (callN tab (n + 11)) "Task" (eV 4) (eMk (callN tab (n + 11)) "Task" pA) [some (.fz (sc.map iG)), some (.ref 0), some (.int (k' : Nat)), some t.parts, some (.ref o), some (.tl ((tabs t t.rp).map rowG)), some (oG (val t t.rp t.lvl)), some fg, u8, u9, u10, u11, u12] S8 = .ok (.bl true) (S8 ++ [.ins "Task" (fieldsOf t)]) :=
        eEqO_of (x := .ref o) (y := .ref S8.length) (S1 := S8) rfl (eMk_of (n := n + 6) (S := S8) ok pA_ev) ⟨isOf_at a9, .inr (isOf_at an)⟩ (eq_same (n := n + 10) a9 an)
      have G2 : eEqO (callN tab (n + 11)) "Task" (eV 4) (eV 3) [some (.fz (sc.map iG)), some (.ref 0), some (.int (k' : Nat)), some t.parts, some (.ref o), some (.tl ((tabs t t.rp).map rowG)), some (oG (val t t.rp t.lvl)), some fg, u8, u9, u10, u11, u12] (S8 ++ [.ins "Task" (fieldsOf t)]) = .ok (.bl false) (S8 ++ [.ins "Task" (fieldsOf t)]) :=
        eEqO_of (x := .ref o) (y := t.parts) (S1 := S8 ++ [.ins "Task" (fieldsOf t)]) rfl rfl ⟨isOf_at a9, .inl rfl⟩ (eq_parts (n := n + 10) (t := t) t)
      simp only [rb_ok, bof_bl, Bool.false_eq_true, if_false]
      rw [G1]
      simp only [rb_ok, bof_bl, Bool.not_true, Bool.false_eq_true, if_false]
      rw [G2]
      simp only [nG, sSet, sRet, sRetN, sIf, sDrop, sNx, sBrk, sPar, sTg, sr_ok, rb_ok, ro_ok, so_ok, e1, e2, eA, eCl, eV, eC, eAnd, eOr, eNot, eIf, eCh, tV, tNot, tAnd, tOr, tYes, bof_bl, aNil, aCons, tgSet, setAll, lo0, bodyR_nx, bodyR_rt, R.wp_ok, SR.wp_nx, SR.wp_rt, SR.wp_bk, gAddA, gAdd, gSub, gLe, gLt, gGt, gGe, is_non, is_int, is_tup, is_bl, isn_non, isn_int, isn_tup, isn_bl, is_o, isn_o, gNeg, gTup1, gTup2, gTup3, gTup4, gTup5, gLst0, gLst1, gLst2, gLst3, eLstA0, List.length_cons, List.length_nil, List.map_cons, List.map_nil, List.cons_append, List.nil_append, List.replicate, Nat.sub_self, Nat.reduceSub, Nat.reduceAdd, List.getElem?_cons_zero, List.getElem?_cons_succ, List.set_cons_zero, List.set_cons_succ, Option.map_some, Bool.not_true, Bool.not_false, ite_true, ite_false, if_true, if_false, Bool.false_eq_true, gEq_int, gNe_int, gEq_bl, gNe_bl, gEq_non, gNe_non, List.isEmpty_cons, List.isEmpty_nil]
      obtain ⟨Z9, hr9⟩ := hr8.grow (.push S8 [.ins "Task" (fieldsOf t)])
      generalize S8 ++ [GO.ins "Task" (fieldsOf t)] = S9 at a9 hr9
      have okc : (tc t (nextC t.cap)).Ok := tc_ok ok (by unfold nextC; split <;> omega)
      have hne : nextC t.cap ≠ t.cap := by unfold nextC; split <;> omega
      have a10 : At (S9 ++ [.ins "Task" (fieldsOf (tc t (nextC t.cap)))]) o t := a9.grow (.push _ _)
      have an2 := at_new (S := S9) (tc t (nextC t.cap))
      have G3 : eEqO (callN tab (n + 11)) "Task" (eV 4) (eMk (callN tab (n + 11)) "Task" pB) [some (.fz (sc.map iG)), some (.ref 0), some (.int (k' : Nat)), some t.parts, some (.ref o), some (.tl ((tabs t t.rp).map rowG)), some (oG (val t t.rp t.lvl)), some fg, u8, u9, u10, u11, u12] S9 = .ok (.bl false) (S9 ++ [.ins "Task" (fieldsOf (tc t (nextC t.cap)))]) :=
        eEqO_of (x := .ref o) (y := .ref S9.length) (S1 := S9) rfl (eMk_of (n := n + 6) (S := S9) okc (pB_ev ok)) ⟨isOf_at a10, .inr (isOf_at an2)⟩ (eq_other (n := n + 10) hne a10 an2)
      refine wp_seq ?_
      simp only [sIf, tV]
      rw [G3]
      simp only [nG, sSet, sRet, sRetN, sIf, sDrop, sNx, sBrk, sPar, sTg, sr_ok, rb_ok, ro_ok, so_ok, e1, e2, eA, eCl, eV, eC, eAnd, eOr, eNot, eIf, eCh, tV, tNot, tAnd, tOr, tYes, bof_bl, aNil, aCons, tgSet, setAll, lo0, bodyR_nx, bodyR_rt, R.wp_ok, SR.wp_nx, SR.wp_rt, SR.wp_bk, gAddA, gAdd, gSub, gLe, gLt, gGt, gGe, is_non, is_int, is_tup, is_bl, isn_non, isn_int, isn_tup, isn_bl, is_o, isn_o, gNeg, gTup1, gTup2, gTup3, gTup4, gTup5, gLst0, gLst1, gLst2, gLst3, eLstA0, List.length_cons, List.length_nil, List.map_cons, List.map_nil, List.cons_append, List.nil_append, List.replicate, Nat.sub_self, Nat.reduceSub, Nat.reduceAdd, List.getElem?_cons_zero, List.getElem?_cons_succ, List.set_cons_zero, List.set_cons_succ, Option.map_some, Bool.not_true, Bool.not_false, ite_true, ite_false, if_true, if_false, Bool.false_eq_true, gEq_int, gNe_int, gEq_bl, gNe_bl, gEq_non, gNe_non, List.isEmpty_cons, List.isEmpty_nil]
      obtain ⟨Z10, hr10⟩ := hr9.grow (.push S9 [.ins "Task" (fieldsOf (tc t (nextC t.cap)))])
      generalize S9 ++ [GO.ins "Task" (fieldsOf (tc t (nextC t.cap)))] = S10 at a10 hr10
      obtain ⟨_, S11, d11, rfl, g11⟩ := R.wp_iff.mp (can_ok (n := n) (S := S10) ok (u0 := some (.fz (sc.map iG))) (u1 := some (.ref 0)) (u2 := some (.int (k' : Nat))) (u4 := some (.ref o)) (u5 := some (.tl ((tabs t t.rp).map rowG))) (u6 := some (oG (val t t.rp t.lvl))) (u7 := some fg) (u8 := u8) (u9 := u9) (u10 := u10) (u11 := u11) (u12 := u12))
      refine wp_seq (wp_set ?_)
      rw [d11, R.wp_ok]
      obtain ⟨_, S12, d12, rfl, g12⟩ := R.wp_iff.mp (least_capacity_ok (n := n + 5) (S := S11) ok)
      have hz : ((cans t).map nG) = ((cans t).map fun c : Nat => (c : Int)).map iG := by rw [List.map_map]; rfl
      have hcan : ∀ S, gNe (.tl ((cans t).map nG)) (.tl []) S = some (.bl (!(cans t).isEmpty)) := fun S => by
        rw [hz, gNe_tl]
        cases cans t <;> rfl
      obtain ⟨Z12, hr12⟩ := hr10.grow (g11.trans g12)
      have al4 : callN tab (n + 11) (.fn "_law_alike") [hdG (cans t), hdG (cans t)] S12 = .ok (.bl true) S12 := alike_hd (n := n + 10) _
      have hif : ∀ S, (if (!(cans t).isEmpty) = true then ro (gIx (.tl ((cans t).map nG)) (.int 0) S) S else R.ok .non S) = .ok (hdG (cans t)) S := fun S => by
        cases q : cans t with
        | nil => rfl
        | cons c cs =>
          show ro (gIx (.tl ((c :: cs).map nG)) (.int ((0 : Nat) : Int)) S) S = _
          rw [ix_tl (k := 0) (x := nG c) rfl]; rfl
      simp only [nG, sSet, sRet, sRetN, sIf, sDrop, sNx, sBrk, sPar, sTg, sr_ok, rb_ok, ro_ok, so_ok, e1, e2, eA, eCl, eV, eC, eAnd, eOr, eNot, eIf, eCh, tV, tNot, tAnd, tOr, tYes, bof_bl, aNil, aCons, tgSet, setAll, lo0, bodyR_nx, bodyR_rt, R.wp_ok, SR.wp_nx, SR.wp_rt, SR.wp_bk, gAddA, gAdd, gSub, gLe, gLt, gGt, gGe, is_non, is_int, is_tup, is_bl, isn_non, isn_int, isn_tup, isn_bl, is_o, isn_o, gNeg, gTup1, gTup2, gTup3, gTup4, gTup5, gLst0, gLst1, gLst2, gLst3, eLstA0, List.length_cons, List.length_nil, List.map_cons, List.map_nil, List.cons_append, List.nil_append, List.replicate, Nat.sub_self, Nat.reduceSub, Nat.reduceAdd, List.getElem?_cons_zero, List.getElem?_cons_succ, List.set_cons_zero, List.set_cons_succ, Option.map_some, Bool.not_true, Bool.not_false, ite_true, ite_false, if_true, if_false, Bool.false_eq_true, gEq_int, gNe_int, gEq_bl, gNe_bl, gEq_non, gNe_non, List.isEmpty_cons, List.isEmpty_nil, pt0, pt1, pt3, pt4, d12, hcan, hif, al4]
      exact ⟨⟨_, _, _, _, _, _, _, _, _, _, _, rfl⟩, Z12, hr12⟩
  · rintro l S ⟨⟨u2, u3, u4, u5, u6, u7, u8, u9, u10, u11, u12, rfl⟩, _⟩
    simp only [nG, sSeq, sSet, sRet, sRetN, sIf, sDrop, sNx, sBrk, sPar, sTg, sr_ok, rb_ok, ro_ok, so_ok, e1, e2, eA, eCl, eV, eC, eAnd, eOr, eNot, eIf, eCh, tV, tNot, tAnd, tOr, tYes, bof_bl, aNil, aCons, tgSet, setAll, lo0, bodyR_nx, bodyR_rt, R.wp_ok, SR.wp_nx, SR.wp_rt, SR.wp_bk, gAddA, gAdd, gSub, gLe, gLt, gGt, gGe, is_non, is_int, is_tup, is_bl, isn_non, isn_int, isn_tup, isn_bl, is_o, isn_o, gNeg, gTup1, gTup2, gTup3, gTup4, gTup5, gLst0, gLst1, gLst2, gLst3, eLstA0, List.length_cons, List.length_nil, List.map_cons, List.map_nil, List.cons_append, List.nil_append, List.replicate, Nat.sub_self, Nat.reduceSub, Nat.reduceAdd, List.getElem?_cons_zero, List.getElem?_cons_succ, List.set_cons_zero, List.set_cons_succ, Option.map_some, Bool.not_true, Bool.not_false, ite_true, ite_false, if_true, if_false, Bool.false_eq_true, gEq_int, gNe_int, gEq_bl, gNe_bl, gEq_non, gNe_non, List.isEmpty_cons, List.isEmpty_nil]
end Lk14

end

section
set_option Elab.async false
set_option linter.all false
set_option maxRecDepth 100000
set_option maxHeartbeats 0
namespace Lk14
open PySem PySem.Spec PyProof.Rows L2 LamX GL
abbrev lx_0 : Expr := (txE (stK (txS (C8.fnBody st_Task___init__) 0)) 0)
abbrev lamD0 : LamD := ⟨"Task.__init__.<locals>.<lambda>", lamPar lx_0, lamBod lx_0, lamSco lx_0, []⟩
abbrev lx_1 : Expr := (txE (stK (txS (C8.fnBody st_Task___init__) 3)) 0)
abbrev lamD1 : LamD := ⟨"Task.__init__.<locals>.<lambda>", lamPar lx_1, lamBod lx_1, lamSco lx_1, []⟩
abbrev lamD (i : Nat) : LamD := match i with
  | 0 => lamD0
  | 1 => lamD1
  | _ => ⟨"", ⟨[], [], none, [], [], none, []⟩, .Constant .none 0 ⟨0, 0, 0, 0⟩, ⟨.function, [], false, false, []⟩, []⟩
abbrev lamT (i : Nat) : Option LamD := if i < 2 then some (lamD i) else none
abbrev dd_is_whole : He.DefD := ⟨("is_whole", none), "is_whole", "is_whole", C8.fnArgs st_is_whole, C8.fnBody st_is_whole, C8.fnScope st_is_whole, [], []⟩
abbrev N_is_whole : List Str := ["value"]
theorem sc_is_whole : FnScope N_is_whole ["value"] (C8.fnScope st_is_whole) := C8.fnScope_by (by kernel_rfl)
abbrev dd_is_within : He.DefD := ⟨("is_within", none), "is_within", "is_within", C8.fnArgs st_is_within, C8.fnBody st_is_within, C8.fnScope st_is_within, [], []⟩
abbrev N_is_within : List Str := ["value", "least", "most"]
theorem sc_is_within : FnScope N_is_within ["value", "least", "most"] (C8.fnScope st_is_within) := C8.fnScope_by (by kernel_rfl)
abbrev dd_is_row : He.DefD := ⟨("is_row", none), "is_row", "is_row", C8.fnArgs st_is_row, C8.fnBody st_is_row, C8.fnScope st_is_row, [], []⟩
abbrev N_is_row : List Str := ["value", "size"]
theorem sc_is_row : FnScope N_is_row ["value", "size"] (C8.fnScope st_is_row) := C8.fnScope_by (by kernel_rfl)
abbrev dd_first_wrong : He.DefD := ⟨("first_wrong", none), "first_wrong", "first_wrong", C8.fnArgs st_first_wrong, C8.fnBody st_first_wrong, C8.fnScope st_first_wrong, [], []⟩
abbrev N_first_wrong : List Str := ["value", "least", "most", "judge", "place", "row"]
theorem sc_first_wrong : FnScope N_first_wrong ["value", "least", "most", "judge"] (C8.fnScope st_first_wrong) := C8.fnScope_by (by kernel_rfl)
abbrev dd_place_told : He.DefD := ⟨("place_told", none), "place_told", "place_told", C8.fnArgs st_place_told, C8.fnBody st_place_told, C8.fnScope st_place_told, [], []⟩
abbrev N_place_told : List Str := ["place"]
theorem sc_place_told : FnScope N_place_told ["place"] (C8.fnScope st_place_told) := C8.fnScope_by (by kernel_rfl)
abbrev dd_is_task : He.DefD := ⟨("is_task", none), "is_task", "is_task", C8.fnArgs st_is_task, C8.fnBody st_is_task, C8.fnScope st_is_task, [], []⟩
abbrev N_is_task : List Str := ["value"]
theorem sc_is_task : FnScope N_is_task ["value"] (C8.fnScope st_is_task) := C8.fnScope_by (by kernel_rfl)
abbrev dd_choices : He.DefD := ⟨("choices", none), "choices", "choices", C8.fnArgs st_choices, C8.fnBody st_choices, C8.fnScope st_choices, [], []⟩
abbrev N_choices : List Str := ["task", "moment", "level", "water", "most", "many"]
theorem sc_choices : FnScope N_choices ["task", "moment", "level"] (C8.fnScope st_choices) := C8.fnScope_by (by kernel_rfl)
abbrev dd_least_of : He.DefD := ⟨("least_of", none), "least_of", "least_of", C8.fnArgs st_least_of, C8.fnBody st_least_of, C8.fnScope st_least_of, [], []⟩
abbrev N_least_of : List Str := ["numbers", "found", "one"]
theorem sc_least_of : FnScope N_least_of ["numbers"] (C8.fnScope st_least_of) := C8.fnScope_by (by kernel_rfl)
abbrev dd_row_of : He.DefD := ⟨("row_of", none), "row_of", "row_of", C8.fnArgs st_row_of, C8.fnBody st_row_of, C8.fnScope st_row_of, [], []⟩
abbrev N_row_of : List Str := ["task", "moment", "behind", "found", "level", "costs", "many", "left"]
theorem sc_row_of : FnScope N_row_of ["task", "moment", "behind"] (C8.fnScope st_row_of) := C8.fnScope_by (by kernel_rfl)
abbrev dd_tables_of : He.DefD := ⟨("tables_of", none), "tables_of", "tables_of", C8.fnArgs st_tables_of, C8.fnBody st_tables_of, C8.fnScope st_tables_of, [], []⟩
abbrev N_tables_of : List Str := ["task", "found", "moment"]
theorem sc_tables_of : FnScope N_tables_of ["task"] (C8.fnScope st_tables_of) := C8.fnScope_by (by kernel_rfl)
abbrev dd_tables : He.DefD := ⟨("tables", none), "tables", "tables", C8.fnArgs st_tables, C8.fnBody st_tables, C8.fnScope st_tables, [], []⟩
abbrev N_tables : List Str := ["task"]
theorem sc_tables : FnScope N_tables ["task"] (C8.fnScope st_tables) := C8.fnScope_by (by kernel_rfl)
abbrev dd_least_price : He.DefD := ⟨("least_price", none), "least_price", "least_price", C8.fnArgs st_least_price, C8.fnBody st_least_price, C8.fnScope st_least_price, [], []⟩
abbrev N_least_price : List Str := ["task"]
theorem sc_least_price : FnScope N_least_price ["task"] (C8.fnScope st_least_price) := C8.fnScope_by (by kernel_rfl)
abbrev dd_plan : He.DefD := ⟨("plan", none), "plan", "plan", C8.fnArgs st_plan, C8.fnBody st_plan, C8.fnScope st_plan, [], []⟩
abbrev N_plan : List Str := ["task", "rows", "found", "level", "moment", "many", "left"]
theorem sc_plan : FnScope N_plan ["task"] (C8.fnScope st_plan) := C8.fnScope_by (by kernel_rfl)
abbrev dd_levels_of : He.DefD := ⟨("levels_of", none), "levels_of", "levels_of", C8.fnArgs st_levels_of, C8.fnBody st_levels_of, C8.fnScope st_levels_of, [], []⟩
abbrev N_levels_of : List Str := ["task", "value", "many", "found", "level", "moment"]
theorem sc_levels_of : FnScope N_levels_of ["task", "value"] (C8.fnScope st_levels_of) := C8.fnScope_by (by kernel_rfl)
abbrev dd_is_plan : He.DefD := ⟨("is_plan", none), "is_plan", "is_plan", C8.fnArgs st_is_plan, C8.fnBody st_is_plan, C8.fnScope st_is_plan, [], []⟩
abbrev N_is_plan : List Str := ["task", "value"]
theorem sc_is_plan : FnScope N_is_plan ["task", "value"] (C8.fnScope st_is_plan) := C8.fnScope_by (by kernel_rfl)
abbrev dd_price_of : He.DefD := ⟨("price_of", none), "price_of", "price_of", C8.fnArgs st_price_of, C8.fnBody st_price_of, C8.fnScope st_price_of, [], []⟩
abbrev N_price_of : List Str := ["task", "value", "many", "price"]
theorem sc_price_of : FnScope N_price_of ["task", "value"] (C8.fnScope st_price_of) := C8.fnScope_by (by kernel_rfl)
abbrev dd_is_entry : He.DefD := ⟨("is_entry", none), "is_entry", "is_entry", C8.fnArgs st_is_entry, C8.fnBody st_is_entry, C8.fnScope st_is_entry, [], []⟩
abbrev N_is_entry : List Str := ["value"]
theorem sc_is_entry : FnScope N_is_entry ["value"] (C8.fnScope st_is_entry) := C8.fnScope_by (by kernel_rfl)
abbrev dd_has_form : He.DefD := ⟨("has_form", none), "has_form", "has_form", C8.fnArgs st_has_form, C8.fnBody st_has_form, C8.fnScope st_has_form, [], []⟩
abbrev N_has_form : List Str := ["task", "value", "row", "one"]
theorem sc_has_form : FnScope N_has_form ["task", "value"] (C8.fnScope st_has_form) := C8.fnScope_by (by kernel_rfl)
abbrev dd_is_lower_entry : He.DefD := ⟨("is_lower_entry", none), "is_lower_entry", "is_lower_entry", C8.fnArgs st_is_lower_entry, C8.fnBody st_is_lower_entry, C8.fnScope st_is_lower_entry, [], []⟩
abbrev N_is_lower_entry : List Str := ["task", "value", "moment", "level", "here", "many", "left", "behind"]
theorem sc_is_lower_entry : FnScope N_is_lower_entry ["task", "value", "moment", "level"] (C8.fnScope st_is_lower_entry) := C8.fnScope_by (by kernel_rfl)
abbrev dd_are_lower : He.DefD := ⟨("are_lower", none), "are_lower", "are_lower", C8.fnArgs st_are_lower, C8.fnBody st_are_lower, C8.fnScope st_are_lower, [], []⟩
abbrev N_are_lower : List Str := ["task", "value", "levels", "moments", "moment", "level"]
theorem sc_are_lower : FnScope N_are_lower ["task", "value"] (C8.fnScope st_are_lower) := C8.fnScope_by (by kernel_rfl)
abbrev dd_shows_cheapest : He.DefD := ⟨("shows_cheapest", none), "shows_cheapest", "shows_cheapest", C8.fnArgs st_shows_cheapest, C8.fnBody st_shows_cheapest, C8.fnScope st_shows_cheapest, [], []⟩
abbrev N_shows_cheapest : List Str := ["task", "value", "rows"]
theorem sc_shows_cheapest : FnScope N_shows_cheapest ["task", "value", "rows"] (C8.fnScope st_shows_cheapest) := C8.fnScope_by (by kernel_rfl)
abbrev dd_least_capacity : He.DefD := ⟨("least_capacity", none), "least_capacity", "least_capacity", C8.fnArgs st_least_capacity, C8.fnBody st_least_capacity, C8.fnScope st_least_capacity, [], []⟩
abbrev N_least_capacity : List Str := ["rain", "prices", "limit", "level", "capacity"]
theorem sc_least_capacity : FnScope N_least_capacity ["rain", "prices", "limit", "level"] (C8.fnScope st_least_capacity) := C8.fnScope_by (by kernel_rfl)
abbrev dd__law_taken : He.DefD := ⟨("_law_taken", none), "_law_taken", "_law_taken", C8.fnArgs st__law_taken, C8.fnBody st__law_taken, C8.fnScope st__law_taken, [], []⟩
abbrev N__law_taken : List Str := ["row", "many", "found", "cell"]
theorem sc__law_taken : FnScope N__law_taken ["row", "many"] (C8.fnScope st__law_taken) := C8.fnScope_by (by kernel_rfl)
abbrev dd__law_pick : He.DefD := ⟨("_law_pick", none), "_law_pick", "_law_pick", C8.fnArgs st__law_pick, C8.fnBody st__law_pick, C8.fnScope st__law_pick, [], []⟩
abbrev N__law_pick : List Str := ["row", "things"]
theorem sc__law_pick : FnScope N__law_pick ["row", "things"] (C8.fnScope st__law_pick) := C8.fnScope_by (by kernel_rfl)
abbrev dd__law_alike : He.DefD := ⟨("_law_alike", none), "_law_alike", "_law_alike", C8.fnArgs st__law_alike, C8.fnBody st__law_alike, C8.fnScope st__law_alike, [], []⟩
abbrev N__law_alike : List Str := ["found", "due", "k"]
theorem sc__law_alike : FnScope N__law_alike ["found", "due"] (C8.fnScope st__law_alike) := C8.fnScope_by (by kernel_rfl)
abbrev dd__law_task : He.DefD := ⟨("_law_task", none), "_law_task", "_law_task", C8.fnArgs st__law_task, C8.fnBody st__law_task, C8.fnScope st__law_task, [], []⟩
abbrev N__law_task : List Str := ["row", "most", "many", "wet", "rain", "k", "limit"]
theorem sc__law_task : FnScope N__law_task ["row", "most"] (C8.fnScope st__law_task) := C8.fnScope_by (by kernel_rfl)
abbrev dd__law_tables : He.DefD := ⟨("_law_tables", none), "_law_tables", "_law_tables", C8.fnArgs st__law_tables, C8.fnBody st__law_tables, C8.fnScope st__law_tables, [], []⟩
abbrev N__law_tables : List Str := ["parts", "rain", "prices", "capacity", "limit", "level", "found", "k", "one", "water", "costs", "many", "left"]
theorem sc__law_tables : FnScope N__law_tables ["parts"] (C8.fnScope st__law_tables) := C8.fnScope_by (by kernel_rfl)
abbrev dd_law : He.DefD := ⟨("law", none), "law", "law", C8.fnArgs st_law, C8.fnBody st_law, C8.fnScope st_law, [], []⟩
abbrev N_law : List Str := ["script", "row", "turn", "parts", "task", "due", "least", "found", "levels", "level", "k", "can", "many"]
theorem sc_law : FnScope N_law ["script"] (C8.fnScope st_law) := C8.fnScope_by (by kernel_rfl)
abbrev dd_Task___init__ : He.DefD := ⟨("Task", some "__init__"), "__init__", "Task.__init__", C8.fnArgs st_Task___init__, C8.fnBody st_Task___init__, C8.fnScope st_Task___init__, [], []⟩
abbrev N_Task___init__ : List Str := ["self", "rain", "prices", "capacity", "limit", "level", "judge", "place", "judge_price", "value", "most"]
theorem sc_Task___init__ : FnScope N_Task___init__ ["self", "rain", "prices", "capacity", "limit", "level"] (C8.fnScope st_Task___init__) := C8.fnScope_by (by kernel_rfl)
abbrev dd_Task___eq__ : He.DefD := ⟨("Task", some "__eq__"), "__eq__", "Task.__eq__", C8.fnArgs st_Task___eq__, C8.fnBody st_Task___eq__, C8.fnScope st_Task___eq__, [], []⟩
abbrev N_Task___eq__ : List Str := ["self", "other"]
theorem sc_Task___eq__ : FnScope N_Task___eq__ ["self", "other"] (C8.fnScope st_Task___eq__) := C8.fnScope_by (by kernel_rfl)
def fnL : List He.DefD := [dd_is_whole, dd_is_within, dd_is_row, dd_first_wrong, dd_place_told, dd_is_task, dd_choices, dd_least_of, dd_row_of, dd_tables_of, dd_tables, dd_least_price, dd_plan, dd_levels_of, dd_is_plan, dd_price_of, dd_is_entry, dd_has_form, dd_is_lower_entry, dd_are_lower, dd_shows_cheapest, dd_least_capacity, dd__law_taken, dd__law_pick, dd__law_alike, dd__law_task, dd__law_tables, dd_law, dd_Task___init__, dd_Task___eq__]
def fa : List He.Fa := [.glo "Task", .glo "is_whole", .glo "is_within", .glo "is_row", .glo "first_wrong", .glo "place_told", .glo "is_task", .glo "choices", .glo "least_of", .glo "row_of", .glo "tables_of", .glo "tables", .glo "least_price", .glo "plan", .glo "levels_of", .glo "is_plan", .glo "price_of", .glo "is_entry", .glo "has_form", .glo "is_lower_entry", .glo "are_lower", .glo "shows_cheapest", .glo "least_capacity", .glo "_law_taken", .glo "_law_pick", .glo "_law_alike", .glo "_law_task", .glo "_law_tables", .glo "law", .free "int", .free "isinstance", .free "bool", .free "tuple", .free "len", .free "enumerate", .free "min", .free "range", .free "all", .free "zip", .free "sum", .free "list", .free "str", .int "MOST_CAPACITY" 9, .int "MOST_MOMENTS" 12, .int "MOST_LIMIT" 20, .int "MOST_RAIN" 9, .int "MOST_PRICE" 9, .cls "Task", .mkr "Task"]
def tfL : List (Str × Option Str) := [("Task", some "__init__")]
def ex (K : PySem.W.Frag) : Bool := tabB K isaT && (fldB K fldT && ((eqclB K "Task") && decide ((tfL.map fun p => (He.cT K p).2).Nodup)))
structure Fx (M : Md) : Prop where
  kin : M.K.In M.base
  ns : M.base.Ns mainGlobals M.mg
  d : He.SaysD fa fnL M.K
  more : ex M.K = true
  tb : ∀ p ∈ tfL, TabB M.base M.mg (He.cT M.K p).1 (He.cT M.K p).2
  T : M.T = ([((He.cT M.K ("Task", some "__init__")).2, "Task.__init__.<locals>.<lambda>")] : List (Addr × Str))
  lo : M.isClo = loIs lamT
section
variable {M : Md} {r : RP} (F : Fx M)
include F
theorem Fx.g_Task : M.mg "Task" = some (.ref (He.ga M.K "Task")) := He.glo_ok F.kin F.ns (F.d.fact 0 (f := .glo "Task") rfl)
theorem Fx.g_is_whole : M.mg "is_whole" = some (.ref (He.ga M.K "is_whole")) := He.glo_ok F.kin F.ns (F.d.fact 1 (f := .glo "is_whole") rfl)
theorem Fx.g_is_within : M.mg "is_within" = some (.ref (He.ga M.K "is_within")) := He.glo_ok F.kin F.ns (F.d.fact 2 (f := .glo "is_within") rfl)
theorem Fx.g_is_row : M.mg "is_row" = some (.ref (He.ga M.K "is_row")) := He.glo_ok F.kin F.ns (F.d.fact 3 (f := .glo "is_row") rfl)
theorem Fx.g_first_wrong : M.mg "first_wrong" = some (.ref (He.ga M.K "first_wrong")) := He.glo_ok F.kin F.ns (F.d.fact 4 (f := .glo "first_wrong") rfl)
theorem Fx.g_place_told : M.mg "place_told" = some (.ref (He.ga M.K "place_told")) := He.glo_ok F.kin F.ns (F.d.fact 5 (f := .glo "place_told") rfl)
theorem Fx.g_is_task : M.mg "is_task" = some (.ref (He.ga M.K "is_task")) := He.glo_ok F.kin F.ns (F.d.fact 6 (f := .glo "is_task") rfl)
theorem Fx.g_choices : M.mg "choices" = some (.ref (He.ga M.K "choices")) := He.glo_ok F.kin F.ns (F.d.fact 7 (f := .glo "choices") rfl)
theorem Fx.g_least_of : M.mg "least_of" = some (.ref (He.ga M.K "least_of")) := He.glo_ok F.kin F.ns (F.d.fact 8 (f := .glo "least_of") rfl)
theorem Fx.g_row_of : M.mg "row_of" = some (.ref (He.ga M.K "row_of")) := He.glo_ok F.kin F.ns (F.d.fact 9 (f := .glo "row_of") rfl)
theorem Fx.g_tables_of : M.mg "tables_of" = some (.ref (He.ga M.K "tables_of")) := He.glo_ok F.kin F.ns (F.d.fact 10 (f := .glo "tables_of") rfl)
theorem Fx.g_tables : M.mg "tables" = some (.ref (He.ga M.K "tables")) := He.glo_ok F.kin F.ns (F.d.fact 11 (f := .glo "tables") rfl)
theorem Fx.g_least_price : M.mg "least_price" = some (.ref (He.ga M.K "least_price")) := He.glo_ok F.kin F.ns (F.d.fact 12 (f := .glo "least_price") rfl)
theorem Fx.g_plan : M.mg "plan" = some (.ref (He.ga M.K "plan")) := He.glo_ok F.kin F.ns (F.d.fact 13 (f := .glo "plan") rfl)
theorem Fx.g_levels_of : M.mg "levels_of" = some (.ref (He.ga M.K "levels_of")) := He.glo_ok F.kin F.ns (F.d.fact 14 (f := .glo "levels_of") rfl)
theorem Fx.g_is_plan : M.mg "is_plan" = some (.ref (He.ga M.K "is_plan")) := He.glo_ok F.kin F.ns (F.d.fact 15 (f := .glo "is_plan") rfl)
theorem Fx.g_price_of : M.mg "price_of" = some (.ref (He.ga M.K "price_of")) := He.glo_ok F.kin F.ns (F.d.fact 16 (f := .glo "price_of") rfl)
theorem Fx.g_is_entry : M.mg "is_entry" = some (.ref (He.ga M.K "is_entry")) := He.glo_ok F.kin F.ns (F.d.fact 17 (f := .glo "is_entry") rfl)
theorem Fx.g_has_form : M.mg "has_form" = some (.ref (He.ga M.K "has_form")) := He.glo_ok F.kin F.ns (F.d.fact 18 (f := .glo "has_form") rfl)
theorem Fx.g_is_lower_entry : M.mg "is_lower_entry" = some (.ref (He.ga M.K "is_lower_entry")) := He.glo_ok F.kin F.ns (F.d.fact 19 (f := .glo "is_lower_entry") rfl)
theorem Fx.g_are_lower : M.mg "are_lower" = some (.ref (He.ga M.K "are_lower")) := He.glo_ok F.kin F.ns (F.d.fact 20 (f := .glo "are_lower") rfl)
theorem Fx.g_shows_cheapest : M.mg "shows_cheapest" = some (.ref (He.ga M.K "shows_cheapest")) := He.glo_ok F.kin F.ns (F.d.fact 21 (f := .glo "shows_cheapest") rfl)
theorem Fx.g_least_capacity : M.mg "least_capacity" = some (.ref (He.ga M.K "least_capacity")) := He.glo_ok F.kin F.ns (F.d.fact 22 (f := .glo "least_capacity") rfl)
theorem Fx.g__law_taken : M.mg "_law_taken" = some (.ref (He.ga M.K "_law_taken")) := He.glo_ok F.kin F.ns (F.d.fact 23 (f := .glo "_law_taken") rfl)
theorem Fx.g__law_pick : M.mg "_law_pick" = some (.ref (He.ga M.K "_law_pick")) := He.glo_ok F.kin F.ns (F.d.fact 24 (f := .glo "_law_pick") rfl)
theorem Fx.g__law_alike : M.mg "_law_alike" = some (.ref (He.ga M.K "_law_alike")) := He.glo_ok F.kin F.ns (F.d.fact 25 (f := .glo "_law_alike") rfl)
theorem Fx.g__law_task : M.mg "_law_task" = some (.ref (He.ga M.K "_law_task")) := He.glo_ok F.kin F.ns (F.d.fact 26 (f := .glo "_law_task") rfl)
theorem Fx.g__law_tables : M.mg "_law_tables" = some (.ref (He.ga M.K "_law_tables")) := He.glo_ok F.kin F.ns (F.d.fact 27 (f := .glo "_law_tables") rfl)
theorem Fx.g_law : M.mg "law" = some (.ref (He.ga M.K "law")) := He.glo_ok F.kin F.ns (F.d.fact 28 (f := .glo "law") rfl)
theorem Fx.n_int : M.mg "int" = none := He.free_ok F.kin F.ns (F.d.fact 29 (f := .free "int") rfl)
theorem Fx.n_isinstance : M.mg "isinstance" = none := He.free_ok F.kin F.ns (F.d.fact 30 (f := .free "isinstance") rfl)
theorem Fx.n_bool : M.mg "bool" = none := He.free_ok F.kin F.ns (F.d.fact 31 (f := .free "bool") rfl)
theorem Fx.n_tuple : M.mg "tuple" = none := He.free_ok F.kin F.ns (F.d.fact 32 (f := .free "tuple") rfl)
theorem Fx.n_len : M.mg "len" = none := He.free_ok F.kin F.ns (F.d.fact 33 (f := .free "len") rfl)
theorem Fx.n_enumerate : M.mg "enumerate" = none := He.free_ok F.kin F.ns (F.d.fact 34 (f := .free "enumerate") rfl)
theorem Fx.n_min : M.mg "min" = none := He.free_ok F.kin F.ns (F.d.fact 35 (f := .free "min") rfl)
theorem Fx.n_range : M.mg "range" = none := He.free_ok F.kin F.ns (F.d.fact 36 (f := .free "range") rfl)
theorem Fx.n_all : M.mg "all" = none := He.free_ok F.kin F.ns (F.d.fact 37 (f := .free "all") rfl)
theorem Fx.n_zip : M.mg "zip" = none := He.free_ok F.kin F.ns (F.d.fact 38 (f := .free "zip") rfl)
theorem Fx.n_sum : M.mg "sum" = none := He.free_ok F.kin F.ns (F.d.fact 39 (f := .free "sum") rfl)
theorem Fx.n_list : M.mg "list" = none := He.free_ok F.kin F.ns (F.d.fact 40 (f := .free "list") rfl)
theorem Fx.n_str : M.mg "str" = none := He.free_ok F.kin F.ns (F.d.fact 41 (f := .free "str") rfl)
theorem Fx.c_MOST_CAPACITY : ∃ u, M.mg "MOST_CAPACITY" = some u ∧ L2.RelV (.int 9) u := let ⟨t, h⟩ := He.int_ok F.kin F.ns (F.d.fact 42 (f := .int "MOST_CAPACITY" 9) rfl); ⟨_, h, t, rfl⟩
theorem Fx.c_MOST_MOMENTS : ∃ u, M.mg "MOST_MOMENTS" = some u ∧ L2.RelV (.int 12) u := let ⟨t, h⟩ := He.int_ok F.kin F.ns (F.d.fact 43 (f := .int "MOST_MOMENTS" 12) rfl); ⟨_, h, t, rfl⟩
theorem Fx.c_MOST_LIMIT : ∃ u, M.mg "MOST_LIMIT" = some u ∧ L2.RelV (.int 20) u := let ⟨t, h⟩ := He.int_ok F.kin F.ns (F.d.fact 44 (f := .int "MOST_LIMIT" 20) rfl); ⟨_, h, t, rfl⟩
theorem Fx.c_MOST_RAIN : ∃ u, M.mg "MOST_RAIN" = some u ∧ L2.RelV (.int 9) u := let ⟨t, h⟩ := He.int_ok F.kin F.ns (F.d.fact 45 (f := .int "MOST_RAIN" 9) rfl); ⟨_, h, t, rfl⟩
theorem Fx.c_MOST_PRICE : ∃ u, M.mg "MOST_PRICE" = some u ∧ L2.RelV (.int 9) u := let ⟨t, h⟩ := He.int_ok F.kin F.ns (F.d.fact 46 (f := .int "MOST_PRICE" 9) rfl); ⟨_, h, t, rfl⟩
theorem Fx.isa (hM : M.is r) : TabOk r isaT := tabB_ok (He.ba F.more).1 hM.1 fun c hc => by
  rw [hM.2.1]
  simp only [isaT, List.mem_cons, List.not_mem_nil, or_false] at hc
  rcases hc with rfl <;> simp only [F.g_Task]
theorem Fx.fld (hM : M.is r) : FldOk r fldT := fldB_ok (He.ba (He.ba F.more).2).1 hM.1 fun p hp => by
  rw [hM.2.1]
  simp only [fldT, List.mem_cons, List.not_mem_nil, or_false] at hp
  rcases hp with rfl | rfl | rfl | rfl | rfl | rfl <;> simp only [F.g_Task]
theorem Fx.eq_Task : EqCls M.K (He.ga M.K "Task") (He.ma M.K (He.ga M.K "Task") "__eq__") := eqclB_ok (He.ba (He.ba (He.ba F.more).2).2).1
theorem Fx.keeps : ∀ y ∈ fnsT, ∃ f, M.mg y = some (.ref f) ∧ PySem.W.keepIn M.K (.ref f) = true := fun y hy => by
  simp [fnsT] at hy
theorem Fx.cd_Task___init__ {fd : FuncData} {cdv : Value} (D : FunD M.K dd_Task___init__.name dd_Task___init__.qual dd_Task___init__.params dd_Task___init__.body dd_Task___init__.scope [] [] (He.fAd M.K dd_Task___init__.at_) fd) (h : fd.code = cdv) : cdv = .ref (He.cT M.K ("Task", some "__init__")).1 := by
  obtain ⟨oc, od, dV, kV, doc, pm, an, cd, ct, osl, rfl, lk, hcd, _, _⟩ := D.ex
  obtain ⟨c, rfl⟩ := He.codeIn_ref hcd
  have := He.codeOf_eq lk rfl
  rw [← h]
  exact congrArg Value.ref this.symm
end
section
variable {M : Md} (F : Fx M) {n : Nat} (A : AllOk M tab lamT n)
include F A
set_option maxRecDepth 100000 in
theorem ok_is_whole : CalF M (2 * (n + 1)) "is_whole" 1 (callN tab (n + 1) (.fn "is_whole")) := by
  obtain ⟨fd, D⟩ := F.d.def_ 0 (d := dd_is_whole) rfl
  refine ⟨_, fd, ["value"], F.g_is_whole, D.kp, D.bindsN (ps := ["value"]) fun _ _ _ _ _ _ us hl => match us, hl with | [_], _ => rfl, (g_fn (k := 2 * n + 1) (N := N_is_whole) (ps := ["value"]) (nN := 1) (np := 1) (body := sh_is_whole (callN tab n)) D sc_is_whole rfl rfl (fun gs S h => callN_eq tab_is_whole n gs S h) fun cdv A0 outer s H E r hcd hM hr c hX hp => ?_).mono (by omega)⟩
  have S := sc_is_whole
  have call := callN tab n
  exact (g_one (g_ret (g_and (g_callB (cr_gIsi c.K (F.isa hM)) rfl F.n_isinstance boot_isinstance (g_acons (g_var (i := 0) rfl (.inl rfl) rfl rfl) (g_acons (g_con (pe_bltn (v := .ty "int") rfl F.n_int boot_int rfl) fun _ _ => .ty _) g_anil rfl) rfl) (by decide) rfl rfl rfl) (g_one' (g_not (g_callB (cr_gIsi c.K (F.isa hM)) rfl F.n_isinstance boot_isinstance (g_acons (g_var (i := 0) rfl (.inl rfl) rfl rfl) (g_acons (g_con (pe_bltn (v := .ty "bool") rfl F.n_bool boot_bool rfl) fun _ _ => .ty _) g_anil rfl) rfl) (by decide) rfl rfl rfl) fun _ _ => rfl)))))
set_option maxRecDepth 100000 in
theorem ok_is_within : CalF M (2 * (n + 1)) "is_within" 3 (callN tab (n + 1) (.fn "is_within")) := by
  obtain ⟨fd, D⟩ := F.d.def_ 1 (d := dd_is_within) rfl
  refine ⟨_, fd, ["value", "least", "most"], F.g_is_within, D.kp, D.bindsN (ps := ["value", "least", "most"]) fun _ _ _ _ _ _ us hl => match us, hl with | [_, _, _], _ => rfl, (g_fn (k := 2 * n + 1) (N := N_is_within) (ps := ["value", "least", "most"]) (nN := 3) (np := 3) (body := sh_is_within (callN tab n)) D sc_is_within rfl rfl (fun gs S h => callN_eq tab_is_within n gs S h) fun cdv A0 outer s H E r hcd hM hr c hX hp => ?_).mono (by omega)⟩
  have S := sc_is_within
  have call := callN tab n
  exact (g_one (g_ret (g_and (g_callF c hX hM (A.fn "is_whole" _ tab_is_whole) (arity tab_is_whole n) (hr.mono (Nat.le_succ _)) rfl (g_acons (g_var (i := 0) rfl (.inl rfl) rfl rfl) g_anil rfl) rfl rfl rfl) (g_one' (g_chE (op_gLe) (op_gLe) (g_var (i := 1) rfl (.inl rfl) rfl rfl) (g_var (i := 0) rfl (.inl rfl) rfl rfl) (g_var (i := 2) rfl (.inl rfl) rfl rfl) (by with_unfolding_all rfl))))))
set_option maxRecDepth 100000 in
theorem ok_is_row : CalF M (2 * (n + 1)) "is_row" 2 (callN tab (n + 1) (.fn "is_row")) := by
  obtain ⟨fd, D⟩ := F.d.def_ 2 (d := dd_is_row) rfl
  refine ⟨_, fd, ["value", "size"], F.g_is_row, D.kp, D.bindsN (ps := ["value", "size"]) fun _ _ _ _ _ _ us hl => match us, hl with | [_, _], _ => rfl, (g_fn (k := 2 * n + 1) (N := N_is_row) (ps := ["value", "size"]) (nN := 2) (np := 2) (body := sh_is_row (callN tab n)) D sc_is_row rfl rfl (fun gs S h => callN_eq tab_is_row n gs S h) fun cdv A0 outer s H E r hcd hM hr c hX hp => ?_).mono (by omega)⟩
  have S := sc_is_row
  have call := callN tab n
  exact (g_one (g_ret (g_and (g_callB (cr_gIsi c.K (F.isa hM)) rfl F.n_isinstance boot_isinstance (g_acons (g_var (i := 0) rfl (.inl rfl) rfl rfl) (g_acons (g_con (pe_bltn (v := .ty "tuple") rfl F.n_tuple boot_tuple rfl) fun _ _ => .ty _) g_anil rfl) rfl) (by decide) rfl rfl rfl) (g_one' (g_cmp (op_gEq c.K c.un) (g_callB (cr_gLen c.K) rfl F.n_len boot_len (g_acons (g_var (i := 0) rfl (.inl rfl) rfl rfl) g_anil rfl) (by decide) rfl rfl rfl) (g_var (i := 1) rfl (.inl rfl) rfl rfl) (nomark _))))))
set_option maxRecDepth 100000 in
theorem ok_first_wrong : CalF M (2 * (n + 1)) "first_wrong" 4 (callN tab (n + 1) (.fn "first_wrong")) := by
  obtain ⟨fd, D⟩ := F.d.def_ 3 (d := dd_first_wrong) rfl
  refine ⟨_, fd, ["value", "least", "most", "judge"], F.g_first_wrong, D.kp, D.bindsN (ps := ["value", "least", "most", "judge"]) fun _ _ _ _ _ _ us hl => match us, hl with | [_, _, _, _], _ => rfl, (g_fn (k := 2 * n + 1) (N := N_first_wrong) (ps := ["value", "least", "most", "judge"]) (nN := 6) (np := 4) (body := sh_first_wrong (callN tab n)) D sc_first_wrong rfl rfl (fun gs S h => callN_eq tab_first_wrong n gs S h) fun cdv A0 outer s H E r hcd hM hr c hX hp => ?_).mono (by omega)⟩
  have S := sc_first_wrong
  have call := callN tab n
  exact (g_cons (g_if (PW.pt (g_tor (g_tnot (g_tval (g_callB (cr_gIsi c.K (F.isa hM)) rfl F.n_isinstance boot_isinstance (g_acons (g_var (i := 0) rfl (.inl rfl) rfl rfl) (g_acons (g_con (pe_bltn (v := .ty "tuple") rfl F.n_tuple boot_tuple rfl) fun _ _ => .ty _) g_anil rfl) rfl) (by decide) rfl rfl rfl) fun _ => rfl)) (g_tor1 (g_tnot (g_chT (op_gLe) (op_gLe) (g_var (i := 1) rfl (.inl rfl) rfl rfl) (g_callB (cr_gLen c.K) rfl F.n_len boot_len (g_acons (g_var (i := 0) rfl (.inl rfl) rfl rfl) g_anil rfl) (by decide) rfl rfl rfl) (g_var (i := 2) rfl (.inl rfl) rfl rfl) (by with_unfolding_all rfl))))))
  (g_one (g_ret (g_neg (g_con pe_int fun _ _ => .int _))))
  g_nil)
  (g_cons (g_for c.K hp c.calm (pi_itEn c.K rfl F.n_enumerate (g_acons (g_var (i := 0) rfl (.inl rfl) rfl rfl) g_anil rfl) rfl) (g_ttp c.calm (g_tgcons (g_tnm0 (i := 4) S.nd rfl (.inl rfl) (.inl rfl)) (g_tgcons (g_tnm0 (i := 5) S.nd rfl (.inl rfl) (.inl rfl)) g_tgnil rfl) rfl) rfl rfl)
  (g_one (g_if (g_tnot (g_tval (g_callLoc c hX hM F.lo (hr.mono (Nat.le_succ _)) (i := 3) rfl (.inl rfl) F.keeps A.locF A.locL (g_acons (g_var (i := 5) rfl (.inl rfl) rfl rfl) (g_acons (g_sl c.K (g_var (i := 0) rfl (.inl rfl) rfl rfl) g_ono (g_oso (g_var (i := 4) rfl (.inl rfl) rfl rfl))) g_anil rfl) rfl) rfl rfl rfl rfl) fun _ => rfl))
  (g_one (g_ret (g_var (i := 4) rfl (.inl rfl) rfl rfl)))
  g_nil)) fun _ => rfl)
  (g_one (g_ret (g_con pe_non fun _ _ => .non)))))
set_option maxRecDepth 100000 in
theorem ok_place_told : CalF M (2 * (n + 1)) "place_told" 1 (callN tab (n + 1) (.fn "place_told")) := by
  obtain ⟨fd, D⟩ := F.d.def_ 4 (d := dd_place_told) rfl
  refine ⟨_, fd, ["place"], F.g_place_told, D.kp, D.bindsN (ps := ["place"]) fun _ _ _ _ _ _ us hl => match us, hl with | [_], _ => rfl, (g_fn (k := 2 * n + 1) (N := N_place_told) (ps := ["place"]) (nN := 1) (np := 1) (body := sh_place_told (callN tab n)) D sc_place_told rfl rfl (fun gs S h => callN_eq tab_place_told n gs S h) fun cdv A0 outer s H E r hcd hM hr c hX hp => ?_).mono (by omega)⟩
  have S := sc_place_told
  have call := callN tab n
  exact (g_one (g_ret (g_ife (g_tcmp (op_gEq c.K c.un) (g_var (i := 0) rfl (.inl rfl) rfl rfl) (g_neg (g_con pe_int fun _ _ => .int _)) (nomark _)) (g_con pe_non fun _ _ => .non) (g_var (i := 0) rfl (.inl rfl) rfl rfl))))
set_option maxRecDepth 100000 in
theorem ok_is_task : CalF M (2 * (n + 1)) "is_task" 1 (callN tab (n + 1) (.fn "is_task")) := by
  obtain ⟨fd, D⟩ := F.d.def_ 5 (d := dd_is_task) rfl
  refine ⟨_, fd, ["value"], F.g_is_task, D.kp, D.bindsN (ps := ["value"]) fun _ _ _ _ _ _ us hl => match us, hl with | [_], _ => rfl, (g_fn (k := 2 * n + 1) (N := N_is_task) (ps := ["value"]) (nN := 1) (np := 1) (body := sh_is_task (callN tab n)) D sc_is_task rfl rfl (fun gs S h => callN_eq tab_is_task n gs S h) fun cdv A0 outer s H E r hcd hM hr c hX hp => ?_).mono (by omega)⟩
  have S := sc_is_task
  have call := callN tab n
  exact (g_one (g_ret (g_callB (cr_gIsi c.K (F.isa hM)) rfl F.n_isinstance boot_isinstance (g_acons (g_var (i := 0) rfl (.inl rfl) rfl rfl) (g_acons (g_glob hM hX rfl F.g_Task rfl) g_anil rfl) rfl) (by decide) rfl rfl rfl)))
set_option maxRecDepth 100000 in
theorem ok_choices : CalF M (2 * (n + 1)) "choices" 3 (callN tab (n + 1) (.fn "choices")) := by
  obtain ⟨fd, D⟩ := F.d.def_ 6 (d := dd_choices) rfl
  refine ⟨_, fd, ["task", "moment", "level"], F.g_choices, D.kp, D.bindsN (ps := ["task", "moment", "level"]) fun _ _ _ _ _ _ us hl => match us, hl with | [_, _, _], _ => rfl, (g_fn (k := 2 * n + 1) (N := N_choices) (ps := ["task", "moment", "level"]) (nN := 6) (np := 3) (body := sh_choices (callN tab n)) D sc_choices rfl rfl (fun gs S h => callN_eq tab_choices n gs S h) fun cdv A0 outer s H E r hcd hM hr c hX hp => ?_).mono (by omega)⟩
  have S := sc_choices
  have call := callN tab n
  exact (g_cons (g_set (i := 3) S.nd rfl (.inr rfl) (g_bin (op_gAddA c.K) (g_var (i := 2) rfl (.inl rfl) rfl rfl) (g_ix (ix_gIx c.K) (g_fld c.K (F.fld hM) (g_var (i := 0) rfl (.inr (.inl rfl)) rfl rfl) rfl) (g_var (i := 1) rfl (.inl rfl) rfl rfl) fun _ _ => rfl)) rfl (.inl rfl))
  (g_cons (g_set (i := 4) S.nd rfl (.inl rfl) (g_callB (cr_gMin c.K c.calm) rfl F.n_min boot_min (g_acons (g_fld c.K (F.fld hM) (g_var (i := 0) rfl (.inr (.inl rfl)) rfl rfl) rfl) (g_acons (g_var (i := 3) rfl (.inr (.inl rfl)) rfl rfl) g_anil rfl) rfl) (by decide) rfl rfl rfl) rfl (.inl rfl))
  (g_one (g_ret (g_lc c.K c.calm S.nd (pi_itR1 rfl F.n_range (g_acons (g_bin (op_gAddA c.K) (g_var (i := 4) rfl (.inl rfl) rfl rfl) (g_con pe_int fun _ _ => .int _)) g_anil rfl) rfl) (own := [("many", 5)]) (blkOk_by rfl) (by decide) (fun _ _ _ _ _ => (g_tn (i := 5) S.nd rfl (.inl rfl) (.inr rfl))) (fun _ _ _ _ _ => (pts_one (PT_any fun _ => (g_tcmp (op_gLe) (g_bin (op_gSub) (g_var (i := 3) rfl (.inr (.inl rfl)) rfl rfl) (g_var (i := 5) rfl (.inl rfl) rfl rfl)) (g_fld (Ctx.blk c).K (F.fld hM) (g_var (i := 0) rfl (.inr (.inl rfl)) rfl rfl) rfl) (nomark _))))) (fun _ _ _ _ _ => PE_any fun _ => (g_tup (g_acons (g_var (i := 5) rfl (.inl rfl) rfl rfl) (g_acons (g_bin (op_gSub) (g_var (i := 3) rfl (.inr (.inl rfl)) rfl rfl) (g_var (i := 5) rfl (.inl rfl) rfl rfl)) g_anil rfl) rfl))) fun _ => rfl)))))
set_option maxRecDepth 100000 in
theorem ok_least_of : CalF M (2 * (n + 1)) "least_of" 1 (callN tab (n + 1) (.fn "least_of")) := by
  obtain ⟨fd, D⟩ := F.d.def_ 7 (d := dd_least_of) rfl
  refine ⟨_, fd, ["numbers"], F.g_least_of, D.kp, D.bindsN (ps := ["numbers"]) fun _ _ _ _ _ _ us hl => match us, hl with | [_], _ => rfl, (g_fn (k := 2 * n + 1) (N := N_least_of) (ps := ["numbers"]) (nN := 3) (np := 1) (body := sh_least_of (callN tab n)) D sc_least_of rfl rfl (fun gs S h => callN_eq tab_least_of n gs S h) fun cdv A0 outer s H E r hcd hM hr c hX hp => ?_).mono (by omega)⟩
  have S := sc_least_of
  have call := callN tab n
  exact (g_cons (g_setLc c.K c.calm S.nd (i := 1) rfl rfl rfl (pi_itV c.K (g_var (i := 0) rfl (.inl rfl) rfl rfl)) (own := [("one", 2)]) (blkOk_by rfl) (by decide) (fun _ _ _ _ _ => (g_tn (i := 2) S.nd rfl (.inl rfl) (.inr rfl))) (fun _ _ _ _ _ => (pts_one (PT_any fun _ => (g_tcmp (op_gIsNot) (g_var (i := 2) rfl (.inl rfl) rfl rfl) (g_con pe_non fun _ _ => .non) (nomark _))))) (fun _ _ _ _ _ => PE_any fun _ => (g_var (i := 2) rfl (.inl rfl) rfl rfl)) fun _ => rfl)
  (g_one (g_ret (g_ife (g_tcmp (op_gNe c.K c.un) (g_var (i := 1) rfl (.inl rfl) rfl rfl) (g_lst g_anil) (nomark _)) (g_callB (cr_gMin c.K c.calm) rfl F.n_min boot_min (g_acons (g_var (i := 1) rfl (.inl rfl) rfl rfl) g_anil rfl) (by decide) rfl rfl rfl) (g_con pe_non fun _ _ => .non)))))
set_option maxRecDepth 100000 in
theorem ok_row_of : CalF M (2 * (n + 1)) "row_of" 3 (callN tab (n + 1) (.fn "row_of")) := by
  obtain ⟨fd, D⟩ := F.d.def_ 8 (d := dd_row_of) rfl
  refine ⟨_, fd, ["task", "moment", "behind"], F.g_row_of, D.kp, D.bindsN (ps := ["task", "moment", "behind"]) fun _ _ _ _ _ _ us hl => match us, hl with | [_, _, _], _ => rfl, (g_fn (k := 2 * n + 1) (N := N_row_of) (ps := ["task", "moment", "behind"]) (nN := 8) (np := 3) (body := sh_row_of (callN tab n)) D sc_row_of rfl rfl (fun gs S h => callN_eq tab_row_of n gs S h) fun cdv A0 outer s H E r hcd hM hr c hX hp => ?_).mono (by omega)⟩
  have S := sc_row_of
  have call := callN tab n
  exact (g_cons (g_set (i := 3) S.nd rfl (.inl rfl) (g_lstA g_anil) rfl (.inl rfl))
  (g_cons (g_for c.K hp c.calm (pi_itR1 rfl F.n_range (g_acons (g_bin (op_gAddA c.K) (g_fld c.K (F.fld hM) (g_var (i := 0) rfl (.inl rfl) rfl rfl) rfl) (g_con pe_int fun _ _ => .int _)) g_anil rfl) rfl) (g_tn (i := 4) S.nd rfl (.inl rfl) (.inl rfl))
  (g_cons (g_set (i := 5) S.nd rfl (.inl rfl) (g_lstA g_anil) rfl (.inl rfl))
  (g_cons (g_for c.K hp c.calm (pi_itV c.K (g_callF c hX hM (A.fn "choices" _ tab_choices) (arity tab_choices n) (hr.mono (Nat.le_succ _)) rfl (g_acons (g_var (i := 0) rfl (.inl rfl) rfl rfl) (g_acons (g_var (i := 1) rfl (.inl rfl) rfl rfl) (g_acons (g_var (i := 4) rfl (.inl rfl) rfl rfl) g_anil rfl) rfl) rfl) rfl rfl rfl)) (g_ttp c.calm (g_tgcons (g_tnm0 (i := 6) S.nd rfl (.inl rfl) (.inl rfl)) (g_tgcons (g_tnm0 (i := 7) S.nd rfl (.inl rfl) (.inl rfl)) g_tgnil rfl) rfl) rfl rfl)
  (g_one (g_expr (g_ml c.K PySem.F.slot_list_append PySem.F.type_list_append mt_gApp (g_var (i := 5) rfl (.inl rfl) rfl rfl) (g_acons (g_ife (g_tcmp (op_gIs) (g_ix (ix_gIx c.K) (g_var (i := 2) rfl (.inl rfl) rfl rfl) (g_var (i := 7) rfl (.inl rfl) rfl rfl) fun _ _ => rfl) (g_con pe_non fun _ _ => .non) (nomark _)) (g_con pe_non fun _ _ => .non) (g_bin (op_gAddA c.K) (g_bin (op_gMulA c.K) (g_var (i := 6) rfl (.inl rfl) rfl rfl) (g_ix (ix_gIx c.K) (g_fld c.K (F.fld hM) (g_var (i := 0) rfl (.inl rfl) rfl rfl) rfl) (g_var (i := 1) rfl (.inl rfl) rfl rfl) fun _ _ => rfl)) (g_ix (ix_gIx c.K) (g_var (i := 2) rfl (.inl rfl) rfl rfl) (g_var (i := 7) rfl (.inl rfl) rfl rfl) fun _ _ => rfl))) g_anil rfl) rfl rfl rfl rfl rfl) rfl)) fun _ => rfl)
  (g_one (g_expr (g_ml c.K PySem.F.slot_list_append PySem.F.type_list_append mt_gApp (g_var (i := 3) rfl (.inl rfl) rfl rfl) (g_acons (g_callF c hX hM (A.fn "least_of" _ tab_least_of) (arity tab_least_of n) (hr.mono (Nat.le_succ _)) rfl (g_acons (g_var (i := 5) rfl (.inl rfl) rfl rfl) g_anil rfl) rfl rfl rfl) g_anil rfl) rfl rfl rfl rfl rfl) rfl)))) fun _ => rfl)
  (g_one (g_ret (g_callTy (cr_gTuple c.K) rfl F.n_tuple boot_tuple (g_acons (g_var (i := 3) rfl (.inl rfl) rfl rfl) g_anil rfl) (by decide) rfl rfl rfl)))))
set_option maxRecDepth 100000 in
theorem ok_tables_of : CalF M (2 * (n + 1)) "tables_of" 1 (callN tab (n + 1) (.fn "tables_of")) := by
  obtain ⟨fd, D⟩ := F.d.def_ 9 (d := dd_tables_of) rfl
  refine ⟨_, fd, ["task"], F.g_tables_of, D.kp, D.bindsN (ps := ["task"]) fun _ _ _ _ _ _ us hl => match us, hl with | [_], _ => rfl, (g_fn (k := 2 * n + 1) (N := N_tables_of) (ps := ["task"]) (nN := 3) (np := 1) (body := sh_tables_of (callN tab n)) D sc_tables_of rfl rfl (fun gs S h => callN_eq tab_tables_of n gs S h) fun cdv A0 outer s H E r hcd hM hr c hX hp => ?_).mono (by omega)⟩
  have S := sc_tables_of
  have call := callN tab n
  exact (g_cons (g_set (i := 1) S.nd rfl (.inl rfl) (g_lstA (g_acons (g_bin (op_gMulA c.K) (g_tup (g_acons (g_con pe_int fun _ _ => .int _) g_anil rfl)) (g_bin (op_gAddA c.K) (g_fld c.K (F.fld hM) (g_var (i := 0) rfl (.inl rfl) rfl rfl) rfl) (g_con pe_int fun _ _ => .int _))) g_anil rfl)) rfl (.inl rfl))
  (g_cons (g_for c.K hp c.calm (pi_itR3 rfl F.n_range (g_acons (g_bin (op_gSub) (g_callB (cr_gLen c.K) rfl F.n_len boot_len (g_acons (g_fld c.K (F.fld hM) (g_var (i := 0) rfl (.inl rfl) rfl rfl) rfl) g_anil rfl) (by decide) rfl rfl rfl) (g_con pe_int fun _ _ => .int _)) (g_acons (g_neg (g_con pe_int fun _ _ => .int _)) (g_acons (g_neg (g_con pe_int fun _ _ => .int _)) g_anil rfl) rfl) rfl) rfl rfl) (g_tn (i := 2) S.nd rfl (.inl rfl) (.inl rfl))
  (g_one (g_expr (g_ml c.K PySem.F.slot_list_append PySem.F.type_list_append mt_gApp (g_var (i := 1) rfl (.inl rfl) rfl rfl) (g_acons (g_callF c hX hM (A.fn "row_of" _ tab_row_of) (arity tab_row_of n) (hr.mono (Nat.le_succ _)) rfl (g_acons (g_var (i := 0) rfl (.inl rfl) rfl rfl) (g_acons (g_var (i := 2) rfl (.inl rfl) rfl rfl) (g_acons (g_ix (ix_gIx c.K) (g_var (i := 1) rfl (.inl rfl) rfl rfl) (g_neg (g_con pe_int fun _ _ => .int _)) fun _ _ => rfl) g_anil rfl) rfl) rfl) rfl rfl rfl) g_anil rfl) rfl rfl rfl rfl rfl) rfl)) fun _ => rfl)
  (g_one (g_ret (g_rev c.K (g_var (i := 1) rfl (.inl rfl) rfl rfl))))))
set_option maxRecDepth 100000 in
theorem ok_tables : CalF M (2 * (n + 1)) "tables" 1 (callN tab (n + 1) (.fn "tables")) := by
  obtain ⟨fd, D⟩ := F.d.def_ 10 (d := dd_tables) rfl
  refine ⟨_, fd, ["task"], F.g_tables, D.kp, D.bindsN (ps := ["task"]) fun _ _ _ _ _ _ us hl => match us, hl with | [_], _ => rfl, (g_fn (k := 2 * n + 1) (N := N_tables) (ps := ["task"]) (nN := 1) (np := 1) (body := sh_tables (callN tab n)) D sc_tables rfl rfl (fun gs S h => callN_eq tab_tables n gs S h) fun cdv A0 outer s H E r hcd hM hr c hX hp => ?_).mono (by omega)⟩
  have S := sc_tables
  have call := callN tab n
  exact (g_one (g_ret (g_callTy (cr_gTuple c.K) rfl F.n_tuple boot_tuple (g_acons (g_callF c hX hM (A.fn "tables_of" _ tab_tables_of) (arity tab_tables_of n) (hr.mono (Nat.le_succ _)) rfl (g_acons (g_var (i := 0) rfl (.inl rfl) rfl rfl) g_anil rfl) rfl rfl rfl) g_anil rfl) (by decide) rfl rfl rfl)))
set_option maxRecDepth 100000 in
theorem ok_least_price : CalF M (2 * (n + 1)) "least_price" 1 (callN tab (n + 1) (.fn "least_price")) := by
  obtain ⟨fd, D⟩ := F.d.def_ 11 (d := dd_least_price) rfl
  refine ⟨_, fd, ["task"], F.g_least_price, D.kp, D.bindsN (ps := ["task"]) fun _ _ _ _ _ _ us hl => match us, hl with | [_], _ => rfl, (g_fn (k := 2 * n + 1) (N := N_least_price) (ps := ["task"]) (nN := 1) (np := 1) (body := sh_least_price (callN tab n)) D sc_least_price rfl rfl (fun gs S h => callN_eq tab_least_price n gs S h) fun cdv A0 outer s H E r hcd hM hr c hX hp => ?_).mono (by omega)⟩
  have S := sc_least_price
  have call := callN tab n
  exact (g_one (g_ret (g_ix (ix_gIx c.K) (g_ix (ix_gIx c.K) (g_callF c hX hM (A.fn "tables_of" _ tab_tables_of) (arity tab_tables_of n) (hr.mono (Nat.le_succ _)) rfl (g_acons (g_var (i := 0) rfl (.inl rfl) rfl rfl) g_anil rfl) rfl rfl rfl) (g_con pe_int fun _ _ => .int _) fun _ _ => rfl) (g_fld c.K (F.fld hM) (g_var (i := 0) rfl (.inl rfl) rfl rfl) rfl) fun _ _ => rfl)))
set_option maxRecDepth 100000 in
theorem ok_plan : CalF M (2 * (n + 1)) "plan" 1 (callN tab (n + 1) (.fn "plan")) := by
  obtain ⟨fd, D⟩ := F.d.def_ 12 (d := dd_plan) rfl
  refine ⟨_, fd, ["task"], F.g_plan, D.kp, D.bindsN (ps := ["task"]) fun _ _ _ _ _ _ us hl => match us, hl with | [_], _ => rfl, (g_fn (k := 2 * n + 1) (N := N_plan) (ps := ["task"]) (nN := 7) (np := 1) (body := sh_plan (callN tab n)) D sc_plan rfl rfl (fun gs S h => callN_eq tab_plan n gs S h) fun cdv A0 outer s H E r hcd hM hr c hX hp => ?_).mono (by omega)⟩
  have S := sc_plan
  have call := callN tab n
  exact (g_cons (g_set (i := 1) S.nd rfl (.inl rfl) (g_callF c hX hM (A.fn "tables_of" _ tab_tables_of) (arity tab_tables_of n) (hr.mono (Nat.le_succ _)) rfl (g_acons (g_var (i := 0) rfl (.inl rfl) rfl rfl) g_anil rfl) rfl rfl rfl) rfl (.inl rfl))
  (g_cons (g_if (g_tcmp (op_gIs) (g_ix (ix_gIx c.K) (g_ix (ix_gIx c.K) (g_var (i := 1) rfl (.inl rfl) rfl rfl) (g_con pe_int fun _ _ => .int _) fun _ _ => rfl) (g_fld c.K (F.fld hM) (g_var (i := 0) rfl (.inl rfl) rfl rfl) rfl) fun _ _ => rfl) (g_con pe_non fun _ _ => .non) (nomark _))
  (g_one (g_ret (g_con pe_non fun _ _ => .non)))
  g_nil)
  (g_cons (g_par c.calm S.nd (i := 2) (j := 3) rfl rfl (by decide) rfl rfl (g_lstA g_anil) (g_fld c.K (F.fld hM) (g_var (i := 0) rfl (.inl rfl) rfl rfl) rfl) rfl rfl rfl rfl)
  (g_cons (g_for c.K hp c.calm (pi_itR1 rfl F.n_range (g_acons (g_callB (cr_gLen c.K) rfl F.n_len boot_len (g_acons (g_fld c.K (F.fld hM) (g_var (i := 0) rfl (.inl rfl) rfl rfl) rfl) g_anil rfl) (by decide) rfl rfl rfl) g_anil rfl) rfl) (g_tn (i := 4) S.nd rfl (.inl rfl) (.inl rfl))
  (g_one (g_for c.K hp c.calm (pi_itV c.K (g_callF c hX hM (A.fn "choices" _ tab_choices) (arity tab_choices n) (hr.mono (Nat.le_succ _)) rfl (g_acons (g_var (i := 0) rfl (.inl rfl) rfl rfl) (g_acons (g_var (i := 4) rfl (.inl rfl) rfl rfl) (g_acons (g_var (i := 3) rfl (.inl rfl) rfl rfl) g_anil rfl) rfl) rfl) rfl rfl rfl)) (g_ttp c.calm (g_tgcons (g_tnm0 (i := 5) S.nd rfl (.inl rfl) (.inl rfl)) (g_tgcons (g_tnm0 (i := 6) S.nd rfl (.inl rfl) (.inl rfl)) g_tgnil rfl) rfl) rfl rfl)
  (g_one (g_if (g_tcmp (op_gIsNot) (g_ix (ix_gIx c.K) (g_ix (ix_gIx c.K) (g_var (i := 1) rfl (.inl rfl) rfl rfl) (g_bin (op_gAddA c.K) (g_var (i := 4) rfl (.inl rfl) rfl rfl) (g_con pe_int fun _ _ => .int _)) fun _ _ => rfl) (g_var (i := 6) rfl (.inl rfl) rfl rfl) fun _ _ => rfl) (g_con pe_non fun _ _ => .non) (nomark _))
  (g_one (g_if (g_tcmp (op_gEq c.K c.un) (g_bin (op_gAddA c.K) (g_bin (op_gMulA c.K) (g_var (i := 5) rfl (.inl rfl) rfl rfl) (g_ix (ix_gIx c.K) (g_fld c.K (F.fld hM) (g_var (i := 0) rfl (.inl rfl) rfl rfl) rfl) (g_var (i := 4) rfl (.inl rfl) rfl rfl) fun _ _ => rfl)) (g_ix (ix_gIx c.K) (g_ix (ix_gIx c.K) (g_var (i := 1) rfl (.inl rfl) rfl rfl) (g_bin (op_gAddA c.K) (g_var (i := 4) rfl (.inl rfl) rfl rfl) (g_con pe_int fun _ _ => .int _)) fun _ _ => rfl) (g_var (i := 6) rfl (.inl rfl) rfl rfl) fun _ _ => rfl)) (g_ix (ix_gIx c.K) (g_ix (ix_gIx c.K) (g_var (i := 1) rfl (.inl rfl) rfl rfl) (g_var (i := 4) rfl (.inl rfl) rfl rfl) fun _ _ => rfl) (g_var (i := 3) rfl (.inl rfl) rfl rfl) fun _ _ => rfl) (nomark _))
  (g_cons (g_expr (g_ml c.K PySem.F.slot_list_append PySem.F.type_list_append mt_gApp (g_var (i := 2) rfl (.inl rfl) rfl rfl) (g_acons (g_var (i := 5) rfl (.inl rfl) rfl rfl) g_anil rfl) rfl rfl rfl rfl rfl) rfl)
  (g_cons (g_set (i := 3) S.nd rfl (.inl rfl) (g_var (i := 6) rfl (.inl rfl) rfl rfl) rfl (.inl rfl))
  (g_one g_break)))
  g_nil))
  g_nil)) fun _ => rfl)) fun _ => rfl)
  (g_one (g_ret (g_callTy (cr_gTuple c.K) rfl F.n_tuple boot_tuple (g_acons (g_var (i := 2) rfl (.inl rfl) rfl rfl) g_anil rfl) (by decide) rfl rfl rfl)))))))
set_option maxRecDepth 100000 in
theorem ok_levels_of : CalF M (2 * (n + 1)) "levels_of" 2 (callN tab (n + 1) (.fn "levels_of")) := by
  obtain ⟨fd, D⟩ := F.d.def_ 13 (d := dd_levels_of) rfl
  refine ⟨_, fd, ["task", "value"], F.g_levels_of, D.kp, D.bindsN (ps := ["task", "value"]) fun _ _ _ _ _ _ us hl => match us, hl with | [_, _], _ => rfl, (g_fn (k := 2 * n + 1) (N := N_levels_of) (ps := ["task", "value"]) (nN := 6) (np := 2) (body := sh_levels_of (callN tab n)) D sc_levels_of rfl rfl (fun gs S h => callN_eq tab_levels_of n gs S h) fun cdv A0 outer s H E r hcd hM hr c hX hp => ?_).mono (by omega)⟩
  have S := sc_levels_of
  have call := callN tab n
  exact (g_cons (g_if (PW.pt (g_tor (g_tnot (g_tval (g_callF c hX hM (A.fn "is_row" _ tab_is_row) (arity tab_is_row n) (hr.mono (Nat.le_succ _)) rfl (g_acons (g_var (i := 1) rfl (.inl rfl) rfl rfl) (g_acons (g_callB (cr_gLen c.K) rfl F.n_len boot_len (g_acons (g_fld c.K (F.fld hM) (g_var (i := 0) rfl (.inl rfl) rfl rfl) rfl) g_anil rfl) (by decide) rfl rfl rfl) g_anil rfl) rfl) rfl rfl rfl) fun _ => rfl)) (g_tor1 (g_tnot (g_tval (g_callB (cr_gAll c.K c.calm) rfl F.n_all boot_all (g_acons (g_lc c.K c.calm S.nd (pi_itV c.K (g_var (i := 1) rfl (.inl rfl) rfl rfl)) (own := [("many", 2)]) (blkOk_by rfl) (by decide) (fun _ _ _ _ _ => (g_tn (i := 2) S.nd rfl (.inl rfl) (.inr rfl))) (fun _ _ _ _ _ => pts_tYes) (fun _ _ _ _ _ => PE_any fun _ => (g_and (g_callF (Ctx.blk c) hX hM (A.fn "is_whole" _ tab_is_whole) (arity tab_is_whole n) (hr.mono (Nat.le_succ _)) rfl (g_acons (g_var (i := 2) rfl (.inl rfl) rfl rfl) g_anil rfl) rfl rfl rfl) (g_one' (g_cmp (op_gGe) (g_var (i := 2) rfl (.inl rfl) rfl rfl) (g_con pe_int fun _ _ => .int _) (nomark _))))) fun _ => rfl) g_anil rfl) (by decide) rfl rfl rfl) fun _ => rfl)))))
  (g_one (g_ret (g_con pe_non fun _ _ => .non)))
  g_nil)
  (g_cons (g_par c.calm S.nd (i := 3) (j := 4) rfl rfl (by decide) rfl rfl (g_lstA g_anil) (g_fld c.K (F.fld hM) (g_var (i := 0) rfl (.inl rfl) rfl rfl) rfl) rfl rfl rfl rfl)
  (g_cons (g_for c.K hp c.calm (pi_itEn c.K rfl F.n_enumerate (g_acons (g_var (i := 1) rfl (.inl rfl) rfl rfl) g_anil rfl) rfl) (g_ttp c.calm (g_tgcons (g_tnm0 (i := 5) S.nd rfl (.inl rfl) (.inl rfl)) (g_tgcons (g_tnm0 (i := 2) S.nd rfl (.inl rfl) (.inl rfl)) g_tgnil rfl) rfl) rfl rfl)
  (g_cons (g_augadd (j := 4) S.nd rfl (.inl rfl) (.inl rfl) (g_bin (op_gSub) (g_ix (ix_gIx c.K) (g_fld c.K (F.fld hM) (g_var (i := 0) rfl (.inl rfl) rfl rfl) rfl) (g_var (i := 5) rfl (.inl rfl) rfl rfl) fun _ _ => rfl) (g_var (i := 2) rfl (.inl rfl) rfl rfl)))
  (g_cons (g_if (PW.pt (g_tor (g_tcmp (op_gGt) (g_var (i := 2) rfl (.inl rfl) rfl rfl) (g_fld c.K (F.fld hM) (g_var (i := 0) rfl (.inl rfl) rfl rfl) rfl) (nomark _)) (g_tor (g_tcmp (op_gLt) (g_var (i := 4) rfl (.inl rfl) rfl rfl) (g_con pe_int fun _ _ => .int _) (nomark _)) (g_tor1 (g_tcmp (op_gGt) (g_var (i := 4) rfl (.inl rfl) rfl rfl) (g_fld c.K (F.fld hM) (g_var (i := 0) rfl (.inl rfl) rfl rfl) rfl) (nomark _))))))
  (g_one (g_ret (g_con pe_non fun _ _ => .non)))
  g_nil)
  (g_one (g_expr (g_ml c.K PySem.F.slot_list_append PySem.F.type_list_append mt_gApp (g_var (i := 3) rfl (.inl rfl) rfl rfl) (g_acons (g_var (i := 4) rfl (.inl rfl) rfl rfl) g_anil rfl) rfl rfl rfl rfl rfl) rfl)))) fun _ => rfl)
  (g_one (g_ret (g_callTy (cr_gTuple c.K) rfl F.n_tuple boot_tuple (g_acons (g_var (i := 3) rfl (.inl rfl) rfl rfl) g_anil rfl) (by decide) rfl rfl rfl))))))
set_option maxRecDepth 100000 in
theorem ok_is_plan : CalF M (2 * (n + 1)) "is_plan" 2 (callN tab (n + 1) (.fn "is_plan")) := by
  obtain ⟨fd, D⟩ := F.d.def_ 14 (d := dd_is_plan) rfl
  refine ⟨_, fd, ["task", "value"], F.g_is_plan, D.kp, D.bindsN (ps := ["task", "value"]) fun _ _ _ _ _ _ us hl => match us, hl with | [_, _], _ => rfl, (g_fn (k := 2 * n + 1) (N := N_is_plan) (ps := ["task", "value"]) (nN := 2) (np := 2) (body := sh_is_plan (callN tab n)) D sc_is_plan rfl rfl (fun gs S h => callN_eq tab_is_plan n gs S h) fun cdv A0 outer s H E r hcd hM hr c hX hp => ?_).mono (by omega)⟩
  have S := sc_is_plan
  have call := callN tab n
  exact (g_one (g_ret (g_cmp (op_gIsNot) (g_callF c hX hM (A.fn "levels_of" _ tab_levels_of) (arity tab_levels_of n) (hr.mono (Nat.le_succ _)) rfl (g_acons (g_var (i := 0) rfl (.inl rfl) rfl rfl) (g_acons (g_var (i := 1) rfl (.inl rfl) rfl rfl) g_anil rfl) rfl) rfl rfl rfl) (g_con pe_non fun _ _ => .non) (nomark _))))
set_option maxRecDepth 100000 in
theorem ok_price_of : CalF M (2 * (n + 1)) "price_of" 2 (callN tab (n + 1) (.fn "price_of")) := by
  obtain ⟨fd, D⟩ := F.d.def_ 15 (d := dd_price_of) rfl
  refine ⟨_, fd, ["task", "value"], F.g_price_of, D.kp, D.bindsN (ps := ["task", "value"]) fun _ _ _ _ _ _ us hl => match us, hl with | [_, _], _ => rfl, (g_fn (k := 2 * n + 1) (N := N_price_of) (ps := ["task", "value"]) (nN := 4) (np := 2) (body := sh_price_of (callN tab n)) D sc_price_of rfl rfl (fun gs S h => callN_eq tab_price_of n gs S h) fun cdv A0 outer s H E r hcd hM hr c hX hp => ?_).mono (by omega)⟩
  have S := sc_price_of
  have call := callN tab n
  exact (g_cons (g_if (g_tnot (g_tval (g_callF c hX hM (A.fn "is_plan" _ tab_is_plan) (arity tab_is_plan n) (hr.mono (Nat.le_succ _)) rfl (g_acons (g_var (i := 0) rfl (.inl rfl) rfl rfl) (g_acons (g_var (i := 1) rfl (.inl rfl) rfl rfl) g_anil rfl) rfl) rfl rfl rfl) fun _ => rfl))
  (g_one (g_ret (g_con pe_non fun _ _ => .non)))
  g_nil)
  (g_one (g_ret (g_callB (cr_gSum c.K c.calm) rfl F.n_sum boot_sum (g_acons (g_lc c.K c.calm S.nd (pi_itZip c.K rfl F.n_zip (g_acons (g_var (i := 1) rfl (.inl rfl) rfl rfl) (g_acons (g_fld c.K (F.fld hM) (g_var (i := 0) rfl (.inl rfl) rfl rfl) rfl) g_anil rfl) rfl) rfl rfl) (own := [("many", 2), ("price", 3)]) (blkOk_by rfl) (by decide) (fun _ _ _ _ _ => (g_ttp c.calm (g_tgcons (g_tnm0 (i := 2) S.nd rfl (.inl rfl) (.inr rfl)) (g_tgcons (g_tnm0 (i := 3) S.nd rfl (.inl rfl) (.inr rfl)) g_tgnil rfl) rfl) rfl rfl)) (fun _ _ _ _ _ => pts_tYes) (fun _ _ _ _ _ => PE_any fun _ => (g_bin (op_gMulA (Ctx.blk c).K) (g_var (i := 2) rfl (.inl rfl) rfl rfl) (g_var (i := 3) rfl (.inl rfl) rfl rfl))) fun _ => rfl) g_anil rfl) (by decide) rfl rfl rfl))))
set_option maxRecDepth 100000 in
theorem ok_is_entry : CalF M (2 * (n + 1)) "is_entry" 1 (callN tab (n + 1) (.fn "is_entry")) := by
  obtain ⟨fd, D⟩ := F.d.def_ 16 (d := dd_is_entry) rfl
  refine ⟨_, fd, ["value"], F.g_is_entry, D.kp, D.bindsN (ps := ["value"]) fun _ _ _ _ _ _ us hl => match us, hl with | [_], _ => rfl, (g_fn (k := 2 * n + 1) (N := N_is_entry) (ps := ["value"]) (nN := 1) (np := 1) (body := sh_is_entry (callN tab n)) D sc_is_entry rfl rfl (fun gs S h => callN_eq tab_is_entry n gs S h) fun cdv A0 outer s H E r hcd hM hr c hX hp => ?_).mono (by omega)⟩
  have S := sc_is_entry
  have call := callN tab n
  exact (g_one (g_ret (g_or (g_cmp (op_gIs) (g_var (i := 0) rfl (.inl rfl) rfl rfl) (g_con pe_non fun _ _ => .non) (nomark _)) (g_one' (g_and (g_callF c hX hM (A.fn "is_whole" _ tab_is_whole) (arity tab_is_whole n) (hr.mono (Nat.le_succ _)) rfl (g_acons (g_var (i := 0) rfl (.inl rfl) rfl rfl) g_anil rfl) rfl rfl rfl) (g_one' (g_cmp (op_gGe) (g_var (i := 0) rfl (.inl rfl) rfl rfl) (g_con pe_int fun _ _ => .int _) (nomark _))))))))
set_option maxRecDepth 100000 in
theorem ok_has_form : CalF M (2 * (n + 1)) "has_form" 2 (callN tab (n + 1) (.fn "has_form")) := by
  obtain ⟨fd, D⟩ := F.d.def_ 17 (d := dd_has_form) rfl
  refine ⟨_, fd, ["task", "value"], F.g_has_form, D.kp, D.bindsN (ps := ["task", "value"]) fun _ _ _ _ _ _ us hl => match us, hl with | [_, _], _ => rfl, (g_fn (k := 2 * n + 1) (N := N_has_form) (ps := ["task", "value"]) (nN := 4) (np := 2) (body := sh_has_form (callN tab n)) D sc_has_form rfl rfl (fun gs S h => callN_eq tab_has_form n gs S h) fun cdv A0 outer s H E r hcd hM hr c hX hp => ?_).mono (by omega)⟩
  have S := sc_has_form
  have call := callN tab n
  exact (g_cons (g_if (PW.pt (g_tor (g_tnot (g_tval (g_callF c hX hM (A.fn "is_row" _ tab_is_row) (arity tab_is_row n) (hr.mono (Nat.le_succ _)) rfl (g_acons (g_var (i := 1) rfl (.inl rfl) rfl rfl) (g_acons (g_bin (op_gAddA c.K) (g_callB (cr_gLen c.K) rfl F.n_len boot_len (g_acons (g_fld c.K (F.fld hM) (g_var (i := 0) rfl (.inr (.inl rfl)) rfl rfl) rfl) g_anil rfl) (by decide) rfl rfl rfl) (g_con pe_int fun _ _ => .int _)) g_anil rfl) rfl) rfl rfl rfl) fun _ => rfl)) (g_tor1 (g_tnot (g_tval (g_callB (cr_gAll c.K c.calm) rfl F.n_all boot_all (g_acons (g_lc c.K c.calm S.nd (pi_itV c.K (g_var (i := 1) rfl (.inl rfl) rfl rfl)) (own := [("row", 2)]) (blkOk_by rfl) (by decide) (fun _ _ _ _ _ => (g_tn (i := 2) S.nd rfl (.inl rfl) (.inr rfl))) (fun _ _ _ _ _ => pts_tYes) (fun _ _ _ _ _ => PE_any fun _ => (g_callF (Ctx.blk c) hX hM (A.fn "is_row" _ tab_is_row) (arity tab_is_row n) (hr.mono (Nat.le_succ _)) rfl (g_acons (g_var (i := 2) rfl (.inl rfl) rfl rfl) (g_acons (g_bin (op_gAddA (Ctx.blk c).K) (g_fld (Ctx.blk c).K (F.fld hM) (g_var (i := 0) rfl (.inr (.inl rfl)) rfl rfl) rfl) (g_con pe_int fun _ _ => .int _)) g_anil rfl) rfl) rfl rfl rfl)) fun _ => rfl) g_anil rfl) (by decide) rfl rfl rfl) fun _ => rfl)))))
  (g_one (g_ret (g_con pe_bl fun _ _ => .bl _)))
  g_nil)
  (g_one (g_ret (g_callB (cr_gAll c.K c.calm) rfl F.n_all boot_all (g_acons (g_lc2 c.K c.calm S.nd (pi_itV c.K (g_var (i := 1) rfl (.inl rfl) rfl rfl)) (own := [("row", 2), ("one", 3)]) (vs1 := [3]) (blkOk_by rfl) (by decide) (by decide) (by decide) (fun _ _ _ _ _ => (g_tn (i := 2) S.nd rfl (.inl rfl) (.inr rfl))) (fun _ _ _ _ _ => pts_tYes) (fun _ _ _ _ _ => PI_any fun _ => (pi_itV (Ctx.blk c).K (g_var (i := 2) rfl (.inl rfl) rfl rfl))) (fun _ _ _ _ _ => (g_tn (i := 3) S.nd rfl (.inl rfl) (.inr rfl))) (fun _ _ _ _ _ => pts_tYes) (fun _ _ _ _ _ => PE_any fun _ => (g_callF (Ctx.blk c) hX hM (A.fn "is_entry" _ tab_is_entry) (arity tab_is_entry n) (hr.mono (Nat.le_succ _)) rfl (g_acons (g_var (i := 3) rfl (.inl rfl) rfl rfl) g_anil rfl) rfl rfl rfl)) (fun _ => rfl) fun _ _ => rfl) g_anil rfl) (by decide) rfl rfl rfl))))
set_option maxRecDepth 100000 in
theorem ok_is_lower_entry : CalF M (2 * (n + 1)) "is_lower_entry" 4 (callN tab (n + 1) (.fn "is_lower_entry")) := by
  obtain ⟨fd, D⟩ := F.d.def_ 18 (d := dd_is_lower_entry) rfl
  refine ⟨_, fd, ["task", "value", "moment", "level"], F.g_is_lower_entry, D.kp, D.bindsN (ps := ["task", "value", "moment", "level"]) fun _ _ _ _ _ _ us hl => match us, hl with | [_, _, _, _], _ => rfl, (g_fn (k := 2 * n + 1) (N := N_is_lower_entry) (ps := ["task", "value", "moment", "level"]) (nN := 8) (np := 4) (body := sh_is_lower_entry (callN tab n)) D sc_is_lower_entry rfl rfl (fun gs S h => callN_eq tab_is_lower_entry n gs S h) fun cdv A0 outer s H E r hcd hM hr c hX hp => ?_).mono (by omega)⟩
  have S := sc_is_lower_entry
  have call := callN tab n
  exact (g_cons (g_set (i := 4) S.nd rfl (.inl rfl) (g_ix (ix_gIx c.K) (g_ix (ix_gIx c.K) (g_var (i := 1) rfl (.inl rfl) rfl rfl) (g_var (i := 2) rfl (.inl rfl) rfl rfl) fun _ _ => rfl) (g_var (i := 3) rfl (.inl rfl) rfl rfl) fun _ _ => rfl) rfl (.inl rfl))
  (g_cons (g_for c.K hp c.calm (pi_itV c.K (g_callF c hX hM (A.fn "choices" _ tab_choices) (arity tab_choices n) (hr.mono (Nat.le_succ _)) rfl (g_acons (g_var (i := 0) rfl (.inl rfl) rfl rfl) (g_acons (g_var (i := 2) rfl (.inl rfl) rfl rfl) (g_acons (g_var (i := 3) rfl (.inl rfl) rfl rfl) g_anil rfl) rfl) rfl) rfl rfl rfl)) (g_ttp c.calm (g_tgcons (g_tnm0 (i := 5) S.nd rfl (.inl rfl) (.inl rfl)) (g_tgcons (g_tnm0 (i := 6) S.nd rfl (.inl rfl) (.inl rfl)) g_tgnil rfl) rfl) rfl rfl)
  (g_cons (g_set (i := 7) S.nd rfl (.inl rfl) (g_ix (ix_gIx c.K) (g_ix (ix_gIx c.K) (g_var (i := 1) rfl (.inl rfl) rfl rfl) (g_bin (op_gAddA c.K) (g_var (i := 2) rfl (.inl rfl) rfl rfl) (g_con pe_int fun _ _ => .int _)) fun _ _ => rfl) (g_var (i := 6) rfl (.inl rfl) rfl rfl) fun _ _ => rfl) rfl (.inl rfl))
  (g_one (g_if (g_tcmp (op_gIsNot) (g_var (i := 7) rfl (.inl rfl) rfl rfl) (g_con pe_non fun _ _ => .non) (nomark _))
  (g_one (g_if (PW.pt (g_tor (g_tcmp (op_gIs) (g_var (i := 4) rfl (.inl rfl) rfl rfl) (g_con pe_non fun _ _ => .non) (nomark _)) (g_tor1 (g_tcmp (op_gGt) (g_var (i := 4) rfl (.inl rfl) rfl rfl) (g_bin (op_gAddA c.K) (g_bin (op_gMulA c.K) (g_var (i := 5) rfl (.inl rfl) rfl rfl) (g_ix (ix_gIx c.K) (g_fld c.K (F.fld hM) (g_var (i := 0) rfl (.inl rfl) rfl rfl) rfl) (g_var (i := 2) rfl (.inl rfl) rfl rfl) fun _ _ => rfl)) (g_var (i := 7) rfl (.inl rfl) rfl rfl)) (nomark _)))))
  (g_one (g_ret (g_con pe_bl fun _ _ => .bl _)))
  g_nil))
  g_nil))) fun _ => rfl)
  (g_one (g_ret (g_con pe_bl fun _ _ => .bl _)))))
set_option maxRecDepth 100000 in
theorem ok_are_lower : CalF M (2 * (n + 1)) "are_lower" 2 (callN tab (n + 1) (.fn "are_lower")) := by
  obtain ⟨fd, D⟩ := F.d.def_ 19 (d := dd_are_lower) rfl
  refine ⟨_, fd, ["task", "value"], F.g_are_lower, D.kp, D.bindsN (ps := ["task", "value"]) fun _ _ _ _ _ _ us hl => match us, hl with | [_, _], _ => rfl, (g_fn (k := 2 * n + 1) (N := N_are_lower) (ps := ["task", "value"]) (nN := 6) (np := 2) (body := sh_are_lower (callN tab n)) D sc_are_lower rfl rfl (fun gs S h => callN_eq tab_are_lower n gs S h) fun cdv A0 outer s H E r hcd hM hr c hX hp => ?_).mono (by omega)⟩
  have S := sc_are_lower
  have call := callN tab n
  exact (g_cons (g_if (PW.pt (g_tor (g_tnot (g_tval (g_callF c hX hM (A.fn "has_form" _ tab_has_form) (arity tab_has_form n) (hr.mono (Nat.le_succ _)) rfl (g_acons (g_var (i := 0) rfl (.inr (.inl rfl)) rfl rfl) (g_acons (g_var (i := 1) rfl (.inr (.inl rfl)) rfl rfl) g_anil rfl) rfl) rfl rfl rfl) fun _ => rfl)) (g_tor1 (g_tcmp (op_gNe c.K c.un) (g_ix (ix_gIx c.K) (g_var (i := 1) rfl (.inr (.inl rfl)) rfl rfl) (g_neg (g_con pe_int fun _ _ => .int _)) fun _ _ => rfl) (g_bin (op_gMulA c.K) (g_tup (g_acons (g_con pe_int fun _ _ => .int _) g_anil rfl)) (g_bin (op_gAddA c.K) (g_fld c.K (F.fld hM) (g_var (i := 0) rfl (.inr (.inl rfl)) rfl rfl) rfl) (g_con pe_int fun _ _ => .int _))) (nomark _)))))
  (g_one (g_ret (g_con pe_bl fun _ _ => .bl _)))
  g_nil)
  (g_cons (g_set (i := 2) S.nd rfl (.inr rfl) (g_listR1 c.K c.calm rfl F.n_list rfl F.n_range (g_bin (op_gAddA c.K) (g_fld c.K (F.fld hM) (g_var (i := 0) rfl (.inr (.inl rfl)) rfl rfl) rfl) (g_con pe_int fun _ _ => .int _)) rfl rfl) rfl (.inl rfl))
  (g_cons (g_set (i := 3) S.nd rfl (.inl rfl) (g_listR1 c.K c.calm rfl F.n_list rfl F.n_range (g_callB (cr_gLen c.K) rfl F.n_len boot_len (g_acons (g_fld c.K (F.fld hM) (g_var (i := 0) rfl (.inr (.inl rfl)) rfl rfl) rfl) g_anil rfl) (by decide) rfl rfl rfl) rfl rfl) rfl (.inl rfl))
  (g_one (g_ret (g_callB (cr_gAll c.K c.calm) rfl F.n_all boot_all (g_acons (g_lc2 c.K c.calm S.nd (pi_itV c.K (g_var (i := 3) rfl (.inl rfl) rfl rfl)) (own := [("moment", 4), ("level", 5)]) (vs1 := [5]) (blkOk_by rfl) (by decide) (by decide) (by decide) (fun _ _ _ _ _ => (g_tn (i := 4) S.nd rfl (.inl rfl) (.inr rfl))) (fun _ _ _ _ _ => pts_tYes) (fun _ _ _ _ _ => PI_any fun _ => (pi_itV (Ctx.blk c).K (g_var (i := 2) rfl (.inr (.inl rfl)) rfl rfl))) (fun _ _ _ _ _ => (g_tn (i := 5) S.nd rfl (.inl rfl) (.inr rfl))) (fun _ _ _ _ _ => pts_tYes) (fun _ _ _ _ _ => PE_any fun _ => (g_callF (Ctx.blk c) hX hM (A.fn "is_lower_entry" _ tab_is_lower_entry) (arity tab_is_lower_entry n) (hr.mono (Nat.le_succ _)) rfl (g_acons (g_var (i := 0) rfl (.inr (.inl rfl)) rfl rfl) (g_acons (g_var (i := 1) rfl (.inr (.inl rfl)) rfl rfl) (g_acons (g_var (i := 4) rfl (.inl rfl) rfl rfl) (g_acons (g_var (i := 5) rfl (.inl rfl) rfl rfl) g_anil rfl) rfl) rfl) rfl) rfl rfl rfl)) (fun _ => rfl) fun _ _ => rfl) g_anil rfl) (by decide) rfl rfl rfl))))))
set_option maxRecDepth 100000 in
theorem ok_shows_cheapest : CalF M (2 * (n + 1)) "shows_cheapest" 3 (callN tab (n + 1) (.fn "shows_cheapest")) := by
  obtain ⟨fd, D⟩ := F.d.def_ 20 (d := dd_shows_cheapest) rfl
  refine ⟨_, fd, ["task", "value", "rows"], F.g_shows_cheapest, D.kp, D.bindsN (ps := ["task", "value", "rows"]) fun _ _ _ _ _ _ us hl => match us, hl with | [_, _, _], _ => rfl, (g_fn (k := 2 * n + 1) (N := N_shows_cheapest) (ps := ["task", "value", "rows"]) (nN := 3) (np := 3) (body := sh_shows_cheapest (callN tab n)) D sc_shows_cheapest rfl rfl (fun gs S h => callN_eq tab_shows_cheapest n gs S h) fun cdv A0 outer s H E r hcd hM hr c hX hp => ?_).mono (by omega)⟩
  have S := sc_shows_cheapest
  have call := callN tab n
  exact (g_cons (g_if (PW.pt (g_tor (g_tnot (g_tval (g_callF c hX hM (A.fn "is_plan" _ tab_is_plan) (arity tab_is_plan n) (hr.mono (Nat.le_succ _)) rfl (g_acons (g_var (i := 0) rfl (.inl rfl) rfl rfl) (g_acons (g_var (i := 1) rfl (.inl rfl) rfl rfl) g_anil rfl) rfl) rfl rfl rfl) fun _ => rfl)) (g_tor1 (g_tnot (g_tval (g_callF c hX hM (A.fn "are_lower" _ tab_are_lower) (arity tab_are_lower n) (hr.mono (Nat.le_succ _)) rfl (g_acons (g_var (i := 0) rfl (.inl rfl) rfl rfl) (g_acons (g_var (i := 2) rfl (.inl rfl) rfl rfl) g_anil rfl) rfl) rfl rfl rfl) fun _ => rfl)))))
  (g_one (g_ret (g_con pe_bl fun _ _ => .bl _)))
  g_nil)
  (g_one (g_ret (g_cmp (op_gEq c.K c.un) (g_ix (ix_gIx c.K) (g_ix (ix_gIx c.K) (g_var (i := 2) rfl (.inl rfl) rfl rfl) (g_con pe_int fun _ _ => .int _) fun _ _ => rfl) (g_fld c.K (F.fld hM) (g_var (i := 0) rfl (.inl rfl) rfl rfl) rfl) fun _ _ => rfl) (g_callF c hX hM (A.fn "price_of" _ tab_price_of) (arity tab_price_of n) (hr.mono (Nat.le_succ _)) rfl (g_acons (g_var (i := 0) rfl (.inl rfl) rfl rfl) (g_acons (g_var (i := 1) rfl (.inl rfl) rfl rfl) g_anil rfl) rfl) rfl rfl rfl) (nomark _)))))
set_option maxRecDepth 100000 in
theorem ok_least_capacity : CalF M (2 * (n + 1)) "least_capacity" 4 (callN tab (n + 1) (.fn "least_capacity")) := by
  obtain ⟨fd, D⟩ := F.d.def_ 21 (d := dd_least_capacity) rfl
  refine ⟨_, fd, ["rain", "prices", "limit", "level"], F.g_least_capacity, D.kp, D.bindsN (ps := ["rain", "prices", "limit", "level"]) fun _ _ _ _ _ _ us hl => match us, hl with | [_, _, _, _], _ => rfl, (g_fn (k := 2 * n + 1) (N := N_least_capacity) (ps := ["rain", "prices", "limit", "level"]) (nN := 5) (np := 4) (body := sh_least_capacity (callN tab n)) D sc_least_capacity rfl rfl (fun gs S h => callN_eq tab_least_capacity n gs S h) fun cdv A0 outer s H E r hcd hM hr c hX hp => ?_).mono (by omega)⟩
  have S := sc_least_capacity
  have call := callN tab n
  exact (g_cons (g_for c.K hp c.calm (pi_itR1 rfl F.n_range (g_acons (g_bin (op_gAddA c.K) (g_con (C8.pe_gc rfl F.c_MOST_CAPACITY rfl) fun _ _ => .int _) (g_con pe_int fun _ _ => .int _)) g_anil rfl) rfl) (g_tn (i := 4) S.nd rfl (.inl rfl) (.inl rfl))
  (g_one (g_if (g_tcmp (op_gIsNot) (g_callF c hX hM (A.fn "least_price" _ tab_least_price) (arity tab_least_price n) (hr.mono (Nat.le_succ _)) rfl (g_acons (g_mk c hX hM (A.cl "Task" _ tab_Task___init__) (arity tab_Task___init__ n) hr rfl (g_acons (g_var (i := 0) rfl (.inl rfl) rfl rfl) (g_acons (g_var (i := 1) rfl (.inl rfl) rfl rfl) (g_acons (g_var (i := 4) rfl (.inl rfl) rfl rfl) (g_acons (g_var (i := 2) rfl (.inl rfl) rfl rfl) (g_acons (g_var (i := 3) rfl (.inl rfl) rfl rfl) g_anil rfl) rfl) rfl) rfl) rfl) rfl rfl rfl) g_anil rfl) rfl rfl rfl) (g_con pe_non fun _ _ => .non) (nomark _))
  (g_one (g_ret (g_var (i := 4) rfl (.inl rfl) rfl rfl)))
  g_nil)) fun _ => rfl)
  (g_one (g_ret (g_con pe_non fun _ _ => .non))))
set_option maxRecDepth 100000 in
theorem ok__law_taken : CalF M (2 * (n + 1)) "_law_taken" 2 (callN tab (n + 1) (.fn "_law_taken")) := by
  obtain ⟨fd, D⟩ := F.d.def_ 22 (d := dd__law_taken) rfl
  refine ⟨_, fd, ["row", "many"], F.g__law_taken, D.kp, D.bindsN (ps := ["row", "many"]) fun _ _ _ _ _ _ us hl => match us, hl with | [_, _], _ => rfl, (g_fn (k := 2 * n + 1) (N := N__law_taken) (ps := ["row", "many"]) (nN := 4) (np := 2) (body := sh__law_taken (callN tab n)) D sc__law_taken rfl rfl (fun gs S h => callN_eq tab__law_taken n gs S h) fun cdv A0 outer s H E r hcd hM hr c hX hp => ?_).mono (by omega)⟩
  have S := sc__law_taken
  have call := callN tab n
  exact (g_cons (g_if (g_tcmp (op_gGt) (g_ix (ix_gIx c.K) (g_var (i := 0) rfl (.inl rfl) rfl rfl) (g_con pe_int fun _ _ => .int _) fun _ _ => rfl) (g_con pe_int fun _ _ => .int _) (nomark _))
  (g_cons (g_set (i := 2) S.nd rfl (.inl rfl) (g_bin (op_gMod) (g_callTy (cr_gInt) rfl F.n_int boot_int (g_acons (g_ix (ix_gIx c.K) (g_var (i := 0) rfl (.inl rfl) rfl rfl) (g_con pe_int fun _ _ => .int _) fun _ _ => rfl) g_anil rfl) (by decide) rfl rfl rfl) (g_var (i := 1) rfl (.inl rfl) rfl rfl)) rfl (.inl rfl))
  (g_cons (g_six (g_var (i := 0) rfl (.inl rfl) rfl rfl) (g_con pe_int fun _ _ => .int _) (g_bin (op_gFdv) (g_ix (ix_gIx c.K) (g_var (i := 0) rfl (.inl rfl) rfl rfl) (g_con pe_int fun _ _ => .int _) fun _ _ => rfl) (g_var (i := 1) rfl (.inl rfl) rfl rfl)) rfl rfl rfl fun _ => rfl)
  (g_one (g_ret (g_var (i := 2) rfl (.inl rfl) rfl rfl)))))
  g_nil)
  (g_cons (g_six (g_var (i := 0) rfl (.inl rfl) rfl rfl) (g_con pe_int fun _ _ => .int _) (g_bin (op_gAddA c.K) (g_ix (ix_gIx c.K) (g_var (i := 0) rfl (.inl rfl) rfl rfl) (g_con pe_int fun _ _ => .int _) fun _ _ => rfl) (g_con pe_int fun _ _ => .int _)) rfl rfl rfl fun _ => rfl)
  (g_cons (g_if (g_tcmp (op_gGt) (g_ix (ix_gIx c.K) (g_var (i := 0) rfl (.inl rfl) rfl rfl) (g_con pe_int fun _ _ => .int _) fun _ _ => rfl) (g_callB (cr_gLen c.K) rfl F.n_len boot_len (g_acons (g_ix (ix_gIx c.K) (g_var (i := 0) rfl (.inl rfl) rfl rfl) (g_con pe_int fun _ _ => .int _) fun _ _ => rfl) g_anil rfl) (by decide) rfl rfl rfl) (nomark _))
  (g_cons (g_six (g_var (i := 0) rfl (.inl rfl) rfl rfl) (g_con pe_int fun _ _ => .int _) (g_bin (op_gMod) (g_callTy (cr_gInt) rfl F.n_int boot_int (g_acons (g_bin (op_gAddA c.K) (g_bin (op_gMulA c.K) (g_ix (ix_gIx c.K) (g_var (i := 0) rfl (.inl rfl) rfl rfl) (g_con pe_int fun _ _ => .int _) fun _ _ => rfl) (g_con pe_int fun _ _ => .int _)) (g_con pe_int fun _ _ => .int _)) g_anil rfl) (by decide) rfl rfl rfl) (g_con pe_int fun _ _ => .int _)) rfl rfl rfl fun _ => rfl)
  (g_one (g_ret (g_bin (op_gMod) (g_callTy (cr_gInt) rfl F.n_int boot_int (g_acons (g_bin (op_gFdv) (g_ix (ix_gIx c.K) (g_var (i := 0) rfl (.inl rfl) rfl rfl) (g_con pe_int fun _ _ => .int _) fun _ _ => rfl) (g_con pe_int fun _ _ => .int _)) g_anil rfl) (by decide) rfl rfl rfl) (g_var (i := 1) rfl (.inl rfl) rfl rfl)))))
  g_nil)
  (g_cons (g_set (i := 3) S.nd rfl (.inl rfl) (g_ix (ix_gIx c.K) (g_ix (ix_gIx c.K) (g_var (i := 0) rfl (.inl rfl) rfl rfl) (g_con pe_int fun _ _ => .int _) fun _ _ => rfl) (g_bin (op_gSub) (g_ix (ix_gIx c.K) (g_var (i := 0) rfl (.inl rfl) rfl rfl) (g_con pe_int fun _ _ => .int _) fun _ _ => rfl) (g_con pe_int fun _ _ => .int _)) fun _ _ => rfl) rfl (.inl rfl))
  (g_cons (g_six (g_var (i := 0) rfl (.inl rfl) rfl rfl) (g_con pe_int fun _ _ => .int _) (g_bin (op_gMod) (g_callTy (cr_gInt) rfl F.n_int boot_int (g_acons (g_bin (op_gAddA c.K) (g_bin (op_gAddA c.K) (g_bin (op_gMulA c.K) (g_ix (ix_gIx c.K) (g_var (i := 0) rfl (.inl rfl) rfl rfl) (g_con pe_int fun _ _ => .int _) fun _ _ => rfl) (g_con pe_int fun _ _ => .int _)) (g_var (i := 3) rfl (.inl rfl) rfl rfl)) (g_con pe_int fun _ _ => .int _)) g_anil rfl) (by decide) rfl rfl rfl) (g_con pe_int fun _ _ => .int _)) rfl rfl rfl fun _ => rfl)
  (g_cons (g_if (g_tcmp (op_gGe) (g_var (i := 3) rfl (.inl rfl) rfl rfl) (g_bin (op_gPow) (g_con pe_int fun _ _ => .int _) (g_con pe_int fun _ _ => .int _)) (nomark _))
  (g_cons (g_six (g_var (i := 0) rfl (.inl rfl) rfl rfl) (g_con pe_int fun _ _ => .int _) (g_bin (op_gFdv) (g_var (i := 3) rfl (.inl rfl) rfl rfl) (g_var (i := 1) rfl (.inl rfl) rfl rfl)) rfl rfl rfl fun _ => rfl)
  (g_one (g_ret (g_bin (op_gMod) (g_callTy (cr_gInt) rfl F.n_int boot_int (g_acons (g_var (i := 3) rfl (.inl rfl) rfl rfl) g_anil rfl) (by decide) rfl rfl rfl) (g_var (i := 1) rfl (.inl rfl) rfl rfl)))))
  g_nil)
  (g_one (g_ret (g_bin (op_gMod) (g_callTy (cr_gInt) rfl F.n_int boot_int (g_acons (g_bin (op_gAddA c.K) (g_bin (op_gMulA c.K) (g_bin (op_gMod) (g_callTy (cr_gInt) rfl F.n_int boot_int (g_acons (g_var (i := 3) rfl (.inl rfl) rfl rfl) g_anil rfl) (by decide) rfl rfl rfl) (g_con pe_int fun _ _ => .int _)) (g_con pe_int fun _ _ => .int _)) (g_bin (op_gFdv) (g_ix (ix_gIx c.K) (g_var (i := 0) rfl (.inl rfl) rfl rfl) (g_con pe_int fun _ _ => .int _) fun _ _ => rfl) (g_con pe_int fun _ _ => .int _))) g_anil rfl) (by decide) rfl rfl rfl) (g_var (i := 1) rfl (.inl rfl) rfl rfl))))))))))
set_option maxRecDepth 100000 in
theorem ok__law_pick : CalF M (2 * (n + 1)) "_law_pick" 2 (callN tab (n + 1) (.fn "_law_pick")) := by
  obtain ⟨fd, D⟩ := F.d.def_ 23 (d := dd__law_pick) rfl
  refine ⟨_, fd, ["row", "things"], F.g__law_pick, D.kp, D.bindsN (ps := ["row", "things"]) fun _ _ _ _ _ _ us hl => match us, hl with | [_, _], _ => rfl, (g_fn (k := 2 * n + 1) (N := N__law_pick) (ps := ["row", "things"]) (nN := 2) (np := 2) (body := sh__law_pick (callN tab n)) D sc__law_pick rfl rfl (fun gs S h => callN_eq tab__law_pick n gs S h) fun cdv A0 outer s H E r hcd hM hr c hX hp => ?_).mono (by omega)⟩
  have S := sc__law_pick
  have call := callN tab n
  exact (g_one (g_ret (g_ix (ix_gIx c.K) (g_var (i := 1) rfl (.inl rfl) rfl rfl) (g_callF c hX hM (A.fn "_law_taken" _ tab__law_taken) (arity tab__law_taken n) (hr.mono (Nat.le_succ _)) rfl (g_acons (g_var (i := 0) rfl (.inl rfl) rfl rfl) (g_acons (g_callB (cr_gLen c.K) rfl F.n_len boot_len (g_acons (g_var (i := 1) rfl (.inl rfl) rfl rfl) g_anil rfl) (by decide) rfl rfl rfl) g_anil rfl) rfl) rfl rfl rfl) fun _ _ => rfl)))
set_option maxRecDepth 100000 in
theorem ok__law_alike : CalF M (2 * (n + 1)) "_law_alike" 2 (callN tab (n + 1) (.fn "_law_alike")) := by
  obtain ⟨fd, D⟩ := F.d.def_ 24 (d := dd__law_alike) rfl
  refine ⟨_, fd, ["found", "due"], F.g__law_alike, D.kp, D.bindsN (ps := ["found", "due"]) fun _ _ _ _ _ _ us hl => match us, hl with | [_, _], _ => rfl, (g_fn (k := 2 * n + 1) (N := N__law_alike) (ps := ["found", "due"]) (nN := 3) (np := 2) (body := sh__law_alike (callN tab n)) D sc__law_alike rfl rfl (fun gs S h => callN_eq tab__law_alike n gs S h) fun cdv A0 outer s H E r hcd hM hr c hX hp => ?_).mono (by omega)⟩
  have S := sc__law_alike
  have call := callN tab n
  exact (g_cons (g_if (g_tval (g_callB (cr_gIsi c.K (F.isa hM)) rfl F.n_isinstance boot_isinstance (g_acons (g_var (i := 1) rfl (.inr (.inl rfl)) rfl rfl) (g_acons (g_tup (g_acons (g_con (pe_bltn (v := .ty "tuple") rfl F.n_tuple boot_tuple rfl) fun _ _ => .ty _) (g_acons (g_con (pe_bltn (v := .ty "list") rfl F.n_list boot_list rfl) fun _ _ => .ty _) g_anil rfl) rfl)) g_anil rfl) rfl) (by decide) rfl rfl rfl) fun _ => rfl)
  (g_cons (g_if (PW.pt (g_tor (g_tnot (g_tval (g_callB (cr_gIsi c.K (F.isa hM)) rfl F.n_isinstance boot_isinstance (g_acons (g_var (i := 0) rfl (.inr (.inl rfl)) rfl rfl) (g_acons (g_tup (g_acons (g_con (pe_bltn (v := .ty "tuple") rfl F.n_tuple boot_tuple rfl) fun _ _ => .ty _) (g_acons (g_con (pe_bltn (v := .ty "list") rfl F.n_list boot_list rfl) fun _ _ => .ty _) g_anil rfl) rfl)) g_anil rfl) rfl) (by decide) rfl rfl rfl) fun _ => rfl)) (g_tor1 (g_tcmp (op_gNe c.K c.un) (g_callB (cr_gIsi c.K (F.isa hM)) rfl F.n_isinstance boot_isinstance (g_acons (g_var (i := 0) rfl (.inr (.inl rfl)) rfl rfl) (g_acons (g_con (pe_bltn (v := .ty "list") rfl F.n_list boot_list rfl) fun _ _ => .ty _) g_anil rfl) rfl) (by decide) rfl rfl rfl) (g_callB (cr_gIsi c.K (F.isa hM)) rfl F.n_isinstance boot_isinstance (g_acons (g_var (i := 1) rfl (.inr (.inl rfl)) rfl rfl) (g_acons (g_con (pe_bltn (v := .ty "list") rfl F.n_list boot_list rfl) fun _ _ => .ty _) g_anil rfl) rfl) (by decide) rfl rfl rfl) (nomark _)))))
  (g_one (g_ret (g_con pe_bl fun _ _ => .bl _)))
  g_nil)
  (g_cons (g_if (g_tcmp (op_gNe c.K c.un) (g_callB (cr_gLen c.K) rfl F.n_len boot_len (g_acons (g_var (i := 0) rfl (.inr (.inl rfl)) rfl rfl) g_anil rfl) (by decide) rfl rfl rfl) (g_callB (cr_gLen c.K) rfl F.n_len boot_len (g_acons (g_var (i := 1) rfl (.inr (.inl rfl)) rfl rfl) g_anil rfl) (by decide) rfl rfl rfl) (nomark _))
  (g_one (g_ret (g_con pe_bl fun _ _ => .bl _)))
  g_nil)
  (g_one (g_ret (g_cmp (op_gEq c.K c.un) (g_lc c.K c.calm S.nd (pi_itR1 rfl F.n_range (g_acons (g_callB (cr_gLen c.K) rfl F.n_len boot_len (g_acons (g_var (i := 1) rfl (.inr (.inl rfl)) rfl rfl) g_anil rfl) (by decide) rfl rfl rfl) g_anil rfl) rfl) (own := [("k", 2)]) (blkOk_by rfl) (by decide) (fun _ _ _ _ _ => (g_tn (i := 2) S.nd rfl (.inl rfl) (.inr rfl))) (fun _ _ _ _ _ => (pts_one (PT_any fun _ => (g_tnot (g_tval (g_callF (Ctx.blk c) hX hM (A.fn "_law_alike" _ tab__law_alike) (arity tab__law_alike n) (hr.mono (Nat.le_succ _)) rfl (g_acons (g_ix (ix_gIx (Ctx.blk c).K) (g_var (i := 0) rfl (.inr (.inl rfl)) rfl rfl) (g_var (i := 2) rfl (.inl rfl) rfl rfl) fun _ _ => rfl) (g_acons (g_ix (ix_gIx (Ctx.blk c).K) (g_var (i := 1) rfl (.inr (.inl rfl)) rfl rfl) (g_var (i := 2) rfl (.inl rfl) rfl rfl) fun _ _ => rfl) g_anil rfl) rfl) rfl rfl rfl) fun _ => rfl))))) (fun _ _ _ _ _ => PE_any fun _ => (g_var (i := 2) rfl (.inl rfl) rfl rfl)) fun _ => rfl) (g_lst g_anil) (nomark _))))))
  g_nil)
  (g_cons (g_if (PW.pt (g_tor (g_tcmp (op_gIs) (g_var (i := 1) rfl (.inr (.inl rfl)) rfl rfl) (g_con pe_non fun _ _ => .non) (nomark _)) (g_tor1 (g_tval (g_callB (cr_gIsi c.K (F.isa hM)) rfl F.n_isinstance boot_isinstance (g_acons (g_var (i := 1) rfl (.inr (.inl rfl)) rfl rfl) (g_acons (g_con (pe_bltn (v := .ty "str") rfl F.n_str boot_str rfl) fun _ _ => .ty _) g_anil rfl) rfl) (by decide) rfl rfl rfl) fun _ => rfl))))
  (g_one (g_ret (g_and (g_cmp (op_gEq c.K c.un) (g_var (i := 0) rfl (.inr (.inl rfl)) rfl rfl) (g_var (i := 1) rfl (.inr (.inl rfl)) rfl rfl) (nomark _)) (g_one' (g_cmp (op_gEq c.K c.un) (g_callB (cr_gIsi c.K (F.isa hM)) rfl F.n_isinstance boot_isinstance (g_acons (g_var (i := 0) rfl (.inr (.inl rfl)) rfl rfl) (g_acons (g_con (pe_bltn (v := .ty "str") rfl F.n_str boot_str rfl) fun _ _ => .ty _) g_anil rfl) rfl) (by decide) rfl rfl rfl) (g_callB (cr_gIsi c.K (F.isa hM)) rfl F.n_isinstance boot_isinstance (g_acons (g_var (i := 1) rfl (.inr (.inl rfl)) rfl rfl) (g_acons (g_con (pe_bltn (v := .ty "str") rfl F.n_str boot_str rfl) fun _ _ => .ty _) g_anil rfl) rfl) (by decide) rfl rfl rfl) (nomark _))))))
  g_nil)
  (g_one (g_ret (g_and (g_callB (cr_gIsi c.K (F.isa hM)) rfl F.n_isinstance boot_isinstance (g_acons (g_var (i := 0) rfl (.inr (.inl rfl)) rfl rfl) (g_acons (g_con (pe_bltn (v := .ty "int") rfl F.n_int boot_int rfl) fun _ _ => .ty _) g_anil rfl) rfl) (by decide) rfl rfl rfl) (g_and (g_cmp (op_gEq c.K c.un) (g_callB (cr_gIsi c.K (F.isa hM)) rfl F.n_isinstance boot_isinstance (g_acons (g_var (i := 0) rfl (.inr (.inl rfl)) rfl rfl) (g_acons (g_con (pe_bltn (v := .ty "bool") rfl F.n_bool boot_bool rfl) fun _ _ => .ty _) g_anil rfl) rfl) (by decide) rfl rfl rfl) (g_callB (cr_gIsi c.K (F.isa hM)) rfl F.n_isinstance boot_isinstance (g_acons (g_var (i := 1) rfl (.inr (.inl rfl)) rfl rfl) (g_acons (g_con (pe_bltn (v := .ty "bool") rfl F.n_bool boot_bool rfl) fun _ _ => .ty _) g_anil rfl) rfl) (by decide) rfl rfl rfl) (nomark _)) (g_one' (g_cmp (op_gEq c.K c.un) (g_var (i := 0) rfl (.inr (.inl rfl)) rfl rfl) (g_var (i := 1) rfl (.inr (.inl rfl)) rfl rfl) (nomark _)))))))))
set_option maxRecDepth 100000 in
theorem ok__law_task : CalF M (2 * (n + 1)) "_law_task" 2 (callN tab (n + 1) (.fn "_law_task")) := by
  obtain ⟨fd, D⟩ := F.d.def_ 25 (d := dd__law_task) rfl
  refine ⟨_, fd, ["row", "most"], F.g__law_task, D.kp, D.bindsN (ps := ["row", "most"]) fun _ _ _ _ _ _ us hl => match us, hl with | [_, _], _ => rfl, (g_fn (k := 2 * n + 1) (N := N__law_task) (ps := ["row", "most"]) (nN := 7) (np := 2) (body := sh__law_task (callN tab n)) D sc__law_task rfl rfl (fun gs S h => callN_eq tab__law_task n gs S h) fun cdv A0 outer s H E r hcd hM hr c hX hp => ?_).mono (by omega)⟩
  have S := sc__law_task
  have call := callN tab n
  exact (g_cons (g_tg c.K (g_tup (g_acons (g_callF c hX hM (A.fn "_law_taken" _ tab__law_taken) (arity tab__law_taken n) (hr.mono (Nat.le_succ _)) rfl (g_acons (g_var (i := 0) rfl (.inr (.inl rfl)) rfl rfl) (g_acons (g_bin (op_gAddA c.K) (g_var (i := 1) rfl (.inl rfl) rfl rfl) (g_con pe_int fun _ _ => .int _)) g_anil rfl) rfl) rfl rfl rfl) (g_acons (g_callF c hX hM (A.fn "_law_pick" _ tab__law_pick) (arity tab__law_pick n) (hr.mono (Nat.le_succ _)) rfl (g_acons (g_var (i := 0) rfl (.inr (.inl rfl)) rfl rfl) (g_acons (g_lst (g_acons (g_con pe_int fun _ _ => .int _) (g_acons (g_con pe_int fun _ _ => .int _) g_anil rfl) rfl)) g_anil rfl) rfl) rfl rfl rfl) g_anil rfl) rfl)) (g_ttp c.calm (g_tgcons (g_tnm0 (i := 2) S.nd rfl (.inl rfl) (.inl rfl)) (g_tgcons (g_tnm0 (i := 3) S.nd rfl (.inr rfl) (.inl rfl)) g_tgnil rfl) rfl) rfl rfl) rfl rfl rfl)
  (g_cons (g_set (i := 4) S.nd rfl (.inl rfl) (g_callTy (cr_gTuple c.K) rfl F.n_tuple boot_tuple (g_acons (g_lc c.K c.calm S.nd (pi_itR1 rfl F.n_range (g_acons (g_var (i := 2) rfl (.inl rfl) rfl rfl) g_anil rfl) rfl) (own := [("k", 5)]) (blkOk_by rfl) (by decide) (fun _ _ _ _ _ => (g_tn (i := 5) S.nd rfl (.inl rfl) (.inr rfl))) (fun _ _ _ _ _ => pts_tYes) (fun _ _ _ _ _ => PE_any fun _ => (g_callF (Ctx.blk c) hX hM (A.fn "_law_taken" _ tab__law_taken) (arity tab__law_taken n) (hr.mono (Nat.le_succ _)) rfl (g_acons (g_var (i := 0) rfl (.inr (.inl rfl)) rfl rfl) (g_acons (g_var (i := 3) rfl (.inr (.inl rfl)) rfl rfl) g_anil rfl) rfl) rfl rfl rfl)) fun _ => rfl) g_anil rfl) (by decide) rfl rfl rfl) rfl (.inl rfl))
  (g_cons (g_set (i := 6) S.nd rfl (.inl rfl) (g_callF c hX hM (A.fn "_law_taken" _ tab__law_taken) (arity tab__law_taken n) (hr.mono (Nat.le_succ _)) rfl (g_acons (g_var (i := 0) rfl (.inr (.inl rfl)) rfl rfl) (g_acons (g_callF c hX hM (A.fn "_law_pick" _ tab__law_pick) (arity tab__law_pick n) (hr.mono (Nat.le_succ _)) rfl (g_acons (g_var (i := 0) rfl (.inr (.inl rfl)) rfl rfl) (g_acons (g_lst (g_acons (g_con pe_int fun _ _ => .int _) (g_acons (g_con pe_int fun _ _ => .int _) g_anil rfl) rfl)) g_anil rfl) rfl) rfl rfl rfl) g_anil rfl) rfl) rfl rfl rfl) rfl (.inl rfl))
  (g_one (g_ret (g_tup (g_acons (g_var (i := 4) rfl (.inl rfl) rfl rfl) (g_acons (g_callTy (cr_gTuple c.K) rfl F.n_tuple boot_tuple (g_acons (g_lc c.K c.calm S.nd (pi_itR1 rfl F.n_range (g_acons (g_var (i := 2) rfl (.inl rfl) rfl rfl) g_anil rfl) rfl) (own := [("k", 5)]) (blkOk_by rfl) (by decide) (fun _ _ _ _ _ => (g_tn (i := 5) S.nd rfl (.inl rfl) (.inr rfl))) (fun _ _ _ _ _ => pts_tYes) (fun _ _ _ _ _ => PE_any fun _ => (g_callF (Ctx.blk c) hX hM (A.fn "_law_taken" _ tab__law_taken) (arity tab__law_taken n) (hr.mono (Nat.le_succ _)) rfl (g_acons (g_var (i := 0) rfl (.inr (.inl rfl)) rfl rfl) (g_acons (g_con pe_int fun _ _ => .int _) g_anil rfl) rfl) rfl rfl rfl)) fun _ => rfl) g_anil rfl) (by decide) rfl rfl rfl) (g_acons (g_callF c hX hM (A.fn "_law_taken" _ tab__law_taken) (arity tab__law_taken n) (hr.mono (Nat.le_succ _)) rfl (g_acons (g_var (i := 0) rfl (.inr (.inl rfl)) rfl rfl) (g_acons (g_callF c hX hM (A.fn "_law_pick" _ tab__law_pick) (arity tab__law_pick n) (hr.mono (Nat.le_succ _)) rfl (g_acons (g_var (i := 0) rfl (.inr (.inl rfl)) rfl rfl) (g_acons (g_lst (g_acons (g_con pe_int fun _ _ => .int _) (g_acons (g_con pe_int fun _ _ => .int _) g_anil rfl) rfl)) g_anil rfl) rfl) rfl rfl rfl) g_anil rfl) rfl) rfl rfl rfl) (g_acons (g_var (i := 6) rfl (.inl rfl) rfl rfl) (g_acons (g_callF c hX hM (A.fn "_law_taken" _ tab__law_taken) (arity tab__law_taken n) (hr.mono (Nat.le_succ _)) rfl (g_acons (g_var (i := 0) rfl (.inr (.inl rfl)) rfl rfl) (g_acons (g_bin (op_gAddA c.K) (g_var (i := 6) rfl (.inl rfl) rfl rfl) (g_con pe_int fun _ _ => .int _)) g_anil rfl) rfl) rfl rfl rfl) g_anil rfl) rfl) rfl) rfl) rfl)))))))
set_option maxRecDepth 100000 in
theorem ok__law_tables : CalF M (2 * (n + 1)) "_law_tables" 1 (callN tab (n + 1) (.fn "_law_tables")) := by
  obtain ⟨fd, D⟩ := F.d.def_ 26 (d := dd__law_tables) rfl
  refine ⟨_, fd, ["parts"], F.g__law_tables, D.kp, D.bindsN (ps := ["parts"]) fun _ _ _ _ _ _ us hl => match us, hl with | [_], _ => rfl, (g_fn (k := 2 * n + 1) (N := N__law_tables) (ps := ["parts"]) (nN := 13) (np := 1) (body := sh__law_tables (callN tab n)) D sc__law_tables rfl rfl (fun gs S h => callN_eq tab__law_tables n gs S h) fun cdv A0 outer s H E r hcd hM hr c hX hp => ?_).mono (by omega)⟩
  have S := sc__law_tables
  have call := callN tab n
  exact (g_cons (g_tg c.K (g_var (i := 0) rfl (.inl rfl) rfl rfl) (g_ttp c.calm (g_tgcons (g_tnm0 (i := 1) S.nd rfl (.inl rfl) (.inl rfl)) (g_tgcons (g_tnm0 (i := 2) S.nd rfl (.inl rfl) (.inl rfl)) (g_tgcons (g_tnm0 (i := 3) S.nd rfl (.inl rfl) (.inl rfl)) (g_tgcons (g_tnm0 (i := 4) S.nd rfl (.inl rfl) (.inl rfl)) (g_tgcons (g_tnm0 (i := 5) S.nd rfl (.inl rfl) (.inl rfl)) g_tgnil rfl) rfl) rfl) rfl) rfl) rfl rfl) rfl rfl rfl)
  (g_cons (g_set (i := 6) S.nd rfl (.inl rfl) (g_lst (g_acons (g_bin (op_gMulA c.K) (g_lst (g_acons (g_con pe_int fun _ _ => .int _) g_anil rfl)) (g_bin (op_gAddA c.K) (g_var (i := 4) rfl (.inl rfl) rfl rfl) (g_con pe_int fun _ _ => .int _))) g_anil rfl)) rfl (.inl rfl))
  (g_cons (g_for c.K hp c.calm (pi_itR3 rfl F.n_range (g_acons (g_bin (op_gSub) (g_callB (cr_gLen c.K) rfl F.n_len boot_len (g_acons (g_var (i := 1) rfl (.inl rfl) rfl rfl) g_anil rfl) (by decide) rfl rfl rfl) (g_con pe_int fun _ _ => .int _)) (g_acons (g_neg (g_con pe_int fun _ _ => .int _)) (g_acons (g_neg (g_con pe_int fun _ _ => .int _)) g_anil rfl) rfl) rfl) rfl rfl) (g_tn (i := 7) S.nd rfl (.inl rfl) (.inl rfl))
  (g_cons (g_set (i := 8) S.nd rfl (.inl rfl) (g_lstA g_anil) rfl (.inl rfl))
  (g_cons (g_for c.K hp c.calm (pi_itR1 rfl F.n_range (g_acons (g_bin (op_gAddA c.K) (g_var (i := 4) rfl (.inl rfl) rfl rfl) (g_con pe_int fun _ _ => .int _)) g_anil rfl) rfl) (g_tn (i := 9) S.nd rfl (.inl rfl) (.inl rfl))
  (g_cons (g_set (i := 10) S.nd rfl (.inl rfl) (g_lstA g_anil) rfl (.inl rfl))
  (g_cons (g_for c.K hp c.calm (pi_itR1 rfl F.n_range (g_acons (g_bin (op_gAddA c.K) (g_var (i := 3) rfl (.inl rfl) rfl rfl) (g_con pe_int fun _ _ => .int _)) g_anil rfl) rfl) (g_tn (i := 11) S.nd rfl (.inl rfl) (.inl rfl))
  (g_cons (g_set (i := 12) S.nd rfl (.inl rfl) (g_bin (op_gSub) (g_bin (op_gAddA c.K) (g_var (i := 9) rfl (.inl rfl) rfl rfl) (g_ix (ix_gIx c.K) (g_var (i := 1) rfl (.inl rfl) rfl rfl) (g_var (i := 7) rfl (.inl rfl) rfl rfl) fun _ _ => rfl)) (g_var (i := 11) rfl (.inl rfl) rfl rfl)) rfl (.inl rfl))
  (g_one (g_if (PW.pt (g_tand (g_chT (op_gLe) (op_gLe) (g_con pe_int fun _ _ => .int _) (g_var (i := 12) rfl (.inl rfl) rfl rfl) (g_var (i := 4) rfl (.inl rfl) rfl rfl) (by with_unfolding_all rfl)) (g_tand1 (g_tcmp (op_gIsNot) (g_ix (ix_gIx c.K) (g_ix (ix_gIx c.K) (g_var (i := 6) rfl (.inl rfl) rfl rfl) (g_con pe_int fun _ _ => .int _) fun _ _ => rfl) (g_var (i := 12) rfl (.inl rfl) rfl rfl) fun _ _ => rfl) (g_con pe_non fun _ _ => .non) (nomark _)))))
  (g_one (g_expr (g_ml c.K PySem.F.slot_list_append PySem.F.type_list_append mt_gApp (g_var (i := 10) rfl (.inl rfl) rfl rfl) (g_acons (g_bin (op_gAddA c.K) (g_bin (op_gMulA c.K) (g_var (i := 11) rfl (.inl rfl) rfl rfl) (g_ix (ix_gIx c.K) (g_var (i := 2) rfl (.inl rfl) rfl rfl) (g_var (i := 7) rfl (.inl rfl) rfl rfl) fun _ _ => rfl)) (g_ix (ix_gIx c.K) (g_ix (ix_gIx c.K) (g_var (i := 6) rfl (.inl rfl) rfl rfl) (g_con pe_int fun _ _ => .int _) fun _ _ => rfl) (g_var (i := 12) rfl (.inl rfl) rfl rfl) fun _ _ => rfl)) g_anil rfl) rfl rfl rfl rfl rfl) rfl))
  g_nil))) fun _ => rfl)
  (g_one (g_expr (g_ml c.K PySem.F.slot_list_append PySem.F.type_list_append mt_gApp (g_var (i := 8) rfl (.inl rfl) rfl rfl) (g_acons (g_ife (g_tcmp (op_gNe c.K c.un) (g_var (i := 10) rfl (.inl rfl) rfl rfl) (g_lst g_anil) (nomark _)) (g_callB (cr_gMin c.K c.calm) rfl F.n_min boot_min (g_acons (g_var (i := 10) rfl (.inl rfl) rfl rfl) g_anil rfl) (by decide) rfl rfl rfl) (g_con pe_non fun _ _ => .non)) g_anil rfl) rfl rfl rfl rfl rfl) rfl)))) fun _ => rfl)
  (g_one (g_set (i := 6) S.nd rfl (.inl rfl) (g_bin (op_gAddA c.K) (g_lst (g_acons (g_var (i := 8) rfl (.inl rfl) rfl rfl) g_anil rfl)) (g_var (i := 6) rfl (.inl rfl) rfl rfl)) rfl (.inl rfl))))) fun _ => rfl)
  (g_one (g_ret (g_lc c.K c.calm S.nd (pi_itV c.K (g_var (i := 6) rfl (.inl rfl) rfl rfl)) (own := [("one", 8)]) (blkOk_by rfl) (by decide) (fun _ _ _ _ _ => (g_tn (i := 8) S.nd rfl (.inl rfl) (.inr rfl))) (fun _ _ _ _ _ => pts_tYes) (fun _ _ _ _ _ => PE_any fun _ => (g_callTy (cr_gTuple (Ctx.blk c).K) rfl F.n_tuple boot_tuple (g_acons (g_var (i := 8) rfl (.inl rfl) rfl rfl) g_anil rfl) (by decide) rfl rfl rfl)) fun _ => rfl))))))
set_option maxRecDepth 100000 in
theorem ok_law : CalF M (2 * (n + 1)) "law" 1 (callN tab (n + 1) (.fn "law")) := by
  obtain ⟨fd, D⟩ := F.d.def_ 27 (d := dd_law) rfl
  refine ⟨_, fd, ["script"], F.g_law, D.kp, D.bindsN (ps := ["script"]) fun _ _ _ _ _ _ us hl => match us, hl with | [_], _ => rfl, (g_fn (k := 2 * n + 1) (N := N_law) (ps := ["script"]) (nN := 13) (np := 1) (body := sh_law (callN tab n)) D sc_law rfl rfl (fun gs S h => callN_eq tab_law n gs S h) fun cdv A0 outer s H E r hcd hM hr c hX hp => ?_).mono (by omega)⟩
  have S := sc_law
  have call := callN tab n
  exact (g_cons (g_set (i := 1) S.nd rfl (.inl rfl) (g_lstA (g_acons (g_var (i := 0) rfl (.inl rfl) rfl rfl) (g_acons (g_con pe_int fun _ _ => .int _) (g_acons (g_con pe_int fun _ _ => .int _) (g_acons (g_con pe_int fun _ _ => .int _) g_anil rfl) rfl) rfl) rfl)) rfl (.inl rfl))
  (g_cons (g_for c.K hp c.calm (pi_itR1 rfl F.n_range (g_acons (g_con pe_int fun _ _ => .int _) g_anil rfl) rfl) (g_tn (i := 2) S.nd rfl (.inl rfl) (.inl rfl))
  (g_cons (g_set (i := 3) S.nd rfl (.inr rfl) (g_callF c hX hM (A.fn "_law_task" _ tab__law_task) (arity tab__law_task n) (hr.mono (Nat.le_succ _)) rfl (g_acons (g_var (i := 1) rfl (.inl rfl) rfl rfl) (g_acons (g_callF c hX hM (A.fn "_law_pick" _ tab__law_pick) (arity tab__law_pick n) (hr.mono (Nat.le_succ _)) rfl (g_acons (g_var (i := 1) rfl (.inl rfl) rfl rfl) (g_acons (g_lst (g_acons (g_con pe_int fun _ _ => .int _) (g_acons (g_con pe_int fun _ _ => .int _) (g_acons (g_con pe_int fun _ _ => .int _) g_anil rfl) rfl) rfl)) g_anil rfl) rfl) rfl rfl rfl) g_anil rfl) rfl) rfl rfl rfl) rfl (.inl rfl))
  (g_cons (g_par c.calm S.nd (i := 4) (j := 5) rfl rfl (by decide) rfl rfl (g_mk c hX hM (A.cl "Task" _ tab_Task___init__) (arity tab_Task___init__ n) hr rfl (g_acons (g_ix (ix_gIx c.K) (g_var (i := 3) rfl (.inr (.inl rfl)) rfl rfl) (g_con pe_int fun _ _ => .int _) fun _ _ => rfl) (g_acons (g_ix (ix_gIx c.K) (g_var (i := 3) rfl (.inr (.inl rfl)) rfl rfl) (g_con pe_int fun _ _ => .int _) fun _ _ => rfl) (g_acons (g_ix (ix_gIx c.K) (g_var (i := 3) rfl (.inr (.inl rfl)) rfl rfl) (g_con pe_int fun _ _ => .int _) fun _ _ => rfl) (g_acons (g_ix (ix_gIx c.K) (g_var (i := 3) rfl (.inr (.inl rfl)) rfl rfl) (g_con pe_int fun _ _ => .int _) fun _ _ => rfl) (g_acons (g_ix (ix_gIx c.K) (g_var (i := 3) rfl (.inr (.inl rfl)) rfl rfl) (g_con pe_int fun _ _ => .int _) fun _ _ => rfl) g_anil rfl) rfl) rfl) rfl) rfl) rfl rfl rfl) (g_callF c hX hM (A.fn "_law_tables" _ tab__law_tables) (arity tab__law_tables n) (hr.mono (Nat.le_succ _)) rfl (g_acons (g_var (i := 3) rfl (.inr (.inl rfl)) rfl rfl) g_anil rfl) rfl rfl rfl) rfl rfl rfl rfl)
  (g_cons (g_tg c.K (g_tup (g_acons (g_ix (ix_gIx c.K) (g_ix (ix_gIx c.K) (g_var (i := 5) rfl (.inl rfl) rfl rfl) (g_con pe_int fun _ _ => .int _) fun _ _ => rfl) (g_ix (ix_gIx c.K) (g_var (i := 3) rfl (.inr (.inl rfl)) rfl rfl) (g_con pe_int fun _ _ => .int _) fun _ _ => rfl) fun _ _ => rfl) (g_acons (g_callF c hX hM (A.fn "plan" _ tab_plan) (arity tab_plan n) (hr.mono (Nat.le_succ _)) rfl (g_acons (g_var (i := 4) rfl (.inl rfl) rfl rfl) g_anil rfl) rfl rfl rfl) g_anil rfl) rfl)) (g_ttp c.calm (g_tgcons (g_tnm0 (i := 6) S.nd rfl (.inl rfl) (.inl rfl)) (g_tgcons (g_tnm0 (i := 7) S.nd rfl (.inr rfl) (.inl rfl)) g_tgnil rfl) rfl) rfl rfl) rfl rfl rfl)
  (g_cons (g_if (PW.pt (g_tor (g_tnot (g_tval (g_callF c hX hM (A.fn "_law_alike" _ tab__law_alike) (arity tab__law_alike n) (hr.mono (Nat.le_succ _)) rfl (g_acons (g_tup (g_acons (g_callF c hX hM (A.fn "tables" _ tab_tables) (arity tab_tables n) (hr.mono (Nat.le_succ _)) rfl (g_acons (g_var (i := 4) rfl (.inl rfl) rfl rfl) g_anil rfl) rfl rfl rfl) (g_acons (g_callF c hX hM (A.fn "least_price" _ tab_least_price) (arity tab_least_price n) (hr.mono (Nat.le_succ _)) rfl (g_acons (g_var (i := 4) rfl (.inl rfl) rfl rfl) g_anil rfl) rfl rfl rfl) g_anil rfl) rfl)) (g_acons (g_tup (g_acons (g_callTy (cr_gTuple c.K) rfl F.n_tuple boot_tuple (g_acons (g_var (i := 5) rfl (.inl rfl) rfl rfl) g_anil rfl) (by decide) rfl rfl rfl) (g_acons (g_var (i := 6) rfl (.inl rfl) rfl rfl) g_anil rfl) rfl)) g_anil rfl) rfl) rfl rfl rfl) fun _ => rfl)) (g_tor1 (g_tcmp (op_gNe c.K c.un) (g_cmp (op_gIs) (g_var (i := 7) rfl (.inr (.inl rfl)) rfl rfl) (g_con pe_non fun _ _ => .non) (nomark _)) (g_cmp (op_gIs) (g_var (i := 6) rfl (.inl rfl) rfl rfl) (g_con pe_non fun _ _ => .non) (nomark _)) (nomark _)))))
  (g_one (g_ret (g_con pe_bl fun _ _ => .bl _)))
  g_nil)
  (g_cons (g_if (PW.pt (g_tor (g_tnot (g_tval (g_callF c hX hM (A.fn "_law_alike" _ tab__law_alike) (arity tab__law_alike n) (hr.mono (Nat.le_succ _)) rfl (g_acons (g_tup (g_acons (g_fld c.K (F.fld hM) (g_var (i := 4) rfl (.inl rfl) rfl rfl) rfl) (g_acons (g_fld c.K (F.fld hM) (g_var (i := 4) rfl (.inl rfl) rfl rfl) rfl) (g_acons (g_fld c.K (F.fld hM) (g_var (i := 4) rfl (.inl rfl) rfl rfl) rfl) (g_acons (g_fld c.K (F.fld hM) (g_var (i := 4) rfl (.inl rfl) rfl rfl) rfl) (g_acons (g_fld c.K (F.fld hM) (g_var (i := 4) rfl (.inl rfl) rfl rfl) rfl) g_anil rfl) rfl) rfl) rfl) rfl)) (g_acons (g_var (i := 3) rfl (.inr (.inl rfl)) rfl rfl) g_anil rfl) rfl) rfl rfl rfl) fun _ => rfl)) (g_tor (g_tcmp (op_gIsNot) (g_callF c hX hM (A.fn "is_task" _ tab_is_task) (arity tab_is_task n) (hr.mono (Nat.le_succ _)) rfl (g_acons (g_var (i := 4) rfl (.inl rfl) rfl rfl) g_anil rfl) rfl rfl rfl) (g_con pe_bl fun _ _ => .bl _) (nomark _)) (g_tor1 (g_tval (g_callF c hX hM (A.fn "is_task" _ tab_is_task) (arity tab_is_task n) (hr.mono (Nat.le_succ _)) rfl (g_acons (g_var (i := 3) rfl (.inr (.inl rfl)) rfl rfl) g_anil rfl) rfl rfl rfl) fun _ => rfl)))))
  (g_one (g_ret (g_con pe_bl fun _ _ => .bl _)))
  g_nil)
  (g_cons (g_if (g_tcmp (op_gIsNot) (g_var (i := 7) rfl (.inr (.inl rfl)) rfl rfl) (g_con pe_non fun _ _ => .non) (nomark _))
  (g_cons (g_par c.calm S.nd (i := 8) (j := 9) rfl rfl (by decide) rfl rfl (g_lstA g_anil) (g_ix (ix_gIx c.K) (g_var (i := 3) rfl (.inr (.inl rfl)) rfl rfl) (g_con pe_int fun _ _ => .int _) fun _ _ => rfl) rfl rfl rfl rfl)
  (g_cons (g_if (PW.pt (g_tor (g_tnot (g_tval (g_callB (cr_gIsi c.K (F.isa hM)) rfl F.n_isinstance boot_isinstance (g_acons (g_var (i := 7) rfl (.inr (.inl rfl)) rfl rfl) (g_acons (g_con (pe_bltn (v := .ty "tuple") rfl F.n_tuple boot_tuple rfl) fun _ _ => .ty _) g_anil rfl) rfl) (by decide) rfl rfl rfl) fun _ => rfl)) (g_tor1 (g_tcmp (op_gNe c.K c.un) (g_callB (cr_gLen c.K) rfl F.n_len boot_len (g_acons (g_var (i := 7) rfl (.inr (.inl rfl)) rfl rfl) g_anil rfl) (by decide) rfl rfl rfl) (g_callB (cr_gLen c.K) rfl F.n_len boot_len (g_acons (g_ix (ix_gIx c.K) (g_var (i := 3) rfl (.inr (.inl rfl)) rfl rfl) (g_con pe_int fun _ _ => .int _) fun _ _ => rfl) g_anil rfl) (by decide) rfl rfl rfl) (nomark _)))))
  (g_one (g_ret (g_con pe_bl fun _ _ => .bl _)))
  g_nil)
  (g_cons (g_for c.K hp c.calm (pi_itR1 rfl F.n_range (g_acons (g_callB (cr_gLen c.K) rfl F.n_len boot_len (g_acons (g_var (i := 7) rfl (.inr (.inl rfl)) rfl rfl) g_anil rfl) (by decide) rfl rfl rfl) g_anil rfl) rfl) (g_tn (i := 10) S.nd rfl (.inl rfl) (.inl rfl))
  (g_cons (g_set (i := 9) S.nd rfl (.inl rfl) (g_bin (op_gSub) (g_bin (op_gAddA c.K) (g_var (i := 9) rfl (.inl rfl) rfl rfl) (g_ix (ix_gIx c.K) (g_ix (ix_gIx c.K) (g_var (i := 3) rfl (.inr (.inl rfl)) rfl rfl) (g_con pe_int fun _ _ => .int _) fun _ _ => rfl) (g_var (i := 10) rfl (.inl rfl) rfl rfl) fun _ _ => rfl)) (g_ix (ix_gIx c.K) (g_var (i := 7) rfl (.inr (.inl rfl)) rfl rfl) (g_var (i := 10) rfl (.inl rfl) rfl rfl) fun _ _ => rfl)) rfl (.inl rfl))
  (g_cons (g_expr (g_ml c.K PySem.F.slot_list_append PySem.F.type_list_append mt_gApp (g_var (i := 8) rfl (.inl rfl) rfl rfl) (g_acons (g_var (i := 9) rfl (.inl rfl) rfl rfl) g_anil rfl) rfl rfl rfl rfl rfl) rfl)
  (g_one (g_if (PW.pt (g_tor (g_tnot (g_chT (op_gLe) (op_gLe) (g_con pe_int fun _ _ => .int _) (g_ix (ix_gIx c.K) (g_var (i := 7) rfl (.inr (.inl rfl)) rfl rfl) (g_var (i := 10) rfl (.inl rfl) rfl rfl) fun _ _ => rfl) (g_ix (ix_gIx c.K) (g_var (i := 3) rfl (.inr (.inl rfl)) rfl rfl) (g_con pe_int fun _ _ => .int _) fun _ _ => rfl) (by with_unfolding_all rfl))) (g_tor1 (g_tnot (g_chT (op_gLe) (op_gLe) (g_con pe_int fun _ _ => .int _) (g_var (i := 9) rfl (.inl rfl) rfl rfl) (g_ix (ix_gIx c.K) (g_var (i := 3) rfl (.inr (.inl rfl)) rfl rfl) (g_con pe_int fun _ _ => .int _) fun _ _ => rfl) (by with_unfolding_all rfl))))))
  (g_one (g_ret (g_con pe_bl fun _ _ => .bl _)))
  g_nil)))) fun _ => rfl)
  (g_cons (g_if (PW.pt (g_tor (g_tcmp (op_gNe c.K c.un) (g_callB (cr_gSum c.K c.calm) rfl F.n_sum boot_sum (g_acons (g_lc c.K c.calm S.nd (pi_itR1 rfl F.n_range (g_acons (g_callB (cr_gLen c.K) rfl F.n_len boot_len (g_acons (g_var (i := 7) rfl (.inr (.inl rfl)) rfl rfl) g_anil rfl) (by decide) rfl rfl rfl) g_anil rfl) rfl) (own := [("k", 10)]) (blkOk_by rfl) (by decide) (fun _ _ _ _ _ => (g_tn (i := 10) S.nd rfl (.inl rfl) (.inr rfl))) (fun _ _ _ _ _ => pts_tYes) (fun _ _ _ _ _ => PE_any fun _ => (g_bin (op_gMulA (Ctx.blk c).K) (g_ix (ix_gIx (Ctx.blk c).K) (g_var (i := 7) rfl (.inr (.inl rfl)) rfl rfl) (g_var (i := 10) rfl (.inl rfl) rfl rfl) fun _ _ => rfl) (g_ix (ix_gIx (Ctx.blk c).K) (g_ix (ix_gIx (Ctx.blk c).K) (g_var (i := 3) rfl (.inr (.inl rfl)) rfl rfl) (g_con pe_int fun _ _ => .int _) fun _ _ => rfl) (g_var (i := 10) rfl (.inl rfl) rfl rfl) fun _ _ => rfl))) fun _ => rfl) g_anil rfl) (by decide) rfl rfl rfl) (g_var (i := 6) rfl (.inl rfl) rfl rfl) (nomark _)) (g_tor1 (g_tnot (g_tval (g_callF c hX hM (A.fn "_law_alike" _ tab__law_alike) (arity tab__law_alike n) (hr.mono (Nat.le_succ _)) rfl (g_acons (g_tup (g_acons (g_callF c hX hM (A.fn "levels_of" _ tab_levels_of) (arity tab_levels_of n) (hr.mono (Nat.le_succ _)) rfl (g_acons (g_var (i := 4) rfl (.inl rfl) rfl rfl) (g_acons (g_var (i := 7) rfl (.inr (.inl rfl)) rfl rfl) g_anil rfl) rfl) rfl rfl rfl) (g_acons (g_callF c hX hM (A.fn "price_of" _ tab_price_of) (arity tab_price_of n) (hr.mono (Nat.le_succ _)) rfl (g_acons (g_var (i := 4) rfl (.inl rfl) rfl rfl) (g_acons (g_var (i := 7) rfl (.inr (.inl rfl)) rfl rfl) g_anil rfl) rfl) rfl rfl rfl) g_anil rfl) rfl)) (g_acons (g_tup (g_acons (g_callTy (cr_gTuple c.K) rfl F.n_tuple boot_tuple (g_acons (g_var (i := 8) rfl (.inl rfl) rfl rfl) g_anil rfl) (by decide) rfl rfl rfl) (g_acons (g_var (i := 6) rfl (.inl rfl) rfl rfl) g_anil rfl) rfl)) g_anil rfl) rfl) rfl rfl rfl) fun _ => rfl)))))
  (g_one (g_ret (g_con pe_bl fun _ _ => .bl _)))
  g_nil)
  (g_one (g_if (PW.pt (g_tor (g_tcmp (op_gIsNot) (g_callF c hX hM (A.fn "shows_cheapest" _ tab_shows_cheapest) (arity tab_shows_cheapest n) (hr.mono (Nat.le_succ _)) rfl (g_acons (g_var (i := 4) rfl (.inl rfl) rfl rfl) (g_acons (g_var (i := 7) rfl (.inr (.inl rfl)) rfl rfl) (g_acons (g_callTy (cr_gTuple c.K) rfl F.n_tuple boot_tuple (g_acons (g_var (i := 5) rfl (.inl rfl) rfl rfl) g_anil rfl) (by decide) rfl rfl rfl) g_anil rfl) rfl) rfl) rfl rfl rfl) (g_con pe_bl fun _ _ => .bl _) (nomark _)) (g_tor1 (g_tcmp (op_gIsNot) (g_callF c hX hM (A.fn "is_plan" _ tab_is_plan) (arity tab_is_plan n) (hr.mono (Nat.le_succ _)) rfl (g_acons (g_var (i := 4) rfl (.inl rfl) rfl rfl) (g_acons (g_var (i := 7) rfl (.inr (.inl rfl)) rfl rfl) g_anil rfl) rfl) rfl rfl rfl) (g_con pe_bl fun _ _ => .bl _) (nomark _)))))
  (g_one (g_ret (g_con pe_bl fun _ _ => .bl _)))
  g_nil))))))
  g_nil)
  (g_cons (g_if (PW.pt (g_tor (g_tcmp (op_gIsNot) (g_callF c hX hM (A.fn "are_lower" _ tab_are_lower) (arity tab_are_lower n) (hr.mono (Nat.le_succ _)) rfl (g_acons (g_var (i := 4) rfl (.inl rfl) rfl rfl) (g_acons (g_callTy (cr_gTuple c.K) rfl F.n_tuple boot_tuple (g_acons (g_var (i := 5) rfl (.inl rfl) rfl rfl) g_anil rfl) (by decide) rfl rfl rfl) g_anil rfl) rfl) rfl rfl rfl) (g_con pe_bl fun _ _ => .bl _) (nomark _)) (g_tor (g_tnot (g_teqo c hX hM (A.eq "Task" _ tab_Task___eq__) (hr.mono (Nat.le_succ _)) (g_var (i := 4) rfl (.inl rfl) rfl rfl) (g_mk c hX hM (A.cl "Task" _ tab_Task___init__) (arity tab_Task___init__ n) hr rfl (g_acons (g_ix (ix_gIx c.K) (g_var (i := 3) rfl (.inr (.inl rfl)) rfl rfl) (g_con pe_int fun _ _ => .int _) fun _ _ => rfl) (g_acons (g_ix (ix_gIx c.K) (g_var (i := 3) rfl (.inr (.inl rfl)) rfl rfl) (g_con pe_int fun _ _ => .int _) fun _ _ => rfl) (g_acons (g_ix (ix_gIx c.K) (g_var (i := 3) rfl (.inr (.inl rfl)) rfl rfl) (g_con pe_int fun _ _ => .int _) fun _ _ => rfl) (g_acons (g_ix (ix_gIx c.K) (g_var (i := 3) rfl (.inr (.inl rfl)) rfl rfl) (g_con pe_int fun _ _ => .int _) fun _ _ => rfl) (g_acons (g_ix (ix_gIx c.K) (g_var (i := 3) rfl (.inr (.inl rfl)) rfl rfl) (g_con pe_int fun _ _ => .int _) fun _ _ => rfl) g_anil rfl) rfl) rfl) rfl) rfl) rfl rfl rfl) (nomark _))) (g_tor1 (g_teqo c hX hM (A.eq "Task" _ tab_Task___eq__) (hr.mono (Nat.le_succ _)) (g_var (i := 4) rfl (.inl rfl) rfl rfl) (g_var (i := 3) rfl (.inr (.inl rfl)) rfl rfl) (nomark _))))))
  (g_one (g_ret (g_con pe_bl fun _ _ => .bl _)))
  g_nil)
  (g_cons (g_if (g_teqo c hX hM (A.eq "Task" _ tab_Task___eq__) (hr.mono (Nat.le_succ _)) (g_var (i := 4) rfl (.inl rfl) rfl rfl) (g_mk c hX hM (A.cl "Task" _ tab_Task___init__) (arity tab_Task___init__ n) hr rfl (g_acons (g_ix (ix_gIx c.K) (g_var (i := 3) rfl (.inr (.inl rfl)) rfl rfl) (g_con pe_int fun _ _ => .int _) fun _ _ => rfl) (g_acons (g_ix (ix_gIx c.K) (g_var (i := 3) rfl (.inr (.inl rfl)) rfl rfl) (g_con pe_int fun _ _ => .int _) fun _ _ => rfl) (g_acons (g_bin (op_gMulA c.K) (g_bin (op_gAddA c.K) (g_ix (ix_gIx c.K) (g_var (i := 3) rfl (.inr (.inl rfl)) rfl rfl) (g_con pe_int fun _ _ => .int _) fun _ _ => rfl) (g_con pe_int fun _ _ => .int _)) (g_callTy (cr_gInt) rfl F.n_int boot_int (g_acons (g_cmp (op_gLt) (g_ix (ix_gIx c.K) (g_var (i := 3) rfl (.inr (.inl rfl)) rfl rfl) (g_con pe_int fun _ _ => .int _) fun _ _ => rfl) (g_con pe_int fun _ _ => .int _) (nomark _)) g_anil rfl) (by decide) rfl rfl rfl)) (g_acons (g_ix (ix_gIx c.K) (g_var (i := 3) rfl (.inr (.inl rfl)) rfl rfl) (g_con pe_int fun _ _ => .int _) fun _ _ => rfl) (g_acons (g_ix (ix_gIx c.K) (g_var (i := 3) rfl (.inr (.inl rfl)) rfl rfl) (g_con pe_int fun _ _ => .int _) fun _ _ => rfl) g_anil rfl) rfl) rfl) rfl) rfl) rfl rfl rfl) (nomark _))
  (g_one (g_ret (g_con pe_bl fun _ _ => .bl _)))
  g_nil)
  (g_cons (g_setLc c.K c.calm S.nd (i := 11) rfl rfl rfl (pi_itR1 rfl F.n_range (g_acons (g_con pe_int fun _ _ => .int _) g_anil rfl) rfl) (own := [("many", 12)]) (blkOk_by rfl) (by decide) (fun _ _ _ _ _ => (g_tn (i := 12) S.nd rfl (.inl rfl) (.inr rfl))) (fun _ _ _ _ _ => (pts_one (PT_any fun _ => (g_tcmp (op_gIsNot) (g_ix (ix_gIx (Ctx.blk c).K) (g_ix (ix_gIx (Ctx.blk c).K) (g_callF (Ctx.blk c) hX hM (A.fn "_law_tables" _ tab__law_tables) (arity tab__law_tables n) (hr.mono (Nat.le_succ _)) rfl (g_acons (g_bin (op_gAddA (Ctx.blk c).K) (g_bin (op_gAddA (Ctx.blk c).K) (g_sl (Ctx.blk c).K (g_var (i := 3) rfl (.inr (.inl rfl)) rfl rfl) g_ono (g_oso (g_con pe_int fun _ _ => .int _))) (g_tup (g_acons (g_var (i := 12) rfl (.inl rfl) rfl rfl) g_anil rfl))) (g_sl (Ctx.blk c).K (g_var (i := 3) rfl (.inr (.inl rfl)) rfl rfl) (g_oso (g_con pe_int fun _ _ => .int _)) g_ono)) g_anil rfl) rfl rfl rfl) (g_con pe_int fun _ _ => .int _) fun _ _ => rfl) (g_ix (ix_gIx (Ctx.blk c).K) (g_var (i := 3) rfl (.inr (.inl rfl)) rfl rfl) (g_con pe_int fun _ _ => .int _) fun _ _ => rfl) fun _ _ => rfl) (g_con pe_non fun _ _ => .non) (nomark _))))) (fun _ _ _ _ _ => PE_any fun _ => (g_var (i := 12) rfl (.inl rfl) rfl rfl)) fun _ => rfl)
  (g_one (g_if (g_tnot (g_tval (g_callF c hX hM (A.fn "_law_alike" _ tab__law_alike) (arity tab__law_alike n) (hr.mono (Nat.le_succ _)) rfl (g_acons (g_callF c hX hM (A.fn "least_capacity" _ tab_least_capacity) (arity tab_least_capacity n) (hr.mono (Nat.le_succ _)) rfl (g_acons (g_ix (ix_gIx c.K) (g_var (i := 3) rfl (.inr (.inl rfl)) rfl rfl) (g_con pe_int fun _ _ => .int _) fun _ _ => rfl) (g_acons (g_ix (ix_gIx c.K) (g_var (i := 3) rfl (.inr (.inl rfl)) rfl rfl) (g_con pe_int fun _ _ => .int _) fun _ _ => rfl) (g_acons (g_ix (ix_gIx c.K) (g_var (i := 3) rfl (.inr (.inl rfl)) rfl rfl) (g_con pe_int fun _ _ => .int _) fun _ _ => rfl) (g_acons (g_ix (ix_gIx c.K) (g_var (i := 3) rfl (.inr (.inl rfl)) rfl rfl) (g_con pe_int fun _ _ => .int _) fun _ _ => rfl) g_anil rfl) rfl) rfl) rfl) rfl rfl rfl) (g_acons (g_ife (g_tcmp (op_gNe c.K c.un) (g_var (i := 11) rfl (.inl rfl) rfl rfl) (g_lst g_anil) (nomark _)) (g_ix (ix_gIx c.K) (g_var (i := 11) rfl (.inl rfl) rfl rfl) (g_con pe_int fun _ _ => .int _) fun _ _ => rfl) (g_con pe_non fun _ _ => .non)) g_anil rfl) rfl) rfl rfl rfl) fun _ => rfl))
  (g_one (g_ret (g_con pe_bl fun _ _ => .bl _)))
  g_nil))))))))))) fun _ => rfl)
  (g_one (g_ret (g_con pe_bl fun _ _ => .bl _)))))
theorem ok_Task___init__ : CalC M (2 * (n + 1)) "Task" 6 (callN tab (n + 1) (.me "Task" "__init__")) := by
  obtain ⟨fd, D⟩ := F.d.def_ 28 (d := dd_Task___init__) rfl
  refine ⟨_, _, fd, ["self", "rain", "prices", "capacity", "limit", "level"], F.g_Task, He.mkr_ok (F.d.fact 48 (f := .mkr "Task") rfl), D.bindsN (ps := ["self", "rain", "prices", "capacity", "limit", "level"]) fun _ _ _ _ _ _ us hl => match us, hl with | [_, _, _, _, _, _], _ => rfl, (g_fn (k := 2 * n + 1) (N := N_Task___init__) (ps := ["self", "rain", "prices", "capacity", "limit", "level"]) (nN := 11) (np := 6) (body := sh_Task___init__ (callN tab n)) D sc_Task___init__ rfl rfl (fun gs S h => callN_eq tab_Task___init__ n gs S h) fun cdv A0 outer s H E r hcd hM hr c hX hp => ?_).mono (by omega)⟩
  have hcode := F.cd_Task___init__ D hcd
  have TB := F.tb ("Task", some "__init__") (by simp [tfL])
  have hmT : ((He.cT M.K ("Task", some "__init__")).2, ("Task.__init__.<locals>.<lambda>" : Str)) ∈ M.T := by rw [F.T]; simp
  have huT : ∀ p ∈ M.T, p.1 = (He.cT M.K ("Task", some "__init__")).2 → p.2 = "Task.__init__.<locals>.<lambda>" := fun p hp e => by
    rw [F.T] at hp
    simp only [List.mem_cons, List.not_mem_nil, or_false] at hp
    subst hp; rfl
  have S := sc_Task___init__
  exact (g_cons (g_set (i := 6) S.nd rfl (.inl rfl) (g_lam0 hM F.lo TB hcode hmT huT rfl (by decide) (L := lamD 0) rfl rfl rfl rfl rfl rfl) rfl (.inl rfl))
  (g_cons (g_set (i := 7) S.nd rfl (.inl rfl) (g_callF c hX hM (A.fn "first_wrong" _ tab_first_wrong) (arity tab_first_wrong n) (hr.mono (Nat.le_succ _)) rfl (g_acons (g_var (i := 1) rfl (.inl rfl) rfl rfl) (g_acons (g_con pe_int fun _ _ => .int _) (g_acons (g_con (C8.pe_gc rfl F.c_MOST_MOMENTS rfl) fun _ _ => .int _) (g_acons (g_var (i := 6) rfl (.inl rfl) rfl rfl) g_anil rfl) rfl) rfl) rfl) rfl rfl rfl) rfl (.inl rfl))
  (g_cons (g_if (g_tcmp (op_gIsNot) (g_var (i := 7) rfl (.inl rfl) rfl rfl) (g_con pe_non fun _ _ => .non) (nomark _))
  (g_one g_bad)
  g_nil)
  (g_cons (g_set (i := 8) S.nd rfl (.inl rfl) (g_lam0 hM F.lo TB hcode hmT huT rfl (by decide) (L := lamD 1) rfl rfl rfl rfl rfl rfl) rfl (.inl rfl))
  (g_cons (g_set (i := 7) S.nd rfl (.inl rfl) (g_callF c hX hM (A.fn "first_wrong" _ tab_first_wrong) (arity tab_first_wrong n) (hr.mono (Nat.le_succ _)) rfl (g_acons (g_var (i := 2) rfl (.inl rfl) rfl rfl) (g_acons (g_callB (cr_gLen c.K) rfl F.n_len boot_len (g_acons (g_var (i := 1) rfl (.inl rfl) rfl rfl) g_anil rfl) (by decide) rfl rfl rfl) (g_acons (g_callB (cr_gLen c.K) rfl F.n_len boot_len (g_acons (g_var (i := 1) rfl (.inl rfl) rfl rfl) g_anil rfl) (by decide) rfl rfl rfl) (g_acons (g_var (i := 8) rfl (.inl rfl) rfl rfl) g_anil rfl) rfl) rfl) rfl) rfl rfl rfl) rfl (.inl rfl))
  (g_cons (g_if (g_tcmp (op_gIsNot) (g_var (i := 7) rfl (.inl rfl) rfl rfl) (g_con pe_non fun _ _ => .non) (nomark _))
  (g_one g_bad)
  g_nil)
  (g_cons (g_for c.K hp c.calm (pi_itV c.K (g_tup (g_acons (g_tup (g_acons (g_var (i := 3) rfl (.inl rfl) rfl rfl) (g_acons (g_con (C8.pe_gc rfl F.c_MOST_CAPACITY rfl) fun _ _ => .int _) g_anil rfl) rfl)) (g_acons (g_tup (g_acons (g_var (i := 4) rfl (.inl rfl) rfl rfl) (g_acons (g_con (C8.pe_gc rfl F.c_MOST_LIMIT rfl) fun _ _ => .int _) g_anil rfl) rfl)) g_anil rfl) rfl))) (g_ttp c.calm (g_tgcons (g_tnm0 (i := 9) S.nd rfl (.inl rfl) (.inl rfl)) (g_tgcons (g_tnm0 (i := 10) S.nd rfl (.inl rfl) (.inl rfl)) g_tgnil rfl) rfl) rfl rfl)
  (g_one (g_if (g_tnot (g_tval (g_callF c hX hM (A.fn "is_within" _ tab_is_within) (arity tab_is_within n) (hr.mono (Nat.le_succ _)) rfl (g_acons (g_var (i := 9) rfl (.inl rfl) rfl rfl) (g_acons (g_con pe_int fun _ _ => .int _) (g_acons (g_var (i := 10) rfl (.inl rfl) rfl rfl) g_anil rfl) rfl) rfl) rfl rfl rfl) fun _ => rfl))
  (g_one g_bad)
  g_nil)) fun _ => rfl)
  (g_cons (g_if (g_tnot (g_tval (g_callF c hX hM (A.fn "is_within" _ tab_is_within) (arity tab_is_within n) (hr.mono (Nat.le_succ _)) rfl (g_acons (g_var (i := 5) rfl (.inl rfl) rfl rfl) (g_acons (g_con pe_int fun _ _ => .int _) (g_acons (g_var (i := 4) rfl (.inl rfl) rfl rfl) g_anil rfl) rfl) rfl) rfl rfl rfl) fun _ => rfl))
  (g_one g_bad)
  g_nil)
  (g_cons (g_sfld c.K (F.fld hM) (g_var (i := 0) rfl (.inl rfl) rfl rfl) (g_var (i := 1) rfl (.inl rfl) rfl rfl) rfl)
  (g_cons (g_sfld c.K (F.fld hM) (g_var (i := 0) rfl (.inl rfl) rfl rfl) (g_var (i := 2) rfl (.inl rfl) rfl rfl) rfl)
  (g_cons (g_sfld c.K (F.fld hM) (g_var (i := 0) rfl (.inl rfl) rfl rfl) (g_var (i := 3) rfl (.inl rfl) rfl rfl) rfl)
  (g_cons (g_sfld c.K (F.fld hM) (g_var (i := 0) rfl (.inl rfl) rfl rfl) (g_var (i := 4) rfl (.inl rfl) rfl rfl) rfl)
  (g_cons (g_sfld c.K (F.fld hM) (g_var (i := 0) rfl (.inl rfl) rfl rfl) (g_var (i := 5) rfl (.inl rfl) rfl rfl) rfl)
  (g_one (g_sfld c.K (F.fld hM) (g_var (i := 0) rfl (.inl rfl) rfl rfl) (g_tup (g_acons (g_var (i := 1) rfl (.inl rfl) rfl rfl) (g_acons (g_var (i := 2) rfl (.inl rfl) rfl rfl) (g_acons (g_var (i := 3) rfl (.inl rfl) rfl rfl) (g_acons (g_var (i := 4) rfl (.inl rfl) rfl rfl) (g_acons (g_var (i := 5) rfl (.inl rfl) rfl rfl) g_anil rfl) rfl) rfl) rfl) rfl)) rfl)))))))))))))))
theorem ok_Task___eq__ : CalE M (2 * (n + 1)) "Task" (callN tab (n + 1) (.me "Task" "__eq__")) := by
  obtain ⟨fd, D⟩ := F.d.def_ 29 (d := dd_Task___eq__) rfl
  refine ⟨_, _, fd, ["self", "other"], F.g_Task, F.eq_Task, D.bindsN (ps := ["self", "other"]) fun _ _ _ _ _ _ us hl => match us, hl with | [_, _], _ => rfl, (g_fn (k := 2 * n + 1) (N := N_Task___eq__) (ps := ["self", "other"]) (nN := 2) (np := 2) (body := sh_Task___eq__ (callN tab n)) D sc_Task___eq__ rfl rfl (fun gs S h => callN_eq tab_Task___eq__ n gs S h) fun cdv A0 outer s H E r hcd hM hr c hX hp => ?_).mono (by omega)⟩
  have S := sc_Task___eq__
  exact (g_one (g_ret (g_and (g_callB (cr_gIsi c.K (F.isa hM)) rfl F.n_isinstance boot_isinstance (g_acons (g_var (i := 1) rfl (.inl rfl) rfl rfl) (g_acons (g_glob hM hX rfl F.g_Task rfl) g_anil rfl) rfl) (by decide) rfl rfl rfl) (g_one' (g_cmp (op_gEq c.K c.un) (g_fld c.K (F.fld hM) (g_var (i := 0) rfl (.inl rfl) rfl rfl) rfl) (g_fld c.K (F.fld hM) (g_var (i := 1) rfl (.inl rfl) rfl rfl) rfl) (nomark _))))))
abbrev N_lam0 : List Str := ["row", "ahead"]
omit F A in
theorem sc_lam0 : NdefX.NScope N_lam0 ["row", "ahead"] [] (lamSco lx_0) := NdefX.nscope_by (by kernel_rfl)
theorem ok_lam0 : CalL M lamT (2 * (n + 1)) 0 2 (callN tab (n + 1) (.la 0 0)) := by
  have S := sc_lam0
  refine (⟨(g_lamcal (k := 2 * n + 1) (L := lamD0) (N := N_lam0) (ps := ["row", "ahead"]) (nN := 2) (np := 2) (fe := she_lam0 (callN tab n)) rfl rfl S rfl rfl (fun _ _ _ us hl => match us, hl with | [_, _], _ => rfl) (fun gs S h => (callN_eq tab_lam0 n gs S h).trans bodyR_ret) fun f c' A0 outer s H E r hM hr c hX => ?_).run⟩ : CalL M lamT (2 * n + 1 + 1) 0 2 _)
  exact (g_callF c hX hM (A.fn "is_within" _ tab_is_within) (arity tab_is_within n) (hr.mono (Nat.le_succ _)) rfl (g_acons (g_var (i := 0) rfl (.inl rfl) rfl rfl) (g_acons (g_con pe_int fun _ _ => .int _) (g_acons (g_con (C8.pe_gc rfl F.c_MOST_RAIN rfl) fun _ _ => .int _) g_anil rfl) rfl) rfl) rfl rfl rfl)
abbrev N_lam1 : List Str := ["row", "ahead"]
omit F A in
theorem sc_lam1 : NdefX.NScope N_lam1 ["row", "ahead"] [] (lamSco lx_1) := NdefX.nscope_by (by kernel_rfl)
theorem ok_lam1 : CalL M lamT (2 * (n + 1)) 1 2 (callN tab (n + 1) (.la 1 0)) := by
  have S := sc_lam1
  refine (⟨(g_lamcal (k := 2 * n + 1) (L := lamD1) (N := N_lam1) (ps := ["row", "ahead"]) (nN := 2) (np := 2) (fe := she_lam1 (callN tab n)) rfl rfl S rfl rfl (fun _ _ _ us hl => match us, hl with | [_, _], _ => rfl) (fun gs S h => (callN_eq tab_lam1 n gs S h).trans bodyR_ret) fun f c' A0 outer s H E r hM hr c hX => ?_).run⟩ : CalL M lamT (2 * n + 1 + 1) 1 2 _)
  exact (g_callF c hX hM (A.fn "is_within" _ tab_is_within) (arity tab_is_within n) (hr.mono (Nat.le_succ _)) rfl (g_acons (g_var (i := 0) rfl (.inl rfl) rfl rfl) (g_acons (g_con pe_int fun _ _ => .int _) (g_acons (g_con (C8.pe_gc rfl F.c_MOST_PRICE rfl) fun _ _ => .int _) g_anil rfl) rfl) rfl) rfl rfl rfl)
end
section
variable {M : Md} (F : Fx M)
include F
theorem ok0_is_whole : CalF M 0 "is_whole" 1 (fun _ _ => .bad) := by
  obtain ⟨fd, D⟩ := F.d.def_ 0 (d := dd_is_whole) rfl
  exact ⟨_, fd, ["value"], F.g_is_whole, D.kp, D.bindsN (ps := ["value"]) fun _ _ _ _ _ _ us hl => match us, hl with | [_], _ => rfl, GFn.zero (k := 0) (np := 1) rfl⟩
theorem ok0_is_within : CalF M 0 "is_within" 3 (fun _ _ => .bad) := by
  obtain ⟨fd, D⟩ := F.d.def_ 1 (d := dd_is_within) rfl
  exact ⟨_, fd, ["value", "least", "most"], F.g_is_within, D.kp, D.bindsN (ps := ["value", "least", "most"]) fun _ _ _ _ _ _ us hl => match us, hl with | [_, _, _], _ => rfl, GFn.zero (k := 0) (np := 3) rfl⟩
theorem ok0_is_row : CalF M 0 "is_row" 2 (fun _ _ => .bad) := by
  obtain ⟨fd, D⟩ := F.d.def_ 2 (d := dd_is_row) rfl
  exact ⟨_, fd, ["value", "size"], F.g_is_row, D.kp, D.bindsN (ps := ["value", "size"]) fun _ _ _ _ _ _ us hl => match us, hl with | [_, _], _ => rfl, GFn.zero (k := 0) (np := 2) rfl⟩
theorem ok0_first_wrong : CalF M 0 "first_wrong" 4 (fun _ _ => .bad) := by
  obtain ⟨fd, D⟩ := F.d.def_ 3 (d := dd_first_wrong) rfl
  exact ⟨_, fd, ["value", "least", "most", "judge"], F.g_first_wrong, D.kp, D.bindsN (ps := ["value", "least", "most", "judge"]) fun _ _ _ _ _ _ us hl => match us, hl with | [_, _, _, _], _ => rfl, GFn.zero (k := 0) (np := 4) rfl⟩
theorem ok0_place_told : CalF M 0 "place_told" 1 (fun _ _ => .bad) := by
  obtain ⟨fd, D⟩ := F.d.def_ 4 (d := dd_place_told) rfl
  exact ⟨_, fd, ["place"], F.g_place_told, D.kp, D.bindsN (ps := ["place"]) fun _ _ _ _ _ _ us hl => match us, hl with | [_], _ => rfl, GFn.zero (k := 0) (np := 1) rfl⟩
theorem ok0_is_task : CalF M 0 "is_task" 1 (fun _ _ => .bad) := by
  obtain ⟨fd, D⟩ := F.d.def_ 5 (d := dd_is_task) rfl
  exact ⟨_, fd, ["value"], F.g_is_task, D.kp, D.bindsN (ps := ["value"]) fun _ _ _ _ _ _ us hl => match us, hl with | [_], _ => rfl, GFn.zero (k := 0) (np := 1) rfl⟩
theorem ok0_choices : CalF M 0 "choices" 3 (fun _ _ => .bad) := by
  obtain ⟨fd, D⟩ := F.d.def_ 6 (d := dd_choices) rfl
  exact ⟨_, fd, ["task", "moment", "level"], F.g_choices, D.kp, D.bindsN (ps := ["task", "moment", "level"]) fun _ _ _ _ _ _ us hl => match us, hl with | [_, _, _], _ => rfl, GFn.zero (k := 0) (np := 3) rfl⟩
theorem ok0_least_of : CalF M 0 "least_of" 1 (fun _ _ => .bad) := by
  obtain ⟨fd, D⟩ := F.d.def_ 7 (d := dd_least_of) rfl
  exact ⟨_, fd, ["numbers"], F.g_least_of, D.kp, D.bindsN (ps := ["numbers"]) fun _ _ _ _ _ _ us hl => match us, hl with | [_], _ => rfl, GFn.zero (k := 0) (np := 1) rfl⟩
theorem ok0_row_of : CalF M 0 "row_of" 3 (fun _ _ => .bad) := by
  obtain ⟨fd, D⟩ := F.d.def_ 8 (d := dd_row_of) rfl
  exact ⟨_, fd, ["task", "moment", "behind"], F.g_row_of, D.kp, D.bindsN (ps := ["task", "moment", "behind"]) fun _ _ _ _ _ _ us hl => match us, hl with | [_, _, _], _ => rfl, GFn.zero (k := 0) (np := 3) rfl⟩
theorem ok0_tables_of : CalF M 0 "tables_of" 1 (fun _ _ => .bad) := by
  obtain ⟨fd, D⟩ := F.d.def_ 9 (d := dd_tables_of) rfl
  exact ⟨_, fd, ["task"], F.g_tables_of, D.kp, D.bindsN (ps := ["task"]) fun _ _ _ _ _ _ us hl => match us, hl with | [_], _ => rfl, GFn.zero (k := 0) (np := 1) rfl⟩
theorem ok0_tables : CalF M 0 "tables" 1 (fun _ _ => .bad) := by
  obtain ⟨fd, D⟩ := F.d.def_ 10 (d := dd_tables) rfl
  exact ⟨_, fd, ["task"], F.g_tables, D.kp, D.bindsN (ps := ["task"]) fun _ _ _ _ _ _ us hl => match us, hl with | [_], _ => rfl, GFn.zero (k := 0) (np := 1) rfl⟩
theorem ok0_least_price : CalF M 0 "least_price" 1 (fun _ _ => .bad) := by
  obtain ⟨fd, D⟩ := F.d.def_ 11 (d := dd_least_price) rfl
  exact ⟨_, fd, ["task"], F.g_least_price, D.kp, D.bindsN (ps := ["task"]) fun _ _ _ _ _ _ us hl => match us, hl with | [_], _ => rfl, GFn.zero (k := 0) (np := 1) rfl⟩
theorem ok0_plan : CalF M 0 "plan" 1 (fun _ _ => .bad) := by
  obtain ⟨fd, D⟩ := F.d.def_ 12 (d := dd_plan) rfl
  exact ⟨_, fd, ["task"], F.g_plan, D.kp, D.bindsN (ps := ["task"]) fun _ _ _ _ _ _ us hl => match us, hl with | [_], _ => rfl, GFn.zero (k := 0) (np := 1) rfl⟩
theorem ok0_levels_of : CalF M 0 "levels_of" 2 (fun _ _ => .bad) := by
  obtain ⟨fd, D⟩ := F.d.def_ 13 (d := dd_levels_of) rfl
  exact ⟨_, fd, ["task", "value"], F.g_levels_of, D.kp, D.bindsN (ps := ["task", "value"]) fun _ _ _ _ _ _ us hl => match us, hl with | [_, _], _ => rfl, GFn.zero (k := 0) (np := 2) rfl⟩
theorem ok0_is_plan : CalF M 0 "is_plan" 2 (fun _ _ => .bad) := by
  obtain ⟨fd, D⟩ := F.d.def_ 14 (d := dd_is_plan) rfl
  exact ⟨_, fd, ["task", "value"], F.g_is_plan, D.kp, D.bindsN (ps := ["task", "value"]) fun _ _ _ _ _ _ us hl => match us, hl with | [_, _], _ => rfl, GFn.zero (k := 0) (np := 2) rfl⟩
theorem ok0_price_of : CalF M 0 "price_of" 2 (fun _ _ => .bad) := by
  obtain ⟨fd, D⟩ := F.d.def_ 15 (d := dd_price_of) rfl
  exact ⟨_, fd, ["task", "value"], F.g_price_of, D.kp, D.bindsN (ps := ["task", "value"]) fun _ _ _ _ _ _ us hl => match us, hl with | [_, _], _ => rfl, GFn.zero (k := 0) (np := 2) rfl⟩
theorem ok0_is_entry : CalF M 0 "is_entry" 1 (fun _ _ => .bad) := by
  obtain ⟨fd, D⟩ := F.d.def_ 16 (d := dd_is_entry) rfl
  exact ⟨_, fd, ["value"], F.g_is_entry, D.kp, D.bindsN (ps := ["value"]) fun _ _ _ _ _ _ us hl => match us, hl with | [_], _ => rfl, GFn.zero (k := 0) (np := 1) rfl⟩
theorem ok0_has_form : CalF M 0 "has_form" 2 (fun _ _ => .bad) := by
  obtain ⟨fd, D⟩ := F.d.def_ 17 (d := dd_has_form) rfl
  exact ⟨_, fd, ["task", "value"], F.g_has_form, D.kp, D.bindsN (ps := ["task", "value"]) fun _ _ _ _ _ _ us hl => match us, hl with | [_, _], _ => rfl, GFn.zero (k := 0) (np := 2) rfl⟩
theorem ok0_is_lower_entry : CalF M 0 "is_lower_entry" 4 (fun _ _ => .bad) := by
  obtain ⟨fd, D⟩ := F.d.def_ 18 (d := dd_is_lower_entry) rfl
  exact ⟨_, fd, ["task", "value", "moment", "level"], F.g_is_lower_entry, D.kp, D.bindsN (ps := ["task", "value", "moment", "level"]) fun _ _ _ _ _ _ us hl => match us, hl with | [_, _, _, _], _ => rfl, GFn.zero (k := 0) (np := 4) rfl⟩
theorem ok0_are_lower : CalF M 0 "are_lower" 2 (fun _ _ => .bad) := by
  obtain ⟨fd, D⟩ := F.d.def_ 19 (d := dd_are_lower) rfl
  exact ⟨_, fd, ["task", "value"], F.g_are_lower, D.kp, D.bindsN (ps := ["task", "value"]) fun _ _ _ _ _ _ us hl => match us, hl with | [_, _], _ => rfl, GFn.zero (k := 0) (np := 2) rfl⟩
theorem ok0_shows_cheapest : CalF M 0 "shows_cheapest" 3 (fun _ _ => .bad) := by
  obtain ⟨fd, D⟩ := F.d.def_ 20 (d := dd_shows_cheapest) rfl
  exact ⟨_, fd, ["task", "value", "rows"], F.g_shows_cheapest, D.kp, D.bindsN (ps := ["task", "value", "rows"]) fun _ _ _ _ _ _ us hl => match us, hl with | [_, _, _], _ => rfl, GFn.zero (k := 0) (np := 3) rfl⟩
theorem ok0_least_capacity : CalF M 0 "least_capacity" 4 (fun _ _ => .bad) := by
  obtain ⟨fd, D⟩ := F.d.def_ 21 (d := dd_least_capacity) rfl
  exact ⟨_, fd, ["rain", "prices", "limit", "level"], F.g_least_capacity, D.kp, D.bindsN (ps := ["rain", "prices", "limit", "level"]) fun _ _ _ _ _ _ us hl => match us, hl with | [_, _, _, _], _ => rfl, GFn.zero (k := 0) (np := 4) rfl⟩
theorem ok0__law_taken : CalF M 0 "_law_taken" 2 (fun _ _ => .bad) := by
  obtain ⟨fd, D⟩ := F.d.def_ 22 (d := dd__law_taken) rfl
  exact ⟨_, fd, ["row", "many"], F.g__law_taken, D.kp, D.bindsN (ps := ["row", "many"]) fun _ _ _ _ _ _ us hl => match us, hl with | [_, _], _ => rfl, GFn.zero (k := 0) (np := 2) rfl⟩
theorem ok0__law_pick : CalF M 0 "_law_pick" 2 (fun _ _ => .bad) := by
  obtain ⟨fd, D⟩ := F.d.def_ 23 (d := dd__law_pick) rfl
  exact ⟨_, fd, ["row", "things"], F.g__law_pick, D.kp, D.bindsN (ps := ["row", "things"]) fun _ _ _ _ _ _ us hl => match us, hl with | [_, _], _ => rfl, GFn.zero (k := 0) (np := 2) rfl⟩
theorem ok0__law_alike : CalF M 0 "_law_alike" 2 (fun _ _ => .bad) := by
  obtain ⟨fd, D⟩ := F.d.def_ 24 (d := dd__law_alike) rfl
  exact ⟨_, fd, ["found", "due"], F.g__law_alike, D.kp, D.bindsN (ps := ["found", "due"]) fun _ _ _ _ _ _ us hl => match us, hl with | [_, _], _ => rfl, GFn.zero (k := 0) (np := 2) rfl⟩
theorem ok0__law_task : CalF M 0 "_law_task" 2 (fun _ _ => .bad) := by
  obtain ⟨fd, D⟩ := F.d.def_ 25 (d := dd__law_task) rfl
  exact ⟨_, fd, ["row", "most"], F.g__law_task, D.kp, D.bindsN (ps := ["row", "most"]) fun _ _ _ _ _ _ us hl => match us, hl with | [_, _], _ => rfl, GFn.zero (k := 0) (np := 2) rfl⟩
theorem ok0__law_tables : CalF M 0 "_law_tables" 1 (fun _ _ => .bad) := by
  obtain ⟨fd, D⟩ := F.d.def_ 26 (d := dd__law_tables) rfl
  exact ⟨_, fd, ["parts"], F.g__law_tables, D.kp, D.bindsN (ps := ["parts"]) fun _ _ _ _ _ _ us hl => match us, hl with | [_], _ => rfl, GFn.zero (k := 0) (np := 1) rfl⟩
theorem ok0_law : CalF M 0 "law" 1 (fun _ _ => .bad) := by
  obtain ⟨fd, D⟩ := F.d.def_ 27 (d := dd_law) rfl
  exact ⟨_, fd, ["script"], F.g_law, D.kp, D.bindsN (ps := ["script"]) fun _ _ _ _ _ _ us hl => match us, hl with | [_], _ => rfl, GFn.zero (k := 0) (np := 1) rfl⟩
theorem ok0_Task___init__ : CalC M 0 "Task" 6 (fun _ _ => .bad) := by
  obtain ⟨fd, D⟩ := F.d.def_ 28 (d := dd_Task___init__) rfl
  exact ⟨_, _, fd, ["self", "rain", "prices", "capacity", "limit", "level"], F.g_Task, He.mkr_ok (F.d.fact 48 (f := .mkr "Task") rfl), D.bindsN (ps := ["self", "rain", "prices", "capacity", "limit", "level"]) fun _ _ _ _ _ _ us hl => match us, hl with | [_, _, _, _, _, _], _ => rfl, GFn.zero (k := 0) (np := 6) rfl⟩
theorem ok0_Task___eq__ : CalE M 0 "Task" (fun _ _ => .bad) := by
  obtain ⟨fd, D⟩ := F.d.def_ 29 (d := dd_Task___eq__) rfl
  exact ⟨_, _, fd, ["self", "other"], F.g_Task, F.eq_Task, D.bindsN (ps := ["self", "other"]) fun _ _ _ _ _ _ us hl => match us, hl with | [_, _], _ => rfl, GFn.zero (k := 0) (np := 2) rfl⟩
theorem allOk : ∀ n, AllOk M tab lamT n
  | 0 => allOk_of (l := tabL) (fun _ => rfl) (all_cons (OkAt.fn (ok0_is_whole F)) (all_cons (OkAt.fn (ok0_is_within F)) (all_cons (OkAt.fn (ok0_is_row F)) (all_cons (OkAt.fn (ok0_first_wrong F)) (all_cons (OkAt.fn (ok0_place_told F)) (all_cons (OkAt.fn (ok0_is_task F)) (all_cons (OkAt.fn (ok0_choices F)) (all_cons (OkAt.fn (ok0_least_of F)) (all_cons (OkAt.fn (ok0_row_of F)) (all_cons (OkAt.fn (ok0_tables_of F)) (all_cons (OkAt.fn (ok0_tables F)) (all_cons (OkAt.fn (ok0_least_price F)) (all_cons (OkAt.fn (ok0_plan F)) (all_cons (OkAt.fn (ok0_levels_of F)) (all_cons (OkAt.fn (ok0_is_plan F)) (all_cons (OkAt.fn (ok0_price_of F)) (all_cons (OkAt.fn (ok0_is_entry F)) (all_cons (OkAt.fn (ok0_has_form F)) (all_cons (OkAt.fn (ok0_is_lower_entry F)) (all_cons (OkAt.fn (ok0_are_lower F)) (all_cons (OkAt.fn (ok0_shows_cheapest F)) (all_cons (OkAt.fn (ok0_least_capacity F)) (all_cons (OkAt.fn (ok0__law_taken F)) (all_cons (OkAt.fn (ok0__law_pick F)) (all_cons (OkAt.fn (ok0__law_alike F)) (all_cons (OkAt.fn (ok0__law_task F)) (all_cons (OkAt.fn (ok0__law_tables F)) (all_cons (OkAt.fn (ok0_law F)) (all_cons (OkAt.ini (ok0_Task___init__ F)) (all_cons (OkAt.eq (ok0_Task___eq__ F)) (all_cons (OkAt.la CalL.zero) (all_cons (OkAt.la CalL.zero) (all_nil)))))))))))))))))))))))))))))))))
  | n + 1 => allOk_of (l := tabL) (fun _ => rfl) (have A := allOk n; all_cons (OkAt.fn (ok_is_whole F A)) (all_cons (OkAt.fn (ok_is_within F A)) (all_cons (OkAt.fn (ok_is_row F A)) (all_cons (OkAt.fn (ok_first_wrong F A)) (all_cons (OkAt.fn (ok_place_told F A)) (all_cons (OkAt.fn (ok_is_task F A)) (all_cons (OkAt.fn (ok_choices F A)) (all_cons (OkAt.fn (ok_least_of F A)) (all_cons (OkAt.fn (ok_row_of F A)) (all_cons (OkAt.fn (ok_tables_of F A)) (all_cons (OkAt.fn (ok_tables F A)) (all_cons (OkAt.fn (ok_least_price F A)) (all_cons (OkAt.fn (ok_plan F A)) (all_cons (OkAt.fn (ok_levels_of F A)) (all_cons (OkAt.fn (ok_is_plan F A)) (all_cons (OkAt.fn (ok_price_of F A)) (all_cons (OkAt.fn (ok_is_entry F A)) (all_cons (OkAt.fn (ok_has_form F A)) (all_cons (OkAt.fn (ok_is_lower_entry F A)) (all_cons (OkAt.fn (ok_are_lower F A)) (all_cons (OkAt.fn (ok_shows_cheapest F A)) (all_cons (OkAt.fn (ok_least_capacity F A)) (all_cons (OkAt.fn (ok__law_taken F A)) (all_cons (OkAt.fn (ok__law_pick F A)) (all_cons (OkAt.fn (ok__law_alike F A)) (all_cons (OkAt.fn (ok__law_task F A)) (all_cons (OkAt.fn (ok__law_tables F A)) (all_cons (OkAt.fn (ok_law F A)) (all_cons (OkAt.ini (ok_Task___init__ F A)) (all_cons (OkAt.eq (ok_Task___eq__ F A)) (all_cons (OkAt.la (ok_lam0 F A)) (all_cons (OkAt.la (ok_lam1 F A)) (all_nil)))))))))))))))))))))))))))))))))
theorem ok_lawG {n : Nat} (A : AllOk M tab lamT n) {fd : FuncData} (D : FunD M.K dd_law.name dd_law.qual dd_law.params dd_law.body dd_law.scope (He.DefD.dvs M.K dd_law) (He.DefD.kws M.K dd_law) (He.fAd M.K dd_law.at_) fd) :
    GFn M (2 * (n + 1)) (He.fAd M.K dd_law.at_) fd ["script"] (spG M 1 (callN tab (n + 1) (.fn "law"))) := by
  refine (g_fn (k := 2 * n + 1) (N := N_law) (ps := ["script"]) (nN := 13) (np := 1) (body := sh_law (callN tab n)) D sc_law rfl rfl (fun gs S h => callN_eq tab_law n gs S h) fun cdv A0 outer s H E r hcd hM hr c hX hp => ?_).mono (by omega)
  have S := sc_law
  exact (g_cons (g_set (i := 1) S.nd rfl (.inl rfl) (g_lstA (g_acons (g_var (i := 0) rfl (.inl rfl) rfl rfl) (g_acons (g_con pe_int fun _ _ => .int _) (g_acons (g_con pe_int fun _ _ => .int _) (g_acons (g_con pe_int fun _ _ => .int _) g_anil rfl) rfl) rfl) rfl)) rfl (.inl rfl))
  (g_cons (g_for c.K hp c.calm (pi_itR1 rfl F.n_range (g_acons (g_con pe_int fun _ _ => .int _) g_anil rfl) rfl) (g_tn (i := 2) S.nd rfl (.inl rfl) (.inl rfl))
  (g_cons (g_set (i := 3) S.nd rfl (.inr rfl) (g_callF c hX hM (A.fn "_law_task" _ tab__law_task) (arity tab__law_task n) (hr.mono (Nat.le_succ _)) rfl (g_acons (g_var (i := 1) rfl (.inl rfl) rfl rfl) (g_acons (g_callF c hX hM (A.fn "_law_pick" _ tab__law_pick) (arity tab__law_pick n) (hr.mono (Nat.le_succ _)) rfl (g_acons (g_var (i := 1) rfl (.inl rfl) rfl rfl) (g_acons (g_lst (g_acons (g_con pe_int fun _ _ => .int _) (g_acons (g_con pe_int fun _ _ => .int _) (g_acons (g_con pe_int fun _ _ => .int _) g_anil rfl) rfl) rfl)) g_anil rfl) rfl) rfl rfl rfl) g_anil rfl) rfl) rfl rfl rfl) rfl (.inl rfl))
  (g_cons (g_par c.calm S.nd (i := 4) (j := 5) rfl rfl (by decide) rfl rfl (g_mk c hX hM (A.cl "Task" _ tab_Task___init__) (arity tab_Task___init__ n) hr rfl (g_acons (g_ix (ix_gIx c.K) (g_var (i := 3) rfl (.inr (.inl rfl)) rfl rfl) (g_con pe_int fun _ _ => .int _) fun _ _ => rfl) (g_acons (g_ix (ix_gIx c.K) (g_var (i := 3) rfl (.inr (.inl rfl)) rfl rfl) (g_con pe_int fun _ _ => .int _) fun _ _ => rfl) (g_acons (g_ix (ix_gIx c.K) (g_var (i := 3) rfl (.inr (.inl rfl)) rfl rfl) (g_con pe_int fun _ _ => .int _) fun _ _ => rfl) (g_acons (g_ix (ix_gIx c.K) (g_var (i := 3) rfl (.inr (.inl rfl)) rfl rfl) (g_con pe_int fun _ _ => .int _) fun _ _ => rfl) (g_acons (g_ix (ix_gIx c.K) (g_var (i := 3) rfl (.inr (.inl rfl)) rfl rfl) (g_con pe_int fun _ _ => .int _) fun _ _ => rfl) g_anil rfl) rfl) rfl) rfl) rfl) rfl rfl rfl) (g_callF c hX hM (A.fn "_law_tables" _ tab__law_tables) (arity tab__law_tables n) (hr.mono (Nat.le_succ _)) rfl (g_acons (g_var (i := 3) rfl (.inr (.inl rfl)) rfl rfl) g_anil rfl) rfl rfl rfl) rfl rfl rfl rfl)
  (g_cons (g_tg c.K (g_tup (g_acons (g_ix (ix_gIx c.K) (g_ix (ix_gIx c.K) (g_var (i := 5) rfl (.inl rfl) rfl rfl) (g_con pe_int fun _ _ => .int _) fun _ _ => rfl) (g_ix (ix_gIx c.K) (g_var (i := 3) rfl (.inr (.inl rfl)) rfl rfl) (g_con pe_int fun _ _ => .int _) fun _ _ => rfl) fun _ _ => rfl) (g_acons (g_callF c hX hM (A.fn "plan" _ tab_plan) (arity tab_plan n) (hr.mono (Nat.le_succ _)) rfl (g_acons (g_var (i := 4) rfl (.inl rfl) rfl rfl) g_anil rfl) rfl rfl rfl) g_anil rfl) rfl)) (g_ttp c.calm (g_tgcons (g_tnm0 (i := 6) S.nd rfl (.inl rfl) (.inl rfl)) (g_tgcons (g_tnm0 (i := 7) S.nd rfl (.inr rfl) (.inl rfl)) g_tgnil rfl) rfl) rfl rfl) rfl rfl rfl)
  (g_cons (g_if (PW.pt (g_tor (g_tnot (g_tval (g_callF c hX hM (A.fn "_law_alike" _ tab__law_alike) (arity tab__law_alike n) (hr.mono (Nat.le_succ _)) rfl (g_acons (g_tup (g_acons (g_callF c hX hM (A.fn "tables" _ tab_tables) (arity tab_tables n) (hr.mono (Nat.le_succ _)) rfl (g_acons (g_var (i := 4) rfl (.inl rfl) rfl rfl) g_anil rfl) rfl rfl rfl) (g_acons (g_callF c hX hM (A.fn "least_price" _ tab_least_price) (arity tab_least_price n) (hr.mono (Nat.le_succ _)) rfl (g_acons (g_var (i := 4) rfl (.inl rfl) rfl rfl) g_anil rfl) rfl rfl rfl) g_anil rfl) rfl)) (g_acons (g_tup (g_acons (g_callTy (cr_gTuple c.K) rfl F.n_tuple boot_tuple (g_acons (g_var (i := 5) rfl (.inl rfl) rfl rfl) g_anil rfl) (by decide) rfl rfl rfl) (g_acons (g_var (i := 6) rfl (.inl rfl) rfl rfl) g_anil rfl) rfl)) g_anil rfl) rfl) rfl rfl rfl) fun _ => rfl)) (g_tor1 (g_tcmp (op_gNe c.K c.un) (g_cmp (op_gIs) (g_var (i := 7) rfl (.inr (.inl rfl)) rfl rfl) (g_con pe_non fun _ _ => .non) (nomark _)) (g_cmp (op_gIs) (g_var (i := 6) rfl (.inl rfl) rfl rfl) (g_con pe_non fun _ _ => .non) (nomark _)) (nomark _)))))
  (g_one (g_ret (g_con pe_bl fun _ _ => .bl _)))
  g_nil)
  (g_cons (g_if (PW.pt (g_tor (g_tnot (g_tval (g_callF c hX hM (A.fn "_law_alike" _ tab__law_alike) (arity tab__law_alike n) (hr.mono (Nat.le_succ _)) rfl (g_acons (g_tup (g_acons (g_fld c.K (F.fld hM) (g_var (i := 4) rfl (.inl rfl) rfl rfl) rfl) (g_acons (g_fld c.K (F.fld hM) (g_var (i := 4) rfl (.inl rfl) rfl rfl) rfl) (g_acons (g_fld c.K (F.fld hM) (g_var (i := 4) rfl (.inl rfl) rfl rfl) rfl) (g_acons (g_fld c.K (F.fld hM) (g_var (i := 4) rfl (.inl rfl) rfl rfl) rfl) (g_acons (g_fld c.K (F.fld hM) (g_var (i := 4) rfl (.inl rfl) rfl rfl) rfl) g_anil rfl) rfl) rfl) rfl) rfl)) (g_acons (g_var (i := 3) rfl (.inr (.inl rfl)) rfl rfl) g_anil rfl) rfl) rfl rfl rfl) fun _ => rfl)) (g_tor (g_tcmp (op_gIsNot) (g_callF c hX hM (A.fn "is_task" _ tab_is_task) (arity tab_is_task n) (hr.mono (Nat.le_succ _)) rfl (g_acons (g_var (i := 4) rfl (.inl rfl) rfl rfl) g_anil rfl) rfl rfl rfl) (g_con pe_bl fun _ _ => .bl _) (nomark _)) (g_tor1 (g_tval (g_callF c hX hM (A.fn "is_task" _ tab_is_task) (arity tab_is_task n) (hr.mono (Nat.le_succ _)) rfl (g_acons (g_var (i := 3) rfl (.inr (.inl rfl)) rfl rfl) g_anil rfl) rfl rfl rfl) fun _ => rfl)))))
  (g_one (g_ret (g_con pe_bl fun _ _ => .bl _)))
  g_nil)
  (g_cons (g_if (g_tcmp (op_gIsNot) (g_var (i := 7) rfl (.inr (.inl rfl)) rfl rfl) (g_con pe_non fun _ _ => .non) (nomark _))
  (g_cons (g_par c.calm S.nd (i := 8) (j := 9) rfl rfl (by decide) rfl rfl (g_lstA g_anil) (g_ix (ix_gIx c.K) (g_var (i := 3) rfl (.inr (.inl rfl)) rfl rfl) (g_con pe_int fun _ _ => .int _) fun _ _ => rfl) rfl rfl rfl rfl)
  (g_cons (g_if (PW.pt (g_tor (g_tnot (g_tval (g_callB (cr_gIsi c.K (F.isa hM)) rfl F.n_isinstance boot_isinstance (g_acons (g_var (i := 7) rfl (.inr (.inl rfl)) rfl rfl) (g_acons (g_con (pe_bltn (v := .ty "tuple") rfl F.n_tuple boot_tuple rfl) fun _ _ => .ty _) g_anil rfl) rfl) (by decide) rfl rfl rfl) fun _ => rfl)) (g_tor1 (g_tcmp (op_gNe c.K c.un) (g_callB (cr_gLen c.K) rfl F.n_len boot_len (g_acons (g_var (i := 7) rfl (.inr (.inl rfl)) rfl rfl) g_anil rfl) (by decide) rfl rfl rfl) (g_callB (cr_gLen c.K) rfl F.n_len boot_len (g_acons (g_ix (ix_gIx c.K) (g_var (i := 3) rfl (.inr (.inl rfl)) rfl rfl) (g_con pe_int fun _ _ => .int _) fun _ _ => rfl) g_anil rfl) (by decide) rfl rfl rfl) (nomark _)))))
  (g_one (g_ret (g_con pe_bl fun _ _ => .bl _)))
  g_nil)
  (g_cons (g_for c.K hp c.calm (pi_itR1 rfl F.n_range (g_acons (g_callB (cr_gLen c.K) rfl F.n_len boot_len (g_acons (g_var (i := 7) rfl (.inr (.inl rfl)) rfl rfl) g_anil rfl) (by decide) rfl rfl rfl) g_anil rfl) rfl) (g_tn (i := 10) S.nd rfl (.inl rfl) (.inl rfl))
  (g_cons (g_set (i := 9) S.nd rfl (.inl rfl) (g_bin (op_gSub) (g_bin (op_gAddA c.K) (g_var (i := 9) rfl (.inl rfl) rfl rfl) (g_ix (ix_gIx c.K) (g_ix (ix_gIx c.K) (g_var (i := 3) rfl (.inr (.inl rfl)) rfl rfl) (g_con pe_int fun _ _ => .int _) fun _ _ => rfl) (g_var (i := 10) rfl (.inl rfl) rfl rfl) fun _ _ => rfl)) (g_ix (ix_gIx c.K) (g_var (i := 7) rfl (.inr (.inl rfl)) rfl rfl) (g_var (i := 10) rfl (.inl rfl) rfl rfl) fun _ _ => rfl)) rfl (.inl rfl))
  (g_cons (g_expr (g_ml c.K PySem.F.slot_list_append PySem.F.type_list_append mt_gApp (g_var (i := 8) rfl (.inl rfl) rfl rfl) (g_acons (g_var (i := 9) rfl (.inl rfl) rfl rfl) g_anil rfl) rfl rfl rfl rfl rfl) rfl)
  (g_one (g_if (PW.pt (g_tor (g_tnot (g_chT (op_gLe) (op_gLe) (g_con pe_int fun _ _ => .int _) (g_ix (ix_gIx c.K) (g_var (i := 7) rfl (.inr (.inl rfl)) rfl rfl) (g_var (i := 10) rfl (.inl rfl) rfl rfl) fun _ _ => rfl) (g_ix (ix_gIx c.K) (g_var (i := 3) rfl (.inr (.inl rfl)) rfl rfl) (g_con pe_int fun _ _ => .int _) fun _ _ => rfl) (by with_unfolding_all rfl))) (g_tor1 (g_tnot (g_chT (op_gLe) (op_gLe) (g_con pe_int fun _ _ => .int _) (g_var (i := 9) rfl (.inl rfl) rfl rfl) (g_ix (ix_gIx c.K) (g_var (i := 3) rfl (.inr (.inl rfl)) rfl rfl) (g_con pe_int fun _ _ => .int _) fun _ _ => rfl) (by with_unfolding_all rfl))))))
  (g_one (g_ret (g_con pe_bl fun _ _ => .bl _)))
  g_nil)))) fun _ => rfl)
  (g_cons (g_if (PW.pt (g_tor (g_tcmp (op_gNe c.K c.un) (g_callB (cr_gSum c.K c.calm) rfl F.n_sum boot_sum (g_acons (g_lc c.K c.calm S.nd (pi_itR1 rfl F.n_range (g_acons (g_callB (cr_gLen c.K) rfl F.n_len boot_len (g_acons (g_var (i := 7) rfl (.inr (.inl rfl)) rfl rfl) g_anil rfl) (by decide) rfl rfl rfl) g_anil rfl) rfl) (own := [("k", 10)]) (blkOk_by rfl) (by decide) (fun _ _ _ _ _ => (g_tn (i := 10) S.nd rfl (.inl rfl) (.inr rfl))) (fun _ _ _ _ _ => pts_tYes) (fun _ _ _ _ _ => PE_any fun _ => (g_bin (op_gMulA (Ctx.blk c).K) (g_ix (ix_gIx (Ctx.blk c).K) (g_var (i := 7) rfl (.inr (.inl rfl)) rfl rfl) (g_var (i := 10) rfl (.inl rfl) rfl rfl) fun _ _ => rfl) (g_ix (ix_gIx (Ctx.blk c).K) (g_ix (ix_gIx (Ctx.blk c).K) (g_var (i := 3) rfl (.inr (.inl rfl)) rfl rfl) (g_con pe_int fun _ _ => .int _) fun _ _ => rfl) (g_var (i := 10) rfl (.inl rfl) rfl rfl) fun _ _ => rfl))) fun _ => rfl) g_anil rfl) (by decide) rfl rfl rfl) (g_var (i := 6) rfl (.inl rfl) rfl rfl) (nomark _)) (g_tor1 (g_tnot (g_tval (g_callF c hX hM (A.fn "_law_alike" _ tab__law_alike) (arity tab__law_alike n) (hr.mono (Nat.le_succ _)) rfl (g_acons (g_tup (g_acons (g_callF c hX hM (A.fn "levels_of" _ tab_levels_of) (arity tab_levels_of n) (hr.mono (Nat.le_succ _)) rfl (g_acons (g_var (i := 4) rfl (.inl rfl) rfl rfl) (g_acons (g_var (i := 7) rfl (.inr (.inl rfl)) rfl rfl) g_anil rfl) rfl) rfl rfl rfl) (g_acons (g_callF c hX hM (A.fn "price_of" _ tab_price_of) (arity tab_price_of n) (hr.mono (Nat.le_succ _)) rfl (g_acons (g_var (i := 4) rfl (.inl rfl) rfl rfl) (g_acons (g_var (i := 7) rfl (.inr (.inl rfl)) rfl rfl) g_anil rfl) rfl) rfl rfl rfl) g_anil rfl) rfl)) (g_acons (g_tup (g_acons (g_callTy (cr_gTuple c.K) rfl F.n_tuple boot_tuple (g_acons (g_var (i := 8) rfl (.inl rfl) rfl rfl) g_anil rfl) (by decide) rfl rfl rfl) (g_acons (g_var (i := 6) rfl (.inl rfl) rfl rfl) g_anil rfl) rfl)) g_anil rfl) rfl) rfl rfl rfl) fun _ => rfl)))))
  (g_one (g_ret (g_con pe_bl fun _ _ => .bl _)))
  g_nil)
  (g_one (g_if (PW.pt (g_tor (g_tcmp (op_gIsNot) (g_callF c hX hM (A.fn "shows_cheapest" _ tab_shows_cheapest) (arity tab_shows_cheapest n) (hr.mono (Nat.le_succ _)) rfl (g_acons (g_var (i := 4) rfl (.inl rfl) rfl rfl) (g_acons (g_var (i := 7) rfl (.inr (.inl rfl)) rfl rfl) (g_acons (g_callTy (cr_gTuple c.K) rfl F.n_tuple boot_tuple (g_acons (g_var (i := 5) rfl (.inl rfl) rfl rfl) g_anil rfl) (by decide) rfl rfl rfl) g_anil rfl) rfl) rfl) rfl rfl rfl) (g_con pe_bl fun _ _ => .bl _) (nomark _)) (g_tor1 (g_tcmp (op_gIsNot) (g_callF c hX hM (A.fn "is_plan" _ tab_is_plan) (arity tab_is_plan n) (hr.mono (Nat.le_succ _)) rfl (g_acons (g_var (i := 4) rfl (.inl rfl) rfl rfl) (g_acons (g_var (i := 7) rfl (.inr (.inl rfl)) rfl rfl) g_anil rfl) rfl) rfl rfl rfl) (g_con pe_bl fun _ _ => .bl _) (nomark _)))))
  (g_one (g_ret (g_con pe_bl fun _ _ => .bl _)))
  g_nil))))))
  g_nil)
  (g_cons (g_if (PW.pt (g_tor (g_tcmp (op_gIsNot) (g_callF c hX hM (A.fn "are_lower" _ tab_are_lower) (arity tab_are_lower n) (hr.mono (Nat.le_succ _)) rfl (g_acons (g_var (i := 4) rfl (.inl rfl) rfl rfl) (g_acons (g_callTy (cr_gTuple c.K) rfl F.n_tuple boot_tuple (g_acons (g_var (i := 5) rfl (.inl rfl) rfl rfl) g_anil rfl) (by decide) rfl rfl rfl) g_anil rfl) rfl) rfl rfl rfl) (g_con pe_bl fun _ _ => .bl _) (nomark _)) (g_tor (g_tnot (g_teqo c hX hM (A.eq "Task" _ tab_Task___eq__) (hr.mono (Nat.le_succ _)) (g_var (i := 4) rfl (.inl rfl) rfl rfl) (g_mk c hX hM (A.cl "Task" _ tab_Task___init__) (arity tab_Task___init__ n) hr rfl (g_acons (g_ix (ix_gIx c.K) (g_var (i := 3) rfl (.inr (.inl rfl)) rfl rfl) (g_con pe_int fun _ _ => .int _) fun _ _ => rfl) (g_acons (g_ix (ix_gIx c.K) (g_var (i := 3) rfl (.inr (.inl rfl)) rfl rfl) (g_con pe_int fun _ _ => .int _) fun _ _ => rfl) (g_acons (g_ix (ix_gIx c.K) (g_var (i := 3) rfl (.inr (.inl rfl)) rfl rfl) (g_con pe_int fun _ _ => .int _) fun _ _ => rfl) (g_acons (g_ix (ix_gIx c.K) (g_var (i := 3) rfl (.inr (.inl rfl)) rfl rfl) (g_con pe_int fun _ _ => .int _) fun _ _ => rfl) (g_acons (g_ix (ix_gIx c.K) (g_var (i := 3) rfl (.inr (.inl rfl)) rfl rfl) (g_con pe_int fun _ _ => .int _) fun _ _ => rfl) g_anil rfl) rfl) rfl) rfl) rfl) rfl rfl rfl) (nomark _))) (g_tor1 (g_teqo c hX hM (A.eq "Task" _ tab_Task___eq__) (hr.mono (Nat.le_succ _)) (g_var (i := 4) rfl (.inl rfl) rfl rfl) (g_var (i := 3) rfl (.inr (.inl rfl)) rfl rfl) (nomark _))))))
  (g_one (g_ret (g_con pe_bl fun _ _ => .bl _)))
  g_nil)
  (g_cons (g_if (g_teqo c hX hM (A.eq "Task" _ tab_Task___eq__) (hr.mono (Nat.le_succ _)) (g_var (i := 4) rfl (.inl rfl) rfl rfl) (g_mk c hX hM (A.cl "Task" _ tab_Task___init__) (arity tab_Task___init__ n) hr rfl (g_acons (g_ix (ix_gIx c.K) (g_var (i := 3) rfl (.inr (.inl rfl)) rfl rfl) (g_con pe_int fun _ _ => .int _) fun _ _ => rfl) (g_acons (g_ix (ix_gIx c.K) (g_var (i := 3) rfl (.inr (.inl rfl)) rfl rfl) (g_con pe_int fun _ _ => .int _) fun _ _ => rfl) (g_acons (g_bin (op_gMulA c.K) (g_bin (op_gAddA c.K) (g_ix (ix_gIx c.K) (g_var (i := 3) rfl (.inr (.inl rfl)) rfl rfl) (g_con pe_int fun _ _ => .int _) fun _ _ => rfl) (g_con pe_int fun _ _ => .int _)) (g_callTy (cr_gInt) rfl F.n_int boot_int (g_acons (g_cmp (op_gLt) (g_ix (ix_gIx c.K) (g_var (i := 3) rfl (.inr (.inl rfl)) rfl rfl) (g_con pe_int fun _ _ => .int _) fun _ _ => rfl) (g_con pe_int fun _ _ => .int _) (nomark _)) g_anil rfl) (by decide) rfl rfl rfl)) (g_acons (g_ix (ix_gIx c.K) (g_var (i := 3) rfl (.inr (.inl rfl)) rfl rfl) (g_con pe_int fun _ _ => .int _) fun _ _ => rfl) (g_acons (g_ix (ix_gIx c.K) (g_var (i := 3) rfl (.inr (.inl rfl)) rfl rfl) (g_con pe_int fun _ _ => .int _) fun _ _ => rfl) g_anil rfl) rfl) rfl) rfl) rfl) rfl rfl rfl) (nomark _))
  (g_one (g_ret (g_con pe_bl fun _ _ => .bl _)))
  g_nil)
  (g_cons (g_setLc c.K c.calm S.nd (i := 11) rfl rfl rfl (pi_itR1 rfl F.n_range (g_acons (g_con pe_int fun _ _ => .int _) g_anil rfl) rfl) (own := [("many", 12)]) (blkOk_by rfl) (by decide) (fun _ _ _ _ _ => (g_tn (i := 12) S.nd rfl (.inl rfl) (.inr rfl))) (fun _ _ _ _ _ => (pts_one (PT_any fun _ => (g_tcmp (op_gIsNot) (g_ix (ix_gIx (Ctx.blk c).K) (g_ix (ix_gIx (Ctx.blk c).K) (g_callF (Ctx.blk c) hX hM (A.fn "_law_tables" _ tab__law_tables) (arity tab__law_tables n) (hr.mono (Nat.le_succ _)) rfl (g_acons (g_bin (op_gAddA (Ctx.blk c).K) (g_bin (op_gAddA (Ctx.blk c).K) (g_sl (Ctx.blk c).K (g_var (i := 3) rfl (.inr (.inl rfl)) rfl rfl) g_ono (g_oso (g_con pe_int fun _ _ => .int _))) (g_tup (g_acons (g_var (i := 12) rfl (.inl rfl) rfl rfl) g_anil rfl))) (g_sl (Ctx.blk c).K (g_var (i := 3) rfl (.inr (.inl rfl)) rfl rfl) (g_oso (g_con pe_int fun _ _ => .int _)) g_ono)) g_anil rfl) rfl rfl rfl) (g_con pe_int fun _ _ => .int _) fun _ _ => rfl) (g_ix (ix_gIx (Ctx.blk c).K) (g_var (i := 3) rfl (.inr (.inl rfl)) rfl rfl) (g_con pe_int fun _ _ => .int _) fun _ _ => rfl) fun _ _ => rfl) (g_con pe_non fun _ _ => .non) (nomark _))))) (fun _ _ _ _ _ => PE_any fun _ => (g_var (i := 12) rfl (.inl rfl) rfl rfl)) fun _ => rfl)
  (g_one (g_if (g_tnot (g_tval (g_callF c hX hM (A.fn "_law_alike" _ tab__law_alike) (arity tab__law_alike n) (hr.mono (Nat.le_succ _)) rfl (g_acons (g_callF c hX hM (A.fn "least_capacity" _ tab_least_capacity) (arity tab_least_capacity n) (hr.mono (Nat.le_succ _)) rfl (g_acons (g_ix (ix_gIx c.K) (g_var (i := 3) rfl (.inr (.inl rfl)) rfl rfl) (g_con pe_int fun _ _ => .int _) fun _ _ => rfl) (g_acons (g_ix (ix_gIx c.K) (g_var (i := 3) rfl (.inr (.inl rfl)) rfl rfl) (g_con pe_int fun _ _ => .int _) fun _ _ => rfl) (g_acons (g_ix (ix_gIx c.K) (g_var (i := 3) rfl (.inr (.inl rfl)) rfl rfl) (g_con pe_int fun _ _ => .int _) fun _ _ => rfl) (g_acons (g_ix (ix_gIx c.K) (g_var (i := 3) rfl (.inr (.inl rfl)) rfl rfl) (g_con pe_int fun _ _ => .int _) fun _ _ => rfl) g_anil rfl) rfl) rfl) rfl) rfl rfl rfl) (g_acons (g_ife (g_tcmp (op_gNe c.K c.un) (g_var (i := 11) rfl (.inl rfl) rfl rfl) (g_lst g_anil) (nomark _)) (g_ix (ix_gIx c.K) (g_var (i := 11) rfl (.inl rfl) rfl rfl) (g_con pe_int fun _ _ => .int _) fun _ _ => rfl) (g_con pe_non fun _ _ => .non)) g_anil rfl) rfl) rfl rfl rfl) fun _ => rfl))
  (g_one (g_ret (g_con pe_bl fun _ _ => .bl _)))
  g_nil))))))))))) fun _ => rfl)
  (g_one (g_ret (g_con pe_bl fun _ _ => .bl _)))))
end
theorem facts {P : Program} {w : World} {K : PySem.W.Frag} {h : Heap} {mg : Str → Option Value} {f : Addr} (KX : K.In h) (hG : h.Ns mainGlobals mg) (hfa : mg ("law" : Str) = some (.ref f)) (c : He.SaysX fa fnL [] tfL ex w h K)
    (plain : ∀ ns : List Int, ns.length ≤ 63 → (∀ z ∈ ns, Builtin.Int.intBits z ≤ 1048576) → ∃ S', callN tab 100 (.fn "law") [.fz (ns.map .int)] [] = .ok (.bl true) S') :
    ∃ (K : PySem.W.Frag) (cs : List (Addr × Addr)) (fd : FuncData) (T : List (Addr × Str)) (isClo : Nat → Nat → Obj → List Addr → Addr → Str → Prop) (cl : List G → Sto → R G),
      K.In h ∧ (∀ p ∈ cs, h.get? p.2 = some { cls := .none, data := .fields #[] }) ∧ (∀ p ∈ cs, K.lookup p.2 = none) ∧ (∀ p ∈ cs, PySem.W.CodeHd h p.1 p.2) ∧ (∀ p ∈ T, p.1 ∈ cs.map (·.2)) ∧ (∀ (s : Shared) (u : Value), BindsTo s fd ⟨[u], []⟩ [("script", u)]) ∧
        (∀ ns : List Int, ns.length ≤ 63 → (∀ z ∈ ns, Builtin.Int.intBits z ≤ 1048576) → ∃ S', cl [.fz (ns.map .int)] [] = .ok (.bl true) S') ∧
        ∀ base : Heap, K.In base → base.Ns mainGlobals mg → (∀ p ∈ cs, TabB base mg p.1 p.2) → GFn ⟨P, w, K, mg, base, T, isClo⟩ 200 f fd ["script"] (spG ⟨P, w, K, mg, base, T, isClo⟩ 1 cl) := by
  obtain ⟨fd, D⟩ := c.t.d.def_ 27 (d := dd_law) rfl
  have e := hfa.symm.trans (He.glo_ok KX hG (c.t.d.fact 28 (f := .glo "law") rfl))
  cases e
  have b := FunD.bindsA (ps := ["script"]) D fun _ _ _ _ _ _ us hl => match us, hl with | [_], _ => rfl
  refine ⟨K, tfL.map (He.cT K), fd, [((He.cT K ("Task", some "__init__")).2, "Task.__init__.<locals>.<lambda>")], loIs lamT, callN tab 100 (.fn "law"), KX, fun p hp => ?_, fun p hp => ?_, fun p hp => ?_, fun p hp => ?_, fun s v => b s [v] rfl, plain, fun base h1 h2 h3 => ?_⟩
  · obtain ⟨q, hq, rfl⟩ := List.mem_map.mp hp
    exact c.empty q hq
  · obtain ⟨q, hq, rfl⟩ := List.mem_map.mp hp
    exact c.out q hq
  · obtain ⟨q, hq, rfl⟩ := List.mem_map.mp hp
    exact PySem.W.codeHd_of_K KX (c.hd q hq)
  · revert p; simp [tfL]
  · have F : Fx ⟨P, w, K, mg, base, [((He.cT K ("Task", some "__init__")).2, "Task.__init__.<locals>.<lambda>")], loIs lamT⟩ := ⟨h1, h2, c.t.d, c.more, fun p hp => h3 _ (List.mem_map_of_mem hp), rfl, rfl⟩
    exact ok_lawG F (allOk F 99) D
abbrev Rw : PySem.W.OpenRow := PySem.W.OpenLaw.row PySem.Challenge.rw_polderkeep_k14_whole_cheapest_plans
abbrev qv : Program := PySem.W.view Rw.prog [41]
abbrev hk : PySem.W.Hook := He.hookX 4 fa fnL [] tfL ex
def ob (s : PySem.W.SharedT) : He.AlX := He.obsX 4 fa fnL [] tfL ex (HandSHeadRun.getT s)
theorem ob_eq (s : PySem.W.SharedT) : ob s = hk.obs s.abs := He.obsX_eq (HandSHeadRun.getT_eq s)
def names0 : List Str := [PySem.Str.ofString "is_whole", PySem.Str.ofString "is_within", PySem.Str.ofString "is_row", PySem.Str.ofString "first_wrong", PySem.Str.ofString "place_told", PySem.Str.ofString "PolderError", PySem.Str.ofString "BadNumber", PySem.Str.ofString "BadRain", PySem.Str.ofString "BadPrices", PySem.Str.ofString "MOST_MOMENTS", PySem.Str.ofString "MOST_RAIN", PySem.Str.ofString "MOST_PRICE", PySem.Str.ofString "MOST_LIMIT", PySem.Str.ofString "MOST_CAPACITY", PySem.Str.ofString "Task", PySem.Str.ofString "is_task", PySem.Str.ofString "choices", PySem.Str.ofString "least_of", PySem.Str.ofString "row_of", PySem.Str.ofString "tables_of", PySem.Str.ofString "tables", PySem.Str.ofString "least_price", PySem.Str.ofString "plan", PySem.Str.ofString "levels_of", PySem.Str.ofString "is_plan", PySem.Str.ofString "price_of", PySem.Str.ofString "is_entry", PySem.Str.ofString "has_form", PySem.Str.ofString "is_lower_entry", PySem.Str.ofString "are_lower", PySem.Str.ofString "shows_cheapest", PySem.Str.ofString "least_capacity", PySem.Str.ofString "_law_taken", PySem.Str.ofString "_law_pick", PySem.Str.ofString "_law_alike", PySem.Str.ofString "_law_task", PySem.Str.ofString "_law_tables"]
def names : List Str := names0
theorem run (w : World) : HandSHeadRun.RunEq Rw qv hk ob 20000 names w := by
  intro os
  kernel_rfl
end Lk14
open PySem PySem.W PySem.Calls PyProof.Rows
theorem Lk14.holds (plain : ∀ ns : List Int, ns.length ≤ 63 → (∀ z ∈ ns, Builtin.Int.intBits z ≤ 1048576) → ∃ S', GL.callN Lk14.tab 100 (.fn "law") [.fz (ns.map .int)] [] = .ok (.bl true) S') : PySem.Challenge.rw_polderkeep_k14_whole_cheapest_plans.Holds := by
  w_on; o_law
  refine HandSHeadRun.head_any (r := Lk14.Rw) (q := Lk14.qv) (H := Lk14.hk) (ob := Lk14.ob) (M := 20000) (loose := Lk14.names) (d := HandSHeadRun.topDef Lk14.Rw.prog 41) (kwd := []) Lk14.ob_eq
    (by kernel_rfl) (fun s => by kernel_rfl) Lk14.run (by kernel_rfl) (by kernel_rfl) (by kernel_rfl) (by rfl) (by first | assumption | decide +kernel) (by decide +kernel) ⟨rfl, rfl, rfl, rfl, rfl, by decide +kernel⟩ ?hw ?hc
  case hw => w_witness2
  case hc =>
    refine GL.walk_G (l := PySem.Challenge.rw_polderkeep_k14_whole_cheapest_plans) (n := 63) (k := 200) (x := "script") rfl (by decide) (by kernel_rfl) ⟨rfl, by decide, by decide⟩ ?F
    intro w mg fa h Y G hmg0
    obtain ⟨K, KX, c⟩ := Y
    have hmg : mg ("law" : PySem.Str) = some (.ref fa) := by
      have e : (HandSHeadRun.topDef Lk14.Rw.prog 41).name = ("law" : PySem.Str) := by kernel_rfl
      rw [← e]
      exact hmg0
    exact Lk14.facts (P := (PySem.Challenge.rw_polderkeep_k14_whole_cheapest_plans).prog) KX G hmg c plain

end

section
set_option Elab.async false
set_option linter.all false
set_option maxRecDepth 100000
set_option maxHeartbeats 4000000
namespace Lk14
open PySem GL
theorem plain (ns : List Int) : ∃ S', callN tab 100 (.fn "law") [.fz (ns.map .int)] [] = .ok (.bl true) S' := by
  obtain ⟨g, S', e, rfl⟩ := R.wp_iff.mp (law_ok (n := 88) ns)
  exact ⟨S', e⟩
end Lk14
theorem PySem.Challenge.cw_polderkeep_k14_whole_cheapest_plans_holds : PySem.Challenge.rw_polderkeep_k14_whole_cheapest_plans.Holds :=
  Lk14.holds fun ns _ _ => Lk14.plain ns

end
