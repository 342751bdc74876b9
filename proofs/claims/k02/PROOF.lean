import PyProof.Rows.All
import Wide.All
import OpenK.AllK
import Wide.FinOn
import HandS.ForMost
import HandS.Exc
import HandS.Lambda
import HandS.TupAny
import HandS.TupMul
import HandS.IsInst
import HandS.Style
import HandS.Text
import HandS.Iter
import HandS.Zip
import KE.GoesEnum
import HandS.ExcOwn
import HandS.TryMany
import HandS.Codes
import HandS.Defaults
import KE.KDflt
import HandS.Nested
import KE.KExcSuper
import HandS.ExcInit
import HandS.ExcField
import HandS.ExcIs
import HandS.OwnEq
import KE.KIsAll
import KE.KTryMore
import HandS.HotCalls
import HandS.EndBits
import HandS.EndTab
import HandS.Head0
import HandS.Head1
import HandS.Head2
import HandS.HeadHook1
import HandS.HeadHook2
import HandS.HeadHook3
import HandS.HeadHook4
import KE.KStateDown
import HandS.Conv
import PyProof.Fits
import HandS.Set
import HandS.SetFor
import HandS.SetTxt0
import HandS.Strs
import PyProof.Rows.SortShellAny
import HandS.TupLe
import HandS.SortInts
import PyProof.ReprRoads
import PyProof.CallFns
import HandS.Dict
import HandS.RaiseMore
import Lean
import PySem.Challenge.RW_polderkeep_k02_whole_lines_of_rules
section
set_option Elab.async false
set_option linter.all false
set_option maxRecDepth 100000
set_option maxHeartbeats 4000000
/-! GL, the core: plain values, a store, what the Python words of our laws do to them, and the reading of the syntax. -/
namespace GL
open PySem

/-- a plain value: tuples are data; fz: a list that stays for ever (the script); tl, td, ts: a list, dict, set that was just made and that nobody changes; ref: an object of the store; gl: a def or class of the module; hx: the exception that is handled; clo ln 0: a lambda that captures nothing; clo ln (n + 1) cap: one that captured cap, its place in the store is n -/
inductive G where
  | non | bl (b : Bool) | int (i : Int) | str (s : Str)
  | tup (l : List G) | fz (l : List G) | tl (l : List G) | td (l : List (G × G)) | ts (l : List G)
  | ref (n : Nat) | gl (x : Str) | ty (n : String)
  | hx (c : Str) (fs : List (Str × G))
  | clo (ln cl : Nat) (cap : List G)
  deriving Inhabited
/-- an object of the store: a list (w: it may be changed), a dict, an instance; dead: the place of a lambda that captured -/
inductive GO where
  | lst (w : Bool) (l : List G)
  | dic (z : Bool) (l : List (G × G))
  | ins (c : Str) (fs : List (Str × G))
  | dead
  deriving Inhabited
abbrev Sto := List GO
abbrev Loc := List (Option G)
inductive R (a : Type) where
  | ok (x : a) (S : Sto)
  | exc (c : Str) (fs : List (Str × G)) (S : Sto)
  | bad
inductive SR where
  | nx (l : Loc) (S : Sto)
  | rt (g : G) (S : Sto)
  | bk (l : Loc) (S : Sto)
  | ct (l : Loc) (S : Sto)
  | exc (c : Str) (fs : List (Str × G)) (l : Loc) (S : Sto)
  | bad
def rb {a b : Type} (r : R a) (k : a → Sto → R b) : R b := match r with
  | .ok x S => k x S
  | .exc c fs S => .exc c fs S
  | .bad => .bad
/-- what is called: a def, a method, a lambda -/
inductive FK where
  | fn (x : Str) | fc (x : Str) | fh (x : Str) | me (c m : Str) | la (ln cl : Nat)
  deriving DecidableEq
abbrev Calls := FK → List G → Sto → R G
abbrev Ev := Loc → Sto → R G
abbrev As := Loc → Sto → R (List G)
abbrev Te := Loc → Sto → R Bool
abbrev StM := Loc → Sto → SR

/-! ### expressions -/
def eBad : Ev := fun _ _ => .bad
def eC (g : G) : Ev := fun _ S => .ok g S
def eV (i : Nat) : Ev := fun l S => match l[i]? with
  | some (some g) => .ok g S
  | _ => .bad
def ro (o : Option G) (S : Sto) : R G := match o with
  | some g => .ok g S
  | none => .bad
def e1 (f : G → Sto → Option G) (a : Ev) : Ev := fun l S => rb (a l S) fun x S => ro (f x S) S
def e2 (f : G → G → Sto → Option G) (a b : Ev) : Ev := fun l S => rb (a l S) fun x S => rb (b l S) fun y S => ro (f x y S) S
def aNil : As := fun _ S => .ok [] S
def aCons (a : Ev) (r : As) : As := fun l S => rb (a l S) fun x S => rb (r l S) fun xs S => .ok (x :: xs) S
def eA (f : List G → Sto → Option G) (a : As) : Ev := fun l S => rb (a l S) fun xs S => ro (f xs S) S
def eMt (f : G → List G → Sto → Option G) (o : Ev) (a : As) : Ev := fun l S => rb (o l S) fun x S => rb (a l S) fun xs S => ro (f x xs S) S
/-- a method that changes its object -/
def eMu (f : G → List G → Sto → Option (G × Sto)) (o : Ev) (a : As) : Ev := fun l S => rb (o l S) fun x S => rb (a l S) fun xs S => match f x xs S with
  | some (g, S) => .ok g S
  | none => .bad
def eCl (call : Calls) (k : FK) (a : As) : Ev := fun l S => rb (a l S) fun xs S => call k xs S
def bof {a : Type} (g : G) (k : Bool → R a) : R a := match g with
  | .bl b => k b
  | _ => .bad
def tV (a : Ev) : Te := fun l S => rb (a l S) fun x S => bof x fun b => .ok b S
def tAnd (a b : Te) : Te := fun l S => rb (a l S) fun x S => if x = true then b l S else .ok false S
def tOr (a b : Te) : Te := fun l S => rb (a l S) fun x S => if x = true then .ok true S else b l S
def tNot (a : Te) : Te := fun l S => rb (a l S) fun x S => .ok (!x) S
def tBad : Te := fun _ _ => .bad
def eAnd (a b : Ev) : Ev := fun l S => rb (a l S) fun x S => bof x fun c => if c = true then b l S else .ok (.bl false) S
def eOr (a b : Ev) : Ev := fun l S => rb (a l S) fun x S => bof x fun c => if c = true then .ok (.bl true) S else b l S
def eNot (a : Te) : Ev := fun l S => rb (a l S) fun x S => .ok (.bl (!x)) S
def eIf (c : Te) (a b : Ev) : Ev := fun l S => rb (c l S) fun x S => if x = true then a l S else b l S
/-- a op b op' c -/
def eCh (f g : G → G → Sto → Option G) (a b c : Ev) : Ev := fun l S => rb (a l S) fun x S => rb (b l S) fun y S => rb (ro (f x y S) S) fun z S => bof z fun k =>
  if k = true then rb (c l S) fun w S => ro (g y w S) S else .ok (.bl false) S

/-! ### statements -/
def sBad : StM := fun _ _ => .bad
def sNx : StM := fun l S => .nx l S
def sSeq (a b : StM) : StM := fun l S => match a l S with
  | .nx l S => b l S
  | .rt g S => .rt g S
  | .bk l S => .bk l S
  | .ct l S => .ct l S
  | .exc c fs l S => .exc c fs l S
  | .bad => .bad
def sr {a : Type} (l : Loc) (r : R a) (k : a → Sto → SR) : SR := match r with
  | .ok x S => k x S
  | .exc c fs S => .exc c fs l S
  | .bad => .bad
def sSet (i : Nat) (e : Ev) : StM := fun l S => sr l (e l S) fun g S => .nx (l.set i (some g)) S
def sDrop (e : Ev) : StM := fun l S => sr l (e l S) fun _ S => .nx l S
def sRet (e : Ev) : StM := fun l S => sr l (e l S) fun g S => .rt g S
def sRetN : StM := fun _ S => .rt .non S
def sBrk : StM := fun l S => .bk l S
def sCnt : StM := fun l S => .ct l S
def sIf (t : Te) (a b : StM) : StM := fun l S => sr l (t l S) fun x S => if x = true then a l S else b l S
/-- targets: places of names; a tuple of them -/
inductive Tg where
  | nm (i : Nat)
  | tp (is : List Nat)
def setAll : List Nat → List G → Loc → Loc
  | i :: is, g :: gs, l => setAll is gs (l.set i (some g))
  | _, _, l => l
def tgSet (t : Tg) (g : G) (l : Loc) : Option Loc := match t with
  | .nm i => some (l.set i (some g))
  | .tp is => (match g with
    | .tup gs => if gs.length = is.length then some (setAll is gs l) else none
    | _ => none)
def sTg (t : Tg) (e : Ev) : StM := fun l S => sr l (e l S) fun g S => match tgSet t g l with
  | some l' => .nx l' S
  | none => .bad
/-- a, b = x, y -/
def sPar (i j : Nat) (a b : Ev) : StM := fun l S => sr l (a l S) fun x S => sr l (b l S) fun y S => .nx ((l.set i (some x)).set j (some y)) S
/-- the while's turns: at most so many -/
def wGo (t : Te) (b : StM) : Nat → StM
  | 0 => sBad
  | n + 1 => fun l S => sr l (t l S) fun x S => if x = true then (match b l S with
    | .nx l S => wGo t b n l S
    | .ct l S => wGo t b n l S
    | .bk l S => .nx l S
    | .rt g S => .rt g S
    | .exc c fs l S => .exc c fs l S
    | .bad => .bad) else .nx l S
/-- numbers that no check of types unfolds -/
noncomputable def big : Int := Classical.choose (⟨1000000, rfl⟩ : ∃ n : Int, n = 1000000)
theorem big_eq : big = 1000000 := Classical.choose_spec (⟨1000000, rfl⟩ : ∃ n : Int, n = 1000000)
noncomputable def b64 : Int := Classical.choose (⟨2 ^ 64, rfl⟩ : ∃ n : Int, n = 2 ^ 64)
theorem b64_eq : b64 = 2 ^ 64 := Classical.choose_spec (⟨2 ^ 64, rfl⟩ : ∃ n : Int, n = 2 ^ 64)
noncomputable def b30 : Int := Classical.choose (⟨1073741824, rfl⟩ : ∃ n : Int, n = 1073741824)
theorem b30_eq : b30 = 1073741824 := Classical.choose_spec (⟨1073741824, rfl⟩ : ∃ n : Int, n = 1073741824)
/-- the most turns: a number that no check of types unfolds -/
noncomputable def wMax : Nat := Classical.choose (⟨1000000, rfl⟩ : ∃ n : Nat, n = 1000000)
theorem wMax_eq : wMax = 1000000 := Classical.choose_spec (⟨1000000, rfl⟩ : ∃ n : Nat, n = 1000000)
noncomputable section
def sWhile (t : Te) (b : StM) : StM := wGo t b wMax
/-- what is walked: items that stand, or a list of the store -/
inductive It where
  | fix (l : List G)
  | dyn (n : Nat)
def fTurn (g : Tg) (b : StM) (x : G) (k : StM) : StM := fun l S => match tgSet g x l with
  | none => .bad
  | some l => (match b l S with
    | .nx l S => k l S
    | .ct l S => k l S
    | .bk l S => .nx l S
    | .rt v S => .rt v S
    | .exc c fs l S => .exc c fs l S
    | .bad => .bad)
def fGo (g : Tg) (b : StM) : List G → StM
  | [] => sNx
  | x :: xs => fTurn g b x (fGo g b xs)
def lstAt (S : Sto) (n : Nat) : Option (List G) := match S[n]? with
  | some (.lst _ l) => some l
  | _ => none
def fDyn (g : Tg) (b : StM) (n : Nat) : Nat → Nat → StM
  | 0, _ => sBad
  | m + 1, i => fun l S => match lstAt S n with
    | none => .bad
    | some xs => (match xs[i]? with
      | none => .nx l S
      | some x => fTurn g b x (fDyn g b n m (i + 1)) l S)
def sFor (it : Loc → Sto → R It) (g : Tg) (b : StM) : StM := fun l S => sr l (it l S) fun i S => match i with
  | .fix xs => fGo g b xs l S
  | .dyn n => fDyn g b n wMax 0 l S
/-! ### comprehensions: the own names' places are forgotten within -/
def wipeL (l : Loc) : List Nat → Loc
  | [] => l
  | v :: vs => (wipeL l vs).set v none
/-- within a comprehension nothing is raised -/
def rbN {a b : Type} (r : R a) (k : a → Sto → R b) : R b := match r with
  | .ok x S => k x S
  | _ => .bad
def lcGo (g : Tg) (t : Te) (e : Ev) (l : Loc) : List G → List G → Sto → R (List G)
  | [], acc, S => .ok acc S
  | x :: xs, acc, S => (match tgSet g x l with
    | none => .bad
    | some l' => rbN (t l' S) fun k S => if k = true then rbN (e l' S) fun y S => lcGo g t e l xs (acc ++ [y]) S else lcGo g t e l xs acc S)
def lcDyn (g : Tg) (t : Te) (e : Ev) (l : Loc) (n : Nat) : Nat → Nat → List G → Sto → R (List G)
  | 0, _, _, _ => .bad
  | m + 1, i, acc, S => (match lstAt S n with
    | none => .bad
    | some xs => (match xs[i]? with
      | none => .ok acc S
      | some x => (match tgSet g x l with
        | none => .bad
        | some l' => rbN (t l' S) fun k S => if k = true then rbN (e l' S) fun y S => if acc.length < sizeLine then lcDyn g t e l n m (i + 1) (acc ++ [y]) S else .bad else lcDyn g t e l n m (i + 1) acc S)))
def tYes : Te := fun _ S => .ok true S
/-- the items of a list comprehension -/
def lcV (it : Loc → Sto → R It) (own : List Nat) (g : Tg) (t : Te) (e : Ev) : Loc → Sto → R (List G) := fun l S => rb (it l S) fun i S => match i with
  | .fix xs => lcGo g t e (wipeL l own) xs [] S
  | .dyn n => lcDyn g t e (wipeL l own) n wMax 0 [] S
def eLc (it : Loc → Sto → R It) (own : List Nat) (g : Tg) (t : Te) (e : Ev) : Ev := fun l S => rb (lcV it own g t e l S) fun xs S => .ok (.tl xs) S
end
end GL

end

section
set_option Elab.async false
set_option linter.all false
set_option maxRecDepth 100000
set_option maxHeartbeats 4000000
/-! GL: how plain values and the store lie in the abstract heap. -/
namespace GL
open PySem PySem.Spec PyProof.Rows L2

/-- the object at a is o and stays so -/
def fixO (a : Addr) (o : Obj) : HO := .ext fun h => h.get? a = some o
/-- what the representation leans on: the written part, the module's names, the exception that is handled, what the function object of a lambda is -/
structure RP where
  K : PySem.W.Frag
  mg : Str → Option Value
  hp : Option (Addr × Obj)
  /-- the function object of the lambda: its closure, its defaults' tuple, its code object and name -/
  isClo : Nat → Obj → List (Str × Addr) → Option Addr → Addr → Str → Prop
  /-- addresses that no value names: the lists that comprehensions are making -/
  hid : List Addr
  /-- the store's addresses and the heap when the running frame began -/
  m0 : List Addr
  H0 : Hp
def Out (r : RP) (m : List Addr) (p : Addr) : Prop := p ∉ m ∧ p ∉ r.hid
def KTup (K : PySem.W.Frag) (p : Addr) (vs : List V) : Prop := ∃ (o : Obj) (its : Array Value) (n : Nat), K.lookup p = some o ∧ o.cls = .type "tuple" ∧ o.data = .seq its n ∧ its.size ≤ sizeLine ∧ Vals vs its.toList
def KLst (K : PySem.W.Frag) (a : Addr) (xs : List V) : Prop := ∃ (o : Obj) (its : Array Value) (n : Nat), K.lookup a = some o ∧ o.cls = .type "list" ∧ o.dict = none ∧ o.data = .seq its n ∧ its.size ≤ sizeLine ∧ Vals xs its.toList
def gK : L2.Key → G
  | .inl i => .int i
  | .inr s => .str s
mutual
inductive RepV (r : RP) (m : List Addr) (H : Hp) : G → V → Prop
  | non : RepV r m H .non .non
  | bl (b : Bool) : RepV r m H (.bl b) (.bl b)
  | int (i : Int) : RepV r m H (.int i) (.int i)
  | str (s : Str) : RepV r m H (.str s) (.str s)
  | ty (n : String) : RepV r m H (.ty n) (.ty n)
  | tup {p : Addr} {vs : List V} {l : List G} : (Out r m p ∧ H p = some (.tup vs)) ∨ KTup r.K p vs → vs.length ≤ sizeLine → RepVs r m H l vs → RepV r m H (.tup l) (.ref p)
  | fz {p : Addr} {vs : List V} {l : List G} : (Out r m p ∧ ∃ o, H p = some (.frz o (.lst vs))) ∨ KLst r.K p vs → vs.length ≤ sizeLine → RepVs r m H l vs → RepV r m H (.fz l) (.ref p)
  | tl {p : Addr} {vs : List V} {l : List G} : Out r m p → H p = some (.lst vs) → vs.length ≤ sizeLine → RepVs r m H l vs → RepV r m H (.tl l) (.ref p)
  | td {p : Addr} {kvs : List (L2.Key × V)} {l : List (G × G)} : Out r m p → H p = some (.dK kvs) → RepKs r m H l kvs → RepV r m H (.td l) (.ref p)
  | ref {n : Nat} {a : Addr} : m[n]? = some a → RepV r m H (.ref n) (.ref a)
  | gl {x : Str} {a : Addr} : r.mg x = some (.ref a) → RepV r m H (.gl x) (.ref a)
  | hx {p : Addr × Obj} {c : Str} {C : Addr} {fs : List (Str × G)} : r.hp = some p → p.2.cls = .ref C → r.mg c = some (.ref C) → RepX r m H fs p.2.dict → RepV r m H (.hx c fs) (.ref p.1)
  | clo {f c' : Addr} {o : Obj} {q : Str} {ln : Nat} : f ∉ r.hid → H f = some (fixO f o) → r.isClo ln o [] none c' q → c' ∉ r.hid → H c' = some (LamX.CodeO c' q) → RepV r m H (.clo ln 0 []) (.ref f)
  | cloS {f : Addr} {ln n : Nat} {cap : List G} : m[n]? = some f → RepV r m H (.clo ln (n + 1) cap) (.ref f)
inductive RepVs (r : RP) (m : List Addr) (H : Hp) : List G → List V → Prop
  | nil : RepVs r m H [] []
  | cons {g : G} {v : V} {gs : List G} {vs : List V} : RepV r m H g v → RepVs r m H gs vs → RepVs r m H (g :: gs) (v :: vs)
inductive RepFs (r : RP) (m : List Addr) (H : Hp) : List (Str × G) → List (Str × V) → Prop
  | nil : RepFs r m H [] []
  | cons {f : Str} {g : G} {v : V} {gs : List (Str × G)} {vs : List (Str × V)} : RepV r m H g v → RepFs r m H gs vs → RepFs r m H ((f, g) :: gs) ((f, v) :: vs)
inductive RepKs (r : RP) (m : List Addr) (H : Hp) : List (G × G) → List (L2.Key × V) → Prop
  | nil : RepKs r m H [] []
  | cons {k : L2.Key} {g : G} {v : V} {gs : List (G × G)} {vs : List (L2.Key × V)} : RepV r m H g v → RepKs r m H gs vs → RepKs r m H ((gK k, g) :: gs) ((k, v) :: vs)
inductive RepX (r : RP) (m : List Addr) (H : Hp) : List (Str × G) → Option Addr → Prop
  | none : RepX r m H [] none
  | some {d : Addr} {fs : List (Str × G)} {vs : List (Str × V)} : Out r m d → H d = some (.xd vs) → RepFs r m H fs vs → RepX r m H fs (some d)
end
/-- .. but for what is hidden -/
structure ExtB (hid : List Addr) (m : List Addr) (H : Hp) (m' : List Addr) (H' : Hp) : Prop where
  pre : ∃ r, m' = m ++ r ∧ ∀ a ∈ r, H a = none
  keep : ∀ a o, a ∉ m → a ∉ hid → (∀ ps, o ≠ .tbl ps) → H a = some o → H' a = some o
  grow : ∀ a, H' a = none → H a = none
  fx : ∀ a φ, H a = some (.ext φ) → H' a = some (.ext φ)
theorem ExtB.get {hid m m' : List Addr} {H H' : Hp} (e : ExtB hid m H m' H') {n : Nat} {a : Addr} (h : m[n]? = some a) : m'[n]? = some a := by
  obtain ⟨r, e1, _⟩ := e.pre
  rw [e1, List.getElem?_append_left (List.getElem?_eq_some_iff.mp h).1]
  exact h
theorem ExtB.out {r : RP} {hid m m' : List Addr} {H H' : Hp} (e : ExtB hid m H m' H') {a : Addr} {o : HO} (h : H a = some o) (n : Out r m a) : Out r m' a := by
  refine ⟨fun q => ?_, n.2⟩
  obtain ⟨r, e1, n1⟩ := e.pre
  rw [e1] at q
  rcases List.mem_append.mp q with q | q
  · exact n.1 q
  · rw [n1 a q] at h; cases h
/-- what stands later: the store's addresses grow by new ones; what is not the store's stays (but for code tables) -/
structure Ext (m : List Addr) (H : Hp) (m' : List Addr) (H' : Hp) : Prop where
  pre : ∃ r, m' = m ++ r ∧ ∀ a ∈ r, H a = none
  keep : ∀ a o, a ∉ m → (∀ ps, o ≠ .tbl ps) → H a = some o → H' a = some o
  grow : ∀ a, H' a = none → H a = none
  fx : ∀ a φ, H a = some (.ext φ) → H' a = some (.ext φ)
theorem Ext.refl (m : List Addr) (H : Hp) : Ext m H m H := ⟨⟨[], by simp, by simp⟩, fun _ _ _ _ h => h, fun _ h => h, fun _ _ h => h⟩
theorem Ext.trans {m m1 m2 : List Addr} {H H1 H2 : Hp} (a : Ext m H m1 H1) (b : Ext m1 H1 m2 H2) : Ext m H m2 H2 := by
  obtain ⟨r1, e1, n1⟩ := a.pre
  obtain ⟨r2, e2, n2⟩ := b.pre
  refine ⟨⟨r1 ++ r2, by rw [e2, e1, List.append_assoc], fun x hx => ?_⟩, fun x o hx hn h => ?_, fun x h => a.grow x (b.grow x h), fun x o h => b.fx x o (a.fx x o h)⟩
  · rcases List.mem_append.mp hx with q | q
    · exact n1 x q
    · exact a.grow x (n2 x q)
  · refine b.keep x o ?_ hn (a.keep x o hx hn h)
    rw [e1]
    intro q
    rcases List.mem_append.mp q with q | q
    · exact hx q
    · rw [n1 x q] at h; cases h
theorem Ext.get {m m' : List Addr} {H H' : Hp} (e : Ext m H m' H') {n : Nat} {a : Addr} (h : m[n]? = some a) : m'[n]? = some a := by
  obtain ⟨r, e1, _⟩ := e.pre
  rw [e1, List.getElem?_append_left (List.getElem?_eq_some_iff.mp h).1]
  exact h
theorem Ext.notIn {m m' : List Addr} {H H' : Hp} (e : Ext m H m' H') {a : Addr} {o : HO} (h : H a = some o) (n : a ∉ m) : a ∉ m' := by
  obtain ⟨r, e1, n1⟩ := e.pre
  rw [e1]
  intro q
  rcases List.mem_append.mp q with q | q
  · exact n q
  · rw [n1 a q] at h; cases h
theorem Ext.out {r : RP} {m m' : List Addr} {H H' : Hp} (e : Ext m H m' H') {a : Addr} {o : HO} (h : H a = some o) (n : Out r m a) : Out r m' a := ⟨e.notIn h n.1, n.2⟩
theorem Ext.toB {hid m m' : List Addr} {H H' : Hp} (e : Ext m H m' H') : ExtB hid m H m' H' := ⟨e.pre, fun a o n _ => e.keep a o n, e.grow, e.fx⟩
theorem Ext.transB {hid m m1 m2 : List Addr} {H H1 H2 : Hp} (a : Ext m H m1 H1) (b : ExtB hid m1 H1 m2 H2) : ExtB hid m H m2 H2 := by
  obtain ⟨r1, e1, n1⟩ := a.pre
  obtain ⟨r2, e2, n2⟩ := b.pre
  refine ⟨⟨r1 ++ r2, by rw [e2, e1, List.append_assoc], fun x hx => ?_⟩, fun x o hx hh hn h => ?_, fun x h => a.grow x (b.grow x h), fun x o h => b.fx x o (a.fx x o h)⟩
  · rcases List.mem_append.mp hx with q | q
    · exact n1 x q
    · exact a.grow x (n2 x q)
  · refine b.keep x o ?_ hh hn (a.keep x o hx hn h)
    rw [e1]
    intro q
    rcases List.mem_append.mp q with q | q
    · exact hx q
    · rw [n1 x q] at h; cases h
theorem ExtB.transB {hid m m1 m2 : List Addr} {H H1 H2 : Hp} (a : ExtB hid m H m1 H1) (b : ExtB hid m1 H1 m2 H2) : ExtB hid m H m2 H2 := by
  obtain ⟨r1, e1, n1⟩ := a.pre
  obtain ⟨r2, e2, n2⟩ := b.pre
  refine ⟨⟨r1 ++ r2, by rw [e2, e1, List.append_assoc], fun x hx => ?_⟩, fun x o hx hh hn h => ?_, fun x h => a.grow x (b.grow x h), fun x o h => b.fx x o (a.fx x o h)⟩
  · rcases List.mem_append.mp hx with q | q
    · exact n1 x q
    · exact a.grow x (n2 x q)
  · refine b.keep x o ?_ hh hn (a.keep x o hx hh hn h)
    rw [e1]
    intro q
    rcases List.mem_append.mp q with q | q
    · exact hx q
    · rw [n1 x q] at h; cases h
theorem ExtB.behind {hid m m' : List Addr} {H H' : Hp} {D : Addr} {o : HO} (e : ExtB hid m H m' H') (hD : D ∈ hid) (hn : ∃ xs, H D = some (.lst xs)) : ExtB hid m H m' (upd H' D o) := by
  refine ⟨e.pre, fun a v h1 h2 h3 h4 => ?_, fun a h => ?_, fun a v h => ?_⟩
  · rw [upd_ne (fun z => h2 (by rw [z]; exact hD))]; exact e.keep a v h1 h2 h3 h4
  · by_cases c : a = D
    · subst c
      rw [upd_same] at h; cases h
    · rw [upd_ne c] at h; exact e.grow a h
  · by_cases c : a = D
    · subst c
      obtain ⟨xs, hx⟩ := hn
      rw [hx] at h
      cases h
    · rw [upd_ne c]; exact e.fx a v h
theorem fix_ne {a : Addr} {o : Obj} (ps : Array Value) : fixO a o ≠ .tbl ps := fun z => by unfold fixO at z; cases z
section
variable {r : RP} {m m' : List Addr} {H H' : Hp}
mutual
theorem RepV.ext (e : Ext m H m' H') : ∀ {g : G} {v : V}, RepV r m H g v → RepV r m' H' g v
  | _, _, .non => .non
  | _, _, .bl b => .bl b
  | _, _, .int i => .int i
  | _, _, .str s => .str s
  | _, _, .ty n => .ty n
  | _, _, .tup h z t => .tup (h.imp (fun q => ⟨e.out q.2 q.1, e.keep _ _ q.1.1 (fun _ z => by cases z) q.2⟩) id) z (RepVs.ext e t)
  | _, _, .fz h z t => .fz (h.imp (fun ⟨q1, o, q2⟩ => ⟨e.out q2 q1, o, e.keep _ _ q1.1 (fun _ z => by cases z) q2⟩) id) z (RepVs.ext e t)
  | _, _, .tl n h z t => .tl (e.out h n) (e.keep _ _ n.1 (fun _ z => by cases z) h) z (RepVs.ext e t)
  | _, _, .td n h t => .td (e.out h n) (e.keep _ _ n.1 (fun _ z => by cases z) h) (RepKs.ext e t)
  | _, _, .ref h => .ref (e.get h)
  | _, _, .gl h => .gl h
  | _, _, .hx a b c x => .hx a b c (RepX.ext e x)
  | _, _, .clo n1 h1 k n2 h2 => .clo n1 (e.fx _ _ h1) k n2 (e.fx _ _ h2)
  | _, _, .cloS h => .cloS (e.get h)
theorem RepVs.ext (e : Ext m H m' H') : ∀ {g : List G} {v : List V}, RepVs r m H g v → RepVs r m' H' g v
  | _, _, .nil => .nil
  | _, _, .cons a b => .cons (RepV.ext e a) (RepVs.ext e b)
theorem RepFs.ext (e : Ext m H m' H') : ∀ {g : List (Str × G)} {v : List (Str × V)}, RepFs r m H g v → RepFs r m' H' g v
  | _, _, .nil => .nil
  | _, _, .cons a b => .cons (RepV.ext e a) (RepFs.ext e b)
theorem RepKs.ext (e : Ext m H m' H') : ∀ {g : List (G × G)} {v : List (L2.Key × V)}, RepKs r m H g v → RepKs r m' H' g v
  | _, _, .nil => .nil
  | _, _, .cons a b => .cons (RepV.ext e a) (RepKs.ext e b)
theorem RepX.ext (e : Ext m H m' H') : ∀ {g : List (Str × G)} {d : Option Addr}, RepX r m H g d → RepX r m' H' g d
  | _, _, .none => .none
  | _, _, .some n h t => .some (e.out h n) (e.keep _ _ n.1 (fun _ z => by cases z) h) (RepFs.ext e t)
end
variable {hid : List Addr}
mutual
theorem RepV.extB (e : ExtB hid m H m' H') (hs : ∀ a ∈ hid, a ∈ r.hid) : ∀ {g : G} {v : V}, RepV r m H g v → RepV r m' H' g v
  | _, _, .non => .non
  | _, _, .bl b => .bl b
  | _, _, .int i => .int i
  | _, _, .str s => .str s
  | _, _, .ty n => .ty n
  | _, _, .tup h z t => .tup (h.imp (fun q => ⟨e.out q.2 q.1, e.keep _ _ q.1.1 (fun z => q.1.2 (hs _ z)) (fun _ z => by cases z) q.2⟩) id) z (RepVs.extB e hs t)
  | _, _, .fz h z t => .fz (h.imp (fun ⟨q1, o, q2⟩ => ⟨e.out q2 q1, o, e.keep _ _ q1.1 (fun z => q1.2 (hs _ z)) (fun _ z => by cases z) q2⟩) id) z (RepVs.extB e hs t)
  | _, _, .tl n h z t => .tl (e.out h n) (e.keep _ _ n.1 (fun z => n.2 (hs _ z)) (fun _ z => by cases z) h) z (RepVs.extB e hs t)
  | _, _, .td n h t => .td (e.out h n) (e.keep _ _ n.1 (fun z => n.2 (hs _ z)) (fun _ z => by cases z) h) (RepKs.extB e hs t)
  | _, _, .ref h => .ref (e.get h)
  | _, _, .gl h => .gl h
  | _, _, .hx a b c x => .hx a b c (RepX.extB e hs x)
  | _, _, .clo n1 h1 k n2 h2 => .clo n1 (e.fx _ _ h1) k n2 (e.fx _ _ h2)
  | _, _, .cloS h => .cloS (e.get h)
theorem RepVs.extB (e : ExtB hid m H m' H') (hs : ∀ a ∈ hid, a ∈ r.hid) : ∀ {g : List G} {v : List V}, RepVs r m H g v → RepVs r m' H' g v
  | _, _, .nil => .nil
  | _, _, .cons a b => .cons (RepV.extB e hs a) (RepVs.extB e hs b)
theorem RepFs.extB (e : ExtB hid m H m' H') (hs : ∀ a ∈ hid, a ∈ r.hid) : ∀ {g : List (Str × G)} {v : List (Str × V)}, RepFs r m H g v → RepFs r m' H' g v
  | _, _, .nil => .nil
  | _, _, .cons a b => .cons (RepV.extB e hs a) (RepFs.extB e hs b)
theorem RepKs.extB (e : ExtB hid m H m' H') (hs : ∀ a ∈ hid, a ∈ r.hid) : ∀ {g : List (G × G)} {v : List (L2.Key × V)}, RepKs r m H g v → RepKs r m' H' g v
  | _, _, .nil => .nil
  | _, _, .cons a b => .cons (RepV.extB e hs a) (RepKs.extB e hs b)
theorem RepX.extB (e : ExtB hid m H m' H') (hs : ∀ a ∈ hid, a ∈ r.hid) : ∀ {g : List (Str × G)} {d : Option Addr}, RepX r m H g d → RepX r m' H' g d
  | _, _, .none => .none
  | _, _, .some n h t => .some (e.out h n) (e.keep _ _ n.1 (fun z => n.2 (hs _ z)) (fun _ z => by cases z) h) (RepFs.extB e hs t)
end
theorem RepVs.length : ∀ {gs : List G} {vs : List V}, RepVs r m H gs vs → gs.length = vs.length
  | _, _, .nil => rfl
  | _, _, .cons _ t => by simp [RepVs.length t]
theorem RepVs.get : ∀ {gs : List G} {vs : List V} {i : Nat} {g : G}, RepVs r m H gs vs → gs[i]? = some g → ∃ v, vs[i]? = some v ∧ RepV r m H g v
  | _, _, _, _, .nil, e => by simp at e
  | _, _, 0, _, .cons a _, e => by simp at e; subst e; exact ⟨_, rfl, a⟩
  | _, _, i + 1, g, .cons _ t, e => by
    obtain ⟨v, h1, h2⟩ := RepVs.get (i := i) (g := g) t (by simpa using e)
    exact ⟨v, by simpa using h1, h2⟩
theorem RepVs.getV : ∀ {gs : List G} {vs : List V} {i : Nat} {v : V}, RepVs r m H gs vs → vs[i]? = some v → ∃ g, gs[i]? = some g ∧ RepV r m H g v
  | _, _, _, _, .nil, e => by simp at e
  | _, _, 0, _, .cons a _, e => by simp at e; subst e; exact ⟨_, rfl, a⟩
  | _, _, i + 1, g, .cons _ t, e => by
    obtain ⟨v, h1, h2⟩ := RepVs.getV (i := i) (v := g) t (by simpa using e)
    exact ⟨v, by simpa using h1, h2⟩
theorem RepVs.append : ∀ {gs gs' : List G} {vs vs' : List V}, RepVs r m H gs vs → RepVs r m H gs' vs' → RepVs r m H (gs ++ gs') (vs ++ vs')
  | _, _, _, _, .nil, t => t
  | _, _, _, _, .cons a b, t => .cons a (RepVs.append b t)
theorem RepVs.take : ∀ {gs : List G} {vs : List V} (n : Nat), RepVs r m H gs vs → RepVs r m H (gs.take n) (vs.take n)
  | _, _, 0, _ => .nil
  | _, _, _ + 1, .nil => .nil
  | _, _, n + 1, .cons a b => .cons a (RepVs.take n b)
theorem RepVs.drop : ∀ {gs : List G} {vs : List V} (n : Nat), RepVs r m H gs vs → RepVs r m H (gs.drop n) (vs.drop n)
  | _, _, 0, t => t
  | _, _, _ + 1, .nil => .nil
  | _, _, n + 1, .cons a b => RepVs.drop n b
theorem RepVs.set {g : G} {v : V} (a : RepV r m H g v) : ∀ {gs : List G} {vs : List V} (n : Nat), RepVs r m H gs vs → RepVs r m H (gs.set n g) (vs.set n v)
  | _, _, _, .nil => .nil
  | _, _, 0, .cons _ t => .cons a t
  | _, _, n + 1, .cons q t => .cons q (RepVs.set a n t)
theorem RepVs.reverse {gs : List G} {vs : List V} (t : RepVs r m H gs vs) : RepVs r m H gs.reverse vs.reverse := by
  induction gs generalizing vs with
  | nil => cases t; exact .nil
  | cons g gs ih =>
    cases t with
    | cons a b =>
      rw [List.reverse_cons, List.reverse_cons]
      exact (ih b).append (.cons a .nil)
theorem RepFs.lookup : ∀ {fs : List (Str × G)} {vs : List (Str × V)} {f : Str} {g : G}, RepFs r m H fs vs → fs.lookup f = some g → ∃ v, vs.lookup f = some v ∧ RepV r m H g v
  | _, _, _, _, .nil, e => by simp at e
  | _, _, f, g, .cons (f := f') a t, e => by
    rw [List.lookup_cons] at e
    rw [List.lookup_cons]
    cases q : (f == f') with
    | true => rw [q] at e; cases e; exact ⟨_, rfl, a⟩
    | false => rw [q] at e; exact RepFs.lookup t e
theorem RepFs.lookupN : ∀ {fs : List (Str × G)} {vs : List (Str × V)} {f : Str}, RepFs r m H fs vs → fs.lookup f = none → vs.lookup f = none
  | _, _, _, .nil, e => rfl
  | _, _, f, .cons (f := f') a t, e => by
    rw [List.lookup_cons] at e
    rw [List.lookup_cons]
    cases q : (f == f') with
    | true => rw [q] at e; cases e
    | false => rw [q] at e; exact RepFs.lookupN t e
theorem RepFs.length : ∀ {fs : List (Str × G)} {vs : List (Str × V)}, RepFs r m H fs vs → fs.length = vs.length
  | _, _, .nil => rfl
  | _, _, .cons _ t => by simp [RepFs.length t]
def putG (f : Str) (g : G) : List (Str × G) → List (Str × G)
  | [] => [(f, g)]
  | (k, x) :: r => if k = f then (k, g) :: r else (k, x) :: putG f g r
end
theorem RepKs.imp {r r' : RP} {m m' : List Addr} {H H' : Hp} (i : ∀ {g : G} {v : V}, RepV r m H g v → RepV r' m' H' g v) : ∀ {gs : List (G × G)} {vs : List (L2.Key × V)}, RepKs r m H gs vs → RepKs r' m' H' gs vs
  | _, _, .nil => .nil
  | _, _, .cons a b => .cons (i a) (RepKs.imp i b)
/-- an object of the store at its address -/
def RepO (r : RP) (m : List Addr) (H : Hp) (a : Addr) : GO → Prop
  | .lst true l => ∃ vs, H a = some (.lst vs) ∧ vs.length ≤ sizeLine ∧ RepVs r m H l vs
  | .lst false l => ∃ vs, Rd H a (.lst vs) ∧ vs.length ≤ sizeLine ∧ RepVs r m H l vs
  | .ins c fs => ∃ C dx vs, r.mg c = some (.ref C) ∧ H a = some (.ins C dx vs) ∧ RepFs r m H fs vs
  | .dic z l => ∃ kvs : List (L2.Key × V), (if z = true then ∃ o, H a = some (.frz o (.dK kvs)) else H a = some (.dK kvs)) ∧ RepKs r m H l kvs
  | .dead => ∃ o, H a = some (fixO a o)
structure Rep (r : RP) (T : List (Addr × Str)) (m : List Addr) (S : Sto) (H : Hp) : Prop where
  len : m.length = S.length
  nd : m.Nodup
  obj : ∀ (n : Nat) (a : Addr) (o : GO), m[n]? = some a → S[n]? = some o → RepO r m H a o
  tabs : LamX.Tabs T H
  hid : ∀ a ∈ r.hid, a ∉ m ∧ ∃ xs, H a = some (.lst xs)
  ent : Ext r.m0 r.H0 m H
/-- the frame's slots -/
structure RepL (r : RP) (m : List Addr) (H : Hp) (l : Loc) (s : L2.St) : Prop where
  len : l.length = s.length
  get : ∀ (i : Nat) (g : G), l[i]? = some (some g) → ∃ v, s[i]? = some (some v) ∧ RepV r m H g v
theorem RepL.ext {r : RP} {m m' : List Addr} {H H' : Hp} {l : Loc} {s : L2.St} (e : Ext m H m' H') (h : RepL r m H l s) : RepL r m' H' l s :=
  ⟨h.len, fun i g q => let ⟨v, a, b⟩ := h.get i g q; ⟨v, a, b.ext e⟩⟩
theorem RepL.set {r : RP} {m : List Addr} {H : Hp} {l : Loc} {s : L2.St} {g : G} {v : V} (h : RepL r m H l s) (i : Nat) (a : RepV r m H g v) : RepL r m H (l.set i (some g)) (s.set i (some v)) := by
  refine ⟨by simp [h.len], fun j g' q => ?_⟩
  by_cases e : i = j
  · subst e
    have hi : i < l.length := by
      by_cases hi : i < l.length
      · exact hi
      · rw [List.getElem?_eq_none (by simp; omega)] at q; cases q
    rw [List.getElem?_set_self hi] at q
    cases q
    exact ⟨v, by rw [List.getElem?_set_self (by rw [← h.len]; exact hi)], a⟩
  · rw [List.getElem?_set_ne e] at q
    obtain ⟨v', a', b'⟩ := h.get j g' q
    exact ⟨v', by rw [List.getElem?_set_ne e]; exact a', b'⟩
theorem RepL.wipe {r : RP} {m : List Addr} {H : Hp} {l : Loc} {s : L2.St} (h : RepL r m H l s) : ∀ vs : List Nat, RepL r m H (wipeL l vs) (L2.wipe s vs)
  | [] => h
  | v :: vs => by
    have ih := RepL.wipe h vs
    refine ⟨by simp [wipeL, L2.wipe, ih.len], fun j g q => ?_⟩
    unfold wipeL at q
    unfold L2.wipe
    by_cases e : v = j
    · subst e
      by_cases hv : v < (wipeL l vs).length
      · rw [List.getElem?_set_self hv] at q; cases q
      · rw [List.getElem?_eq_none (by simpa using hv)] at q; cases q
    · rw [List.getElem?_set_ne e] at q
      obtain ⟨v', a', b'⟩ := ih.get j g q
      exact ⟨v', by rw [List.getElem?_set_ne e]; exact a', b'⟩
section
variable {r : RP} {T : List (Addr × Str)} {m m' : List Addr} {S : Sto} {H H' : Hp} {a p : Addr} {o : GO}
theorem RepO.tracked (h : RepO r m H a o) : ∃ u, H a = some u := by
  cases o with
  | lst w l =>
    cases w with
    | true => obtain ⟨vs, h, _⟩ := h; exact ⟨_, h⟩
    | false =>
      obtain ⟨vs, h, _⟩ := h
      rcases h with h | ⟨_, h⟩
      · exact ⟨_, h⟩
      · exact ⟨_, h⟩
  | ins c fs => obtain ⟨_, _, _, _, h, _⟩ := h; exact ⟨_, h⟩
  | dic z l =>
    obtain ⟨kvs, h, _⟩ := h
    cases z with
    | true => obtain ⟨o, h⟩ := h; exact ⟨_, h⟩
    | false => exact ⟨_, h⟩
  | dead => obtain ⟨o, h⟩ := h; exact ⟨_, h⟩
theorem RepO.ext (e : Ext m H m' H') (k : H' a = H a) (h : RepO r m H a o) : RepO r m' H' a o := by
  cases o with
  | lst w l =>
    cases w with
    | true => obtain ⟨vs, h1, z, t⟩ := h; exact ⟨vs, k.trans h1, z, t.ext e⟩
    | false =>
      obtain ⟨vs, h1, z, t⟩ := h
      refine ⟨vs, ?_, z, t.ext e⟩
      rcases h1 with h1 | ⟨ob, h1⟩
      · exact .inl (k.trans h1)
      · exact .inr ⟨ob, k.trans h1⟩
  | ins c fs => obtain ⟨C, dx, vs, g, h1, t⟩ := h; exact ⟨C, dx, vs, g, k.trans h1, t.ext e⟩
  | dic z l =>
    obtain ⟨kvs, h, t⟩ := h
    refine ⟨kvs, ?_, t.imp (RepV.ext e)⟩
    cases z with
    | true => obtain ⟨o, h⟩ := h; exact ⟨o, k.trans h⟩
    | false => exact k.trans h
  | dead => obtain ⟨o, h⟩ := h; exact ⟨o, k.trans h⟩
theorem Rep.at (hR : Rep r T m S H) {n : Nat} (h : m[n]? = some a) : ∃ o, S[n]? = some o ∧ RepO r m H a o := by
  have hn : n < S.length := by rw [← hR.len]; exact (List.getElem?_eq_some_iff.mp h).1
  exact ⟨S[n], by simp [hn], hR.obj n a _ h (by simp [hn])⟩
theorem Rep.mem (hR : Rep r T m S H) (h : a ∈ m) : ∃ u, H a = some u := by
  obtain ⟨n, hn⟩ := List.getElem?_of_mem h
  obtain ⟨o, _, q⟩ := hR.at hn
  exact q.tracked
theorem Ext.new (hp : H p = none) (o : HO) : Ext m H m (upd H p o) := by
  refine ⟨⟨[], by simp, by simp⟩, fun b u _ _ h => ?_, fun b h => ?_, fun b u h => ?_⟩
  · rw [upd_ne (ne_of_none h hp)]; exact h
  · by_cases e : b = p
    · rw [e]; exact hp
    · rw [upd_ne e] at h; exact h
  · rw [upd_ne (ne_of_none h hp)]; exact h
/-- a new object that is not the store's -/
theorem Rep.fresh (hR : Rep r T m S H) (hp : H p = none) (o : HO) : Rep r T m S (upd H p o) := by
  refine ⟨hR.len, hR.nd, fun n b ob h1 h2 => ?_, hR.tabs.ext fun b u h => ?_, fun b hb => ?_, hR.ent.trans (Ext.new hp o)⟩
  · have q := hR.obj n b ob h1 h2
    obtain ⟨u, hu⟩ := q.tracked
    exact q.ext (Ext.new hp o) (upd_ne (ne_of_none hu hp))
  · rw [upd_ne (ne_of_none h hp)]; exact h
  · obtain ⟨x1, xs, x2⟩ := hR.hid b hb
    exact ⟨x1, xs, by rw [upd_ne (ne_of_none x2 hp)]; exact x2⟩
theorem tabs_upd {u o : HO} (t : LamX.Tabs T H) (h : H a = some u) (n1 : ∀ ps, u ≠ .tbl ps) (n2 : ∀ c q, u ≠ LamX.CodeO c q) : LamX.Tabs T (upd H a o) := fun x hx => by
  obtain ⟨ps, e1, e2, e3⟩ := t x hx
  refine ⟨ps, ?_, e2, fun pos cv hc => ?_⟩
  · rw [upd_ne (fun z => by rw [z, h] at e1; exact n1 ps (Option.some.inj e1))]; exact e1
  · obtain ⟨c, f1, f2⟩ := e3 pos cv hc
    refine ⟨c, f1, ?_⟩
    rw [upd_ne (fun z => by subst z; rw [h] at f2; exact n2 _ _ (Option.some.inj f2))]; exact f2
theorem Ext.write {u o : HO} (hm : a ∈ m) (h : H a = some u) (nx : ∀ φ, u ≠ .ext φ) : Ext m H m (upd H a o) := by
  refine ⟨⟨[], by simp, by simp⟩, fun b v hb _ q => ?_, fun b q => ?_, fun b v q => ?_⟩
  · rw [upd_ne (fun z => hb (by rw [z]; exact hm))]; exact q
  · by_cases e : b = a
    · rw [e, upd_same] at q; cases q
    · rw [upd_ne e] at q; exact q
  · by_cases e : b = a
    · rw [e, h] at q; exact (nx _ (Option.some.inj q)).elim
    · rw [upd_ne e]; exact q
/-- an object of the store is changed -/
theorem Rep.write {u o : HO} {n : Nat} {go : GO} (hR : Rep r T m S H) (hn : m[n]? = some a) (h : H a = some u) (n1 : ∀ ps, u ≠ .tbl ps) (nx : ∀ φ, u ≠ .ext φ)
    (new : RepO r m (upd H a o) a go) : Rep r T m (S.set n go) (upd H a o) := by
  have hm : a ∈ m := List.mem_of_getElem? hn
  refine ⟨by rw [List.length_set]; exact hR.len, hR.nd, fun i b ob h1 h2 => ?_, tabs_upd hR.tabs h n1 (fun c q z => by unfold LamX.CodeO at z; exact nx _ z), fun b hb => by
    obtain ⟨x1, xs, x2⟩ := hR.hid b hb
    exact ⟨x1, xs, by rw [upd_ne (fun z => x1 (by rw [z]; exact hm))]; exact x2⟩, hR.ent.trans (Ext.write hm h nx)⟩
  by_cases e : i = n
  · subst e
    rw [hn] at h1; cases h1
    have hi : i < S.length := by rw [← hR.len]; exact (List.getElem?_eq_some_iff.mp hn).1
    rw [List.getElem?_set_self hi] at h2; cases h2
    exact new
  · rw [List.getElem?_set_ne (Ne.symm e)] at h2
    have hb : b ≠ a := fun z => e (by
      subst z
      obtain ⟨h3, e3⟩ := List.getElem?_eq_some_iff.mp h1
      obtain ⟨h4, e4⟩ := List.getElem?_eq_some_iff.mp hn
      exact (List.getElem_inj hR.nd).mp (e3.trans e4.symm))
    exact (hR.obj i b ob h1 h2).ext (Ext.write hm h nx) (upd_ne hb)
theorem Ext.alloc (hp : H p = none) (o : HO) : Ext m H (m ++ [p]) (upd H p o) := by
  refine ⟨⟨[p], rfl, by simpa using hp⟩, fun b u _ _ h => ?_, fun b h => ?_, fun b u h => ?_⟩
  · rw [upd_ne (ne_of_none h hp)]; exact h
  · by_cases e : b = p
    · rw [e]; exact hp
    · rw [upd_ne e] at h; exact h
  · rw [upd_ne (ne_of_none h hp)]; exact h
theorem Rep.notIn (hR : Rep r T m S H) (hp : H p = none) : Out r m p := ⟨fun z => (by obtain ⟨u, hu⟩ := hR.mem z; rw [hp] at hu; cases hu), fun z => (by obtain ⟨_, xs, hu⟩ := hR.hid p z; rw [hp] at hu; cases hu)⟩
theorem Rep.newTup {l : List G} {vs : List V} (hR : Rep r T m S H) (hp : H p = none) (z : vs.length ≤ sizeLine) (t : RepVs r m H l vs) : RepV r m (upd H p (.tup vs)) (.tup l) (.ref p) :=
  .tup (.inl ⟨hR.notIn hp, upd_same⟩) z (t.ext (Ext.new hp _))
theorem Rep.newTl {l : List G} {vs : List V} (hR : Rep r T m S H) (hp : H p = none) (z : vs.length ≤ sizeLine) (t : RepVs r m H l vs) : RepV r m (upd H p (.lst vs)) (.tl l) (.ref p) :=
  .tl (hR.notIn hp) upd_same z (t.ext (Ext.new hp _))
/-- a new object of the store -/
theorem Rep.alloc {ho : HO} {go : GO} (hR : Rep r T m S H) (hp : H p = none) (new : RepO r (m ++ [p]) (upd H p ho) p go) : Rep r T (m ++ [p]) (S ++ [go]) (upd H p ho) := by
  have npm : p ∉ m := (hR.notIn hp).1
  refine ⟨by simp [hR.len], ?_, fun i b ob h1 h2 => ?_, hR.tabs.ext fun b u h => ?_, fun b hb => by
    obtain ⟨x1, xs, x2⟩ := hR.hid b hb
    have nb := ne_of_none x2 hp
    exact ⟨by simp [x1, nb], xs, by rw [upd_ne nb]; exact x2⟩, hR.ent.trans (Ext.alloc hp ho)⟩
  · rw [List.nodup_append]
    exact ⟨hR.nd, by simp, fun x hx y hy => by simp at hy; subst hy; exact fun z => npm (by rw [← z]; exact hx)⟩
  · by_cases hi : i < m.length
    · rw [List.getElem?_append_left hi] at h1
      rw [List.getElem?_append_left (by rw [← hR.len]; exact hi)] at h2
      have q := hR.obj i b ob h1 h2
      obtain ⟨u, hu⟩ := q.tracked
      exact q.ext (Ext.alloc hp ho) (upd_ne (ne_of_none hu hp))
    · rw [List.getElem?_append_right (Nat.le_of_not_lt hi)] at h1
      rw [List.getElem?_append_right (by rw [← hR.len]; exact Nat.le_of_not_lt hi)] at h2
      have e0 : i - m.length = 0 := by
        have := (List.getElem?_eq_some_iff.mp h1).1
        simp at this; omega
      rw [e0] at h1
      rw [← hR.len, e0] at h2
      simp at h1 h2
      subst h1 h2
      exact new
  · rw [upd_ne (ne_of_none h hp)]; exact h
end
/-! ### a list that is being made is hidden -/
def RP.hides (r : RP) (hs : List Addr) : RP := { r with hid := hs ++ r.hid }
abbrev RP.hide (r : RP) (D : Addr) : RP := r.hides [D]
section
variable {r : RP} {m : List Addr} {H : Hp} {D : Addr} {o : HO} {hs : List Addr}
theorem no_hide {p : Addr} {u : HO} (hD : ∀ a ∈ hs, H a = none) (h : H p = some u) (n : p ∉ r.hid) : p ∉ (r.hides hs).hid := fun z => (List.mem_append.mp z).elim (fun z => by rw [hD p z] at h; cases h) n
theorem out_hide {p : Addr} {u : HO} (hD : ∀ a ∈ hs, H a = none) (h : H p = some u) (n : Out r m p) : Out (r.hides hs) m p :=
  ⟨n.1, fun z => (List.mem_append.mp z).elim (fun z => by rw [hD p z] at h; cases h) n.2⟩
mutual
theorem RepV.hides (hD : ∀ a ∈ hs, H a = none) : ∀ {g : G} {v : V}, RepV r m H g v → RepV (r.hides hs) m H g v
  | _, _, .non => .non
  | _, _, .bl b => .bl b
  | _, _, .int i => .int i
  | _, _, .str s => .str s
  | _, _, .ty n => .ty n
  | _, _, .tup h z t => .tup (h.imp (fun q => ⟨out_hide hD q.2 q.1, q.2⟩) id) z (RepVs.hides hD t)
  | _, _, .fz h z t => .fz (h.imp (fun ⟨q1, o, q2⟩ => ⟨out_hide hD q2 q1, o, q2⟩) id) z (RepVs.hides hD t)
  | _, _, .tl n h z t => .tl (out_hide hD h n) h z (RepVs.hides hD t)
  | _, _, .td n h t => .td (out_hide hD h n) h (RepKs.hides hD t)
  | _, _, .ref h => .ref h
  | _, _, .gl h => .gl h
  | _, _, .hx a b c x => .hx a b c (RepX.hides hD x)
  | _, _, .clo n1 h1 k n2 h2 => .clo (no_hide hD h1 n1) h1 k (no_hide hD h2 n2) h2
  | _, _, .cloS h => .cloS h
theorem RepVs.hides (hD : ∀ a ∈ hs, H a = none) : ∀ {g : List G} {v : List V}, RepVs r m H g v → RepVs (r.hides hs) m H g v
  | _, _, .nil => .nil
  | _, _, .cons a b => .cons (RepV.hides hD a) (RepVs.hides hD b)
theorem RepFs.hides (hD : ∀ a ∈ hs, H a = none) : ∀ {g : List (Str × G)} {v : List (Str × V)}, RepFs r m H g v → RepFs (r.hides hs) m H g v
  | _, _, .nil => .nil
  | _, _, .cons a b => .cons (RepV.hides hD a) (RepFs.hides hD b)
theorem RepKs.hides (hD : ∀ a ∈ hs, H a = none) : ∀ {g : List (G × G)} {v : List (L2.Key × V)}, RepKs r m H g v → RepKs (r.hides hs) m H g v
  | _, _, .nil => .nil
  | _, _, .cons a b => .cons (RepV.hides hD a) (RepKs.hides hD b)
theorem RepX.hides (hD : ∀ a ∈ hs, H a = none) : ∀ {g : List (Str × G)} {d : Option Addr}, RepX r m H g d → RepX (r.hides hs) m H g d
  | _, _, .none => .none
  | _, _, .some n h t => .some (out_hide hD h n) h (RepFs.hides hD t)
end
theorem one_none (hD : H D = none) : ∀ a ∈ [D], H a = none := fun a h => by simp at h; rw [h]; exact hD
theorem RepV.hide (hD : H D = none) {g : G} {v : V} (h : RepV r m H g v) : RepV (r.hide D) m (upd H D o) g v := (h.hides (one_none hD)).ext (Ext.new hD o)
theorem RepVs.hide (hD : H D = none) {g : List G} {v : List V} (h : RepVs r m H g v) : RepVs (r.hide D) m (upd H D o) g v := (h.hides (one_none hD)).ext (Ext.new hD o)
theorem RepFs.hide (hD : H D = none) {g : List (Str × G)} {v : List (Str × V)} (h : RepFs r m H g v) : RepFs (r.hide D) m (upd H D o) g v := (h.hides (one_none hD)).ext (Ext.new hD o)
theorem no_un {p : Addr} (n : p ∉ (r.hide D).hid) : p ∉ r.hid := fun z => n (List.mem_append_right _ z)
theorem out_un {p : Addr} (n : Out (r.hide D) m p) : Out r m p := ⟨n.1, fun z => n.2 (List.mem_append_right _ z)⟩
mutual
theorem RepV.unhide : ∀ {g : G} {v : V}, RepV (r.hide D) m H g v → RepV r m H g v
  | _, _, .non => .non
  | _, _, .bl b => .bl b
  | _, _, .int i => .int i
  | _, _, .str s => .str s
  | _, _, .ty n => .ty n
  | _, _, .tup h z t => .tup (h.imp (fun q => ⟨out_un q.1, q.2⟩) id) z (RepVs.unhide t)
  | _, _, .fz h z t => .fz (h.imp (fun ⟨q1, o, q2⟩ => ⟨out_un q1, o, q2⟩) id) z (RepVs.unhide t)
  | _, _, .tl n h z t => .tl (out_un n) h z (RepVs.unhide t)
  | _, _, .td n h t => .td (out_un n) h (RepKs.unhide t)
  | _, _, .ref h => .ref h
  | _, _, .gl h => .gl h
  | _, _, .hx a b c x => .hx a b c (RepX.unhide x)
  | _, _, .clo n1 h1 k n2 h2 => .clo (no_un n1) h1 k (no_un n2) h2
  | _, _, .cloS h => .cloS h
theorem RepVs.unhide : ∀ {g : List G} {v : List V}, RepVs (r.hide D) m H g v → RepVs r m H g v
  | _, _, .nil => .nil
  | _, _, .cons a b => .cons (RepV.unhide a) (RepVs.unhide b)
theorem RepFs.unhide : ∀ {g : List (Str × G)} {v : List (Str × V)}, RepFs (r.hide D) m H g v → RepFs r m H g v
  | _, _, .nil => .nil
  | _, _, .cons a b => .cons (RepV.unhide a) (RepFs.unhide b)
theorem RepKs.unhide : ∀ {g : List (G × G)} {v : List (L2.Key × V)}, RepKs (r.hide D) m H g v → RepKs r m H g v
  | _, _, .nil => .nil
  | _, _, .cons a b => .cons (RepV.unhide a) (RepKs.unhide b)
theorem RepX.unhide : ∀ {g : List (Str × G)} {d : Option Addr}, RepX (r.hide D) m H g d → RepX r m H g d
  | _, _, .none => .none
  | _, _, .some n h t => .some (out_un n) h (RepFs.unhide t)
end
theorem no_ne (hD : D ∈ r.hid) {p : Addr} (n : p ∉ r.hid) : p ≠ D := fun z => n (by rw [z]; exact hD)
theorem out_ne (hD : D ∈ r.hid) {p : Addr} (n : Out r m p) : p ≠ D := fun z => n.2 (by rw [z]; exact hD)
mutual
/-- a hidden list is changed: no value sees it -/
theorem RepV.behind (hD : D ∈ r.hid) : ∀ {g : G} {v : V}, RepV r m H g v → RepV r m (upd H D o) g v
  | _, _, .non => .non
  | _, _, .bl b => .bl b
  | _, _, .int i => .int i
  | _, _, .str s => .str s
  | _, _, .ty n => .ty n
  | _, _, .tup h z t => .tup (h.imp (fun q => ⟨q.1, by rw [upd_ne (out_ne hD q.1)]; exact q.2⟩) id) z (RepVs.behind hD t)
  | _, _, .fz h z t => .fz (h.imp (fun ⟨q1, o, q2⟩ => ⟨q1, o, by rw [upd_ne (out_ne hD q1)]; exact q2⟩) id) z (RepVs.behind hD t)
  | _, _, .tl n h z t => .tl n (by rw [upd_ne (out_ne hD n)]; exact h) z (RepVs.behind hD t)
  | _, _, .td n h t => .td n (by rw [upd_ne (out_ne hD n)]; exact h) (RepKs.behind hD t)
  | _, _, .ref h => .ref h
  | _, _, .gl h => .gl h
  | _, _, .hx a b c x => .hx a b c (RepX.behind hD x)
  | _, _, .clo n1 h1 k n2 h2 => .clo n1 (by rw [upd_ne (no_ne hD n1)]; exact h1) k n2 (by rw [upd_ne (no_ne hD n2)]; exact h2)
  | _, _, .cloS h => .cloS h
theorem RepVs.behind (hD : D ∈ r.hid) : ∀ {g : List G} {v : List V}, RepVs r m H g v → RepVs r m (upd H D o) g v
  | _, _, .nil => .nil
  | _, _, .cons a b => .cons (RepV.behind hD a) (RepVs.behind hD b)
theorem RepFs.behind (hD : D ∈ r.hid) : ∀ {g : List (Str × G)} {v : List (Str × V)}, RepFs r m H g v → RepFs r m (upd H D o) g v
  | _, _, .nil => .nil
  | _, _, .cons a b => .cons (RepV.behind hD a) (RepFs.behind hD b)
theorem RepKs.behind (hD : D ∈ r.hid) : ∀ {g : List (G × G)} {v : List (L2.Key × V)}, RepKs r m H g v → RepKs r m (upd H D o) g v
  | _, _, .nil => .nil
  | _, _, .cons a b => .cons (RepV.behind hD a) (RepKs.behind hD b)
theorem RepX.behind (hD : D ∈ r.hid) : ∀ {g : List (Str × G)} {d : Option Addr}, RepX r m H g d → RepX r m (upd H D o) g d
  | _, _, .none => .none
  | _, _, .some n h t => .some n (by rw [upd_ne (out_ne hD n)]; exact h) (RepFs.behind hD t)
end
end
section
variable {r : RP} {T : List (Addr × Str)} {m m' : List Addr} {S : Sto} {H H' : Hp} {D : Addr} {l : Loc} {s : L2.St}
theorem RepL.hide {o : HO} (hD : H D = none) (h : RepL r m H l s) : RepL (r.hide D) m (upd H D o) l s := ⟨h.len, fun i g q => let ⟨v, a, b⟩ := h.get i g q; ⟨v, a, b.hide hD⟩⟩
theorem RepL.behind {o : HO} (hD : D ∈ r.hid) (h : RepL r m H l s) : RepL r m (upd H D o) l s := ⟨h.len, fun i g q => let ⟨v, a, b⟩ := h.get i g q; ⟨v, a, b.behind hD⟩⟩
theorem RepO.hide {a : Addr} {go : GO} {o : HO} (hD : H D = none) (h : RepO r m H a go) : RepO (r.hide D) m (upd H D o) a go := by
  obtain ⟨u, hu⟩ := h.tracked
  have ne := ne_of_none hu hD
  cases go with
  | lst w l =>
    cases w with
    | true => obtain ⟨vs, h1, z, t⟩ := h; exact ⟨vs, by rw [upd_ne ne]; exact h1, z, t.hide hD⟩
    | false =>
      obtain ⟨vs, h1, z, t⟩ := h
      exact ⟨vs, h1.imp (fun q => by rw [upd_ne ne]; exact q) (fun ⟨ob, q⟩ => ⟨ob, by rw [upd_ne ne]; exact q⟩), z, t.hide hD⟩
  | ins c fs => obtain ⟨C, dx, vs, g, h1, t⟩ := h; exact ⟨C, dx, vs, g, by rw [upd_ne ne]; exact h1, t.hide hD⟩
  | dic z l =>
    obtain ⟨kvs, h, t⟩ := h
    refine ⟨kvs, ?_, t.imp (RepV.hide hD)⟩
    cases z with
    | true => obtain ⟨o, h⟩ := h; exact ⟨o, by rw [upd_ne ne]; exact h⟩
    | false => exact (upd_ne ne).trans h
  | dead => obtain ⟨o, h⟩ := h; exact ⟨o, by rw [upd_ne ne]; exact h⟩
theorem RepO.unhide {a : Addr} {go : GO} (h : RepO (r.hide D) m H a go) : RepO r m H a go := by
  cases go with
  | lst w l =>
    cases w with
    | true => obtain ⟨vs, h1, z, t⟩ := h; exact ⟨vs, h1, z, t.unhide⟩
    | false => obtain ⟨vs, h1, z, t⟩ := h; exact ⟨vs, h1, z, t.unhide⟩
  | ins c fs => obtain ⟨C, dx, vs, g, h1, t⟩ := h; exact ⟨C, dx, vs, g, h1, t.unhide⟩
  | dic z l => obtain ⟨kvs, h, t⟩ := h; exact ⟨kvs, h, t.imp RepV.unhide⟩
  | dead => obtain ⟨o, h⟩ := h; exact ⟨o, h⟩
theorem RepO.behind {a : Addr} {go : GO} {o : HO} (hD : D ∈ r.hid) (ne : a ≠ D) (h : RepO r m H a go) : RepO r m (upd H D o) a go := by
  cases go with
  | lst w l =>
    cases w with
    | true => obtain ⟨vs, h1, z, t⟩ := h; exact ⟨vs, by rw [upd_ne ne]; exact h1, z, t.behind hD⟩
    | false =>
      obtain ⟨vs, h1, z, t⟩ := h
      exact ⟨vs, h1.imp (fun q => by rw [upd_ne ne]; exact q) (fun ⟨ob, q⟩ => ⟨ob, by rw [upd_ne ne]; exact q⟩), z, t.behind hD⟩
  | ins c fs => obtain ⟨C, dx, vs, g, h1, t⟩ := h; exact ⟨C, dx, vs, g, by rw [upd_ne ne]; exact h1, t.behind hD⟩
  | dic z l =>
    obtain ⟨kvs, h, t⟩ := h
    refine ⟨kvs, ?_, t.imp (RepV.behind hD)⟩
    cases z with
    | true => obtain ⟨o, h⟩ := h; exact ⟨o, by rw [upd_ne ne]; exact h⟩
    | false => exact (upd_ne ne).trans h
  | dead => obtain ⟨o, h⟩ := h; exact ⟨o, by rw [upd_ne ne]; exact h⟩
theorem Rep.hide {xs : List V} (hD : H D = none) (h : Rep r T m S H) : Rep (r.hide D) T m S (upd H D (.lst xs)) := by
  refine ⟨h.len, h.nd, fun n a o h1 h2 => (h.obj n a o h1 h2).hide hD, h.tabs.ext fun b u q => by rw [upd_ne (ne_of_none q hD)]; exact q, fun b hb => ?_, h.ent.trans (Ext.new hD _)⟩
  rcases List.mem_cons.mp (show b ∈ D :: r.hid from hb) with e | e
  · subst e
    exact ⟨(h.notIn hD).1, xs, upd_same⟩
  · obtain ⟨x1, ys, x2⟩ := h.hid b e
    exact ⟨x1, ys, by rw [upd_ne (ne_of_none x2 hD)]; exact x2⟩
theorem Rep.unhide (h : Rep (r.hide D) T m S H) : Rep r T m S H := ⟨h.len, h.nd, fun n a o h1 h2 => (h.obj n a o h1 h2).unhide, h.tabs, fun b hb => h.hid b (List.mem_cons_of_mem _ hb), h.ent⟩
theorem Ext.behind {Dd : Addr} {o : HO} (e : Ext m H m' H') (hD : H Dd = none) : Ext m H m' (upd H' Dd o) := by
  refine ⟨e.pre, fun a v h1 h2 h3 => ?_, fun a h => ?_, fun a v h => ?_⟩
  · rw [upd_ne (ne_of_none h3 hD)]; exact e.keep a v h1 h2 h3
  · by_cases c : a = Dd
    · rw [c]; exact hD
    · rw [upd_ne c] at h; exact e.grow a h
  · rw [upd_ne (ne_of_none h hD)]; exact e.fx a v h
theorem Rep.behind {xs : List V} (hD : D ∈ r.hid) (hD0 : r.H0 D = none) (h : Rep r T m S H) : Rep r T m S (upd H D (.lst xs)) := by
  obtain ⟨nm, ys, hy⟩ := h.hid D hD
  refine ⟨h.len, h.nd, fun n a o h1 h2 => (h.obj n a o h1 h2).behind hD (fun z => nm (by rw [← z]; exact List.mem_of_getElem? h1)), tabs_upd h.tabs hy (fun _ z => by cases z) (fun c q z => by unfold LamX.CodeO at z; cases z), fun b hb => ?_, h.ent.behind hD0⟩
  obtain ⟨x1, zs, x2⟩ := h.hid b hb
  by_cases e : b = D
  · subst e; exact ⟨x1, xs, upd_same⟩
  · exact ⟨x1, zs, by rw [upd_ne e]; exact x2⟩
end
section
variable {r r' : RP} {T : List (Addr × Str)} {m m' : List Addr} {S : Sto} {H H' : Hp}
/-- what the values' reading leans on is alike -/
structure RP.Like (r r' : RP) : Prop where
  K : r'.K = r.K
  mg : r'.mg = r.mg
  hp : ∀ p, r.hp = some p → r'.hp = some p
  isClo : r'.isClo = r.isClo
  hid : r'.hid = r.hid
theorem Out.like (k : RP.Like r r') {p : Addr} (h : Out r m p) : Out r' m p := ⟨h.1, by rw [k.hid]; exact h.2⟩
mutual
theorem RepV.like (k : RP.Like r r') : ∀ {g : G} {v : V}, RepV r m H g v → RepV r' m H g v
  | _, _, .non => .non
  | _, _, .bl b => .bl b
  | _, _, .int i => .int i
  | _, _, .str s => .str s
  | _, _, .ty n => .ty n
  | _, _, .tup h z t => .tup (h.imp (fun q => ⟨q.1.like k, q.2⟩) (fun q => by rw [k.K]; exact q)) z (RepVs.like k t)
  | _, _, .fz h z t => .fz (h.imp (fun q => ⟨q.1.like k, q.2⟩) (fun q => by rw [k.K]; exact q)) z (RepVs.like k t)
  | _, _, .tl n h z t => .tl (n.like k) h z (RepVs.like k t)
  | _, _, .td n h t => .td (n.like k) h (RepKs.like k t)
  | _, _, .ref h => .ref h
  | _, _, .gl h => .gl (by rw [k.mg]; exact h)
  | _, _, .hx a b c x => .hx (k.hp _ a) b (by rw [k.mg]; exact c) (RepX.like k x)
  | _, _, .clo n1 h1 q n2 h2 => .clo (by rw [k.hid]; exact n1) h1 (by rw [k.isClo]; exact q) (by rw [k.hid]; exact n2) h2
  | _, _, .cloS h => .cloS h
theorem RepVs.like (k : RP.Like r r') : ∀ {g : List G} {v : List V}, RepVs r m H g v → RepVs r' m H g v
  | _, _, .nil => .nil
  | _, _, .cons a b => .cons (RepV.like k a) (RepVs.like k b)
theorem RepFs.like (k : RP.Like r r') : ∀ {g : List (Str × G)} {v : List (Str × V)}, RepFs r m H g v → RepFs r' m H g v
  | _, _, .nil => .nil
  | _, _, .cons a b => .cons (RepV.like k a) (RepFs.like k b)
theorem RepKs.like (k : RP.Like r r') : ∀ {g : List (G × G)} {v : List (L2.Key × V)}, RepKs r m H g v → RepKs r' m H g v
  | _, _, .nil => .nil
  | _, _, .cons a b => .cons (RepV.like k a) (RepKs.like k b)
theorem RepX.like (k : RP.Like r r') : ∀ {g : List (Str × G)} {d : Option Addr}, RepX r m H g d → RepX r' m H g d
  | _, _, .none => .none
  | _, _, .some n h t => .some (n.like k) h (RepFs.like k t)
end
theorem RepO.like (k : RP.Like r r') {a : Addr} {go : GO} (h : RepO r m H a go) : RepO r' m H a go := by
  cases go with
  | lst w l =>
    cases w with
    | true => obtain ⟨vs, h1, z, t⟩ := h; exact ⟨vs, h1, z, t.like k⟩
    | false => obtain ⟨vs, h1, z, t⟩ := h; exact ⟨vs, h1, z, t.like k⟩
  | ins c fs => obtain ⟨C, dx, vs, g, h1, t⟩ := h; exact ⟨C, dx, vs, by rw [k.mg]; exact g, h1, t.like k⟩
  | dic z l => obtain ⟨kvs, h, t⟩ := h; exact ⟨kvs, h, t.imp (RepV.like k)⟩
  | dead => exact h
/-- a frame begins -/
abbrev RP.at_ (r : RP) (m : List Addr) (H : Hp) : RP := { r with m0 := m, H0 := H }
theorem RP.Like.at_ (r : RP) (m : List Addr) (H : Hp) : RP.Like r (r.at_ m H) := ⟨rfl, rfl, fun _ h => h, rfl, rfl⟩
theorem RP.Like.un (r : RP) (m : List Addr) (H : Hp) : RP.Like (r.at_ m H) r := ⟨rfl, rfl, fun _ h => h, rfl, rfl⟩
theorem Rep.enter (h : Rep r T m S H) : Rep (r.at_ m H) T m S H :=
  ⟨h.len, h.nd, fun n a o h1 h2 => (h.obj n a o h1 h2).like (.at_ r m H), h.tabs, h.hid, Ext.refl _ _⟩
theorem Rep.leave (h0 : Rep r T m S H) {S' : Sto} (e : Ext m H m' H') (h : Rep (r.at_ m H) T m' S' H') : Rep r T m' S' H' :=
  ⟨h.len, h.nd, fun n a o h1 h2 => (h.obj n a o h1 h2).like (.un r m H), h.tabs, h.hid, h0.ent.trans e⟩
end
end GL

end

section
set_option Elab.async false
set_option linter.all false
set_option maxRecDepth 100000
set_option maxHeartbeats 4000000
/-! GL: readings that follow the plain evaluation, and the rules of expressions and tests. -/
namespace GL
open PySem PySem.Spec PyProof.Rows L2

/-- a reading implies another -/
theorem PE_imp {X : Cx} {e : Expr} {t t' : TE} (h : PE X e t) (i : ∀ s H Q, t' s H Q → t s H Q) : PE X e t' := ⟨fun pins s l H Q I w => h.run pins s l H Q I (i _ _ _ w)⟩
theorem PT_imp {X : Cx} {e : Expr} {t t' : TT} (h : PT X e t) (i : ∀ s H Q, t' s H Q → t s H Q) : PT X e t' := ⟨fun pins s l H Q I w => h.run pins s l H Q I (i _ _ _ w)⟩
theorem PW_imp {X : Cx} {e : Expr} {t t' : TT} (h : PW X e t) (i : ∀ s H Q, t' s H Q → t s H Q) : PW X e t' := ⟨fun wh pins s l H Q I w => h.run wh pins s l H Q I (i _ _ _ w)⟩
theorem PA_imp {X : Cx} {e : List Expr} {t t' : TA} (h : PA X e t) (i : ∀ s H Q, t' s H Q → t s H Q) : PA X e t' := ⟨fun pos pins s l H Q I w => h.run pos pins s l H Q I (i _ _ _ w)⟩
theorem PS_imp {X : Cx} {e : Stmt} {t t' : TS} (h : PS X e t) (i : ∀ D s H, t' D s H → t D s H) : PS X e t' := ⟨fun pins s l H D I w => h.run pins s l H D I (i _ _ _ w)⟩
theorem PSs_imp {X : Cx} {e : List Stmt} {t t' : TS} (h : PSs X e t) (i : ∀ D s H, t' D s H → t D s H) : PSs X e t' := ⟨fun pins s l H D I w => h.run pins s l H D I (i _ _ _ w)⟩
theorem OpR_imp {X : Cx} {f : Value → Value → Sem Value} {t t' : R2} (h : OpR X f t) (i : ∀ x y H Q, t' x y H Q → t x y H Q) : OpR X f t' := fun pins s l H x y v u Q I rx ry w => h pins s l H x y v u Q I rx ry (i _ _ _ _ w)
theorem CallR_imp {X : Cx} {f : Value} {t t' : List V → Hp → VK → Prop} (h : CallR X f t) (i : ∀ x H Q, t' x H Q → t x H Q) : CallR X f t' := fun pins s l H x u Q I rx w => h pins s l H x u Q I rx (i _ _ _ w)

/-- what is wanted behind a plain run: rel tells how the plain result lies -/
def Pst {a b : Type} (r : RP) (T : List (Addr × Str)) (W : WX) (rel : List Addr → Hp → a → b → Prop) (s : L2.St) (m : List Addr) (H : Hp) (res : R a) (Q : b → Hp → Prop) : Prop := match res with
  | .ok x S' => ∀ m' H' v, Ext m H m' H' → Rep r T m' S' H' → rel m' H' x v → Q v H'
  | .exc c fs S' => ∀ m' H' C d, Ext m H m' H' → Rep r T m' S' H' → r.mg c = some (.ref C) → RepX r m' H' fs d → W (.ref C) d s H'
  | .bad => False
section
variable {r : RP} {T : List (Addr × Str)} {W : WX} {a b c d : Type} {rel : List Addr → Hp → a → b → Prop} {rel2 : List Addr → Hp → c → d → Prop} {s : L2.St} {m m' : List Addr} {H H' : Hp}
theorem Pst.ext {res : R a} {Q : b → Hp → Prop} (e : Ext m H m' H') (h : Pst r T W rel s m H res Q) : Pst r T W rel s m' H' res Q := by
  cases res with
  | ok x S => exact fun m2 H2 v e2 a b => h m2 H2 v (e.trans e2) a b
  | exc c fs S => exact fun m2 H2 C d e2 a b k => h m2 H2 C d (e.trans e2) a b k
  | bad => exact h
theorem Pst.mono {res : R a} {Q Q' : b → Hp → Prop} (h : Pst r T W rel s m H res Q) (i : ∀ v H', Q v H' → Q' v H') : Pst r T W rel s m H res Q' := by
  cases res with
  | ok x S => exact fun m2 H2 v e2 a b => i _ _ (h m2 H2 v e2 a b)
  | exc c fs S => exact h
  | bad => exact h
/-- one step, then the rest -/
theorem Pst.bind {res : R a} {k : a → Sto → R c} {Q : d → Hp → Prop} (h : Pst r T W rel2 s m H (rb res k) Q) :
    Pst r T W rel s m H res fun x H1 => ∃ m1 S1 g, Ext m H m1 H1 ∧ Rep r T m1 S1 H1 ∧ rel m1 H1 g x ∧ Pst r T W rel2 s m1 H1 (k g S1) Q := by
  cases res with
  | ok x S => exact fun m2 H2 v e2 a b => ⟨m2, S, x, e2, a, b, Pst.ext e2 h⟩
  | exc c fs S => exact h
  | bad => exact h
end
section
variable (r : RP) (T : List (Addr × Str)) (W : WX)
/-- the readings that follow a plain expression, test, argument list -/
def tF (f : Ev) : TE := fun s H Q => ∃ m S l, Rep r T m S H ∧ RepL r m H l s ∧ Pst r T W (RepV r) s m H (f l S) Q
def tFT (f : Te) : TT := fun s H Q => ∃ m S l, Rep r T m S H ∧ RepL r m H l s ∧ Pst r T W (fun _ _ (x y : Bool) => x = y) s m H (f l S) Q
def tFA (f : As) : TA := fun s H Q => ∃ m S l, Rep r T m S H ∧ RepL r m H l s ∧ Pst r T W (RepVs r) s m H (f l S) Q
/-- what a step leaves -/
def StepE {a b : Type} (rel : List Addr → Hp → a → b → Prop) {c d : Type} (rel2 : List Addr → Hp → c → d → Prop) (s : L2.St) (l : Loc) (m : List Addr) (H : Hp) (k : a → Sto → R c) (Q : d → Hp → Prop) (x : b) (H1 : Hp) : Prop :=
  ∃ m1 S1 g, Ext m H m1 H1 ∧ Rep r T m1 S1 H1 ∧ RepL r m1 H1 l s ∧ rel m1 H1 g x ∧ Pst r T W rel2 s m1 H1 (k g S1) Q
variable {r T W}
variable {s : L2.St} {m : List Addr} {H : Hp} {S : Sto} {l : Loc} {c d : Type} {rel2 : List Addr → Hp → c → d → Prop} {Q : d → Hp → Prop}
theorem stE {f : Ev} {k : G → Sto → R c} (hR : Rep r T m S H) (hL : RepL r m H l s) (h : Pst r T W rel2 s m H (rb (f l S) k) Q) : tF r T W f s H (StepE r T W (RepV r) rel2 s l m H k Q) :=
  ⟨m, S, l, hR, hL, Pst.mono (Pst.bind (rel := RepV r) h) fun x H1 ⟨m1, S1, g, e, a, b, q⟩ => ⟨m1, S1, g, e, a, hL.ext e, b, q⟩⟩
theorem stT {f : Te} {k : Bool → Sto → R c} (hR : Rep r T m S H) (hL : RepL r m H l s) (h : Pst r T W rel2 s m H (rb (f l S) k) Q) : tFT r T W f s H (StepE r T W (fun _ _ (x y : Bool) => x = y) rel2 s l m H k Q) :=
  ⟨m, S, l, hR, hL, Pst.mono (Pst.bind (rel := fun _ _ (x y : Bool) => x = y) h) fun x H1 ⟨m1, S1, g, e, a, b, q⟩ => ⟨m1, S1, g, e, a, hL.ext e, b, q⟩⟩
theorem stA {f : As} {k : List G → Sto → R c} (hR : Rep r T m S H) (hL : RepL r m H l s) (h : Pst r T W rel2 s m H (rb (f l S) k) Q) : tFA r T W f s H (StepE r T W (RepVs r) rel2 s l m H k Q) :=
  ⟨m, S, l, hR, hL, Pst.mono (Pst.bind (rel := RepVs r) h) fun x H1 ⟨m1, S1, g, e, a, b, q⟩ => ⟨m1, S1, g, e, a, hL.ext e, b, q⟩⟩
theorem mono_tF {f : Ev} {s : L2.St} {H : Hp} {Q Q' : VK} (h : tF r T W f s H Q) (i : ∀ v H', Q v H' → Q' v H') : tF r T W f s H Q' :=
  let ⟨m, S, l, a, b, q⟩ := h; ⟨m, S, l, a, b, q.mono i⟩
theorem mono_tFT {f : Te} {s : L2.St} {H : Hp} {Q Q' : Bool → Hp → Prop} (h : tFT r T W f s H Q) (i : ∀ v H', Q v H' → Q' v H') : tFT r T W f s H Q' :=
  let ⟨m, S, l, a, b, q⟩ := h; ⟨m, S, l, a, b, q.mono i⟩
theorem mono_tFA {f : As} {s : L2.St} {H : Hp} {Q Q' : List V → Hp → Prop} (h : tFA r T W f s H Q) (i : ∀ v H', Q v H' → Q' v H') : tFA r T W f s H Q' :=
  let ⟨m, S, l, a, b, q⟩ := h; ⟨m, S, l, a, b, q.mono i⟩
/-- a plain result that is known -/
theorem Pst.ok_of {rel : List Addr → Hp → c → d → Prop} {x : c} {v : d} (h : Pst r T W rel s m H (.ok x S) Q) (hR : Rep r T m S H) (a : rel m H x v) : Q v H := h m H v (.refl m H) hR a
end

/-- an operation of two plain values that changes nothing: what its machine's counterpart is to do -/
def rP2 (r : RP) (T : List (Addr × Str)) (f : G → G → Sto → Option G) : R2 := fun x y H Q => ∃ m S g1 g2 g, Rep r T m S H ∧ RepV r m H g1 x ∧ RepV r m H g2 y ∧ f g1 g2 S = some g ∧
  ∀ H' v, Ext m H m H' → Rep r T m S H' → RepV r m H' g v → Q v H'
def rP1 (r : RP) (T : List (Addr × Str)) (f : G → Sto → Option G) : V → Hp → VK → Prop := fun x H Q => ∃ m S g1 g, Rep r T m S H ∧ RepV r m H g1 x ∧ f g1 S = some g ∧
  ∀ H' v, Ext m H m H' → Rep r T m S H' → RepV r m H' g v → Q v H'
def rPA (r : RP) (T : List (Addr × Str)) (f : List G → Sto → Option G) : List V → Hp → VK → Prop := fun x H Q => ∃ m S gs g, Rep r T m S H ∧ RepVs r m H gs x ∧ f gs S = some g ∧
  ∀ H' v, Ext m H m H' → Rep r T m S H' → RepV r m H' g v → Q v H'
def rPM (r : RP) (T : List (Addr × Str)) (f : G → List G → Sto → Option G) : V → List V → Hp → VK → Prop := fun o x H Q => ∃ m S g1 gs g, Rep r T m S H ∧ RepV r m H g1 o ∧ RepVs r m H gs x ∧ f g1 gs S = some g ∧
  ∀ H' v, Ext m H m H' → Rep r T m S H' → RepV r m H' g v → Q v H'
def rPU (r : RP) (T : List (Addr × Str)) (f : G → List G → Sto → Option (G × Sto)) : V → List V → Hp → VK → Prop := fun o x H Q => ∃ m S g1 gs g S', Rep r T m S H ∧ RepV r m H g1 o ∧ RepVs r m H gs x ∧ f g1 gs S = some (g, S') ∧
  ∀ H' v, Ext m H m H' → Rep r T m S' H' → RepV r m H' g v → Q v H'
section
variable {r : RP} {T : List (Addr × Str)} {W : WX} {X : Cx} {s : L2.St} {m : List Addr} {H : Hp} {S : Sto} {l : Loc}
theorem fin2 {f : G → G → Sto → Option G} {x y : V} {g1 g2 : G} {Q : VK} (hR : Rep r T m S H) (h1 : RepV r m H g1 x) (h2 : RepV r m H g2 y) (h : Pst r T W (RepV r) s m H (ro (f g1 g2 S) S) Q) : rP2 r T f x y H Q := by
  cases e : f g1 g2 S with
  | none => rw [e] at h; exact False.elim h
  | some g => rw [e] at h; exact ⟨m, S, g1, g2, g, hR, h1, h2, e, fun H' v e' a b => h m H' v e' a b⟩
theorem fin1 {f : G → Sto → Option G} {x : V} {g1 : G} {Q : VK} (hR : Rep r T m S H) (h1 : RepV r m H g1 x) (h : Pst r T W (RepV r) s m H (ro (f g1 S) S) Q) : rP1 r T f x H Q := by
  cases e : f g1 S with
  | none => rw [e] at h; exact False.elim h
  | some g => rw [e] at h; exact ⟨m, S, g1, g, hR, h1, e, fun H' v e' a b => h m H' v e' a b⟩
theorem finA {f : List G → Sto → Option G} {x : List V} {g1 : List G} {Q : VK} (hR : Rep r T m S H) (h1 : RepVs r m H g1 x) (h : Pst r T W (RepV r) s m H (ro (f g1 S) S) Q) : rPA r T f x H Q := by
  cases e : f g1 S with
  | none => rw [e] at h; exact False.elim h
  | some g => rw [e] at h; exact ⟨m, S, g1, g, hR, h1, e, fun H' v e' a b => h m H' v e' a b⟩
theorem finM {f : G → List G → Sto → Option G} {o : V} {x : List V} {g0 : G} {g1 : List G} {Q : VK} (hR : Rep r T m S H) (h0 : RepV r m H g0 o) (h1 : RepVs r m H g1 x) (h : Pst r T W (RepV r) s m H (ro (f g0 g1 S) S) Q) : rPM r T f o x H Q := by
  cases e : f g0 g1 S with
  | none => rw [e] at h; exact False.elim h
  | some g => rw [e] at h; exact ⟨m, S, g0, g1, g, hR, h0, h1, e, fun H' v e' a b => h m H' v e' a b⟩
theorem finU {f : G → List G → Sto → Option (G × Sto)} {o : V} {x : List V} {g0 : G} {g1 : List G} {Q : VK} (hR : Rep r T m S H) (h0 : RepV r m H g0 o) (h1 : RepVs r m H g1 x)
    (h : Pst r T W (RepV r) s m H (match f g0 g1 S with | some (g, S) => .ok g S | none => .bad) Q) : rPU r T f o x H Q := by
  cases e : f g0 g1 S with
  | none => rw [e] at h; exact False.elim h
  | some p =>
    obtain ⟨g, S'⟩ := p
    rw [e] at h
    exact ⟨m, S, g0, g1, g, S', hR, h0, h1, e, fun H' v e' a b => h m H' v e' a b⟩

/-! ### rules -/
theorem g_con {e : Expr} {v : V} {g : G} (h : PE X e (tC v)) (hv : ∀ m H, RepV r m H g v) : PE X e (tF r T W (eC g)) := PE_imp h fun s H Q ⟨m, S, l, hR, hL, q⟩ => q.ok_of hR (hv m H)
theorem g_var {x : Str} {pos : Pos} {i : Nat} (hN : X.N[i]? = some x) (hv : Vis X.env.scope x) (hd : (x == ("__debug__" : Str)) = false) (hcd : (x == ("__classdict__" : Str)) = false) : PE X (.Name x pos) (tF r T W (eV i)) :=
  PE_imp (pe_var hN hv hd hcd) fun s H Q ⟨m, S, l, hR, hL, q⟩ => by
    unfold eV at q
    cases e : l[i]? with
    | none => rw [e] at q; exact False.elim q
    | some o =>
      cases o with
      | none => rw [e] at q; exact False.elim q
      | some g =>
        rw [e] at q
        obtain ⟨v, h1, h2⟩ := hL.get i g e
        exact ⟨v, h1, q.ok_of hR h2⟩
variable {a b c : Expr} {fa fb fc : Ev} {pos : Pos}
theorem g_bin {op : Operator} {f : G → G → Sto → Option G} (ho : OpR X (binaryOp op) (rP2 r T f)) (ha : PE X a (tF r T W fa)) (hb : PE X b (tF r T W fb)) : PE X (.BinOp a op b pos) (tF r T W (e2 f fa fb)) :=
  PE_imp (pe_op ho ha hb) fun s H Q ⟨m, S, l, hR, hL, q⟩ => mono_tF (stE hR hL q) fun x H1 ⟨m1, S1, g, e, hR1, hL1, h1, q1⟩ => mono_tF (stE hR1 hL1 q1) fun y H2 ⟨m2, S2, g2, e2, hR2, hL2, h2, q2⟩ => fin2 hR2 (h1.ext e2) h2 q2
theorem g_cmp {op : CmpOp} {f : G → G → Sto → Option G} (ho : OpR X (compareOp op) (rP2 r T f)) (ha : PE X a (tF r T W fa)) (hb : PE X b (tF r T W fb)) (hm : behindInMarks op b = false) : PE X (.Compare a [op] [b] pos) (tF r T W (e2 f fa fb)) :=
  PE_imp (pe_cmpR ho ha hb hm) fun s H Q ⟨m, S, l, hR, hL, q⟩ => mono_tF (stE hR hL q) fun x H1 ⟨m1, S1, g, e, hR1, hL1, h1, q1⟩ => mono_tF (stE hR1 hL1 q1) fun y H2 ⟨m2, S2, g2, e2, hR2, hL2, h2, q2⟩ => fin2 hR2 (h1.ext e2) h2 q2
theorem bof_ok {g : G} {v : V} {k : Bool → R G} {Q : VK} (h1 : RepV r m H g v) (q : Pst r T W (RepV r) s m H (bof g k) Q) : ∃ x, g = .bl x ∧ v = .bl x ∧ Pst r T W (RepV r) s m H (k x) Q := by
  cases g <;> try exact False.elim q
  cases h1
  exact ⟨_, rfl, rfl, q⟩
theorem bof_okT {g : G} {v : V} {k : Bool → R Bool} {Q : Bool → Hp → Prop} (h1 : RepV r m H g v) (q : Pst r T W (fun _ _ (x y : Bool) => x = y) s m H (bof g k) Q) : ∃ x, g = .bl x ∧ v = .bl x ∧ Pst r T W (fun _ _ (x y : Bool) => x = y) s m H (k x) Q := by
  cases g <;> try exact False.elim q
  cases h1
  exact ⟨_, rfl, rfl, q⟩
/-- a test of a comparison -/
theorem g_tcmp {op : CmpOp} {f : G → G → Sto → Option G} (ho : OpR X (compareOp op) (rP2 r T f)) (ha : PE X a (tF r T W fa)) (hb : PE X b (tF r T W fb)) (hm : behindInMarks op b = false) : PT X (.Compare a [op] [b] pos) (tFT r T W (tV (e2 f fa fb))) :=
  PT_imp (pt_cmpR ho ha hb hm) fun s H Q ⟨m, S, l, hR, hL, q⟩ => by
    have q' : Pst r T W (fun _ _ (x y : Bool) => x = y) s m H (rb (fa l S) fun x S => rb (fb l S) fun y S => rb (ro (f x y S) S) fun x S => bof x fun b => .ok b S) Q := by
      unfold tV e2 at q
      revert q
      cases fa l S with
      | ok x S1 =>
        show Pst _ _ _ _ _ _ _ (rb (rb (fb l S1) _) _) _ → Pst _ _ _ _ _ _ _ (rb (fb l S1) _) _
        cases fb l S1 <;> exact id
      | exc _ _ _ => exact id
      | bad => exact id
    refine mono_tF (stE hR hL q') fun x H1 ⟨m1, S1, g, e, hR1, hL1, h1, q1⟩ => mono_tF (stE hR1 hL1 q1) fun y H2 ⟨m2, S2, g2, e2, hR2, hL2, h2, q2⟩ => ?_
    dsimp only at q2
    cases e3 : f g g2 S2 with
    | none => rw [e3] at q2; exact False.elim q2
    | some z =>
      rw [e3] at q2
      refine ⟨m2, S2, g, g2, z, hR2, h1.ext e2, h2, e3, fun H' v e' a b => ?_⟩
      obtain ⟨k, e4, e5, q3⟩ := bof_okT b (Pst.ext e' q2)
      subst e5
      exact ⟨k, rfl, q3.ok_of a rfl⟩
/-- an expression whose value is a bool, as a test -/
theorem g_tval (h : PE X a (tF r T W fa)) (he : ∀ whole, isTrue a X.env whole = (do let v ← whole; standAt a.pos; holding [v] (truthy v))) : PT X a (tFT r T W (tV fa)) :=
  PT_imp (pt_val h he) fun s H Q ⟨m, S, l, hR, hL, q⟩ => mono_tF (stE hR hL q) fun x H1 ⟨m1, S1, g, e, hR1, hL1, h1, q1⟩ => by
    obtain ⟨k, e4, e5, q3⟩ := bof_okT h1 q1
    subst e5
    exact ⟨k, rfl, q3.ok_of hR1 rfl⟩
variable {ta tb : Te}
theorem g_tnot (h : PT X a (tFT r T W ta)) : PT X (.UnaryOp .Not a pos) (tFT r T W (tNot ta)) :=
  PT_imp (pt_not h) fun s H Q ⟨m, S, l, hR, hL, q⟩ => mono_tFT (stT hR hL q) fun x H1 ⟨m1, S1, g, e, hR1, hL1, h1, q1⟩ => by
    subst h1
    exact q1.ok_of hR1 rfl
theorem g_tand {rest : List Expr} (ha : PT X a (tFT r T W ta)) (hb : PW X (.BoolOp .And (b :: rest) pos) (tFT r T W tb)) : PW X (.BoolOp .And (a :: b :: rest) pos) (tFT r T W (tAnd ta tb)) :=
  PW_imp (pw_and ha hb) fun s H Q ⟨m, S, l, hR, hL, q⟩ => mono_tFT (stT hR hL q) fun x H1 ⟨m1, S1, g, e, hR1, hL1, h1, q1⟩ => by
    subst h1
    cases g with
    | true => exact ⟨m1, S1, l, hR1, hL1, q1⟩
    | false => exact q1.ok_of hR1 rfl
theorem g_tor {rest : List Expr} (ha : PT X a (tFT r T W ta)) (hb : PW X (.BoolOp .Or (b :: rest) pos) (tFT r T W tb)) : PW X (.BoolOp .Or (a :: b :: rest) pos) (tFT r T W (tOr ta tb)) :=
  PW_imp (pw_or ha hb) fun s H Q ⟨m, S, l, hR, hL, q⟩ => mono_tFT (stT hR hL q) fun x H1 ⟨m1, S1, g, e, hR1, hL1, h1, q1⟩ => by
    subst h1
    cases g with
    | true => exact q1.ok_of hR1 rfl
    | false => exact ⟨m1, S1, l, hR1, hL1, q1⟩
theorem g_and {rest : List Expr} (ha : PE X a (tF r T W fa)) (hb : PE X (.BoolOp .And (b :: rest) pos) (tF r T W fb)) : PE X (.BoolOp .And (a :: b :: rest) pos) (tF r T W (eAnd fa fb)) :=
  PE_imp (pe_and ha hb) fun s H Q ⟨m, S, l, hR, hL, q⟩ => mono_tF (stE hR hL q) fun x H1 ⟨m1, S1, g, e, hR1, hL1, h1, q1⟩ => by
    obtain ⟨k, e4, e5, q3⟩ := bof_ok h1 q1
    subst e5
    refine ⟨k, rfl, ?_⟩
    cases k with
    | true => exact ⟨m1, S1, l, hR1, hL1, q3⟩
    | false => exact q3.ok_of hR1 (.bl false)
theorem g_or {rest : List Expr} (ha : PE X a (tF r T W fa)) (hb : PE X (.BoolOp .Or (b :: rest) pos) (tF r T W fb)) : PE X (.BoolOp .Or (a :: b :: rest) pos) (tF r T W (eOr fa fb)) :=
  PE_imp (pe_or ha hb) fun s H Q ⟨m, S, l, hR, hL, q⟩ => mono_tF (stE hR hL q) fun x H1 ⟨m1, S1, g, e, hR1, hL1, h1, q1⟩ => by
    obtain ⟨k, e4, e5, q3⟩ := bof_ok h1 q1
    subst e5
    refine ⟨k, rfl, ?_⟩
    cases k with
    | true => exact q3.ok_of hR1 (.bl true)
    | false => exact ⟨m1, S1, l, hR1, hL1, q3⟩
theorem g_ife (hc : PT X c (tFT r T W ta)) (ha : PE X a (tF r T W fa)) (hb : PE X b (tF r T W fb)) : PE X (.IfExp c a b pos) (tF r T W (eIf ta fa fb)) :=
  PE_imp (pe_ifExp hc ha hb) fun s H Q ⟨m, S, l, hR, hL, q⟩ => mono_tFT (stT hR hL q) fun x H1 ⟨m1, S1, g, e, hR1, hL1, h1, q1⟩ => by
    subst h1
    cases g with
    | true => exact ⟨m1, S1, l, hR1, hL1, q1⟩
    | false => exact ⟨m1, S1, l, hR1, hL1, q1⟩
theorem g_anil : PA X [] (tFA r T W aNil) := PA_imp pa_nil fun s H Q ⟨m, S, l, hR, hL, q⟩ => q.ok_of hR .nil
theorem g_acons {es : List Expr} {fs : As} (ha : PE X a (tF r T W fa)) (hr : PA X es (tFA r T W fs)) (hs : starEach (a :: es) X.env = (false, eval a X.env) :: starEach es X.env) : PA X (a :: es) (tFA r T W (aCons fa fs)) :=
  PA_imp (pa_cons ha hr hs) fun s H Q ⟨m, S, l, hR, hL, q⟩ => mono_tF (stE hR hL q) fun x H1 ⟨m1, S1, g, e, hR1, hL1, h1, q1⟩ => mono_tFA (stA hR1 hL1 q1) fun y H2 ⟨m2, S2, g2, e2, hR2, hL2, h2, q2⟩ => q2.ok_of hR2 (.cons (h1.ext e2) h2)
end
end GL

end

section
set_option Elab.async false
set_option linter.all false
set_option maxRecDepth 100000
set_option maxHeartbeats 4000000
/-! GL: operations on plain values, and that the machine's do the same. -/
namespace GL
open PySem PySem.Spec PyProof.Rows L2

/-! ### data -/
mutual
def gD : G → PyData
  | .bl b => .bool b
  | .int i => .int i
  | .str s => .str s
  | .tup l => .tuple (gDs l)
  | .tl l => .list (gDs l)
  | _ => .none
def gDs : List G → List PyData
  | [] => []
  | g :: r => gD g :: gDs r
end
mutual
/-- data that may be compared -/
def gOk (n : Nat) : G → Bool
  | .non => true
  | .bl _ => true
  | .int _ => true
  | .str s => PyData.strOk s
  | .tup l => (match n with
    | 0 => false
    | n + 1 => gOks n l)
  | .tl l => (match n with
    | 0 => false
    | n + 1 => gOks n l)
  | _ => false
def gOks (n : Nat) : List G → Bool
  | [] => true
  | g :: r => gOk n g && gOks n r
end
def gRes (S : Sto) : G → G
  | .ref n => (match lstAt S n with
    | some l => .tl l
    | none => .ref n)
  | g => g
def gEqD (S : Sto) (x y : G) : Option Bool := if gOk 60 (gRes S x) = true ∧ gOk 60 (gRes S y) = true then some (PyData.eqv (gD (gRes S x)) (gD (gRes S y))) else none
def gEq (x y : G) (S : Sto) : Option G := match x, y with
  | .int i, .int j => some (.bl (decide (i = j)))
  | .str i, .str j => some (.bl (decide (i = j)))
  | .bl i, .bl j => some (.bl (decide (i = j)))
  | x, y => (gEqD S x y).map fun b => .bl b
def gNe (x y : G) (S : Sto) : Option G := match x, y with
  | .int i, .int j => some (.bl (!decide (i = j)))
  | .str i, .str j => some (.bl (!decide (i = j)))
  | .bl i, .bl j => some (.bl (!decide (i = j)))
  | x, y => (gEqD S x y).map fun b => .bl (!b)
def gLt (x y : G) (_ : Sto) : Option G := match x, y with
  | .int i, .int j => some (.bl (decide (i < j)))
  | .str i, .str j => some (.bl (decide (i.cps.toList < j.cps.toList)))
  | _, _ => none
def gLe (x y : G) (_ : Sto) : Option G := match x, y with
  | .int i, .int j => some (.bl (decide (i ≤ j)))
  | _, _ => none
def gGt (x y : G) (_ : Sto) : Option G := match x, y with
  | .int i, .int j => some (.bl (decide (j < i)))
  | _, _ => none
def gGe (x y : G) (_ : Sto) : Option G := match x, y with
  | .int i, .int j => some (.bl (decide (j ≤ i)))
  | _, _ => none
def gIsN (x : G) (b : Bool) : Option G := match x with
  | .non => some (.bl b)
  | .hx _ _ => none
  | _ => some (.bl (!b))
def gIs (x y : G) (_ : Sto) : Option G := match y with
  | .non => gIsN x true
  | .bl c => (match x with
    | .bl b => some (.bl (decide (b = c)))
    | _ => none)
  | _ => none
def gIsNot (x y : G) (_ : Sto) : Option G := match y with
  | .non => gIsN x false
  | .bl c => (match x with
    | .bl b => some (.bl (!decide (b = c)))
    | _ => none)
  | _ => none
def flatG : G → Bool
  | .non => true
  | .bl _ => true
  | .int _ => true
  | .str _ => true
  | _ => false
def eqF : G → G → Bool
  | .int i, .int j => decide (i = j)
  | .str i, .str j => decide (i = j)
  | x, y => PyData.eqv (gD x) (gD y)
def seqG (S : Sto) : G → Option (List G)
  | .tup l => some l
  | .fz l => some l
  | .tl l => some l
  | .ref n => lstAt S n
  | _ => none
def gInB (x y : G) (S : Sto) : Option Bool := match y with
  | .str t => (match x with
    | .str s => some (!(Builtin.Str.occurrences t s 0 t.length 1).isEmpty)
    | _ => none)
  | _ => (match seqG S y with
    | some l => if flatG x && l.all flatG then some (l.any fun z => eqF z x) else none
    | none => none)
def gIn (x y : G) (S : Sto) : Option G := (gInB x y S).map .bl
def gNotIn (x y : G) (S : Sto) : Option G := (gInB x y S).map fun b => .bl (!b)
def gAdd (x y : G) (S : Sto) : Option G := match x, y with
  | .int i, .int j => some (.int (i + j))
  | .str i, .str j => if i.length + j.length ≤ sizeLine then some (.str (i ++ j)) else none
  | .tup i, .tup j => if i.length + j.length ≤ sizeLine then some (.tup (i ++ j)) else none
  | _, _ => none
def gSub (x y : G) (_ : Sto) : Option G := match x, y with
  | .int i, .int j => some (.int (i - j))
  | _, _ => none
noncomputable def mulOk (i j : Int) : Bool := (decide (-b64 < i) && decide (i < b64)) || (decide (-b64 < j) && decide (j < b64))
noncomputable def gMul (x y : G) (_ : Sto) : Option G := match x, y with
  | .int i, .int j => if mulOk i j then some (.int (i * j)) else none
  | _, _ => none
noncomputable def gFdv (x y : G) (_ : Sto) : Option G := match x, y with
  | .int i, .int j => if 0 < j ∧ j < b30 then some (.int (i / j)) else none
  | _, _ => none
def gMod (x y : G) (_ : Sto) : Option G := match x, y with
  | .int i, .int j => if 0 < j then some (.int (i % j)) else none
  | _, _ => none
noncomputable def gPow (x y : G) (_ : Sto) : Option G := match x, y with
  | .int i, .int j => if 0 ≤ j ∧ j ≤ big ∧ (i.natAbs : Int) < b64 then some (.int (i ^ j.toNat)) else none
  | _, _ => none
def gNeg (x : G) (_ : Sto) : Option G := match x with
  | .int i => some (.int (-i))
  | _ => none

section
variable {r : RP} {T : List (Addr × Str)} {X : Cx} {m : List Addr} {H : Hp} {S : Sto}
theorem TupSq {p : Addr} {vs : List V} (h : (Out r m p ∧ H p = some (.tup vs)) ∨ KTup r.K p vs) : SqT r.K H p vs := h.elim (fun q => .inl (.inl q.2)) .inr
/-- a sequence is read -/
theorem seq_rep (hR : Rep r T m S H) {g : G} {v : V} {l : List G} (h : RepV r m H g v) (e : seqG S g = some l) : ∃ p vs, v = .ref p ∧ vs.length ≤ sizeLine ∧ RepVs r m H l vs ∧ (SqL r.K H p vs ∨ SqT r.K H p vs) := by
  cases h with
  | tup h z t => cases e; exact ⟨_, _, rfl, z, t, .inr (TupSq h)⟩
  | fz h z t => cases e; exact ⟨_, _, rfl, z, t, .inl (h.elim (fun ⟨_, o, q⟩ => .inl (.inr ⟨o, q⟩)) .inr)⟩
  | tl n h z t => cases e; exact ⟨_, _, rfl, z, t, .inl (.inl (.inl h))⟩
  | @ref n a h =>
    have e : lstAt S n = some l := e
    unfold lstAt at e
    cases q : S[n]? with
    | none => rw [q] at e; cases e
    | some o =>
      rw [q] at e
      cases o with
      | lst w l' =>
        cases e
        have ho := hR.obj n a _ h q
        cases w with
        | true => obtain ⟨vs, h1, z, t⟩ := ho; exact ⟨_, vs, rfl, z, t, .inl (.inl (.inl h1))⟩
        | false => obtain ⟨vs, h1, z, t⟩ := ho; exact ⟨_, vs, rfl, z, t, .inl (.inl h1)⟩
      | dic _ _ => cases e
      | ins _ _ => cases e
      | dead => cases e
  | _ => cases e
mutual
theorem dp_rep : ∀ {n : Nat} {g : G} {v : V}, RepV r m H g v → gOk n g = true → Dp r.K H v (gD g)
  | _, _, _, .non, _ => .non
  | _, _, _, .bl b, _ => .bl b
  | _, _, _, .int i, _ => .int i
  | _, _, _, .str s, _ => .str s
  | _, _, _, .ty _, e => by simp [gOk] at e
  | 0, _, _, .tup _ _ _, e => by simp [gOk] at e
  | n + 1, _, _, .tup h z t, e => by
    simp only [gOk] at e
    simp only [gD]
    exact .tup (TupSq h) (dps_rep t e)
  | 0, _, _, .tl _ _ _ _, e => by simp [gOk] at e
  | n + 1, _, _, .tl _ h z t, e => by
    simp only [gOk] at e
    simp only [gD]
    exact .lst (.inl (.inl h)) (dps_rep t e)
  | _, _, _, .ref _, e => by simp [gOk] at e
  | _, _, _, .fz _ _ _, e => by simp [gOk] at e
  | _, _, _, .gl _, e => by simp [gOk] at e
  | _, _, _, .hx _ _ _ _, e => by simp [gOk] at e
  | _, _, _, .clo _ _ _ _ _, e => by simp [gOk] at e
  | _, _, _, .cloS _, e => by simp [gOk] at e
theorem dps_rep : ∀ {n : Nat} {g : List G} {v : List V}, RepVs r m H g v → gOks n g = true → DpAll r.K H v (gDs g)
  | _, _, _, .nil, _ => by simp only [gDs]; exact .nil
  | n, _, _, .cons a b, e => by
    simp only [gOks, Bool.and_eq_true] at e
    simp only [gDs]
    exact .cons (dp_rep a e.1) (dps_rep b e.2)
end
mutual
theorem ok_lay : ∀ {n : Nat} {g : G}, gOk n g = true → (gD g).canLay0 = true ∧ (gD g).depth ≤ n
  | _, .non, _ => by simp [gD, PyData.canLay0, PyData.depth]
  | _, .bl _, _ => by simp [gD, PyData.canLay0, PyData.depth]
  | _, .int _, _ => by simp [gD, PyData.canLay0, PyData.depth]
  | _, .str s, e => by
    simp only [gOk] at e
    simp [gD, PyData.canLay0, PyData.depth, e]
  | 0, .tup _, e => by simp [gOk] at e
  | 0, .tl _, e => by simp [gOk] at e
  | n + 1, .tup l, e => by
    simp only [gOk] at e
    have := oks_lay e
    simp only [gD, PyData.canLay0, PyData.depth]
    exact ⟨this.1, Nat.succ_le_succ this.2⟩
  | n + 1, .tl l, e => by
    simp only [gOk] at e
    have := oks_lay e
    simp only [gD, PyData.canLay0, PyData.depth]
    exact ⟨this.1, Nat.succ_le_succ this.2⟩
  | _, .ts _, e => by simp [gOk] at e
  | _, .td _, e => by simp [gOk] at e
  | _, .ref _, e => by simp [gOk] at e
  | _, .fz _, e => by simp [gOk] at e
  | _, .gl _, e => by simp [gOk] at e
  | _, .ty _, e => by simp [gOk] at e
  | _, .hx _ _, e => by simp [gOk] at e
  | _, .clo _ _ _, e => by simp [gOk] at e
theorem oks_lay : ∀ {n : Nat} {g : List G}, gOks n g = true → PyData.canLayAll0 (gDs g) = true ∧ PyData.depthAll (gDs g) ≤ n
  | _, [], _ => by simp [gDs, PyData.canLayAll0, PyData.depthAll]
  | n, g :: l, e => by
    simp only [gOks, Bool.and_eq_true] at e
    have h1 := ok_lay e.1
    have h2 := oks_lay e.2
    simp only [gDs, PyData.canLayAll0, PyData.depthAll, Bool.and_eq_true]
    exact ⟨⟨h1.1, h2.1⟩, Nat.max_le.mpr ⟨h1.2, h2.2⟩⟩
end
theorem dp_res (hR : Rep r T m S H) {g : G} {v : V} (h : RepV r m H g v) (e : gOk 60 (gRes S g) = true) : Dp r.K H v (gD (gRes S g)) := by
  cases h with
  | @ref n a hn =>
    have hs := seq_rep (l := (lstAt S n).getD []) hR (RepV.ref (r := r) (H := H) hn)
    show Dp r.K H (.ref a) (gD (match lstAt S n with | some l => .tl l | none => .ref n))
    have e : gOk 60 (match lstAt S n with | some l => .tl l | none => .ref n) = true := e
    cases q : lstAt S n with
    | none => rw [q] at e; simp [gOk] at e
    | some l =>
      rw [q] at e hs
      obtain ⟨p, vs, e1, z, t, hq⟩ := hs q
      cases e1
      simp only [gOk] at e
      simp only [gD]
      rcases hq with hq | hq
      · exact .lst hq (dps_rep t e)
      · have ho := hR.obj n a
        unfold lstAt at q
        cases qs : S[n]? with
        | none => rw [qs] at q; cases q
        | some o =>
          rw [qs] at q
          cases o with
          | lst w l' =>
            have q : l' = l := Option.some.inj q
            subst q
            have ho := ho _ hn qs
            cases w with
            | true =>
              obtain ⟨vs', h1, z', t'⟩ := ho
              exact .lst (.inl (.inl h1)) (dps_rep t' e)
            | false =>
              obtain ⟨vs', h1, z', t'⟩ := ho
              exact .lst (.inl h1) (dps_rep t' e)
          | dic _ _ => cases q
          | ins _ _ => cases q
          | dead => cases q
  | non => exact dp_rep (m := m) .non e
  | bl b => exact dp_rep (m := m) (.bl b) e
  | int i => exact dp_rep (m := m) (.int i) e
  | str s => exact dp_rep (m := m) (.str s) e
  | ty n => exact dp_rep (m := m) (.ty n) e
  | tup a b c => exact dp_rep (.tup a b c) e
  | fz a b c => exact dp_rep (.fz a b c) e
  | tl a b c d => exact dp_rep (.tl a b c d) e
  | td a b c => exact dp_rep (.td a b c) e
  | gl a => exact dp_rep (m := m) (.gl a) e
  | hx a b c d => exact dp_rep (.hx a b c d) e
  | clo a b c d f => exact dp_rep (m := m) (.clo a b c d f) e
  | cloS a => exact dp_rep (m := m) (.cloS a) e
theorem ok_shaped {g : G} (h : gOk 60 g = true) : SeqAt.shaped (gD g) = true := by
  have := ok_lay h
  unfold SeqAt.shaped
  simp only [Bool.and_eq_true, decide_eq_true_eq]
  exact ⟨this.1, by omega⟩
theorem sm {x y : V} {H : Hp} {Q : VK} {g : G} (k : ∀ H' v, Ext m H m H' → Rep r T m S H' → RepV r m H' g v → Q v H') (hR : Rep r T m S H) {v : V} (h : RepV r m H g v) : Q v H := k H v (.refl _ _) hR h
theorem op_gEq (hK : X.K = r.K) (hu : X.A.units + 64 < cLine) : OpR X (compareOp .Eq) (rP2 r T gEq) := OpR_imp (op_eq.or (op_eqD hu)) fun x y H Q ⟨m, S, g1, g2, g, hR, h1, h2, e, k⟩ => by
  unfold gEq at e
  split at e
  · cases h1; cases h2; cases e
    exact .inl ⟨rfl, by have := k H _ (.refl _ _) hR (.bl _); simpa using this⟩
  · cases h1; cases h2; cases e
    exact .inl ⟨rfl, by have := k H _ (.refl _ _) hR (.bl _); simpa using this⟩
  · cases h1; cases h2; cases e
    exact .inl ⟨rfl, by have := k H _ (.refl _ _) hR (.bl _); simpa using this⟩
  · unfold gEqD at e
    split at e
    · rename_i c
      cases e
      rw [hK]
      exact .inr ⟨_, _, dp_res hR h1 c.1, dp_res hR h2 c.2, ok_shaped c.1, ok_shaped c.2, k H _ (.refl _ _) hR (.bl _)⟩
    · cases e
theorem op_gNe (hK : X.K = r.K) (hu : X.A.units + 64 < cLine) : OpR X (compareOp .NotEq) (rP2 r T gNe) := OpR_imp (op_ne.or (op_neD hu)) fun x y H Q ⟨m, S, g1, g2, g, hR, h1, h2, e, k⟩ => by
  unfold gNe at e
  split at e
  · cases h1; cases h2; cases e
    exact .inl ⟨rfl, by have := k H _ (.refl _ _) hR (.bl _); simpa using this⟩
  · cases h1; cases h2; cases e
    exact .inl ⟨rfl, by have := k H _ (.refl _ _) hR (.bl _); simpa using this⟩
  · cases h1; cases h2; cases e
    exact .inl ⟨rfl, by have := k H _ (.refl _ _) hR (.bl _); simpa using this⟩
  · unfold gEqD at e
    split at e
    · rename_i c
      cases e
      rw [hK]
      exact .inr ⟨_, _, dp_res hR h1 c.1, dp_res hR h2 c.2, ok_shaped c.1, ok_shaped c.2, k H _ (.refl _ _) hR (.bl _)⟩
    · cases e
theorem op_gLt : OpR X (compareOp .Lt) (rP2 r T gLt) := OpR_imp (op_lt.or op_lt_str) fun x y H Q ⟨m, S, g1, g2, g, hR, h1, h2, e, k⟩ => by
  unfold gLt at e
  split at e
  · cases h1; cases h2; cases e
    exact .inl ⟨_, _, rfl, rfl, k H _ (.refl _ _) hR (.bl _)⟩
  · cases h1; cases h2; cases e
    exact .inr ⟨_, _, rfl, rfl, k H _ (.refl _ _) hR (.bl _)⟩
  · cases e
theorem op_gLe : OpR X (compareOp .LtE) (rP2 r T gLe) := OpR_imp op_le fun x y H Q ⟨m, S, g1, g2, g, hR, h1, h2, e, k⟩ => by
  unfold gLe at e
  split at e
  · cases h1; cases h2; cases e
    exact ⟨_, _, rfl, rfl, k H _ (.refl _ _) hR (.bl _)⟩
  · cases e
theorem op_gGt : OpR X (compareOp .Gt) (rP2 r T gGt) := OpR_imp op_gt fun x y H Q ⟨m, S, g1, g2, g, hR, h1, h2, e, k⟩ => by
  unfold gGt at e
  split at e
  · cases h1; cases h2; cases e
    exact ⟨_, _, rfl, rfl, k H _ (.refl _ _) hR (.bl _)⟩
  · cases e
theorem op_gGe : OpR X (compareOp .GtE) (rP2 r T gGe) := OpR_imp op_ge fun x y H Q ⟨m, S, g1, g2, g, hR, h1, h2, e, k⟩ => by
  unfold gGe at e
  split at e
  · cases h1; cases h2; cases e
    exact ⟨_, _, rfl, rfl, k H _ (.refl _ _) hR (.bl _)⟩
  · cases e
theorem op_gAdd (hK : X.K = r.K) : OpR X (binaryOp .Add) (rP2 r T gAdd) := OpR_imp (op_add.or (op_add_str.or op_catA)) fun x y H Q ⟨m, S, g1, g2, g, hR, h1, h2, e, k⟩ => by
  unfold gAdd at e
  split at e
  · cases h1; cases h2; cases e
    exact .inl ⟨_, _, rfl, rfl, k H _ (.refl _ _) hR (.int _)⟩
  · split at e
    · cases h1; cases h2; cases e
      exact .inr (.inl ⟨_, _, rfl, rfl, by assumption, k H _ (.refl _ _) hR (.str _)⟩)
    · cases e
  · split at e
    · rename_i g1 g2 c
      cases h1 with
      | tup a1 b1 c1 =>
        cases h2 with
        | tup a2 b2 c2 =>
          cases e
          rw [hK]
          have z1 := c1.length
          have z2 := c2.length
          refine .inr (.inr ⟨_, _, _, _, rfl, rfl, TupSq a1, TupSq a2, by omega, fun q => ?_, fun _ q => ?_, fun _ _ p hp => ?_⟩)
          · subst q
            cases c1
            exact k H _ (.refl _ _) hR (.tup a2 b2 c2)
          · subst q
            cases c2
            rw [List.append_nil] at k
            exact k H _ (.refl _ _) hR (.tup a1 b1 c1)
          · exact k _ _ (Ext.new hp _) (hR.fresh hp _) (hR.newTup hp (by rw [List.length_append]; omega) (c1.append c2))
    · cases e
  · cases e
theorem op_gSub : OpR X (binaryOp .Sub) (rP2 r T gSub) := OpR_imp op_sub fun x y H Q ⟨m, S, g1, g2, g, hR, h1, h2, e, k⟩ => by
  unfold gSub at e
  split at e
  · cases h1; cases h2; cases e
    exact ⟨_, _, rfl, rfl, k H _ (.refl _ _) hR (.int _)⟩
  · cases e
theorem op_gFdv : OpR X (binaryOp .FloorDiv) (rP2 r T gFdv) := OpR_imp op_fdiv fun x y H Q ⟨m, S, g1, g2, g, hR, h1, h2, e, k⟩ => by
  unfold gFdv at e
  split at e
  · split at e
    · rename_i c
      cases h1; cases h2; cases e
      exact ⟨_, _, rfl, rfl, (by rw [b30_eq] at c; exact c), k H _ (.refl _ _) hR (.int _)⟩
    · cases e
  · cases e
theorem op_gMod : OpR X (binaryOp .Mod) (rP2 r T gMod) := OpR_imp op_mod fun x y H Q ⟨m, S, g1, g2, g, hR, h1, h2, e, k⟩ => by
  unfold gMod at e
  split at e
  · split at e
    · cases h1; cases h2; cases e
      exact ⟨_, _, rfl, rfl, by assumption, k H _ (.refl _ _) hR (.int _)⟩
    · cases e
  · cases e
theorem op_gPow : OpR X (binaryOp .Pow) (rP2 r T gPow) := OpR_imp op_pow fun x y H Q ⟨m, S, g1, g2, g, hR, h1, h2, e, k⟩ => by
  unfold gPow at e
  split at e
  · split at e
    · rename_i c
      cases h1; cases h2; cases e
      exact ⟨_, _, rfl, rfl, (by obtain ⟨c1, c2, c3⟩ := c; rw [big_eq] at c2; rw [b64_eq] at c3; exact ⟨c1, c2, by omega⟩), k H _ (.refl _ _) hR (.int _)⟩
    · cases e
  · cases e
end
end GL

end

section
set_option Elab.async false
set_option linter.all false
set_option maxRecDepth 100000
set_option maxHeartbeats 4000000
/-! GL: a tuple times 0 or 1. -/
namespace L2
open PySem PySem.Spec PyProof.Rows
theorem tuple_mul_one (l : Addr) (items : Array Value) (n : Nat) (sl : Array (Option Value)) (dd : Option Addr) (u : Tok) :
    Meets (Builtin.«tuple.__mul__» ⟨[.ref l, .int 1 u], []⟩) (fun _ R s => s.heap.get? l = some { cls := .type "tuple", dict := dd, data := .seq items n, slots := sl } ∧
      R (.ok (.ret (Value.ref l))) s) :=
  .of_wp fun prog w A R s h => by
    obtain ⟨hp, g, d, tk, os⟩ := s
    obtain ⟨hl, h⟩ := h
    have f1 := AutoSeq1.idx_int
    wp_walk using wpAny_loadPart' hl
    have c1 : (items.isEmpty || (1 : Int) == 1) = true := by simp
    repeat (first
      | (refine wpAny_ite_true (by simp) ?_; wp_walk using wpAny_loadPart' hl))
    exact ⟨_, rfl, h⟩
theorem tuple_mul_zero (l : Addr) (items : Array Value) (n : Nat) (dd : Option Addr) (sl : Array (Option Value)) (u : Tok) (hne : items.isEmpty = false) :
    Meets (Builtin.«tuple.__mul__» ⟨[.ref l, .int 0 u], []⟩) (fun _ R s => s.heap.get? l = some { cls := .type "tuple", dict := dd, data := .seq items n, slots := sl } ∧
      R (.ok (.ret (Value.ref s.heap.objs.size))) { s with heap := s.heap.push { cls := Value.type "tuple", data := Data.seq #[] }, toks := s.toks }) :=
  .of_wp fun prog w A R s h => by
    obtain ⟨hp, g, d, tk, os⟩ := s
    obtain ⟨hl, h⟩ := h
    have f1 := AutoSeq1.idx_int
    wp_walk using wpAny_loadPart' hl
    have c1 : (items.isEmpty || (0 : Int) == 1) = false := by rw [hne]; rfl
    repeat (first
      | (refine wpAny_ite_false (decide_eq_false (by rw [c1]; exact Bool.false_ne_true)) ?_; wp_walk using wpAny_loadPart' hl))
    exact ⟨_, rfl, h⟩
def rRepS (K : PySem.W.Frag) : R2 := fun x y H Q => ∃ l k xs, x = .ref l ∧ y = .int k ∧ SqT K H l xs ∧ xs ≠ [] ∧ ((k = 1 ∧ Q (.ref l) H) ∨ (k = 0 ∧ ∀ p, H p = none → Q (.ref p) (upd H p (.tup []))))
theorem op_repS {X : Cx} : OpR X (binaryOp .Mult) (rRepS X.K) := by
  intro pins s σ H x y v u Q I rx ry h
  obtain ⟨l, k, xs, rfl, rfl, hT, hne, q⟩ := h
  cases rx
  obtain ⟨t, rfl⟩ := ry
  obtain ⟨its, r, ⟨⟨cls, dd, data, sl⟩, ho, hc, n, hd⟩, hs⟩ := I.tuple hT
  simp only at hc hd
  subst hc hd
  have hle : its.length = xs.length := r.length.symm
  have hn : its ≠ [] := fun e => hne (by
    rw [e] at hle
    exact List.eq_nil_of_length_eq_zero hle.symm)
  have hi : its.toArray.isEmpty = false := by
    cases its with
    | nil => exact absurd rfl hn
    | cons a b => rfl
  rcases q with ⟨rfl, q⟩ | ⟨rfl, q⟩
  · refine wpAny_binaryOp_repeat_ref (T := "tuple") (U := "int") (by decide) ⟨_, ho, rfl⟩ (fun s' => typeIs_int s' 1 t) noFill_tuple_mul F.fills_int_mul F.slot_int_rmul repeat_tuple F.slot_int_index.lookup
      (call_meets F.slot_int_rmul (typeIs_int s 1 t) F.entry_int_rmul (F.args_int_rmul_2 _ _) (int_rmul_tuple 1 t l its.toArray n dd sl)
        ⟨ho, rfl, ⟨_, ho, rfl⟩, call_meets F.slot_tuple_mul ⟨_, ho, rfl⟩ F.entry_tuple_mul (F.args_tuple_mul_2 _ _) (tuple_mul_one l its.toArray n sl dd t) ⟨ho, ?_⟩⟩)
    exact ⟨.ref l, _, I, rfl, q⟩
  · refine wpAny_binaryOp_repeat_ref (T := "tuple") (U := "int") (by decide) ⟨_, ho, rfl⟩ (fun s' => typeIs_int s' 0 t) noFill_tuple_mul F.fills_int_mul F.slot_int_rmul repeat_tuple F.slot_int_index.lookup
      (call_meets F.slot_int_rmul (typeIs_int s 0 t) F.entry_int_rmul (F.args_int_rmul_2 _ _) (int_rmul_tuple 0 t l its.toArray n dd sl)
        ⟨ho, rfl, ⟨_, ho, rfl⟩, call_meets F.slot_tuple_mul ⟨_, ho, rfl⟩ F.entry_tuple_mul (F.args_tuple_mul_2 _ _) (tuple_mul_zero l its.toArray n dd sl t hi) ⟨ho, ?_⟩⟩)
    refine ⟨.ref s.heap.objs.size, _, I.laid (t' := s.toks) (o := .tup []) (fun b ob q => Heap.get?_push_of_some _ q) (Nat.le_refl _) ?_, rfl, q _ (I.hok.fresh (Nat.le_refl _))⟩
    exact ⟨by simp, _, .nil, IsTup.new _ _⟩
end L2

end

section
set_option Elab.async false
set_option linter.all false
set_option maxRecDepth 100000
set_option maxHeartbeats 4000000
/-! GL: sequences, built-ins. -/
namespace GL
open PySem PySem.Spec PyProof.Rows L2

def lstW (S : Sto) : G → Option (List G)
  | .tl l => some l
  | .ref n => (match S[n]? with
    | some (.lst true l) => some l
    | _ => none)
  | _ => none
/-- + of all kinds -/
def gAddA (x y : G) (S : Sto) : Option G := match gAdd x y S with
  | some g => some g
  | none => (match lstW S x, lstW S y with
    | some i, some j => if i.length + j.length ≤ sizeLine then some (.tl (i ++ j)) else none
    | _, _ => none)
def repL {a : Type} (n : Nat) (l : List a) : List a := (List.replicate n l).flatten
def strMulOk (x : Str) (n : Int) : Bool := decide (0 ≤ n) && decide (n ≤ 10000) && decide (x.length ≤ 1000)
/-- * of all kinds -/
noncomputable def gMulA (x y : G) (S : Sto) : Option G := match x, y with
  | .int i, .int j => if mulOk i j then some (.int (i * j)) else none
  | .str s, .int k => if strMulOk s k then some (.str (Txt.mul s k)) else none
  | .tup l, .int k => if l ≠ [] ∧ 0 ≤ k ∧ k ≤ 1000 ∧ l.length ≤ 1000 then some (.tup (repL k.toNat l)) else none
  | x, .int k => (match lstW S x with
    | some l => if 0 ≤ k ∧ k ≤ 1000 ∧ l.length ≤ 1000 then some (.tl (repL k.toNat l)) else none
    | none => none)
  | _, _ => none
def gIx (x y : G) (S : Sto) : Option G := match y with
  | .int i => (match x with
    | .str z => if z.length ≤ sizeLine then (atI z.cps.toList i).map fun c => .str ⟨#[c]⟩ else none
    | x => (match seqG S x with
      | some l => atI l i
      | none => none))
  | _ => none
def cutG (l : List G) (lo hi : Option Int) : List G := (l.drop (HT.sIx l.length 0 lo)).take (HT.sIx l.length l.length hi - HT.sIx l.length 0 lo)
def gSl (x : G) (lo hi : Option Int) (S : Sto) : Option G := match x with
  | .str z => if z.length ≤ sizeLine then some (.str (cutS z lo hi)) else none
  | .tup l => some (.tup (cutG l lo hi))
  | x => (match seqG S x with
    | some l => some (.tl (cutG l lo hi))
    | none => none)
def oE (e : Option Ev) : Loc → Sto → R (Option Int) := fun l S => match e with
  | none => .ok none S
  | some e => rb (e l S) fun x S => match x with
    | .int i => .ok (some i) S
    | _ => .bad
def eSl (o : Ev) (lo hi : Option Ev) : Ev := fun l S => rb (o l S) fun x S => rb (oE lo l S) fun i S => rb (oE hi l S) fun j S => ro (gSl x i j S) S
def gRev (x : G) (S : Sto) : Option G := match x with
  | .tup _ => none
  | x => (seqG S x).map fun l => .tl l.reverse
def gTup (xs : List G) (_ : Sto) : Option G := if xs.length ≤ sizeLine then some (.tup xs) else none
def gLst (xs : List G) (_ : Sto) : Option G := if xs.length ≤ sizeLine then some (.tl xs) else none
def gLen (xs : List G) (S : Sto) : Option G := match xs with
  | [.str z] => if z.length ≤ sizeLine then some (.int z.length) else none
  | [x] => (seqG S x).map fun l => .int l.length
  | _ => none
def gTuple (xs : List G) (S : Sto) : Option G := match xs with
  | [x] => (seqG S x).map fun l => .tup l
  | _ => none
def gList (xs : List G) (S : Sto) : Option G := match xs with
  | [x] => (seqG S x).map fun l => .tl l
  | _ => none
def gInt (xs : List G) (_ : Sto) : Option G := match xs with
  | [.int i] => some (.int i)
  | [.bl b] => some (.int (if b then 1 else 0))
  | [.str z] => if z.length ≤ 640 then (PySem.intText? z).map .int else none
  | _ => none
def gAbs (xs : List G) (_ : Sto) : Option G := match xs with
  | [.int i] => some (.int (if i < 0 then -i else i))
  | _ => none
def intsG : List G → Option (List Int)
  | [] => some []
  | .int i :: r => (intsG r).map fun l => i :: l
  | _ :: _ => none
def blsG : List G → Option (List Bool)
  | [] => some []
  | .bl i :: r => (blsG r).map fun l => i :: l
  | _ :: _ => none
def strsG : List G → Option (List Str)
  | [] => some []
  | .str i :: r => (strsG r).map fun l => i :: l
  | _ :: _ => none
def leastI : List Int → Option Int
  | [] => none
  | i :: r => some (r.foldl (fun a b => if b < a then b else a) i)
def gMin (xs : List G) (S : Sto) : Option G := match xs with
  | [.int i, .int j] => some (.int (if j < i then j else i))
  | [.tl l] => (intsG l).bind fun l => (leastI l).map .int
  | [.ref n] => (lstAt S n).bind fun l => (intsG l).bind fun l => (leastI l).map .int
  | _ => none
def gMax (xs : List G) (_ : Sto) : Option G := match xs with
  | [.int i, .int j] => some (.int (if j > i then j else i))
  | _ => none
def gSum (xs : List G) (S : Sto) : Option G := match xs with
  | [.tup _] => none
  | [x] => (seqG S x).bind fun l => (intsG l).map fun l => .int l.sum
  | _ => none
def gAll (xs : List G) (S : Sto) : Option G := match xs with
  | [.tup _] => none
  | [x] => (seqG S x).bind fun l => (blsG l).map fun l => .bl (l.all id)
  | _ => none
def gAny (xs : List G) (S : Sto) : Option G := match xs with
  | [.tup _] => none
  | [x] => (seqG S x).bind fun l => (blsG l).map fun l => .bl (l.any id)
  | _ => none

section
variable {r : RP} {T : List (Addr × Str)} {X : Cx} {m : List Addr} {H : Hp} {S : Sto} {W : WX} {a b c : Expr} {fa fb fc : Ev} {pos : Pos}
theorem lstW_rep (hR : Rep r T m S H) {g : G} {v : V} {l : List G} (h : RepV r m H g v) (e : lstW S g = some l) : ∃ p vs, v = .ref p ∧ vs.length ≤ sizeLine ∧ RepVs r m H l vs ∧ H p = some (.lst vs) := by
  cases h with
  | tl n h z t => cases e; exact ⟨_, _, rfl, z, t, h⟩
  | @ref n a h =>
    have e : (match S[n]? with
      | some (.lst true l) => some l
      | _ => none) = some l := e
    cases q : S[n]? with
    | none => rw [q] at e; cases e
    | some o =>
      rw [q] at e
      cases o with
      | lst w l' =>
        cases w with
        | true =>
          cases e
          obtain ⟨vs, h1, z, t⟩ := hR.obj n a _ h q
          exact ⟨_, vs, rfl, z, t, h1⟩
        | false => cases e
      | dic _ _ => cases e
      | ins _ _ => cases e
      | dead => cases e
  | _ => cases e
theorem seqL_rep (hR : Rep r T m S H) {g : G} {v : V} {l : List G} (h : RepV r m H g v) (nt : ∀ l, g ≠ .tup l) (e : seqG S g = some l) : ∃ p vs, v = .ref p ∧ vs.length ≤ sizeLine ∧ RepVs r m H l vs ∧ SqL r.K H p vs := by
  cases h with
  | tup => exact absurd rfl (nt _)
  | fz h z t => cases e; exact ⟨_, _, rfl, z, t, h.elim (fun ⟨_, o, q⟩ => .inl (.inr ⟨o, q⟩)) .inr⟩
  | tl n h z t => cases e; exact ⟨_, _, rfl, z, t, .inl (.inl h)⟩
  | @ref n a h =>
    have e : lstAt S n = some l := e
    unfold lstAt at e
    cases q : S[n]? with
    | none => rw [q] at e; cases e
    | some o =>
      rw [q] at e
      cases o with
      | lst w l' =>
        cases e
        have ho := hR.obj n a _ h q
        cases w with
        | true => obtain ⟨vs, h1, z, t⟩ := ho; exact ⟨_, vs, rfl, z, t, .inl (.inl h1)⟩
        | false => obtain ⟨vs, h1, z, t⟩ := ho; exact ⟨_, vs, rfl, z, t, .inl h1⟩
      | dic _ _ => cases e
      | ins _ _ => cases e
      | dead => cases e
  | _ => cases e
theorem op_gAddA (hK : X.K = r.K) : OpR X (binaryOp .Add) (rP2 r T gAddA) := OpR_imp ((op_gAdd (T := T) hK).or op_cat) fun x y H Q ⟨m, S, g1, g2, g, hR, h1, h2, e, k⟩ => by
  unfold gAddA at e
  split at e
  · rename_i g' e1
    cases e
    exact .inl ⟨m, S, g1, g2, _, hR, h1, h2, e1, k⟩
  · split at e
    · rename_i i j e1 e2
      split at e
      · rename_i c
        cases e
        obtain ⟨p, vs, rfl, z1, t1, q1⟩ := lstW_rep hR h1 e1
        obtain ⟨p2, vs2, rfl, z2, t2, q2⟩ := lstW_rep hR h2 e2
        have l1 := t1.length
        have l2 := t2.length
        refine .inr ⟨_, _, _, _, rfl, rfl, q1, q2, by omega, fun p hp => ?_⟩
        exact k _ _ (Ext.new hp _) (hR.fresh hp _) (hR.newTl hp (by rw [List.length_append]; omega) (t1.append t2))
      · cases e
    · cases e
theorem atI_rep {l : List G} {vs : List V} {i : Int} {g : G} (t : RepVs r m H l vs) (e : atI l i = some g) : ∃ v, atI vs i = some v ∧ RepV r m H g v := by
  unfold atI at e ⊢
  rw [← t.length]
  cases q : ixN l.length i with
  | none => rw [q] at e; cases e
  | some j =>
    rw [q] at e
    exact t.get e
theorem IxR_imp {X : Cx} {t t' : R2} (h : IxR X t) (i : ∀ x y H Q, t' x y H Q → t x y H Q) : IxR X t' := by
  intro value slice pins s l H x y v u Q I rx ry w hs
  exact h value slice pins s l H x y v u Q I rx ry (i _ _ _ _ w) hs
theorem MtR_imp {X : Cx} {id : String} {t t' : V → List V → Hp → VK → Prop} (h : MtR X id t) (i : ∀ x y H Q, t' x y H Q → t x y H Q) : MtR X id t' := by
  intro pins s l H x xs v us Q I rx ry w
  exact h pins s l H x xs v us Q I rx ry (i _ _ _ _ w)
theorem SlR_imp {X : Cx} {t t' : V → Option Int → Option Int → Hp → VK → Prop} (h : SlR X t) (i : ∀ x lo hi H Q, t' x lo hi H Q → t x lo hi H Q) : SlR X t' := fun _ _ _ _ _ _ _ _ _ _ _ _ I rx a b c w => h _ _ _ _ _ _ _ _ _ _ _ _ I rx a b c (i _ _ _ _ _ w)
theorem ix_gIx (hK : X.K = r.K) : IxR X (rP2 r T gIx) := IxR_imp ix_seq (fun x y H Q h => by
  obtain ⟨m, S, g1, g2, g, hR, h1, h2, e, k⟩ := h
  rw [hK]
  unfold gIx at e
  split at e
  · rename_i i
    cases h2
    split at e
    · cases h1
      split at e
      · rename_i z c
        cases q : atI z.cps.toList i with
        | none => rw [q] at e; cases e
        | some ch =>
          rw [q] at e; cases e
          exact .inr (.inr ⟨z, i, ch, rfl, rfl, c, q, k H _ (.refl _ _) hR (.str _)⟩)
      · cases e
    · split at e
      · rename_i l' e1
        obtain ⟨p, vs, rfl, z1, t1, q1⟩ := seq_rep hR h1 e1
        obtain ⟨v', e2, t2⟩ := atI_rep t1 e
        rcases q1 with q1 | q1
        · exact .inl ⟨p, vs, i, v', rfl, rfl, q1, e2, k H _ (.refl _ _) hR t2⟩
        · exact .inr (.inl ⟨p, vs, i, v', rfl, rfl, q1, e2, k H _ (.refl _ _) hR t2⟩)
      · cases e
  · cases e)
theorem g_ix {f : G → G → Sto → Option G} (ho : IxR X (rP2 r T f)) (ha : PE X a (tF r T W fa)) (hb : PE X b (tF r T W fb)) (hs : PlainIx b) : PE X (.Subscript a b pos) (tF r T W (e2 f fa fb)) :=
  PE_imp (pe_ix ho ha hb hs) fun s H Q ⟨m, S, l, hR, hL, q⟩ => mono_tF (stE hR hL q) fun x H1 ⟨m1, S1, g, e, hR1, hL1, h1, q1⟩ => mono_tF (stE hR1 hL1 q1) fun y H2 ⟨m2, S2, g2, e2, hR2, hL2, h2, q2⟩ => fin2 hR2 (h1.ext e2) h2 q2
/-- slices -/
def rPS (r : RP) (T : List (Addr × Str)) : V → Option Int → Option Int → Hp → VK → Prop := fun x lo hi H Q => ∃ m S g1 g, Rep r T m S H ∧ RepV r m H g1 x ∧ gSl g1 lo hi S = some g ∧
  ∀ H' v, Ext m H m H' → Rep r T m S H' → RepV r m H' g v → Q v H'
theorem cut_rep {l : List G} {vs : List V} (t : RepVs r m H l vs) (lo hi : Option Int) : RepVs r m H (cutG l lo hi) (cutV vs lo hi) := by
  unfold cutG cutV
  rw [t.length]
  exact (t.drop _).take _
theorem sl_gSl (hK : X.K = r.K) : SlR X (rPS r T) := by
  refine SlR_imp (sl_list.or (sl_tupA.or sl_str)) fun x lo hi H Q ⟨m, S, g1, g, hR, h1, e, k⟩ => ?_
  rw [hK]
  unfold gSl at e
  split at e
  · split at e
    · cases e
      cases h1
      exact .inr (.inr ⟨_, rfl, by assumption, k H _ (.refl _ _) hR (.str _)⟩)
    · cases e
  · cases e
    cases h1 with
    | tup h z t =>
      have cl := t.length
      have q := cut_rep t lo hi
      refine .inr (.inl ⟨_, _, rfl, TupSq h, fun w => ?_, fun _ p hp => ?_⟩)
      · refine k H _ (.refl _ _) hR (.tup h z ?_)
        unfold cutG
        rw [cl, w.1, w.2]
        simp only [List.drop_zero, Nat.sub_zero, ← cl, List.take_length]
        exact t
      · exact k _ _ (Ext.new hp _) (hR.fresh hp _) (hR.newTup hp (Nat.le_trans (cutV_length _ _ _) z) q)
  · split at e
    · rename_i nt _ l e1
      cases e
      obtain ⟨p, vs, rfl, z1, t1, q1⟩ := seqL_rep hR h1 (fun l z => nt l z) e1
      exact .inl ⟨_, _, rfl, q1, fun p hp => k _ _ (Ext.new hp _) (hR.fresh hp _) (hR.newTl hp (Nat.le_trans (cutV_length _ _ _) z1) (cut_rep t1 lo hi))⟩
    · cases e
theorem g_rev {k : Nat} {p1 p2 p3 : Pos} (hK : X.K = r.K) (ha : PE X a (tF r T W fa)) : PE X (.Subscript a (.Slice none none (some (.UnaryOp .USub (.Constant (.int 1) k p1) p2)) p3) pos) (tF r T W (e1 gRev fa)) :=
  PE_imp (pe_revL ha) fun s H Q ⟨m, S, l, hR, hL, q⟩ => mono_tF (stE hR hL q) fun x H1 ⟨m1, S1, g, e, hR1, hL1, h1, q1⟩ => by
    obtain ⟨m2, S2, g1, g2, hR2, h2, e2, k⟩ := fin1 hR1 h1 q1
    unfold gRev at e2
    split at e2
    · cases e2
    · rename_i nt
      cases e3 : seqG S2 g1 with
      | none => rw [e3] at e2; cases e2
      | some l2 =>
        rw [e3] at e2
        cases e2
        obtain ⟨p, vs, rfl, z1, t1, q1⟩ := seqL_rep hR2 h2 (fun l z => nt l z) e3
        rw [hK]
        exact ⟨_, _, rfl, q1, fun p hp => k _ _ (Ext.new hp _) (hR2.fresh hp _) (hR2.newTl hp (by rw [List.length_reverse]; exact z1) t1.reverse)⟩
/-- a part of a slice -/
def oEr (r : RP) (T : List (Addr × Str)) (W : WX) (e : Option Ev) : TO := fun s H Q => ∃ m S l, Rep r T m S H ∧ RepL r m H l s ∧ Pst r T W (fun _ _ (x y : Option Int) => x = y) s m H (oE e l S) Q
theorem g_ono : PO X none (oEr r T W none) := by
  refine ⟨fun pins s l H Q I ⟨m, S, l', hR, hL, q⟩ => ?_⟩
  exact po_none.run pins s l H Q I (q.ok_of hR rfl)
theorem PO_imp {X : Cx} {e : Option Expr} {t t' : TO} (h : PO X e t) (i : ∀ s H Q, t' s H Q → t s H Q) : PO X e t' := ⟨fun pins s l H Q I w => h.run pins s l H Q I (i _ _ _ w)⟩
theorem g_oso (h : PE X a (tF r T W fa)) : PO X (some a) (oEr r T W (some fa)) :=
  PO_imp (po_some h) fun s H Q ⟨m, S, l, hR, hL, q⟩ => mono_tF (stE (rel2 := fun _ _ (x y : Option Int) => x = y) hR hL q) fun x H1 ⟨m1, S1, g, e, hR1, hL1, h1, q1⟩ => by
    cases g <;> try exact False.elim q1
    cases h1
    exact ⟨_, rfl, q1.ok_of hR1 rfl⟩
theorem stO {s : L2.St} {l : Loc} {c d : Type} {rel2 : List Addr → Hp → c → d → Prop} {Q : d → Hp → Prop} {e : Option Ev} {k : Option Int → Sto → R c} (hR : Rep r T m S H) (hL : RepL r m H l s) (h : Pst r T W rel2 s m H (rb (oE e l S) k) Q) :
    oEr r T W e s H (StepE r T W (fun _ _ (x y : Option Int) => x = y) rel2 s l m H k Q) :=
  ⟨m, S, l, hR, hL, Pst.mono (Pst.bind (rel := fun _ _ (x y : Option Int) => x = y) h) fun x H1 ⟨m1, S1, g, e, a, b, q⟩ => ⟨m1, S1, g, e, a, hL.ext e, b, q⟩⟩
theorem mono_oEr {f : Option Ev} {s : L2.St} {H : Hp} {Q Q' : Option Int → Hp → Prop} (h : oEr r T W f s H Q) (i : ∀ v H', Q v H' → Q' v H') : oEr r T W f s H Q' :=
  let ⟨m, S, l, a, b, q⟩ := h; ⟨m, S, l, a, b, q.mono i⟩
theorem g_sl {lo hi : Option Expr} {fl fh : Option Ev} {p2 : Pos} (hK : X.K = r.K) (ha : PE X a (tF r T W fa)) (hl : PO X lo (oEr r T W fl)) (hh : PO X hi (oEr r T W fh)) : PE X (.Subscript a (.Slice lo hi none p2) pos) (tF r T W (eSl fa fl fh)) :=
  PE_imp (pe_slice (sl_gSl (T := T) hK) ha hl hh) fun s H Q ⟨m, S, l, hR, hL, q⟩ => mono_tF (stE hR hL q) fun x H1 ⟨m1, S1, g, e, hR1, hL1, h1, q1⟩ =>
    mono_oEr (stO hR1 hL1 q1) fun i H2 ⟨m2, S2, i2, e2, hR2, hL2, ei, q2⟩ => mono_oEr (stO hR2 hL2 q2) fun j H3 ⟨m3, S3, j2, e3, hR3, hL3, ej, q3⟩ => by
      subst ei ej
      dsimp only at q3
      cases e4 : gSl g i2 j2 S3 with
      | none => rw [e4] at q3; exact False.elim q3
      | some g' => rw [e4] at q3; exact ⟨m3, S3, g, g', hR3, (h1.ext e2).ext e3, e4, fun H' v e' a b => q3 m3 H' v e' a b⟩
/-! displays -/
variable {es : List Expr} {fs : As}
theorem g_tup {k : Nat} (h : PA X es (tFA r T W fs)) : PE X (.Tuple es k pos) (tF r T W (eA gTup fs)) :=
  PE_imp (pe_tup h) fun s H Q ⟨m, S, l, hR, hL, q⟩ => mono_tFA (stA hR hL q) fun x H1 ⟨m1, S1, g, e, hR1, hL1, h1, q1⟩ => by
    obtain ⟨m2, S2, g1, g2, hR2, h2, e2, k⟩ := finA hR1 h1 q1
    unfold gTup at e2
    split at e2
    · cases e2
      have hl := h2.length
      exact ⟨by omega, fun p hp => k _ _ (Ext.new hp _) (hR2.fresh hp _) (hR2.newTup hp (by omega) h2)⟩
    · cases e2
theorem g_lst (h : PA X es (tFA r T W fs)) : PE X (.List es pos) (tF r T W (eA gLst fs)) :=
  PE_imp (pe_lst h) fun s H Q ⟨m, S, l, hR, hL, q⟩ => mono_tFA (stA hR hL q) fun x H1 ⟨m1, S1, g, e, hR1, hL1, h1, q1⟩ => by
    obtain ⟨m2, S2, g1, g2, hR2, h2, e2, k⟩ := finA hR1 h1 q1
    unfold gLst at e2
    split at e2
    · cases e2
      have hl := h2.length
      exact ⟨by omega, fun p hp => k _ _ (Ext.new hp _) (hR2.fresh hp _) (hR2.newTl hp (by omega) h2)⟩
    · cases e2
/-- a list that goes to the store -/
def eLstA (fs : As) : Ev := fun l S => rb (fs l S) fun xs S => if xs.length ≤ sizeLine then .ok (.ref S.length) (S ++ [.lst true xs]) else .bad
theorem g_lstA (h : PA X es (tFA r T W fs)) : PE X (.List es pos) (tF r T W (eLstA fs)) :=
  PE_imp (pe_lst h) fun s H Q ⟨m, S, l, hR, hL, q⟩ => mono_tFA (stA hR hL q) fun x H1 ⟨m1, S1, g, e, hR1, hL1, h1, q1⟩ => by
    have hl := h1.length
    dsimp only at q1
    split at q1
    · refine ⟨by omega, fun p hp => ?_⟩
      have ex : Ext m1 H1 (m1 ++ [p]) (upd H1 p (.lst x)) := Ext.alloc hp _
      refine q1 (m1 ++ [p]) _ _ ex (hR1.alloc hp ⟨x, upd_same, by omega, h1.ext ex⟩) (.ref ?_)
      rw [← hR1.len, List.getElem?_append_right (Nat.le_refl _)]
      simp
    · exact False.elim q1
/-- chains -/
theorem g_ch {op op' : CmpOp} {f g : G → G → Sto → Option G} (ho : OpR X (compareOp op) (rP2 r T f)) (ho' : OpR X (compareOp op') (rP2 r T g)) (ha : PE X a (tF r T W fa)) (hb : PE X b (tF r T W fb)) (hc : PE X c (tF r T W fc))
    (hm : lastMarks [op, op'] [b, c] = false) {s : L2.St} {H : Hp} {Q : VK} (h : tF r T W (eCh f g fa fb fc) s H Q) : tChain (rP2 r T f) (rP2 r T g) (tF r T W fa) (tF r T W fb) (tF r T W fc) s H Q := by
  obtain ⟨m, S, l, hR, hL, q⟩ := h
  refine mono_tF (stE hR hL q) fun x H1 ⟨m1, S1, g1, e, hR1, hL1, h1, q1⟩ => mono_tF (stE hR1 hL1 q1) fun y H2 ⟨m2, S2, g2, e2, hR2, hL2, h2, q2⟩ => ?_
  dsimp only at q2
  cases e3 : f g1 g2 S2 with
  | none => rw [e3] at q2; exact False.elim q2
  | some z =>
    rw [e3] at q2
    refine ⟨m2, S2, g1, g2, z, hR2, h1.ext e2, h2, e3, fun H' v e' a' b' => ?_⟩
    obtain ⟨k, e4, e5, q3⟩ := bof_ok b' (Pst.ext e' q2)
    refine ⟨k, e5, ?_⟩
    cases k with
    | false => rw [if_neg Bool.false_ne_true] at q3 ⊢; exact q3.ok_of a' (.bl false)
    | true =>
      rw [if_pos rfl] at q3 ⊢
      exact mono_tF (stE a' (hL2.ext e') q3) fun w' H4 ⟨m4, S4, g4, e4, hR4, hL4, h4, q4⟩ => fin2 hR4 ((h2.ext e').ext e4) h4 q4
theorem g_chE {op op' : CmpOp} {f g : G → G → Sto → Option G} (ho : OpR X (compareOp op) (rP2 r T f)) (ho' : OpR X (compareOp op') (rP2 r T g)) (ha : PE X a (tF r T W fa)) (hb : PE X b (tF r T W fb)) (hc : PE X c (tF r T W fc))
    (hm : lastMarks [op, op'] [b, c] = false) : PE X (.Compare a [op, op'] [b, c] pos) (tF r T W (eCh f g fa fb fc)) := PE_imp (pe_chain ho ho' ha hb hc hm) fun s H Q h => g_ch ho ho' ha hb hc hm h
/-- a test by a value -/
theorem tV_imp {f : Ev} {s : L2.St} {H : Hp} {Q : Bool → Hp → Prop} (h : tFT r T W (tV f) s H Q) : tF r T W f s H fun x H' => ∃ k, x = .bl k ∧ Q k H' := by
  obtain ⟨m, S, l, hR, hL, q⟩ := h
  exact mono_tF (stE hR hL q) fun x H1 ⟨m1, S1, g, e, hR1, hL1, h1, q1⟩ => by
    obtain ⟨k, e4, e5, q3⟩ := bof_okT h1 q1
    exact ⟨k, e5, q3.ok_of hR1 rfl⟩
theorem g_chT {op op' : CmpOp} {f g : G → G → Sto → Option G} (ho : OpR X (compareOp op) (rP2 r T f)) (ho' : OpR X (compareOp op') (rP2 r T g)) (ha : PE X a (tF r T W fa)) (hb : PE X b (tF r T W fb)) (hc : PE X c (tF r T W fc))
    (hm : lastMarks [op, op'] [b, c] = false) : PT X (.Compare a [op, op'] [b, c] pos) (tFT r T W (tV (eCh f g fa fb fc))) := PT_imp (pt_chain ho ho' ha hb hc hm) fun s H Q h => g_ch ho ho' ha hb hc hm (tV_imp h)
/-- not, as a value; unary minus -/
theorem g_not {ta : Te} (h : PE X a (tF r T W fa)) (ht : ∀ l S, ta l S = tV fa l S) : PE X (.UnaryOp .Not a pos) (tF r T W (eNot ta)) :=
  PE_imp (pe_not h) fun s H Q ⟨m, S, l, hR, hL, q⟩ => by
    have q' : Pst r T W (RepV r) s m H (rb (fa l S) fun x S => bof x fun c => .ok (.bl (!c)) S) Q := by
      unfold eNot at q
      rw [ht] at q
      unfold tV at q
      revert q
      cases fa l S with
      | ok x S1 =>
        show Pst _ _ _ _ _ _ _ (rb (bof x _) _) _ → Pst _ _ _ _ _ _ _ (bof x _) _
        cases x <;> exact id
      | exc _ _ _ => exact id
      | bad => exact id
    refine mono_tF (stE hR hL q') fun x H1 ⟨m1, S1, g, e, hR1, hL1, h1, q1⟩ => ?_
    obtain ⟨k, e4, e5, q3⟩ := bof_ok h1 q1
    exact ⟨k, e5, q3.ok_of hR1 (.bl _)⟩
theorem g_neg (h : PE X a (tF r T W fa)) : PE X (.UnaryOp .USub a pos) (tF r T W (e1 gNeg fa)) :=
  PE_imp (pe_un un_neg h) fun s H Q ⟨m, S, l, hR, hL, q⟩ => mono_tF (stE hR hL q) fun x H1 ⟨m1, S1, g, e, hR1, hL1, h1, q1⟩ => by
    obtain ⟨m2, S2, g1, g2, hR2, h2, e2, k⟩ := fin1 hR1 h1 q1
    unfold gNeg at e2
    split at e2
    · cases h2
      cases e2
      exact ⟨_, rfl, k _ _ (.refl _ _) hR2 (.int _)⟩
    · cases e2
end
end GL

end

section
set_option Elab.async false
set_option linter.all false
set_option maxRecDepth 100000
set_option maxHeartbeats 4000000
/-! GL: built-ins that are called by their names. -/
namespace GL
open PySem PySem.Spec PyProof.Rows L2
section
variable {r : RP} {T : List (Addr × Str)} {X : Cx} {m : List Addr} {H : Hp} {S : Sto} {W : WX} {a b c : Expr} {fa fb fc : Ev} {pos p : Pos} {es : List Expr} {fs : As}
theorem g_callB {x : Str} {e : Expr} {id : String} {f : List G → Sto → Option G} (hc : CallR X (.builtin id) (rPA r T f)) (hg : Gl X x) (hm : X.mg x = none) (hv : bootBuiltins x = some (.builtin id)) (ha : PA X (e :: es) (tFA r T W fs))
    (hn : x ≠ "__name__") (hdb : (x == ("__debug__" : Str)) = false) (he : starEach (e :: es) X.env = (false, eval e X.env) :: starEach es X.env) (hpl : (backTo pos (starEach es X.env)).any (·.1) = false) :
    PE X (.Call (.Name x p) (e :: es) [] pos) (tF r T W (eA f fs)) :=
  PE_imp (pe_callB hc hg hm hv ha hn hdb he hpl) fun s H Q ⟨m, S, l, hR, hL, q⟩ => mono_tFA (stA hR hL q) fun x H1 ⟨m1, S1, g, e, hR1, hL1, h1, q1⟩ => finA hR1 h1 q1
theorem g_callTy {x : Str} {e : Expr} {id : String} {f : List G → Sto → Option G} (hc : CallR X (.type id) (rPA r T f)) (hg : Gl X x) (hm : X.mg x = none) (hv : bootBuiltins x = some (.type id)) (ha : PA X (e :: es) (tFA r T W fs))
    (hn : x ≠ "__name__") (hdb : (x == ("__debug__" : Str)) = false) (he : starEach (e :: es) X.env = (false, eval e X.env) :: starEach es X.env) (hpl : (backTo pos (starEach es X.env)).any (·.1) = false) :
    PE X (.Call (.Name x p) (e :: es) [] pos) (tF r T W (eA f fs)) :=
  PE_imp (pe_callTy hc hg hm hv ha hn hdb he hpl) fun s H Q ⟨m, S, l, hR, hL, q⟩ => mono_tFA (stA hR hL q) fun x H1 ⟨m1, S1, g, e, hR1, hL1, h1, q1⟩ => finA hR1 h1 q1
theorem len1 {g : G} {xs : List V} (h : RepVs r m H [g] xs) : ∃ v, xs = [v] ∧ RepV r m H g v := by
  cases h with
  | cons a b => cases b; exact ⟨_, rfl, a⟩
theorem len2 {g g2 : G} {xs : List V} (h : RepVs r m H [g, g2] xs) : ∃ v v2, xs = [v, v2] ∧ RepV r m H g v ∧ RepV r m H g2 v2 := by
  cases h with
  | cons a b =>
    obtain ⟨v, rfl, b'⟩ := len1 b
    exact ⟨_, _, rfl, a, b'⟩
theorem cr_gLen (hK : X.K = r.K) : CallR X (.builtin "len") (rPA r T gLen) := CallR_imp call_len fun xs H Q ⟨m, S, gs, g, hR, h, e, k⟩ => by
  unfold gLen at e
  split at e
  · obtain ⟨v, rfl, h1⟩ := len1 h
    cases h1
    split at e
    · cases e
      exact ⟨_, _, rfl, ⟨by assumption, rfl⟩, k H _ (.refl _ _) hR (.int _)⟩
    · cases e
  · rename_i g1 nt
    obtain ⟨v, rfl, h1⟩ := len1 h
    cases e1 : seqG S g1 with
    | none => rw [e1] at e; cases e
    | some l =>
      rw [e1] at e
      cases e
      obtain ⟨p, vs, rfl, z, t, q⟩ := seq_rep hR h1 e1
      refine ⟨_, vs.length, rfl, ?_, by rw [← t.length]; exact k H _ (.refl _ _) hR (.int _)⟩
      rw [hK]
      exact q.imp (fun q => ⟨_, q, rfl⟩) fun q => ⟨_, q, rfl⟩
  · cases e
theorem cr_gTuple (hK : X.K = r.K) : CallR X (.type "tuple") (rPA r T gTuple) := CallR_imp call_tuple_of fun xs H Q ⟨m, S, gs, g, hR, h, e, k⟩ => by
  unfold gTuple at e
  split at e
  · rename_i g1
    obtain ⟨v, rfl, h1⟩ := len1 h
    cases e1 : seqG S g1 with
    | none => rw [e1] at e; cases e
    | some l =>
      rw [e1] at e
      cases e
      rw [hK]
      by_cases nt : ∀ l, g1 ≠ .tup l
      · obtain ⟨p, vs, rfl, z, t, q⟩ := seqL_rep hR h1 nt e1
        exact ⟨p, vs, rfl, .inl ⟨q, fun l hl => k _ _ (Ext.new hl _) (hR.fresh hl _) (hR.newTup hl z t)⟩⟩
      · obtain ⟨l2, e2⟩ : ∃ l, g1 = .tup l := Classical.byContradiction fun z => nt fun l e => z ⟨l, e⟩
        subst e2
        cases e1
        cases h1 with
        | tup q z t => exact ⟨_, _, rfl, .inr ⟨TupSq q, k H _ (.refl _ _) hR (.tup q z t)⟩⟩
  · cases e
theorem cr_gList (hK : X.K = r.K) : CallR X (.type "list") (rPA r T gList) := CallR_imp call_list_of fun xs H Q ⟨m, S, gs, g, hR, h, e, k⟩ => by
  unfold gList at e
  split at e
  · rename_i g1
    obtain ⟨v, rfl, h1⟩ := len1 h
    cases e1 : seqG S g1 with
    | none => rw [e1] at e; cases e
    | some l =>
      rw [e1] at e
      cases e
      rw [hK]
      obtain ⟨p, vs, rfl, z, t, q⟩ := seq_rep hR h1 e1
      exact ⟨p, vs, rfl, q, fun l hl => k _ _ (Ext.new hl _) (hR.fresh hl _) (hR.newTl hl z t)⟩
  · cases e
theorem cr_gInt : CallR X (.type "int") (rPA r T gInt) := CallR_imp (call_int1.or call_int_str) fun xs H Q ⟨m, S, gs, g, hR, h, e, k⟩ => by
  unfold gInt at e
  split at e
  · obtain ⟨v, rfl, h1⟩ := len1 h
    cases h1; cases e
    exact .inl (.inl ⟨_, rfl, k H _ (.refl _ _) hR (.int _)⟩)
  · obtain ⟨v, rfl, h1⟩ := len1 h
    cases h1; cases e
    exact .inl (.inr ⟨_, rfl, k H _ (.refl _ _) hR (.int _)⟩)
  · rename_i z
    obtain ⟨v, rfl, h1⟩ := len1 h
    cases h1
    split at e
    · rename_i c
      cases q : PySem.intText? z with
      | none => rw [q] at e; cases e
      | some n =>
        rw [q] at e; cases e
        exact .inr ⟨_, _, rfl, q, c, k H _ (.refl _ _) hR (.int _)⟩
    · cases e
  · cases e
theorem cr_gAbs : CallR X (.builtin "abs") (rPA r T gAbs) := CallR_imp call_abs fun xs H Q ⟨m, S, gs, g, hR, h, e, k⟩ => by
  unfold gAbs at e
  split at e
  · obtain ⟨v, rfl, h1⟩ := len1 h
    cases h1; cases e
    exact ⟨_, rfl, k H _ (.refl _ _) hR (.int _)⟩
  · cases e
theorem ints_rep : ∀ {l : List G} {ns : List Int} {vs : List V}, RepVs r m H l vs → intsG l = some ns → vs = ns.map V.int
  | [], ns, _, .nil, e => by cases e; rfl
  | .int i :: l, ns, _, .cons a t, e => by
    cases a
    have e : (intsG l).map (fun l => i :: l) = some ns := e
    cases q : intsG l with
    | none => rw [q] at e; cases e
    | some ns' =>
      rw [q] at e; cases e
      rw [ints_rep t q]; rfl
theorem bls_rep : ∀ {l : List G} {ns : List Bool} {vs : List V}, RepVs r m H l vs → blsG l = some ns → vs = ns.map V.bl
  | [], ns, _, .nil, e => by cases e; rfl
  | .bl i :: l, ns, _, .cons a t, e => by
    cases a
    have e : (blsG l).map (fun l => i :: l) = some ns := e
    cases q : blsG l with
    | none => rw [q] at e; cases e
    | some ns' =>
      rw [q] at e; cases e
      rw [bls_rep t q]; rfl
theorem strs_rep : ∀ {l : List G} {ns : List Str} {vs : List V}, RepVs r m H l vs → strsG l = some ns → vs = ns.map V.str
  | [], ns, _, .nil, e => by cases e; rfl
  | .str i :: l, ns, _, .cons a t, e => by
    cases a
    have e : (strsG l).map (fun l => i :: l) = some ns := e
    cases q : strsG l with
    | none => rw [q] at e; cases e
    | some ns' =>
      rw [q] at e; cases e
      rw [strs_rep t q]; rfl
theorem cr_gMax (hc : X.calm = true) : CallR X (.builtin "max") (rPA r T gMax) := CallR_imp (call_max2 hc) fun xs H Q ⟨m, S, gs, g, hR, h, e, k⟩ => by
  unfold gMax at e
  split at e
  · obtain ⟨v, v2, rfl, h1, h2⟩ := len2 h
    cases h1; cases h2; cases e
    exact ⟨_, _, rfl, k H _ (.refl _ _) hR (.int _)⟩
  · cases e
theorem least_of : ∀ (l : List Int) (i m : Int), (∀ y ∈ i :: l, m ≤ y) → m ∈ i :: l → l.foldl (fun a b => if b < a then b else a) i = m
  | [], i, m, h, hm => by
    simp at hm; exact hm.symm
  | j :: l, i, m, h, hm => by
    show l.foldl _ (if j < i then j else i) = m
    refine least_of l _ m (fun y hy => ?_) ?_
    · rcases List.mem_cons.mp hy with e | e
      · subst e
        split
        · exact h j (by simp)
        · exact h i (by simp)
      · exact h y (by simp [e])
    · have h1 := h i (by simp)
      have h2 := h j (by simp)
      simp only [List.mem_cons] at hm ⊢
      rcases hm with e | e | e
      · left; split <;> omega
      · left; split <;> omega
      · exact .inr e
theorem cr_gMin (hK : X.K = r.K) (hc : X.calm = true) : CallR X (.builtin "min") (rPA r T gMin) := CallR_imp ((call_min2 hc).or (cr_min hc)) fun xs H Q ⟨m, S, gs, g, hR, h, e, k⟩ => by
  have fin : ∀ {l : List G} {v : V} {g1 : G}, RepV r m H g1 v → (∀ l, g1 ≠ .tup l) → seqG S g1 = some l → ((intsG l).bind fun l => (leastI l).map .int) = some g → rMin X.K [v] H Q := by
    intro l v g1 h1 nt e1 e2
    obtain ⟨p, vs, rfl, z, t, q⟩ := seqL_rep hR h1 nt e1
    cases e3 : intsG l with
    | none => rw [e3] at e2; cases e2
    | some ns =>
      rw [e3] at e2
      cases ns with
      | nil => cases e2
      | cons i ns =>
        cases e2
        have ev := ints_rep t e3
        rw [hK]
        refine ⟨p, i :: ns, rfl, by rw [← ev]; exact q, by simp, fun y hy hle => ?_⟩
        have := least_of ns i y hle hy
        rw [← this]
        exact k H _ (.refl _ _) hR (.int _)
  unfold gMin at e
  split at e
  · obtain ⟨v, v2, rfl, h1, h2⟩ := len2 h
    cases h1; cases h2; cases e
    exact .inl ⟨_, _, rfl, k H _ (.refl _ _) hR (.int _)⟩
  · obtain ⟨v, rfl, h1⟩ := len1 h
    exact .inr (fin h1 (by intro _ z; cases z) rfl e)
  · rename_i n
    obtain ⟨v, rfl, h1⟩ := len1 h
    cases e1 : lstAt S n with
    | none => rw [e1] at e; cases e
    | some l => rw [e1] at e; exact .inr (fin h1 (by intro _ z; cases z) e1 e)
  · cases e
theorem cr_gSum (hK : X.K = r.K) (hc : X.calm = true) : CallR X (.builtin "sum") (rPA r T gSum) := CallR_imp (cr_sum hc) fun xs H Q ⟨m, S, gs, g, hR, h, e, k⟩ => by
  unfold gSum at e
  split at e
  · cases e
  · rename_i g1 nt
    obtain ⟨v, rfl, h1⟩ := len1 h
    cases e1 : seqG S g1 with
    | none => rw [e1] at e; cases e
    | some l =>
      rw [e1] at e
      have e : (intsG l).map (fun l => G.int l.sum) = some g := e
      cases e2 : intsG l with
      | none => rw [e2] at e; cases e
      | some ns =>
        rw [e2] at e; cases e
        obtain ⟨p, vs, rfl, z, t, q⟩ := seqL_rep hR h1 (fun l z => nt l z) e1
        rw [hK]
        exact ⟨p, ns, rfl, by rw [← ints_rep t e2]; exact q, k H _ (.refl _ _) hR (.int _)⟩
  · cases e
theorem cr_gAll (hK : X.K = r.K) (hc : X.calm = true) : CallR X (.builtin "all") (rPA r T gAll) := CallR_imp (cr_all hc) fun xs H Q ⟨m, S, gs, g, hR, h, e, k⟩ => by
  unfold gAll at e
  split at e
  · cases e
  · rename_i g1 nt
    obtain ⟨v, rfl, h1⟩ := len1 h
    cases e1 : seqG S g1 with
    | none => rw [e1] at e; cases e
    | some l =>
      rw [e1] at e
      have e : (blsG l).map (fun l => G.bl (l.all id)) = some g := e
      cases e2 : blsG l with
      | none => rw [e2] at e; cases e
      | some ns =>
        rw [e2] at e; cases e
        obtain ⟨p, vs, rfl, z, t, q⟩ := seqL_rep hR h1 (fun l z => nt l z) e1
        rw [hK]
        exact ⟨p, ns, rfl, by rw [← bls_rep t e2]; exact q, k H _ (.refl _ _) hR (.bl _)⟩
  · cases e
theorem cr_gAny (hK : X.K = r.K) (hc : X.calm = true) : CallR X (.builtin "any") (rPA r T gAny) := CallR_imp (cr_any hc) fun xs H Q ⟨m, S, gs, g, hR, h, e, k⟩ => by
  unfold gAny at e
  split at e
  · cases e
  · rename_i g1 nt
    obtain ⟨v, rfl, h1⟩ := len1 h
    cases e1 : seqG S g1 with
    | none => rw [e1] at e; cases e
    | some l =>
      rw [e1] at e
      have e : (blsG l).map (fun l => G.bl (l.any id)) = some g := e
      cases e2 : blsG l with
      | none => rw [e2] at e; cases e
      | some ns =>
        rw [e2] at e; cases e
        obtain ⟨p, vs, rfl, z, t, q⟩ := seqL_rep hR h1 (fun l z => nt l z) e1
        rw [hK]
        exact ⟨p, ns, rfl, by rw [← bls_rep t e2]; exact q, k H _ (.refl _ _) hR (.bl _)⟩
  · cases e
end
end GL

end

section
set_option Elab.async false
set_option linter.all false
set_option maxRecDepth 100000
set_option maxHeartbeats 4000000
/-! GL: the operations that are left: is, in, *, isinstance. -/
namespace GL
open PySem PySem.Spec PyProof.Rows L2
section
variable {r : RP} {T : List (Addr × Str)} {X : Cx} {m : List Addr} {H : Hp} {S : Sto} {W : WX} {a b c : Expr} {fa fb fc : Ev} {pos : Pos}
theorem isn_rep {x : G} {v : V} {b : Bool} {g : G} (h : RepV r m H x v) (e : gIsN x b = some g) : g = .bl (if v = .non then b else !b) := by
  cases h <;> first
    | (cases e; done)
    | (cases e; simp)
theorem op_gIs : OpR X (compareOp .Is) (rP2 r T gIs) := OpR_imp (op_isN.or op_isBl) fun x y H Q ⟨m, S, g1, g2, g, hR, h1, h2, e, k⟩ => by
  unfold gIs at e
  split at e
  · cases h2
    have := isn_rep h1 e
    subst this
    refine .inl ⟨rfl, ?_⟩
    have q := k H _ (.refl _ _) hR (.bl _)
    by_cases c : x = .non
    · simp only [c] at q ⊢; exact q
    · simp only [c] at q ⊢; exact q
  · rename_i c
    cases h2
    split at e
    · cases h1; cases e
      exact .inr ⟨_, _, rfl, rfl, k H _ (.refl _ _) hR (.bl _)⟩
    all_goals cases e
  · cases e
theorem op_gIsNot : OpR X (compareOp .IsNot) (rP2 r T gIsNot) := OpR_imp (op_notN.or op_notBl) fun x y H Q ⟨m, S, g1, g2, g, hR, h1, h2, e, k⟩ => by
  unfold gIsNot at e
  split at e
  · cases h2
    have := isn_rep h1 e
    subst this
    refine .inl ⟨rfl, ?_⟩
    have q := k H _ (.refl _ _) hR (.bl _)
    by_cases c : x = .non
    · simp only [c] at q ⊢; exact q
    · simp only [c] at q ⊢; exact q
  · rename_i c
    cases h2
    split at e
    · cases h1; cases e
      exact .inr ⟨_, _, rfl, rfl, k H _ (.refl _ _) hR (.bl _)⟩
    all_goals cases e
  · cases e
theorem flat_rep {x : G} {v : V} (h : RepV r m H x v) (f : flatG x = true) : flatV v = true := by
  cases h <;> first | rfl | (cases f; done)
theorem flats_rep : ∀ {l : List G} {vs : List V}, RepVs r m H l vs → l.all flatG = true → vs.all flatV = true
  | _, _, .nil, _ => rfl
  | _, _, .cons a t, f => by
    rw [List.all_cons, Bool.and_eq_true] at f
    rw [List.all_cons, flat_rep a f.1, flats_rep t f.2]; rfl
theorem eqF_rep {x y : G} {v u : V} (h : RepV r m H x v) (h2 : RepV r m H y u) (f : flatG x = true) (f2 : flatG y = true) : eqF x y = eqV v u := by
  cases h <;> first
    | (cases f; done)
    | (cases h2 <;> first
      | (cases f2; done)
      | (simp [eqF, eqV, gD, PyData.eqv]; done)
      | (simp [eqF, eqV, gD, PyData.eqv, Bool.beq_eq_decide_eq]; done)
      | (simp only [eqF, eqV, gD, PyData.eqv]; done)
      | (simp [eqF, eqV, gD, PyData.eqv]; rename_i a b; cases a <;> cases b <;> rfl))
theorem any_rep {x : G} {v : V} (h : RepV r m H x v) (f : flatG x = true) : ∀ {l : List G} {vs : List V}, RepVs r m H l vs → l.all flatG = true → (l.any fun z => eqF z x) = inV v vs
  | _, _, .nil, _ => rfl
  | _, _, .cons a t, f2 => by
    rw [List.all_cons, Bool.and_eq_true] at f2
    unfold inV
    rw [List.any_cons, List.any_cons, eqF_rep a h f2.1 f, any_rep h f t f2.2]; rfl

theorem op_gIn (hK : X.K = r.K) : OpR X (compareOp .In) (rP2 r T gIn) := OpR_imp (op_in_str.or op_in_seq) fun x y H Q ⟨m, S, g1, g2, g, hR, h1, h2, e, k⟩ => by
  unfold gIn at e
  cases e0 : gInB g1 g2 S with
  | none => rw [e0] at e; cases e
  | some b =>
    rw [e0] at e
    cases e
    have q := k H _ (.refl _ _) hR (.bl b)
    unfold gInB at e0
    split at e0
    · split at e0
      · cases h1; cases h2; cases e0
        exact .inl ⟨_, _, rfl, rfl, q⟩
      · cases e0
    · split at e0
      · rename_i l e1
        split at e0
        · rename_i c
          rw [Bool.and_eq_true] at c
          cases e0
          obtain ⟨p, vs, rfl, z, t, hq⟩ := seq_rep hR h2 e1
          rw [hK]
          refine .inr ⟨p, vs, rfl, hq, flat_rep h1 c.1, flats_rep t c.2, ?_⟩
          rw [any_rep h1 c.1 t c.2] at q
          simpa using q
        · cases e0
      · cases e0
theorem op_gNotIn (hK : X.K = r.K) : OpR X (compareOp .NotIn) (rP2 r T gNotIn) := OpR_imp (op_notin_str.or op_notIn_seq) fun x y H Q ⟨m, S, g1, g2, g, hR, h1, h2, e, k⟩ => by
  unfold gNotIn at e
  cases e0 : gInB g1 g2 S with
  | none => rw [e0] at e; cases e
  | some b =>
    rw [e0] at e
    cases e
    have q := k H _ (.refl _ _) hR (.bl (!b))
    unfold gInB at e0
    split at e0
    · split at e0
      · cases h1; cases h2; cases e0
        exact .inl ⟨_, _, rfl, rfl, q⟩
      · cases e0
    · split at e0
      · rename_i l e1
        split at e0
        · rename_i c
          rw [Bool.and_eq_true] at c
          cases e0
          obtain ⟨p, vs, rfl, z, t, hq⟩ := seq_rep hR h2 e1
          rw [hK]
          refine .inr ⟨p, vs, rfl, hq, flat_rep h1 c.1, flats_rep t c.2, ?_⟩
          rw [any_rep h1 c.1 t c.2] at q
          simpa using q
        · cases e0
      · cases e0
theorem op_mulS : OpR X (binaryOp .Mult) (fun x y H Q => ∃ z k, x = .str z ∧ y = .int k ∧ strMulOk z k = true ∧ Q (.str (Txt.mul z k)) H) := by
  intro pins s σ H x y v u Q I rx ry h
  obtain ⟨z, k, rfl, rfl, c, q⟩ := h
  obtain ⟨t, rfl⟩ := rx
  obtain ⟨t', rfl⟩ := ry
  unfold strMulOk at c
  simp only [Bool.and_eq_true, decide_eq_true_eq] at c
  obtain ⟨⟨c1, c2⟩, c3⟩ := c
  refine PySem.SB.mul ⟨by rw [decide_eq_false (by omega), decide_eq_false (by omega)]; rfl, fun h1 _ => ?_, fun h1 _ => ?_⟩ fun t' n => ⟨.str _, H, I.tok _, ⟨_, rfl⟩, q⟩
  · have a1 : (z.length : Int) * k ≤ 1000 * 10000 := Int.mul_le_mul (by omega) (by omega) (by omega) (by omega)
    have a2 : (z.length : Int) ≤ (2 ^ 63 - 1) / k := Int.le_ediv_of_mul_le (by omega) (by omega)
    omega
  · unfold Builtin.Str.tooLong
    have a1 : z.length * k.toNat ≤ 1000 * 10000 := Nat.mul_le_mul c3 (by omega)
    have a2 := sizeLine_eq
    simp only [decide_eq_false_iff_not]
    omega
theorem rep_rep {l : List G} {vs : List V} (t : RepVs r m H l vs) : ∀ n : Nat, RepVs r m H (repL n l) (List.replicate n vs).flatten
  | 0 => .nil
  | n + 1 => by
    unfold repL
    rw [List.replicate_succ, List.replicate_succ, List.flatten_cons, List.flatten_cons]
    exact t.append (rep_rep t n)
theorem op_gMulA (hK : X.K = r.K) : OpR X (binaryOp .Mult) (rP2 r T gMulA) := OpR_imp (op_mul.or (op_mulS.or (op_repT.or (op_repS.or op_rep)))) fun x y H Q ⟨m, S, g1, g2, g, hR, h1, h2, e, k⟩ => by
  unfold gMulA at e
  split at e
  · split at e
    · rename_i c
      cases h1; cases h2; cases e
      refine .inl ⟨_, _, rfl, rfl, ?_, k H _ (.refl _ _) hR (.int _)⟩
      unfold mulOk at c
      rw [b64_eq] at c
      simp only [Bool.and_eq_true, Bool.or_eq_true, decide_eq_true_eq] at c
      exact c
    · cases e
  · split at e
    · rename_i c
      cases h1; cases h2; cases e
      exact .inr (.inl ⟨_, _, rfl, rfl, c, k H _ (.refl _ _) hR (.str _)⟩)
    · cases e
  · split at e
    · rename_i l n c
      obtain ⟨c1, c2, c3, c4⟩ := c
      cases h2
      cases e
      cases h1 with
      | @tup p vs _ h z t =>
        have hl := t.length
        have hv : vs ≠ [] := fun z => c1 (List.eq_nil_of_length_eq_zero (by rw [hl, z]; rfl))
        rw [hK]
        have sz : ((List.replicate n.toNat vs).flatten : List V).length ≤ sizeLine := by
          rw [PyProof.Rows.lm_len_rep_flat, sizeLine_eq]
          have a1 : n.toNat * l.length ≤ 1000 * 1000 := Nat.mul_le_mul (by omega) c4
          rw [← hl]; omega
        by_cases n2 : 2 ≤ n
        · refine .inr (.inr (.inl ⟨_, _, _, rfl, rfl, TupSq h, hv, n2, c3, by omega, fun p hp => ?_⟩))
          exact k _ _ (Ext.new hp _) (hR.fresh hp _) (hR.newTup hp sz (rep_rep t _))
        · refine .inr (.inr (.inr (.inl ⟨_, _, _, rfl, rfl, TupSq h, hv, ?_⟩)))
          by_cases n1 : n = 1
          · subst n1
            refine .inl ⟨rfl, ?_⟩
            have e1 : repL (1 : Int).toNat l = l := by simp [repL]
            rw [e1] at k
            exact k H _ (.refl _ _) hR (.tup h z t)
          · have n0 : n = 0 := by omega
            subst n0
            refine .inr ⟨rfl, fun p hp => ?_⟩
            exact k _ _ (Ext.new hp _) (hR.fresh hp _) (hR.newTup hp (by simp) (rep_rep t 0))
    · cases e
  · split at e
    · rename_i l e1
      split at e
      · rename_i n _ _ _ _ c
        obtain ⟨c2, c3, c4⟩ := c
        cases h2
        cases e
        obtain ⟨p, vs, rfl, z, t, hq⟩ := lstW_rep hR h1 e1
        have hl := t.length
        have sz : ((List.replicate n.toNat vs).flatten : List V).length ≤ sizeLine := by
          rw [PyProof.Rows.lm_len_rep_flat, sizeLine_eq]
          have a1 : n.toNat * l.length ≤ 1000 * 1000 := Nat.mul_le_mul (by omega) c4
          rw [← hl]; omega
        refine .inr (.inr (.inr (.inr ⟨_, _, _, rfl, rfl, hq, by omega, by omega, ?_, fun p hp => ?_⟩)))
        · rw [sizeLine_eq]
          have a1 : l.length * n.toNat ≤ 1000 * 1000 := Nat.mul_le_mul c4 (by omega)
          rw [← hl]; omega
        · exact k _ _ (Ext.new hp _) (hR.fresh hp _) (hR.newTl hp sz (rep_rep t _))
      · cases e
    · cases e
  · cases e
end
end GL

end

section
set_option Elab.async false
set_option linter.all false
set_option maxRecDepth 100000
set_option maxHeartbeats 4000000
/-! GL: statements, loops, comprehensions. -/
namespace GL
open PySem PySem.Spec PyProof.Rows L2

def PstS (r : RP) (T : List (Addr × Str)) (W : WX) (D : Ends) (m : List Addr) (H : Hp) (res : SR) : Prop := match res with
  | .nx l' S' => ∀ m' H' s', Ext m H m' H' → Rep r T m' S' H' → RepL r m' H' l' s' → D.nx s' H'
  | .rt g S' => ∀ m' H' v, Ext m H m' H' → Rep r T m' S' H' → RepV r m' H' g v → D.rt v H'
  | .bk l' S' => ∀ m' H' s', Ext m H m' H' → Rep r T m' S' H' → RepL r m' H' l' s' → D.bk s' H'
  | .ct l' S' => ∀ m' H' s', Ext m H m' H' → Rep r T m' S' H' → RepL r m' H' l' s' → D.ct s' H'
  | .exc c fs l' S' => ∀ m' H' s' C d, Ext m H m' H' → Rep r T m' S' H' → RepL r m' H' l' s' → r.mg c = some (.ref C) → RepX r m' H' fs d → W (.ref C) d s' H'
  | .bad => False
def tSF (r : RP) (T : List (Addr × Str)) (W : WX) (f : StM) : TS := fun D s H => ∃ m S l, Rep r T m S H ∧ RepL r m H l s ∧ PstS r T W D m H (f l S)
section
variable {r : RP} {T : List (Addr × Str)} {W : WX} {X : Cx} {D : Ends} {s : L2.St} {m m' : List Addr} {H H' : Hp} {S : Sto} {l : Loc}
theorem PstS.ext {res : SR} (e : Ext m H m' H') (h : PstS r T W D m H res) : PstS r T W D m' H' res := by
  cases res with
  | nx l S => exact fun m2 H2 s' e2 a b => h m2 H2 s' (e.trans e2) a b
  | rt g S => exact fun m2 H2 v e2 a b => h m2 H2 v (e.trans e2) a b
  | bk l S => exact fun m2 H2 s' e2 a b => h m2 H2 s' (e.trans e2) a b
  | ct l S => exact fun m2 H2 s' e2 a b => h m2 H2 s' (e.trans e2) a b
  | exc c fs l S => exact fun m2 H2 s' C d e2 a b k x => h m2 H2 s' C d (e.trans e2) a b k x
  | bad => exact h
/-- an expression, then the rest of its statement -/
theorem stS {f : Ev} {k : G → Sto → SR} (hR : Rep r T m S H) (hL : RepL r m H l s) (h : PstS r T W D m H (sr l (f l S) k)) :
    tF r T W f s H fun x H1 => ∃ m1 S1 g, Ext m H m1 H1 ∧ Rep r T m1 S1 H1 ∧ RepL r m1 H1 l s ∧ RepV r m1 H1 g x ∧ PstS r T W D m1 H1 (k g S1) := by
  refine ⟨m, S, l, hR, hL, ?_⟩
  cases e : f l S with
  | ok g S1 => rw [e] at h; exact fun m2 H2 v e2 a b => ⟨m2, S1, g, e2, a, hL.ext e2, b, PstS.ext e2 h⟩
  | exc c fs S1 => rw [e] at h; exact fun m2 H2 C d e2 a k x => h m2 H2 s C d e2 a (hL.ext e2) k x
  | bad => rw [e] at h; exact h
theorem stST {f : Te} {k : Bool → Sto → SR} (hR : Rep r T m S H) (hL : RepL r m H l s) (h : PstS r T W D m H (sr l (f l S) k)) :
    tFT r T W f s H fun x H1 => ∃ m1 S1, Ext m H m1 H1 ∧ Rep r T m1 S1 H1 ∧ RepL r m1 H1 l s ∧ PstS r T W D m1 H1 (k x S1) := by
  refine ⟨m, S, l, hR, hL, ?_⟩
  cases e : f l S with
  | ok g S1 =>
    rw [e] at h
    refine fun m2 H2 v e2 a b => ?_
    subst b
    exact ⟨m2, S1, e2, a, hL.ext e2, PstS.ext e2 h⟩
  | exc c fs S1 => rw [e] at h; exact fun m2 H2 C d e2 a k x => h m2 H2 s C d e2 a (hL.ext e2) k x
  | bad => rw [e] at h; exact h
theorem stSA {f : As} {k : List G → Sto → SR} (hR : Rep r T m S H) (hL : RepL r m H l s) (h : PstS r T W D m H (sr l (f l S) k)) :
    tFA r T W f s H fun x H1 => ∃ m1 S1 g, Ext m H m1 H1 ∧ Rep r T m1 S1 H1 ∧ RepL r m1 H1 l s ∧ RepVs r m1 H1 g x ∧ PstS r T W D m1 H1 (k g S1) := by
  refine ⟨m, S, l, hR, hL, ?_⟩
  cases e : f l S with
  | ok g S1 => rw [e] at h; exact fun m2 H2 v e2 a b => ⟨m2, S1, g, e2, a, hL.ext e2, b, PstS.ext e2 h⟩
  | exc c fs S1 => rw [e] at h; exact fun m2 H2 C d e2 a k x => h m2 H2 s C d e2 a (hL.ext e2) k x
  | bad => rw [e] at h; exact h
variable {st : Stmt} {sts sts2 : List Stmt} {f g : StM} {e a b : Expr} {fa fb : Ev} {ta : Te} {pos pos' : Pos}
theorem g_nil : PSs X [] (tSF r T W sNx) := PSs_imp pss_nil fun D s H ⟨m, S, l, hR, hL, q⟩ => q m H s (.refl _ _) hR hL
theorem g_cons (h1 : PS X st (tSF r T W f)) (h2 : PSs X sts (tSF r T W g)) : PSs X (st :: sts) (tSF r T W (sSeq f g)) :=
  PSs_imp (pss_cons h1 h2) fun D s H ⟨m, S, l, hR, hL, q⟩ => by
    refine ⟨m, S, l, hR, hL, ?_⟩
    unfold sSeq at q
    cases e : f l S with
    | nx l' S' => rw [e] at q; exact fun m2 H2 s2 e2 a b => ⟨m2, S', l', a, b, PstS.ext e2 q⟩
    | rt v S' => rw [e] at q; exact q
    | bk l' S' => rw [e] at q; exact q
    | ct l' S' => rw [e] at q; exact q
    | exc c fs l' S' => rw [e] at q; exact q
    | bad => rw [e] at q; exact q
theorem g_one (h1 : PS X st (tSF r T W f)) : PSs X [st] (tSF r T W f) := pss_one h1
theorem g_pass : PS X (.Pass pos) (tSF r T W sNx) := PS_imp ps_pass fun D s H ⟨m, S, l, hR, hL, q⟩ => q m H s (.refl _ _) hR hL
theorem g_break : PS X (.Break pos) (tSF r T W sBrk) := PS_imp ps_break fun D s H ⟨m, S, l, hR, hL, q⟩ => q m H s (.refl _ _) hR hL
theorem g_cont : PS X (.Continue pos) (tSF r T W sCnt) := PS_imp ps_continue fun D s H ⟨m, S, l, hR, hL, q⟩ => q m H s (.refl _ _) hR hL
theorem g_expr (he : PE X e (tF r T W fa)) (hs : swapsWith e none pos.line X.env = pure false) : PS X (.Expr e pos) (tSF r T W (sDrop fa)) :=
  PS_imp (ps_expr he hs) fun D s H ⟨m, S, l, hR, hL, q⟩ => mono_tF (stS hR hL q) fun x H1 ⟨m1, S1, g, e, hR1, hL1, h1, q1⟩ => q1 m1 H1 s (.refl _ _) hR1 hL1
theorem g_ret (he : PE X e (tF r T W fa)) : PS X (.Return (some e) pos) (tSF r T W (sRet fa)) :=
  PS_imp (ps_ret he) fun D s H ⟨m, S, l, hR, hL, q⟩ => mono_tF (stS hR hL q) fun x H1 ⟨m1, S1, g, e, hR1, hL1, h1, q1⟩ => q1 m1 H1 x (.refl _ _) hR1 h1
theorem g_retN : PS X (.Return none pos) (tSF r T W sRetN) := PS_imp ps_retN fun D s H ⟨m, S, l, hR, hL, q⟩ => q m H .non (.refl _ _) hR .non
theorem g_if (hc : PT X e (tFT r T W ta)) (ha : PSs X sts (tSF r T W f)) (hb : PSs X sts2 (tSF r T W g)) : PS X (.If e sts sts2 pos) (tSF r T W (sIf ta f g)) :=
  PS_imp (ps_if hc ha hb) fun D s H ⟨m, S, l, hR, hL, q⟩ => mono_tFT (stST hR hL q) fun x H1 ⟨m1, S1, e, hR1, hL1, q1⟩ => by
    cases x with
    | true => exact ⟨m1, S1, l, hR1, hL1, q1⟩
    | false => exact ⟨m1, S1, l, hR1, hL1, q1⟩
theorem g_set {i : Nat} {x : Str} (hN : X.N.Nodup) (hi : X.N[i]? = some x) (hx : L2.Loc X.env.scope x) (he : PE X e (tF r T W fa)) (hs : swapsWith e (some (.Name x pos')) pos.line X.env = pure false) (hf : X.fn x = true ∨ X.env.scope.names.lookup x = some .local) :
    PS X (.Assign [.Name x pos'] e pos) (tSF r T W (sSet i fa)) :=
  PS_imp (ps_set hN hi hx he hs hf) fun D s H ⟨m, S, l, hR, hL, q⟩ => mono_tF (stS hR hL q) fun x H1 ⟨m1, S1, g, e, hR1, hL1, h1, q1⟩ => q1 m1 H1 _ (.refl _ _) hR1 (hL1.set i h1)

/-! ### targets -/
def setV : List Nat → List V → L2.St → L2.St
  | i :: is, v :: vs, s => setV is vs (s.set i (some v))
  | _, _, s => s
def gNames : List Nat → TGs
  | [] => gNil
  | i :: is => gCons (gName i) (gNames is)
theorem gNames_ok : ∀ {is : List Nat} {vs : List V} {s : L2.St} {H : Hp} {Q : L2.St → Hp → Prop}, vs.length = is.length → Q (setV is vs s) H → gNames is vs s H Q
  | [], [], _, _, _, _, h => ⟨rfl, h⟩
  | [], _ :: _, _, _, _, e, _ => by simp at e
  | _ :: _, [], _, _, _, e, _ => by simp at e
  | i :: is, v :: vs, s, H, Q, e, h => ⟨v, vs, rfl, gNames_ok (by simpa using e) h⟩
theorem repSetAll : ∀ {is : List Nat} {gs : List G} {vs : List V} {l : Loc} {s : L2.St}, RepL r m H l s → RepVs r m H gs vs → RepL r m H (setAll is gs l) (setV is vs s)
  | [], _, _, _, _, h, _ => by
    unfold setAll setV
    exact h
  | i :: is, _, _, _, _, h, .nil => h
  | i :: is, g :: gs, v :: vs, l, s, h, .cons a t => by
    show RepL r m H (setAll is gs (l.set i (some g))) (setV is vs (s.set i (some v)))
    exact repSetAll (h.set i a) t
theorem wipe_get {s : L2.St} {j : Nat} : ∀ vs : List Nat, (L2.wipe s vs)[j]? = if j ∈ vs ∧ j < s.length then some none else s[j]?
  | [] => by simp [L2.wipe]
  | v :: vs => by
    unfold L2.wipe
    have ih := wipe_get (s := s) (j := j) vs
    by_cases e : v = j
    · subst e
      by_cases hv : v < s.length
      · rw [List.getElem?_set_self (by rw [L2.wipe_length]; exact hv), if_pos ⟨by simp, hv⟩]
      · rw [if_neg (fun q => hv q.2), List.getElem?_eq_none (by rw [List.length_set, L2.wipe_length]; omega), List.getElem?_eq_none (by omega)]
    · rw [List.getElem?_set_ne e, ih]
      simp [Ne.symm e]
theorem wipe_set {s : L2.St} {i : Nat} {v : Option V} {own : List Nat} (h : i ∈ own) : L2.wipe (s.set i v) own = L2.wipe s own := by
  apply List.ext_getElem?
  intro j
  rw [wipe_get, wipe_get, List.length_set]
  by_cases c : j ∈ own ∧ j < s.length
  · rw [if_pos c, if_pos c]
  · rw [if_neg c, if_neg c]
    by_cases e : i = j
    · subst e
      have : ¬ i < s.length := fun q => c ⟨h, q⟩
      rw [List.getElem?_eq_none (by rw [List.length_set]; omega), List.getElem?_eq_none (by omega)]
    · rw [List.getElem?_set_ne e]
theorem wipe_setV {own : List Nat} : ∀ {is : List Nat} {vs : List V} {s : L2.St}, (∀ i ∈ is, i ∈ own) → L2.wipe (setV is vs s) own = L2.wipe s own
  | [], _, _, _ => by unfold setV; rfl
  | _ :: _, [], _, _ => rfl
  | i :: is, v :: vs, s, h => by
    show L2.wipe (setV is vs (s.set i (some v))) own = _
    rw [wipe_setV (fun j hj => h j (List.mem_cons_of_mem _ hj)), wipe_set (h i (by simp))]
def tgT (K : PySem.W.Frag) : Tg → TG
  | .nm i => gName i
  | .tp is => L2.gTup K is.length (gNames is)
def Tg.is : Tg → List Nat
  | .nm i => [i]
  | .tp is => is
/-- a target stores what the plain one stores -/
theorem tg_ok {t : Tg} {x : G} {v : V} {l' : Loc} {Q : L2.St → Hp → Prop} (hL : RepL r m H l s) (h : RepV r m H x v) (e : tgSet t x l = some l')
    (k : ∀ s', RepL r m H l' s' → (∀ own : List Nat, (∀ i ∈ t.is, i ∈ own) → L2.wipe s' own = L2.wipe s own) → Q s' H) : tgT r.K t v s H Q := by
  cases t with
  | nm i =>
    cases e
    exact k _ (hL.set i h) fun own ho => wipe_set (ho i (by simp [Tg.is]))
  | tp is =>
    unfold tgSet at e
    cases x <;> try (cases e; done)
    rename_i gs
    have e : (if gs.length = is.length then some (setAll is gs l) else none) = some l' := e
    split at e
    · rename_i c
      cases e
      cases h with
      | tup q z t =>
        have hl := t.length
        have hq : SqT r.K H _ _ := q.elim (fun q => .inl (.inl q.2)) .inr
        exact ⟨_, _, rfl, hq, by omega, gNames_ok (by omega) (k _ (repSetAll hL t) fun own ho => wipe_setV ho)⟩
    · cases e
theorem g_tnm {i : Nat} {x : Str} (hN : X.N.Nodup) (hi : X.N[i]? = some x) (hx : L2.Loc X.env.scope x) (hf : X.fn x = true ∨ X.env.scope.names.lookup x = some .local) : PG X (.Name x pos) (tgT r.K (.nm i)) := pg_name hN hi hx hf
/-- t = e, t a tuple of names -/
theorem g_tg {t : Tg} {tg : Expr} (hK : X.K = r.K) (he : PE X e (tF r T W fa)) (hg : PG X tg (tgT X.K t)) (hs : swapsWithSole [tg] e pos.line X.env = pure false) (hw : swappedStores [tg] e X.env = pure none)
    (h1 : (assignEach [tg] X.env).map (·.2) = [assign tg X.env]) : PS X (.Assign [tg] e pos) (tSF r T W (sTg t fa)) :=
  PS_imp (ps_asg he hg hs hw h1) fun D s H ⟨m, S, l, hR, hL, q⟩ => mono_tF (stS hR hL q) fun x H1 ⟨m1, S1, g, e, hR1, hL1, h1, q1⟩ => by
    cases e2 : tgSet t g l with
    | none => rw [e2] at q1; exact False.elim q1
    | some l' =>
      rw [e2] at q1
      rw [hK]
      exact tg_ok hL1 h1 e2 fun s' hL' _ => q1 m1 H1 s' (.refl _ _) hR1 hL'
/-- a, b = x, y -/
theorem g_par {i j : Nat} {x y : Str} {px py pt : Pos} {kt k2 pt2} (hc : X.calm = true) (hN : X.N.Nodup) (hi : X.N[i]? = some x) (hj : X.N[j]? = some y) (hij : i ≠ j) (hx : X.env.scope.names.lookup x = some .local) (hy : X.env.scope.names.lookup y = some .local)
    (ha : PE X a (tF r T W fa)) (hb : PE X b (tF r T W fb)) (hs1 : starEach [a, b] X.env = (false, eval a X.env) :: starEach [b] X.env) (hs2 : starEach [b] X.env = (false, eval b X.env) :: starEach [] X.env)
    (hw : swappedStores [.Tuple [.Name x px, .Name y py] kt pt] (.Tuple [a, b] k2 pt2) X.env = pure (some [x, y])) (hs : swapsWithSole [.Tuple [.Name x px, .Name y py] kt pt] (.Tuple [a, b] k2 pt2) pos.line X.env = pure false) :
    PS X (.Assign [.Tuple [.Name x px, .Name y py] kt pt] (.Tuple [a, b] k2 pt2) pos) (tSF r T W (sPar i j fa fb)) :=
  PS_imp (ps_par hc hN hi hj hij hx hy (pa_cons ha (pa_cons hb pa_nil hs2) hs1) hw hs) fun D s H ⟨m, S, l, hR, hL, q⟩ => mono_tF (stS hR hL q) fun x H1 ⟨m1, S1, g, e, hR1, hL1, h1, q1⟩ =>
    mono_tF (stS hR1 hL1 q1) fun y H2 ⟨m2, S2, g2, e2, hR2, hL2, h2, q2⟩ => ⟨_, _, rfl, q2 m2 H2 _ (.refl _ _) hR2 ((hL2.set i (h1.ext e2)).set j h2)⟩
/-! ### while -/
theorem g_while (hp : PassesOwn (model X.prog X.w) X.A X.env X.xe) (hc : PT X e (tFT r T W ta)) (hb : PSs X sts (tSF r T W f)) : PS X (.While e sts [] pos) (tSF r T W (sWhile ta f)) :=
  PS_imp (ps_while hp hc hb) fun D s H ⟨m, S, l, hR, hL, q⟩ => by
    refine ⟨fun n s H => ∃ m S l, Rep r T m S H ∧ RepL r m H l s ∧ PstS r T W D m H (wGo ta f n l S), ⟨wMax, m, S, l, hR, hL, q⟩, ?_⟩
    rintro n s H ⟨m, S, l, hR, hL, q⟩
    cases n with
    | zero => exact False.elim q
    | succ n =>
      refine mono_tFT (stST hR hL q) fun x H1 ⟨m1, S1, e, hR1, hL1, q1⟩ => ?_
      cases x with
      | false => exact q1 m1 H1 s (.refl _ _) hR1 hL1
      | true =>
        rw [if_pos rfl] at q1 ⊢
        refine ⟨fun s' H' => ∃ m S l, Rep r T m S H' ∧ RepL r m H' l s' ∧ PstS r T W D m H' (wGo ta f n l S), fun s' H' h => ⟨n, Nat.lt_succ_self n, h⟩, m1, S1, l, hR1, hL1, ?_⟩
        cases e2 : f l S1 with
        | nx l' S' => rw [e2] at q1; exact fun m2 H2 s2 e3 a b => ⟨m2, S', l', a, b, PstS.ext e3 q1⟩
        | ct l' S' => rw [e2] at q1; exact fun m2 H2 s2 e3 a b => ⟨m2, S', l', a, b, PstS.ext e3 q1⟩
        | bk l' S' => rw [e2] at q1; exact q1
        | rt v S' => rw [e2] at q1; exact q1
        | exc c fs l' S' => rw [e2] at q1; exact q1
        | bad => rw [e2] at q1; exact q1
/-! ### what is walked -/
def itAt (i : It) (S : Sto) (k : Nat) : Option (Option G) := match i with
  | .fix xs => some xs[k]?
  | .dyn n => (lstAt S n).map fun xs => xs[k]?
structure ItOk (r : RP) (T : List (Addr × Str)) (m : List Addr) (H : Hp) (i : It) (J : L2.It) : Prop where
  go : ∀ hs k m' S' H' x, (∀ a ∈ hs, H a = none) → ExtB r.hid m H m' H' → Rep (r.hides hs) T m' S' H' → itAt i S' k = some (some x) → J.go k H' ∧ ∀ v H2, J.yld k H' v H2 → Ext m' H' m' H2 ∧ Rep (r.hides hs) T m' S' H2 ∧ RepV (r.hides hs) m' H2 x v
  stop : ∀ hs k m' S' H', (∀ a ∈ hs, H a = none) → ExtB r.hid m H m' H' → Rep (r.hides hs) T m' S' H' → itAt i S' k = some none → J.stop k H'
  size : ∀ xs, i = .fix xs → xs.length ≤ sizeLine
theorem hides_nil (r : RP) : r.hides [] = r := rfl
theorem ItOk.go0 {i : It} {J : L2.It} (h : ItOk r T m H i J) {k : Nat} {x : G} (hR : Rep r T m S H) (e : itAt i S k = some (some x)) : J.go k H ∧ ∀ v H2, J.yld k H v H2 → Ext m H m H2 ∧ Rep r T m S H2 ∧ RepV r m H2 x v :=
  h.go [] k m S H x (by simp) (Ext.refl _ _).toB hR e
theorem ItOk.stop0 {i : It} {J : L2.It} (h : ItOk r T m H i J) {k : Nat} (hR : Rep r T m S H) (e : itAt i S k = some none) : J.stop k H := h.stop [] k m S H (by simp) (Ext.refl _ _).toB hR e
theorem ItOk.ext {i : It} {J : L2.It} (e : Ext m H m' H') (h : ItOk r T m H i J) : ItOk r T m' H' i J :=
  ⟨fun hs k m2 S2 H2 x z e2 a b => h.go hs k m2 S2 H2 x (fun a ha => e.grow a (z a ha)) (e.transB e2) a b, fun hs k m2 S2 H2 z e2 a b => h.stop hs k m2 S2 H2 (fun a ha => e.grow a (z a ha)) (e.transB e2) a b, h.size⟩
def tIF (r : RP) (T : List (Addr × Str)) (W : WX) (it : Loc → Sto → R It) : TI := fun s H Q => ∃ m S l, Rep r T m S H ∧ RepL r m H l s ∧ Pst r T W (fun m' H' (i : It) (J : L2.It) => ItOk r T m' H' i J) s m H (it l S) fun J H' => Q J H'
/-- one turn of a for -/
theorem turn_step {t : Tg} {x : G} {v : V} {k : StM} (hR : Rep r T m S H) (hL : RepL r m H l s) (hv : RepV r m H x v) (q : PstS r T W D m H (fTurn t f x k l S)) :
    tgT r.K t v s H fun s2 H2 => tSF r T W f { D with nx := fun s' H' => ∃ m' S' l', Ext m H m' H' ∧ Rep r T m' S' H' ∧ RepL r m' H' l' s' ∧ PstS r T W D m' H' (k l' S'), ct := fun s' H' => ∃ m' S' l', Ext m H m' H' ∧ Rep r T m' S' H' ∧ RepL r m' H' l' s' ∧ PstS r T W D m' H' (k l' S'), bk := D.nx } s2 H2 := by
  unfold fTurn at q
  cases e : tgSet t x l with
  | none => rw [e] at q; exact False.elim q
  | some l' =>
    rw [e] at q
    refine tg_ok hL hv e fun s' hL' _ => ⟨m, S, l', hR, hL', ?_⟩
    dsimp only at q
    cases e2 : f l' S with
    | nx l2 S2 => rw [e2] at q; exact fun m2 H2 s2 e3 a b => ⟨m2, S2, l2, e3, a, b, PstS.ext e3 q⟩
    | ct l2 S2 => rw [e2] at q; exact fun m2 H2 s2 e3 a b => ⟨m2, S2, l2, e3, a, b, PstS.ext e3 q⟩
    | bk l2 S2 => rw [e2] at q; exact q
    | rt v S2 => rw [e2] at q; exact q
    | exc c fs l2 S2 => rw [e2] at q; exact q
    | bad => rw [e2] at q; exact q
theorem drop_cons {α : Type} {xs : List α} {i : Nat} {x : α} (h : xs[i]? = some x) : xs.drop i = x :: xs.drop (i + 1) := by
  obtain ⟨hi, e⟩ := List.getElem?_eq_some_iff.mp h
  rw [List.drop_eq_getElem_cons hi, e]
theorem mono_tgT {K : PySem.W.Frag} {t : Tg} {v : V} {s : L2.St} {H : Hp} {Q Q' : L2.St → Hp → Prop} (h : tgT K t v s H Q) (k : ∀ s H, Q s H → Q' s H) : tgT K t v s H Q' := by
  cases t with
  | nm i => exact k _ _ h
  | tp is =>
    obtain ⟨a, ys, e1, e2, e3, e4⟩ := h
    refine ⟨a, ys, e1, e2, e3, ?_⟩
    clear e1 e2 e3
    induction is generalizing ys s with
    | nil => exact ⟨e4.1, k _ _ e4.2⟩
    | cons i is ih =>
      obtain ⟨v, r', e5, e6⟩ := e4
      exact ⟨v, r', e5, ih _ e6⟩
theorem for_fix {t : Tg} {J : L2.It} {xs : List G} (hI : ItOk r T m H (.fix xs) J) (hR : Rep r T m S H) (hL : RepL r m H l s) (q : PstS r T W D m H (fGo t f xs l S)) :
    ∃ Wv : Nat → Nat → L2.St → Hp → Prop, (∃ n, Wv 0 n s H) ∧ ∀ i n s H, Wv i n s H → (J.stop i H ∧ D.nx s H) ∨
      (J.go i H ∧ ∃ N : L2.St → Hp → Prop, (∀ s' H', N s' H' → ∃ n', n' < n ∧ Wv (i + 1) n' s' H') ∧ ∀ x H', J.yld i H x H' → tgT r.K t x s H' fun s2 H2 => tSF r T W f { D with nx := N, ct := N, bk := D.nx } s2 H2) := by
  refine ⟨fun i n s H => n = xs.length - i ∧ i ≤ xs.length ∧ ∃ m S l, ItOk r T m H (.fix xs) J ∧ Rep r T m S H ∧ RepL r m H l s ∧ PstS r T W D m H (fGo t f (xs.drop i) l S), ⟨xs.length, by simp, by simp, m, S, l, hI, hR, hL, q⟩, ?_⟩
  rintro i n s H ⟨rfl, hi, m, S, l, hI, hR, hL, q⟩
  cases e : xs[i]? with
  | none =>
    have hl : xs.length ≤ i := List.getElem?_eq_none_iff.mp e
    rw [List.drop_eq_nil_of_le hl] at q
    exact .inl ⟨hI.stop0 (k := i) hR (by simp [itAt, e]), q m H s (.refl _ _) hR hL⟩
  | some x =>
    have hlt : i < xs.length := (List.getElem?_eq_some_iff.mp e).1
    rw [drop_cons e] at q
    obtain ⟨g1, g2⟩ := hI.go0 (k := i) (x := x) hR (by simp [itAt, e])
    refine .inr ⟨g1, fun s' H' => ∃ m' S' l', Ext m H m' H' ∧ Rep r T m' S' H' ∧ RepL r m' H' l' s' ∧ PstS r T W D m' H' (fGo t f (xs.drop (i + 1)) l' S'), fun s' H' ⟨m', S', l', ex, a, b, c⟩ => ⟨_, (by omega : xs.length - (i + 1) < xs.length - i), rfl, hlt, m', S', l', hI.ext ex, a, b, c⟩, fun v H' hy => ?_⟩
    obtain ⟨ex, hR', hv⟩ := g2 v H' hy
    have hs := turn_step hR' (hL.ext ex) hv (PstS.ext ex (show PstS r T W D m H (fTurn t f x (fGo t f (xs.drop (i + 1))) l S) from q))
    refine mono_tgT hs fun s2 H2 ⟨m2, S2, l2, a2, b2, c2⟩ => ⟨m2, S2, l2, a2, b2, ?_⟩
    revert c2
    cases f l2 S2 with
    | nx l3 S3 => exact fun c2 m3 H3 s3 e3 a3 b3 => let ⟨m4, S4, l4, x1, x2, x3, x4⟩ := c2 m3 H3 s3 e3 a3 b3; ⟨m4, S4, l4, ex.trans x1, x2, x3, x4⟩
    | ct l3 S3 => exact fun c2 m3 H3 s3 e3 a3 b3 => let ⟨m4, S4, l4, x1, x2, x3, x4⟩ := c2 m3 H3 s3 e3 a3 b3; ⟨m4, S4, l4, ex.trans x1, x2, x3, x4⟩
    | bk l3 S3 => exact id
    | rt v S3 => exact id
    | exc c fs l3 S3 => exact id
    | bad => exact id
theorem for_dyn {t : Tg} {J : L2.It} {n : Nat} {M : Nat} (hI : ItOk r T m H (.dyn n) J) (hR : Rep r T m S H) (hL : RepL r m H l s) (q : PstS r T W D m H (fDyn t f n M 0 l S)) :
    ∃ Wv : Nat → Nat → L2.St → Hp → Prop, (∃ n, Wv 0 n s H) ∧ ∀ i n s H, Wv i n s H → (J.stop i H ∧ D.nx s H) ∨
      (J.go i H ∧ ∃ N : L2.St → Hp → Prop, (∀ s' H', N s' H' → ∃ n', n' < n ∧ Wv (i + 1) n' s' H') ∧ ∀ x H', J.yld i H x H' → tgT r.K t x s H' fun s2 H2 => tSF r T W f { D with nx := N, ct := N, bk := D.nx } s2 H2) := by
  refine ⟨fun i k s H => ∃ m S l, ItOk r T m H (.dyn n) J ∧ Rep r T m S H ∧ RepL r m H l s ∧ PstS r T W D m H (fDyn t f n k i l S), ⟨M, m, S, l, hI, hR, hL, q⟩, ?_⟩
  rintro i k s H ⟨m, S, l, hI, hR, hL, q⟩
  cases k with
  | zero => exact False.elim q
  | succ k =>
    unfold fDyn at q
    cases e0 : lstAt S n with
    | none => rw [e0] at q; exact False.elim q
    | some xs =>
      rw [e0] at q
      dsimp only at q
      cases e : xs[i]? with
      | none =>
        rw [e] at q
        exact .inl ⟨hI.stop0 (k := i) hR (by simp [itAt, e0, e]), q m H s (.refl _ _) hR hL⟩
      | some x =>
        rw [e] at q
        obtain ⟨g1, g2⟩ := hI.go0 (k := i) (x := x) hR (by simp [itAt, e0, e])
        refine .inr ⟨g1, fun s' H' => ∃ m' S' l', Ext m H m' H' ∧ Rep r T m' S' H' ∧ RepL r m' H' l' s' ∧ PstS r T W D m' H' (fDyn t f n k (i + 1) l' S'), fun s' H' ⟨m', S', l', ex, a, b, c⟩ => ⟨k, Nat.lt_succ_self k, m', S', l', hI.ext ex, a, b, c⟩, fun v H' hy => ?_⟩
        obtain ⟨ex, hR', hv⟩ := g2 v H' hy
        refine mono_tgT (turn_step hR' (hL.ext ex) hv (PstS.ext ex q)) fun s2 H2 ⟨m2, S2, l2, a2, b2, c2⟩ => ⟨m2, S2, l2, a2, b2, ?_⟩
        revert c2
        cases f l2 S2 with
        | nx l3 S3 => exact fun c2 m3 H3 s3 e3 a3 b3 => let ⟨m4, S4, l4, x1, x2, x3, x4⟩ := c2 m3 H3 s3 e3 a3 b3; ⟨m4, S4, l4, ex.trans x1, x2, x3, x4⟩
        | ct l3 S3 => exact fun c2 m3 H3 s3 e3 a3 b3 => let ⟨m4, S4, l4, x1, x2, x3, x4⟩ := c2 m3 H3 s3 e3 a3 b3; ⟨m4, S4, l4, ex.trans x1, x2, x3, x4⟩
        | bk l3 S3 => exact id
        | rt v S3 => exact id
        | exc c fs l3 S3 => exact id
        | bad => exact id
theorem g_for {t : Tg} {tg iter : Expr} {it : Loc → Sto → R It} (hK : X.K = r.K) (hp : PassesOwn (model X.prog X.w) X.A X.env X.xe) (hc : X.calm = true) (hi : PI X tg iter (tIF r T W it)) (hg : PG X tg (tgT X.K t)) (hb : PSs X sts (tSF r T W f))
    (hs : ∀ x, foldedSetIterable iter X.env x = pure x) : PS X (.For tg iter sts [] pos) (tSF r T W (sFor it t f)) :=
  PS_imp (ps_for hp hc hi hg hb hs) fun D s H ⟨m, S, l, hR, hL, q⟩ => by
    refine ⟨m, S, l, hR, hL, ?_⟩
    unfold sFor at q
    cases e : it l S with
    | bad => rw [e] at q; exact q
    | exc c fs S1 => rw [e] at q; exact fun m2 H2 C d e2 a k x => q m2 H2 s C d e2 a (hL.ext e2) k x
    | ok i S1 =>
      rw [e] at q
      rw [hK]
      refine fun m2 H2 J e2 a hI => ?_
      cases i with
      | fix xs => exact for_fix hI a (hL.ext e2) (PstS.ext e2 q)
      | dyn n => exact for_dyn hI a (hL.ext e2) (PstS.ext e2 q)
/-! ### list comprehensions -/
theorem wipe_wipe (s : L2.St) (vs : List Nat) : L2.wipe (L2.wipe s vs) vs = L2.wipe s vs := by
  apply List.ext_getElem?
  intro j
  rw [wipe_get, wipe_get, L2.wipe_length]
  by_cases c : j ∈ vs ∧ j < s.length
  · rw [if_pos c, if_pos c]
  · rw [if_neg c, if_neg c]
abbrev W0 : WX := fun _ _ _ _ => False
/-- a step within a comprehension: the reading with a hidden list, what is wanted told from the comprehension's start -/
theorem stN {r' : RP} {a1 b1 : Type} {relr : List Addr → Hp → a1 → b1 → Prop} {rel2 : List Addr → Hp → G → V → Prop} {res : R a1} {k : a1 → Sto → R G} {Q : VK} {m0 : List Addr} {H0 : Hp} {s0 s2 : L2.St}
    (h : Pst r T W rel2 s0 m0 H0 (rbN res k) Q) : Pst r' T W0 relr s2 m H res fun x H1 => ∃ m1 S1 g, Ext m H m1 H1 ∧ Rep r' T m1 S1 H1 ∧ relr m1 H1 g x ∧ Pst r T W rel2 s0 m0 H0 (k g S1) Q := by
  cases res with
  | ok x S1 => exact fun m2 H2 v e2 a b => ⟨m2, S1, x, e2, a, b, h⟩
  | exc c fs S1 => exact False.elim h
  | bad => exact False.elim h
/-- tests and elements: whatever is hidden -/
def tTh (r : RP) (T : List (Addr × Str)) (f : Te) : TT := fun s H Q => ∃ hid, tFT { r with hid := hid } T W0 f s H Q
def tEh (r : RP) (T : List (Addr × Str)) (f : Ev) : TE := fun s H Q => ∃ hid, tF { r with hid := hid } T W0 f s H Q
theorem lc_fix {own : List Nat} {t : Tg} {tst : Te} {elt : Ev} {J : L2.It} {xs : List G} {Q : VK} (ht : ∀ i ∈ t.is, i ∈ own) (hI : ItOk r T m H (.fix xs) J) (hR : Rep r T m S H) (hL : RepL r m H l s)
    (q : Pst r T W (RepV r) s m H (rb (lcGo t tst elt (wipeL l own) xs [] S) fun ys S => .ok (.tl ys) S) Q) (Dd : Addr) (hD : H Dd = none) :
    ∃ Wv : Nat → Nat → Hp → Prop, (∃ n, Wv 0 n (upd H Dd (.lst []))) ∧ ∀ i n H, Wv i n H → (J.stop i H ∧ Q (.ref Dd) H) ∨
      (J.go i H ∧ ∃ Nx : Hp → Prop, (∀ H', Nx H' → ∃ n', n' < n ∧ Wv (i + 1) n' H') ∧ ∀ x H', J.yld i H x H' → tgT r.K t x (L2.wipe s own) H' fun s2 H2 => L2.wipe s2 own = L2.wipe s own ∧ tTh r T tst s2 H2 fun b H3 =>
        if b = true then tEh r T elt s2 H3 fun y H4 => ∃ acc, H4 Dd = some (.lst acc) ∧ acc.length < sizeLine ∧ Nx (upd H4 Dd (.lst (acc ++ [y]))) else Nx H3) := by
  have sz := hI.size xs rfl
  refine ⟨fun i n H' => n = xs.length - i ∧ i ≤ xs.length ∧ ∃ m' S' acc accV, Ext m H m' H' ∧ Rep (r.hide Dd) T m' S' H' ∧ RepL (r.hide Dd) m' H' (wipeL l own) (L2.wipe s own) ∧ H' Dd = some (.lst accV) ∧ RepVs (r.hide Dd) m' H' acc accV ∧ acc.length ≤ i ∧
    Pst r T W (RepV r) s m H (rb (lcGo t tst elt (wipeL l own) (xs.drop i) acc S') fun ys S => .ok (.tl ys) S) Q, ⟨xs.length, by simp, by simp, m, S, [], [], Ext.new hD _, hR.hide hD, (hL.wipe own).hide hD, upd_same, .nil, by simp, q⟩, ?_⟩
  rintro i n H' ⟨rfl, hi, m', S', acc, accV, e', hR', hL', hDa, hA, hlen, q'⟩
  have hla := hA.length
  cases e : xs[i]? with
  | none =>
    have hl : xs.length ≤ i := List.getElem?_eq_none_iff.mp e
    rw [List.drop_eq_nil_of_le hl] at q'
    refine .inl ⟨hI.stop [Dd] i m' S' H' (one_none hD) e'.toB hR' (by simp [itAt, e]), q' m' H' _ e' hR'.unhide (.tl ⟨(hR'.hid Dd (by simp [RP.hides])).1, fun z => ?_⟩ hDa (by omega) hA.unhide)⟩
    obtain ⟨_, ys, hy⟩ := hR.hid Dd z
    rw [hD] at hy; cases hy
  | some x =>
    have hlt : i < xs.length := (List.getElem?_eq_some_iff.mp e).1
    rw [drop_cons e] at q'
    obtain ⟨g1, g2⟩ := hI.go [Dd] i m' S' H' x (one_none hD) e'.toB hR' (by simp [itAt, e])
    refine .inr ⟨g1, fun H5 => ∃ m5 S5 acc accV, Ext m H m5 H5 ∧ Rep (r.hide Dd) T m5 S5 H5 ∧ RepL (r.hide Dd) m5 H5 (wipeL l own) (L2.wipe s own) ∧ H5 Dd = some (.lst accV) ∧ RepVs (r.hide Dd) m5 H5 acc accV ∧ acc.length ≤ i + 1 ∧
      Pst r T W (RepV r) s m H (rb (lcGo t tst elt (wipeL l own) (xs.drop (i + 1)) acc S5) fun ys S => .ok (.tl ys) S) Q, fun H5 h => ⟨_, (by omega : xs.length - (i + 1) < xs.length - i), rfl, hlt, h⟩, fun v H2 hy => ?_⟩
    obtain ⟨ex, hR2, hv⟩ := g2 v H2 hy
    unfold lcGo at q'
    cases e2 : tgSet t x (wipeL l own) with
    | none => rw [e2] at q'; exact False.elim q'
    | some l' =>
      rw [e2] at q'
      refine tg_ok (r := r.hide Dd) (hL'.ext ex) hv e2 fun s' hLs hw => ⟨(hw own ht).trans (wipe_wipe s own), (r.hide Dd).hid, ?_⟩
      have q2 : Pst r T W (RepV r) s m H (rbN (tst l' S') fun k S => rb (if k = true then rbN (elt l' S) fun y S => lcGo t tst elt (wipeL l own) (xs.drop (i + 1)) (acc ++ [y]) S else lcGo t tst elt (wipeL l own) (xs.drop (i + 1)) acc S) fun ys S => .ok (.tl ys) S) Q := by
        revert q'
        dsimp only
        cases tst l' S' <;> exact id
      refine ⟨m', S', l', hR2, hLs, Pst.mono (stN (r' := r.hide Dd) (relr := fun _ _ (x y : Bool) => x = y) q2) fun b H3 ⟨m3, S3, b', e3, hR3, eb, q3⟩ => ?_⟩
      subst eb
      have hD2 : H2 Dd = some (.lst accV) := ex.keep Dd _ (hR'.hid Dd (by simp [RP.hides])).1 (fun _ z => by cases z) hDa
      have hD3 : H3 Dd = some (.lst accV) := e3.keep Dd _ (hR2.hid Dd (by simp [RP.hides])).1 (fun _ z => by cases z) hD2
      cases b' with
      | false =>
        rw [if_neg Bool.false_ne_true] at q3 ⊢
        exact ⟨m3, S3, acc, accV, (e'.trans ex).trans e3, hR3, (hL'.ext ex).ext e3, hD3, (hA.ext ex).ext e3, by omega, q3⟩
      | true =>
        rw [if_pos rfl] at q3 ⊢
        have q4 : Pst r T W (RepV r) s m H (rbN (elt l' S3) fun y S => rb (lcGo t tst elt (wipeL l own) (xs.drop (i + 1)) (acc ++ [y]) S) fun ys S => .ok (.tl ys) S) Q := by
          revert q3
          cases elt l' S3 <;> exact id
        refine ⟨(r.hide Dd).hid, m3, S3, l', hR3, hLs.ext e3, Pst.mono (stN (r' := r.hide Dd) (relr := RepV (r.hide Dd)) q4) fun y H4 ⟨m4, S4, g4, e4, hR4, hg4, q5⟩ => ?_⟩
        have hD4 : H4 Dd = some (.lst accV) := e4.keep Dd _ (hR3.hid Dd (by simp [RP.hides])).1 (fun _ z => by cases z) hD3
        have hm : Dd ∈ (r.hide Dd).hid := by simp [RP.hides]
        exact ⟨accV, hD4, by omega, m4, S4, acc ++ [g4], accV ++ [y], Ext.behind (((e'.trans ex).trans e3).trans e4) hD, hR4.behind hm (hR.ent.grow _ hD), (((hL'.ext ex).ext e3).ext e4).behind hm, upd_same,
          ((((hA.ext ex).ext e3).ext e4).append (.cons hg4 .nil)).behind hm, by simp; omega, q5⟩
theorem lc_dyn {own : List Nat} {t : Tg} {tst : Te} {elt : Ev} {J : L2.It} {n : Nat} {M : Nat} {Q : VK} (ht : ∀ i ∈ t.is, i ∈ own) (hI : ItOk r T m H (.dyn n) J) (hR : Rep r T m S H) (hL : RepL r m H l s)
    (q : Pst r T W (RepV r) s m H (rb (lcDyn t tst elt (wipeL l own) n M 0 [] S) fun ys S => .ok (.tl ys) S) Q) (Dd : Addr) (hD : H Dd = none) :
    ∃ Wv : Nat → Nat → Hp → Prop, (∃ n, Wv 0 n (upd H Dd (.lst []))) ∧ ∀ i n H, Wv i n H → (J.stop i H ∧ Q (.ref Dd) H) ∨
      (J.go i H ∧ ∃ Nx : Hp → Prop, (∀ H', Nx H' → ∃ n', n' < n ∧ Wv (i + 1) n' H') ∧ ∀ x H', J.yld i H x H' → tgT r.K t x (L2.wipe s own) H' fun s2 H2 => L2.wipe s2 own = L2.wipe s own ∧ tTh r T tst s2 H2 fun b H3 =>
        if b = true then tEh r T elt s2 H3 fun y H4 => ∃ acc, H4 Dd = some (.lst acc) ∧ acc.length < sizeLine ∧ Nx (upd H4 Dd (.lst (acc ++ [y]))) else Nx H3) := by
  refine ⟨fun i k H' => ∃ m' S' acc accV, Ext m H m' H' ∧ Rep (r.hide Dd) T m' S' H' ∧ RepL (r.hide Dd) m' H' (wipeL l own) (L2.wipe s own) ∧ H' Dd = some (.lst accV) ∧ RepVs (r.hide Dd) m' H' acc accV ∧ acc.length ≤ sizeLine ∧
    Pst r T W (RepV r) s m H (rb (lcDyn t tst elt (wipeL l own) n k i acc S') fun ys S => .ok (.tl ys) S) Q, ⟨M, m, S, [], [], Ext.new hD _, hR.hide hD, (hL.wipe own).hide hD, upd_same, .nil, by simp, q⟩, ?_⟩
  rintro i k H' ⟨m', S', acc, accV, e', hR', hL', hDa, hA, hlen, q'⟩
  have hla := hA.length
  cases k with
  | zero => exact False.elim q'
  | succ k =>
  unfold lcDyn at q'
  cases e0 : lstAt S' n with
  | none => rw [e0] at q'; exact False.elim q'
  | some xs =>
  rw [e0] at q'
  dsimp only at q'
  cases e : xs[i]? with
  | none =>
    rw [e] at q'
    refine .inl ⟨hI.stop [Dd] i m' S' H' (one_none hD) e'.toB hR' (by simp [itAt, e0, e]), q' m' H' _ e' hR'.unhide (.tl ⟨(hR'.hid Dd (by simp [RP.hides])).1, fun z => ?_⟩ hDa (by omega) hA.unhide)⟩
    obtain ⟨_, ys, hy⟩ := hR.hid Dd z
    rw [hD] at hy; cases hy
  | some x =>
    rw [e] at q'
    obtain ⟨g1, g2⟩ := hI.go [Dd] i m' S' H' x (one_none hD) e'.toB hR' (by simp [itAt, e0, e])
    refine .inr ⟨g1, fun H5 => ∃ m5 S5 acc accV, Ext m H m5 H5 ∧ Rep (r.hide Dd) T m5 S5 H5 ∧ RepL (r.hide Dd) m5 H5 (wipeL l own) (L2.wipe s own) ∧ H5 Dd = some (.lst accV) ∧ RepVs (r.hide Dd) m5 H5 acc accV ∧ acc.length ≤ sizeLine ∧
      Pst r T W (RepV r) s m H (rb (lcDyn t tst elt (wipeL l own) n k (i + 1) acc S5) fun ys S => .ok (.tl ys) S) Q, fun H5 h => ⟨k, Nat.lt_succ_self k, h⟩, fun v H2 hy => ?_⟩
    obtain ⟨ex, hR2, hv⟩ := g2 v H2 hy
    dsimp only at q'
    cases e2 : tgSet t x (wipeL l own) with
    | none => rw [e2] at q'; exact False.elim q'
    | some l' =>
      rw [e2] at q'
      refine tg_ok (r := r.hide Dd) (hL'.ext ex) hv e2 fun s' hLs hw => ⟨(hw own ht).trans (wipe_wipe s own), (r.hide Dd).hid, ?_⟩
      have q2 : Pst r T W (RepV r) s m H (rbN (tst l' S') fun b S => rb (if b = true then rbN (elt l' S) fun y S => if acc.length < sizeLine then lcDyn t tst elt (wipeL l own) n k (i + 1) (acc ++ [y]) S else .bad else lcDyn t tst elt (wipeL l own) n k (i + 1) acc S) fun ys S => .ok (.tl ys) S) Q := by
        revert q'
        dsimp only
        cases tst l' S' <;> exact id
      refine ⟨m', S', l', hR2, hLs, Pst.mono (stN (r' := r.hide Dd) (relr := fun _ _ (x y : Bool) => x = y) q2) fun b H3 ⟨m3, S3, b', e3, hR3, eb, q3⟩ => ?_⟩
      subst eb
      have hD2 : H2 Dd = some (.lst accV) := ex.keep Dd _ (hR'.hid Dd (by simp [RP.hides])).1 (fun _ z => by cases z) hDa
      have hD3 : H3 Dd = some (.lst accV) := e3.keep Dd _ (hR2.hid Dd (by simp [RP.hides])).1 (fun _ z => by cases z) hD2
      cases b' with
      | false =>
        rw [if_neg Bool.false_ne_true] at q3 ⊢
        exact ⟨m3, S3, acc, accV, (e'.trans ex).trans e3, hR3, (hL'.ext ex).ext e3, hD3, (hA.ext ex).ext e3, hlen, q3⟩
      | true =>
        rw [if_pos rfl] at q3 ⊢
        have q4 : Pst r T W (RepV r) s m H (rbN (elt l' S3) fun y S => rb (if acc.length < sizeLine then lcDyn t tst elt (wipeL l own) n k (i + 1) (acc ++ [y]) S else .bad) fun ys S => .ok (.tl ys) S) Q := by
          revert q3
          cases elt l' S3 <;> exact id
        refine ⟨(r.hide Dd).hid, m3, S3, l', hR3, hLs.ext e3, Pst.mono (stN (r' := r.hide Dd) (relr := RepV (r.hide Dd)) q4) fun y H4 ⟨m4, S4, g4, e4, hR4, hg4, q5⟩ => ?_⟩
        have hD4 : H4 Dd = some (.lst accV) := e4.keep Dd _ (hR3.hid Dd (by simp [RP.hides])).1 (fun _ z => by cases z) hD3
        have hm : Dd ∈ (r.hide Dd).hid := by simp [RP.hides]
        split at q5
        · rename_i c
          exact ⟨accV, hD4, by omega, m4, S4, acc ++ [g4], accV ++ [y], Ext.behind (((e'.trans ex).trans e3).trans e4) hD, hR4.behind hm (hR.ent.grow _ hD), (((hL'.ext ex).ext e3).ext e4).behind hm, upd_same,
            ((((hA.ext ex).ext e3).ext e4).append (.cons hg4 .nil)).behind hm, by simp; omega, q5⟩
        · exact False.elim q5
theorem tLc_imp {own : List Nat} {t : Tg} {tst : Te} {elt : Ev} {it : Loc → Sto → R It} {Q : VK} (ht : ∀ i ∈ t.is, i ∈ own) (h : tF r T W (eLc it own t tst elt) s H Q) : tLc (tIF r T W it) (tgT r.K t) (tTh r T tst) (tEh r T elt) own s H Q := by
  obtain ⟨m, S, l, hR, hL, q⟩ := h
  refine ⟨m, S, l, hR, hL, ?_⟩
  unfold eLc lcV at q
  cases e : it l S with
  | bad => rw [e] at q; exact q
  | exc c fs S1 => rw [e] at q; exact q
  | ok i S1 =>
    rw [e] at q
    refine fun m2 H2 J e2 a hI => ?_
    cases i with
    | fix xs => exact lc_fix ht hI a (hL.ext e2) (Pst.ext e2 q)
    | dyn n => exact lc_dyn ht hI a (hL.ext e2) (Pst.ext e2 q)
theorem PT_any {X : Cx} {e : Expr} {t : Te} (h : ∀ hid, PT X e (tFT { r with hid := hid } T W0 t)) : PT X e (tTh r T t) := ⟨fun pins s l H Q I ⟨hid, w⟩ => (h hid).run pins s l H Q I w⟩
theorem PE_any {X : Cx} {e : Expr} {t : Ev} (h : ∀ hid, PE X e (tF { r with hid := hid } T W0 t)) : PE X e (tEh r T t) := ⟨fun pins s l H Q I ⟨hid, w⟩ => (h hid).run pins s l H Q I w⟩
theorem pts_tYes {X : Cx} : PTs X [] (tTh r T tYes) := ⟨fun pins s l H Q I ⟨hid, m, S, l', hR, hL, q⟩ => pts_nil.run pins s l H Q I (q.ok_of hR rfl)⟩
variable {it : Loc → Sto → R It} {t : Tg} {tst : Te} {elt tg iter : Expr} {ee : Ev} {ifs : List Expr} {scope : Scope} {own : List (Str × Nat)} {spos : Pos}
theorem g_lc (hK : X.K = r.K) (hc : X.calm = true) (hN : X.N.Nodup) (hi : PI X tg iter (tIF r T W it)) (ok : BlkOk X.N X.env.scope scope own) (ht : ∀ i ∈ t.is, i ∈ own.map (·.2))
    (hg : ∀ (s : Shared) (H : Hp) (C : Addr) (cl : List (Str × Addr)) (fp : List Addr), PG (X.blk s H scope (compEnvC scope cl C X.env) fp) tg (tgT X.K t)) (htt : ∀ (s : Shared) (H : Hp) (C : Addr) (cl : List (Str × Addr)) (fp : List Addr), PTs (X.blk s H scope (compEnvC scope cl C X.env) fp) ifs (tTh r T tst))
    (he : ∀ (s : Shared) (H : Hp) (C : Addr) (cl : List (Str × Addr)) (fp : List Addr), PE (X.blk s H scope (compEnvC scope cl C X.env) fp) elt (tEh r T ee)) (hs : ∀ x, foldedSetIterable iter X.env x = pure x) :
    PE X (.ListComp elt [⟨tg, iter, ifs, 0⟩] scope pos) (tF r T W (eLc it (own.map (·.2)) t tst ee)) :=
  PE_imp (pe_lc hc hN hi ok hg htt he hs) fun s H Q h => by rw [hK]; exact tLc_imp ht h
theorem g_setLc {i : Nat} {y : Str} {py : Pos} (hK : X.K = r.K) (hc : X.calm = true) (hN : X.N.Nodup) (hy : X.N[i]? = some y) (hyl : X.env.scope.names.lookup y = some .local)
    (hsw : swapsWith (.ListComp elt [⟨tg, iter, ifs, 0⟩] scope pos) (some (.Name y py)) spos.line X.env = pure true) (hi : PI X tg iter (tIF r T W it)) (ok : BlkOk X.N X.env.scope scope own) (ht : ∀ i ∈ t.is, i ∈ own.map (·.2))
    (hg : ∀ (s : Shared) (H : Hp) (C : Addr) (cl : List (Str × Addr)) (fp : List Addr), PG (X.blk s H scope (compEnvC scope cl C X.env) fp) tg (tgT X.K t)) (htt : ∀ (s : Shared) (H : Hp) (C : Addr) (cl : List (Str × Addr)) (fp : List Addr), PTs (X.blk s H scope (compEnvC scope cl C X.env) fp) ifs (tTh r T tst))
    (he : ∀ (s : Shared) (H : Hp) (C : Addr) (cl : List (Str × Addr)) (fp : List Addr), PE (X.blk s H scope (compEnvC scope cl C X.env) fp) elt (tEh r T ee)) (hs : ∀ x, foldedSetIterable iter X.env x = pure x) :
    PS X (.Assign [.Name y py] (.ListComp elt [⟨tg, iter, ifs, 0⟩] scope pos) spos) (tSF r T W (sSet i (eLc it (own.map (·.2)) t tst ee))) :=
  PS_imp (ps_setLc hc hN hy hyl hsw hi ok hg htt he hs) fun D s H ⟨m, S, l, hR, hL, q⟩ => by
    rw [hK]
    exact tLc_imp ht (mono_tF (stS hR hL q) fun x H1 ⟨m1, S1, g, e, hR1, hL1, h1, q1⟩ => q1 m1 H1 _ (.refl _ _) hR1 (hL1.set i h1))
end
end GL

end

section
set_option Elab.async false
set_option linter.all false
set_option maxRecDepth 100000
set_option maxHeartbeats 4000000
/-! GL: isinstance. -/
namespace GL
open PySem PySem.Spec PyProof.Rows L2

/-- what is known of the module's classes: its own ones, and who is whose -/
structure Tab where
  cls : List Str
  sub : List (Str × Str)
def Tab.own (t : Tab) (c d : Str) : Option Bool := if t.cls.contains c && t.cls.contains d then some (c == d || t.sub.contains (c, d)) else none
/-- the facts of one class -/
structure ClsI (K : PySem.W.Frag) (C : Addr) : Prop where
  cl : Cls K C
  ha : PySem.W.findIn K (.ref C) "__class__" = some (some (.builtin "object.__class__"))
  hn : PySem.W.specialIn K (.builtin "object.__class__") "__get__" = some (some (.builtin "getset_descriptor.__get__"))
  htk : PySem.W.takesIn K (.builtin "object.__class__") = some true
  hm : PySem.W.mroIn K C (.type "object") = some true
def tyNames : List String := ["NoneType", "bool", "int", "str", "tuple", "list", "dict"]
structure TabOk (r : RP) (t : Tab) : Prop where
  ins : ∀ c ∈ t.cls, ∃ C, r.mg c = some (.ref C) ∧ ClsI r.K C ∧ (∀ n ∈ tyNames, PySem.W.kitOne r.K (.type n) (.ref C) = some false) ∧ ∀ n ∈ tyNames, PySem.W.kitOne r.K (.ref C) (.type n) = some false
  own : ∀ c ∈ t.cls, ∀ d ∈ t.cls, ∀ C D, r.mg c = some (.ref C) → r.mg d = some (.ref D) → PySem.W.kitOne r.K (.ref C) (.ref D) = some (c == d || t.sub.contains (c, d))
def tyName (S : Sto) : G → Option String
  | .non => some "NoneType"
  | .bl _ => some "bool"
  | .int _ => some "int"
  | .str _ => some "str"
  | .tup _ => some "tuple"
  | .tl _ => some "list"
  | .td _ => some "dict"
  | .ref n => (match S[n]? with
    | some (.lst _ _) => some "list"
    | some (.dic _ _) => some "dict"
    | _ => none)
  | _ => none
def tyIs (t n : String) : Option Bool := if tyNames.contains t && tyNames.contains n then some (t == n || (t == "bool" && n == "int")) else none
def ownC (S : Sto) : G → Option Str
  | .ref n => (match S[n]? with
    | some (.ins c _) => some c
    | _ => none)
  | _ => none
def isiOne (t : Tab) (S : Sto) (x : G) : G → Option Bool
  | .ty n => (match tyName S x with
    | some k => tyIs k n
    | none => (match ownC S x with
      | some c => if t.cls.contains c && tyNames.contains n then some false else none
      | none => none))
  | .gl d => if t.cls.contains d then (match tyName S x with
    | some k => some false
    | none => (match ownC S x with
      | some c => t.own c d
      | none => none)) else none
  | _ => none
def tysOf : List G → Option (List String)
  | [] => some []
  | .ty n :: r => (tysOf r).map fun l => n :: l
  | _ :: _ => none
def isiTys (k : String) : List String → Option Bool
  | [] => some false
  | n :: r => (match tyIs k n with
    | some true => (match isiTys k r with
      | some _ => some true
      | none => none)
    | some false => isiTys k r
    | none => none)
def isiAny (S : Sto) (x : G) (cs : List G) : Option Bool := match tyName S x, tysOf cs with
  | some k, some ns => isiTys k ns
  | _, _ => none
def gIsi (t : Tab) (xs : List G) (S : Sto) : Option G := match xs with
  | [x, .tup cs] => (isiAny S x cs).map .bl
  | [x, c] => (isiOne t S x c).map .bl
  | _ => none
section
variable {r : RP} {T : List (Addr × Str)} {X : Cx} {m : List Addr} {H : Hp} {S : Sto} {t : Tab}
theorem tyIs_ok {K : PySem.W.Frag} {k n : String} {b : Bool} (e : tyIs k n = some b) : PySem.W.kitOne K (.type k) (.type n) = some b := by
  unfold tyIs at e
  split at e
  · rename_i c
    rw [Bool.and_eq_true] at c
    obtain ⟨c1, c2⟩ := c
    cases e
    have h1 : k ∈ tyNames := by simpa using c1
    have h2 : n ∈ tyNames := by simpa using c2
    refine kit_ty ?_
    clear c1 c2
    have key : ∀ k ∈ tyNames, ∀ n ∈ tyNames, kitB k n = some (k == n || (k == "bool" && n == "int")) := by decide +kernel
    exact key k h1 n h2
  · cases e
theorem tyX_name (hR : Rep r T m S H) {g : G} {v : V} {k : String} (h : RepV r m H g v) (e : tyName S g = some k) : TyX r.K H v (.type k) ∧ k ∈ tyNames := by
  cases h with
  | non => cases e; exact ⟨.base .non, by decide⟩
  | bl b => cases e; exact ⟨.base (.bl b), by decide⟩
  | int i => cases e; exact ⟨.base (.int i), by decide⟩
  | str s => cases e; exact ⟨.base (.str s), by decide⟩
  | tup h z t =>
    cases e
    refine ⟨?_, by decide⟩
    rcases h with h | ⟨o, its, n, h1, h2, _⟩
    · exact .base (.tup h.2)
    · exact .kTuple h1 h2
  | tl n h z t => cases e; exact ⟨.base (.lst h), by decide⟩
  | td n h t => cases e; exact ⟨.base (.dK h), by decide⟩
  | @ref n a h =>
    have e : (match S[n]? with
      | some (.lst _ _) => some "list"
      | some (.dic _ _) => some "dict"
      | _ => none) = some k := e
    cases q : S[n]? with
    | none => rw [q] at e; cases e
    | some o =>
      rw [q] at e
      cases o with
      | lst w l =>
        cases e
        refine ⟨?_, by decide⟩
        have ho := hR.obj n a _ h q
        cases w with
        | true => obtain ⟨vs, h1, z, t⟩ := ho; exact .base (.lst h1)
        | false =>
          obtain ⟨vs, h1, z, t⟩ := ho
          rcases h1 with h1 | ⟨_, h1⟩
          · exact .base (.lst h1)
          · exact .base (.frz h1)
      | dic z l =>
        cases e
        refine ⟨?_, by decide⟩
        obtain ⟨kvs, h1, t⟩ := hR.obj n a _ h q
        cases z with
        | true => obtain ⟨o, h1⟩ := h1; exact .fDict h1
        | false => exact .base (.dK h1)
      | ins _ _ => cases e
      | dead => cases e
  | _ => cases e
theorem tyX_own (hR : Rep r T m S H) {g : G} {v : V} {c : Str} {C : Addr} (h : RepV r m H g v) (e : ownC S g = some c) (hm : r.mg c = some (.ref C)) (hC : ClsI r.K C) : TyX r.K H v (.ref C) := by
  cases h with
  | @ref n a h =>
    have e : (match S[n]? with
      | some (.ins c _) => some c
      | _ => none) = some c := e
    cases q : S[n]? with
    | none => rw [q] at e; cases e
    | some o =>
      rw [q] at e
      cases o with
      | ins c' fs =>
        cases e
        obtain ⟨C', dx, vs, h1, h2, _⟩ := hR.obj n a _ h q
        rw [hm] at h1
        cases h1
        exact .base (.ins h2 hC.cl hC.ha hC.hn hC.htk hC.hm)
      | lst _ _ => cases e
      | dic _ _ => cases e
      | dead => cases e
  | _ => cases e
theorem isi_one (ht : TabOk r t) (hR : Rep r T m S H) {x c : G} {v u : V} {b : Bool} (hx : RepV r m H x v) (hc : RepV r m H c u) (e : isiOne t S x c = some b) :
    ∃ k w, ClsV u w ∧ TyX r.K H v k ∧ PySem.W.kitOne r.K k w = some b := by
  cases c <;> try (cases e; done)
  · rename_i d
    have e : (if t.cls.contains d then (match tyName S x with
      | some k => some false
      | none => (match ownC S x with
        | some c => t.own c d
        | none => none)) else none) = some b := e
    split at e
    · rename_i hd
      have hd : d ∈ t.cls := by simpa using hd
      obtain ⟨D, hD, iD, f1, f2⟩ := ht.ins d hd
      cases hc with
      | gl hm =>
        rw [hD] at hm
        cases hm
        cases e1 : tyName S x with
        | some k =>
          rw [e1] at e
          cases e
          obtain ⟨q1, q2⟩ := tyX_name hR hx e1
          exact ⟨_, _, .own _, q1, f1 k q2⟩
        | none =>
          rw [e1] at e
          dsimp only at e
          cases e2 : ownC S x with
          | none => rw [e2] at e; cases e
          | some c =>
            rw [e2] at e
            have e : t.own c d = some b := e
            unfold Tab.own at e
            split at e
            · rename_i hh
              rw [Bool.and_eq_true] at hh
              have hcm : c ∈ t.cls := by simpa using hh.1
              cases e
              obtain ⟨C, hC, iC, _, _⟩ := ht.ins c hcm
              exact ⟨_, _, .own _, tyX_own hR hx e2 hC iC, ht.own c hcm d hd C D hC hD⟩
            · cases e
    · cases e
  · rename_i n
    have e : (match tyName S x with
      | some k => tyIs k n
      | none => (match ownC S x with
        | some c => if t.cls.contains c && tyNames.contains n then some false else none
        | none => none)) = some b := e
    cases hc with
    | ty =>
      cases e1 : tyName S x with
      | some k =>
        rw [e1] at e
        obtain ⟨q1, q2⟩ := tyX_name hR hx e1
        exact ⟨_, _, .ty _, q1, tyIs_ok e⟩
      | none =>
        rw [e1] at e
        dsimp only at e
        cases e2 : ownC S x with
        | none => rw [e2] at e; cases e
        | some c =>
          rw [e2] at e
          dsimp only at e
          split at e
          · rename_i hh
            rw [Bool.and_eq_true] at hh
            have hcm : c ∈ t.cls := by simpa using hh.1
            have hnm : n ∈ tyNames := by simpa using hh.2
            cases e
            obtain ⟨C, hC, iC, _, f2⟩ := ht.ins c hcm
            exact ⟨_, _, .ty _, tyX_own hR hx e2 hC iC, f2 n hnm⟩
          · cases e
theorem tys_rep : ∀ {cs : List G} {us : List V} {ns : List String}, RepVs r m H cs us → tysOf cs = some ns → Paired ClsV us (ns.map Value.type)
  | _, _, _, .nil, e => by cases e; exact .nil
  | .ty n :: cs, _, _, .cons a q, e => by
    have e : (tysOf cs).map (fun l => n :: l) = some _ := e
    cases e1 : tysOf cs with
    | none => rw [e1] at e; cases e
    | some l =>
      rw [e1] at e
      cases e
      cases a
      exact .cons (.ty n) (tys_rep q e1)
theorem tys_any {K : PySem.W.Frag} {k : String} : ∀ {ns : List String} {b : Bool}, isiTys k ns = some b → PySem.W.kitAny K (.type k) (ns.map Value.type) = some b
  | [], _, e => by cases e; exact kitAny_nil
  | n :: r, b, e => by
    unfold isiTys at e
    cases e1 : tyIs k n with
    | none => rw [e1] at e; cases e
    | some b1 =>
      rw [e1] at e
      cases b1 with
      | true =>
        dsimp only at e
        cases e2 : isiTys k r with
        | none => rw [e2] at e; cases e
        | some b2 =>
          rw [e2] at e
          cases e
          exact kitAny_cons (tyIs_ok e1) (by simp) (fun _ => rfl)
      | false => exact kitAny_cons (tyIs_ok e1) (fun _ => tys_any e) (by simp)
theorem cr_gIsi (hK : X.K = r.K) (ht : TabOk r t) : CallR X (.builtin "isinstance") (rPA r T (gIsi t)) := CallR_imp (call_isi.or (call_isiT.or call_isiK)) fun xs H Q ⟨m, S, gs, g, hR, h, e, k⟩ => by
  unfold gIsi at e
  split at e
  · rename_i x cs
    obtain ⟨v, u, rfl, h1, h2⟩ := len2 h
    cases e0 : isiAny S x cs with
    | none => rw [e0] at e; cases e
    | some b =>
      rw [e0] at e
      cases e
      unfold isiAny at e0
      split at e0
      · rename_i kk ns e1 e2
        obtain ⟨q1, _⟩ := tyX_name hR h1 e1
        have q2 := tys_any (K := r.K) e0
        have q := k H _ (.refl _ _) hR (.bl b)
        rw [hK]
        cases h2 with
        | @tup p vs _ hp z tt =>
          have q3 := tys_rep tt e2
          rcases hp with hp | ⟨o, its, n, hp, hc, hd, hs, hv⟩
          · exact .inr (.inl ⟨v, p, vs, _, _, b, rfl, hp.2, q3, q1, q2, q⟩)
          · obtain ⟨cls, od, dt, sl⟩ := o
            simp only at hc hd
            subst hc hd
            have e3 := ClsV.all q3 hv
            have e4 : its = (ns.map Value.type).toArray := by rw [← e3]
            subst e4
            exact .inr (.inr ⟨v, p, od, _, n, sl, _, b, rfl, hp, q1, q2, q⟩)
      · cases e0
  · rename_i x c _
    obtain ⟨v, u, rfl, h1, h2⟩ := len2 h
    cases e0 : isiOne t S x c with
    | none => rw [e0] at e; cases e
    | some b =>
      rw [e0] at e
      cases e
      obtain ⟨kk, w, q1, q2, q3⟩ := isi_one ht hR h1 h2 e0
      rw [hK]
      exact .inl ⟨v, u, kk, w, b, rfl, q1, q2, q3, k H _ (.refl _ _) hR (.bl b)⟩
  · cases e
end
end GL

end

section
set_option Elab.async false
set_option linter.all false
set_option maxRecDepth 100000
set_option maxHeartbeats 4000000
/-! GL: enumerate of a tuple. -/
namespace L2
open PySem PySem.Spec PyProof.Rows
open Sem (wp)
open AutoSeq1 (wpAny_loadPart')
theorem meets_enumerate_newB1 {v : Value} {o : Obj} {H : Heap → Prop} (B : Begins v o H) :
    Meets (Builtin.«enumerate.__new__» ⟨[.type "enumerate", v], []⟩) (fun _ R s => H s.heap ∧
      R (.ok (.ret (.ref (s.heap.push o).objs.size))) { s with heap := (s.heap.push o).push { cls := .type "enumerate", data := .fields #[.none, .bool false, .ref s.heap.objs.size, rawInt 0, .none, .none] } }) :=
  .of_wp fun prog w A R s h => by
    obtain ⟨hp, g, d, tk, os⟩ := s; obtain ⟨h1, h⟩ := h
    have hsub := sub_enumerate
    have q1 : ∀ {A' : Around} {E : Value → Shared → Prop} {Q : Value → Shared → Prop}, Q (.ref hp.objs.size) ⟨hp.push o, g, d, tk, os⟩ → wpAny (model prog w) A' (pyIter v) Q E ⟨hp, g, d, tk, os⟩ :=
      fun q => B.iter prog w _ _ ⟨hp, g, d, tk, os⟩ _ h1 q
    wp_walk using q1
    refine wpAny_stack_any fun st => wpAny_pure ?_
    split
    · rename_i c _ _ _ _ _
      cases (c == Value.type "enumerate")
      · wp_walk using q1
        exact ⟨_, rfl, h⟩
      · wp_walk using q1
        exact ⟨_, rfl, h⟩
    · wp_walk using q1
      exact ⟨_, rfl, h⟩
section
variable {prog : Program} {w : World} {A : Around} {E : Value → Shared → Prop} {s : Shared}
theorem enum_begins1 {v : Value} {o : Obj} {H : Heap → Prop} {Q : Value → Shared → Prop} (B : Begins v o H) (h1 : H s.heap)
    (h : ∀ h', IsEnum h' (s.heap.objs.size + 1) s.heap.objs.size 0 .none → h'.get? s.heap.objs.size = some o → h'.objs.size = s.heap.objs.size + 2 →
      (∀ b o, s.heap.get? b = some o → h'.get? b = some o) → Q (.ref (s.heap.objs.size + 1)) { s with heap := h' }) :
    wpAny (model prog w) A (call (.type "enumerate") [v]) Q E s := by
  refine callType_new F.called_enumerate (by decide) (F.typeCall_enumerate_1 _) (F.newCall_enumerate_1 _) (fun obj => F.args_object_init_2 obj _) F.entry_enumerate_new
    (meets_enumerate_newB1 B) ⟨h1, ?_⟩
  have hz : (s.heap.push o).objs.size = s.heap.objs.size + 1 := Heap.size_push ..
  show _ ∧ _
  rw [hz]
  have he : IsEnum ((s.heap.push o).push
      { cls := .type "enumerate", data := .fields #[.none, .bool false, .ref s.heap.objs.size, rawInt 0, .none, .none] }) (s.heap.objs.size + 1) s.heap.objs.size 0 .none := by
    have := Heap.get?_push_size (s.heap.push o)
      (o := { cls := .type "enumerate", data := .fields #[.none, .bool false, .ref s.heap.objs.size, rawInt 0, .none, .none] }) rfl
    rw [hz] at this; exact this
  refine ⟨⟨_, he, rfl⟩, h _ he (Heap.get?_push_of_some _ (Heap.get?_push_size _ B.free)) (by rw [Heap.size_push, hz]) fun b o x => Heap.get?_push_of_some _ (Heap.get?_push_of_some _ x)⟩
end
/-- the tuple at a, each item in a new pair -/
def IteT (K : PySem.W.Frag) (a : Addr) : It :=
  ⟨fun i H => ∃ (xs : List V) (x : V), SqT K H a xs ∧ xs[i]? = some x, fun i H v H' => ∃ T x, v = .ref T ∧ H T = none ∧ H' = upd H T (.tup [.int (i : Nat), x]) ∧ ∀ xs, SqT K H a xs → xs[i]? = some x, fun i H => ∃ xs : List V, SqT K H a xs ∧ xs.length ≤ i⟩
theorem turn_enumT {P : Program} {w : World} {K : PySem.W.Frag} {elts : List Expr} {kk : Nat} {tpos : Pos} (a e it : Addr) (hai : a ≠ it) (hae : a ≠ e) :
    Turn P w K (.Tuple elts kk tpos) (IteT K a) [e, it] e (fun i h => (∃ old, IsEnum h e it ((i : Nat) : Int) old) ∧ h.IsTupleIter it a i ∧ e ≠ it) where
  mem := by simp
  obj := fun i h st b hb => by
    obtain ⟨⟨old, he⟩, ⟨o, ho, hc, hd⟩, _⟩ := st
    have e' : b = e ∨ b = it := by simpa using hb
    rcases e' with z | z
    · rw [z]; exact ⟨_, he, fun v q => nomatch q⟩
    · rw [z]; exact ⟨o, ho, fun v q => by rw [hd] at q; cases q⟩
  keep := fun i h h' st k => let ⟨⟨old, he⟩, hi, hne⟩ := st; ⟨⟨old, k e (by simp) _ he⟩, hi.at fun o q => k it (by simp) o q, hne⟩
  item := by
    intro X hP hw hK hc i pins s σ H E I hf st hg
    subst hP hw hK
    obtain ⟨⟨old, he⟩, hit, hne⟩ := st
    obtain ⟨xs, x, hq, hx⟩ := hg
    obtain ⟨its, rv, p, hz⟩ := I.tuple hq
    obtain ⟨u, hu, ru⟩ := rv.get hx
    have hel : e < s.heap.objs.size := Heap.lt_size he
    have hil : it < s.heap.objs.size := by obtain ⟨_, q, _⟩ := hit; exact Heap.lt_size q
    have hT0 : s.heap.IsTuple a its.toArray := p
    have D := Draws.tuple (prog := X.prog) (w := X.w) (A := X.A.in1) (I.ok.hd hc) it a hai its.toArray
    have hlt : i < its.toArray.size := by
      rw [List.size_toArray]
      exact (List.getElem?_eq_some_iff.mp hu).1
    refine wpAny_pyNext_enum_itemD D he ⟨hit, hT0⟩ hlt hne (by simp [hne, Ne.symm hae]) fun v h' tk hP' ho hit' hT hsz hk => ?_
    have ev : v = u := by
      have q : its.toArray[i]? = some v := hP'
      rw [show its.toArray[i]? = some u by simpa using hu] at q
      exact (Option.some.inj q).symm
    subst ev
    refine ⟨_, rfl, wpAny_letOwnedTupleGo_enum (s := { s with heap := h', toks := tk + 1 }) ho fun h'' he' sb => ?_⟩
    have hT2 : h''.get? s.heap.objs.size = some { cls := .type "tuple", data := .seq #[.int i tk, v] } := (sb.2 _ (Nat.ne_of_gt hel)).trans hT
    have new : ObjOk X.prog X.w (upd H s.heap.objs.size (.tup [.int (i : Nat), x])) h'' s.heap.objs.size (.tup [.int (i : Nat), x]) :=
      ⟨by show 2 ≤ sizeLine; decide, [.int i tk, v], .cons ⟨_, rfl⟩ (.cons ru .nil), ⟨_, hT2, rfl, _, rfl⟩⟩
    have I1 : Inv X pins σ (upd H s.heap.objs.size (.tup [.int (i : Nat), x])) { s with heap := h'', toks := tk + 1 } :=
      I.turnedNew (ch := [e, it]) (fun b ob hb q => (sb.2 b (fun z => hb (by simp [z]))).trans (hk b ob (fun z => hb (by simp [z])) (fun z => hb (by simp [z])) q)) hf (Nat.le_refl _) new
    refine ⟨.ref s.heap.objs.size, _, I1, rfl, ⟨_, x, rfl, I.hok.fresh (Nat.le_refl _), rfl, fun ys hy => by rw [I.tuple_inj hy hq]; exact hx⟩, ⟨⟨v, ?_⟩, hit'.1.at fun o q => (sb.2 it (Ne.symm hne)).trans q, hne⟩, fun b hb => ?_⟩
    · have e1 : ((i + 1 : Nat) : Int) = (i : Int) + 1 := by omega
      rw [e1]; exact he'
    · have hb' : b < s.heap.objs.size := by
        have e' : b = e ∨ b = it := by simpa using hb
        rcases e' with z | z
        · rw [z]; exact hel
        · rw [z]; exact hil
      rw [upd_ne (Nat.ne_of_lt hb')]
      exact (hf b hb).1
  done := by
    intro X hP hw hK hc i pins s σ H E I hf st hg
    subst hP hw hK
    obtain ⟨⟨old, he⟩, hit, hne⟩ := st
    obtain ⟨xs, hq, hx⟩ := hg
    obtain ⟨its, rv, p, hz⟩ := I.tuple hq
    obtain ⟨f0, f1, f2, f3, f4, f5⟩ := hf it (by simp)
    have hl := rv.length
    have hT0 : s.heap.IsTuple a its.toArray := p
    have hT : s.TypeIs (.ref e) "enumerate" := ⟨_, he, rfl⟩
    unfold pyNext
    refine wpAny_bind (wpAny_attempt (wpAny_callSpecial?_slot (name := Str.ofString "__next__") hT F.slot_enumerate_next
      (wpAny_call_entry F.slot_enumerate_next hT F.entry_enumerate_next ?_ (F.args_enumerate_next_1 _))))
    show wpAny _ _ (field (.ref e) 2 >>= _) _ _ _
    refine wpAny_bind (wpAny_field he rfl (x := .ref it) rfl ?_)
    refine wpAny_bind (RZ.nextOf_tuple_end (I.ok.hd hc) hit hT0 (by simp; omega) fun h' x he' hx' => ?_)
    obtain ⟨o, ho, hcc⟩ := hx'
    refine wpAny_bind (wpAny_isInstance (T := "StopIteration") (b := true) ⟨o, ho, hcc⟩ isSubtype_stop ?_)
    exact wpAny_pure ⟨rfl, I.turned (t' := s.toks) (fun b o hb q => he' b o hb q) f0 f1 f3 f4 f5⟩
  self := fun A i s Q E st h => let ⟨⟨_, he⟩, _⟩ := st; wpAny_pyIter_enum he h
def iEnumA (K : PySem.W.Frag) (ta : TA) : TI := fun σ H R => ta σ H fun vs H1 => ∃ a xs, vs = [.ref a] ∧ ((SqL K H1 a xs ∧ R (Ite K a) H1) ∨ (SqT K H1 a xs ∧ R (IteT K a) H1))
theorem pi_enumA {X : Cx} {e : Expr} {ta : TA} {p pos tpos : Pos} {elts : List Expr} {kk : Nat} (hg : Gl X "enumerate") (hm : X.mg "enumerate" = none) (ha : PA X [e] ta) (hs : starEach [e] X.env = [(false, eval e X.env)] := by rfl) :
    PI X (.Tuple elts kk tpos) (.Call (.Name "enumerate" p) [e] [] pos) (iEnumA X.K ta) := by
  refine ⟨fun pins s σ H R I h => ?_⟩
  refine Call_ (ld_blt I hg hm boot_enumerate (PyProof.Rows.callWith_type1 (thn (ha.run pos pins s σ H _ I h) fun us s1 ⟨vs, H1, I1, r1, q1⟩ => ?_) hs rfl))
  obtain ⟨a, xs, ex, q⟩ := q1
  subst ex
  cases r1 with
  | cons r rr =>
    cases rr
    cases r
    have fr : ∀ b ∈ [s1.heap.objs.size + 1, s1.heap.objs.size], FpOk X pins H1 b := fun b hb => by
      have e' : b = s1.heap.objs.size + 1 ∨ b = s1.heap.objs.size := by simpa using hb
      have hle : s1.heap.objs.size ≤ b := by
        rcases e' with z | z
        · rw [z]; exact Nat.le_add_right _ _
        · rw [z]; exact Nat.le_refl _
      exact I1.fpOk hle (I1.hok.fresh hle)
    rcases q with ⟨hq, q⟩ | ⟨hq, q⟩
    · obtain ⟨its, rv, p', hz⟩ := I1.list hq
      refine call_enumerate_list p'.isList fun h' he hit hsz hk => wpAny_pyIter_enum he ?_
      have I2 : Inv X pins σ H1 { s1 with heap := h' } := I1.kept (t' := s1.toks) hk
      exact ⟨s1.heap.objs.size + 1, [s1.heap.objs.size + 1, s1.heap.objs.size], _, _, H1, rfl, I2, turn_enum a (s1.heap.objs.size + 1) s1.heap.objs.size, ⟨⟨.none, he⟩, hit, Nat.succ_ne_self _⟩, fr, q⟩
    · obtain ⟨its, rv, p', hz⟩ := I1.tuple hq
      have hT0 : s1.heap.IsTuple a its.toArray := p'
      obtain ⟨oa, hoa, _⟩ := id p'
      have hal : a < s1.heap.objs.size := Heap.lt_size hoa
      refine enum_begins1 (begins_tuple a its.toArray) hT0 fun h' he hit hsz hk => wpAny_pyIter_enum he ?_
      have I2 : Inv X pins σ H1 { s1 with heap := h' } := I1.kept (t' := s1.toks) hk
      exact ⟨s1.heap.objs.size + 1, [s1.heap.objs.size + 1, s1.heap.objs.size], _, _, H1, rfl, I2, turn_enumT a (s1.heap.objs.size + 1) s1.heap.objs.size (Nat.ne_of_lt hal) (Nat.ne_of_lt (Nat.lt_succ_of_lt hal)), ⟨⟨.none, he⟩, ⟨_, hit, rfl, rfl⟩, Nat.succ_ne_self _⟩, fr, q⟩
end L2

end

section
set_option Elab.async false
set_option linter.all false
set_option maxRecDepth 100000
set_option maxHeartbeats 4000000
/-! GL: what is walked. -/
namespace GL
open PySem PySem.Spec PyProof.Rows L2

/-- list, tuple or str, walked -/
def iAny (K : PySem.W.Frag) (te : TE) : TI := fun s H R => te s H fun x H1 => (∃ a xs, x = .ref a ∧ SqL K H1 a xs ∧ R (Itl K a) H1) ∨ (∃ a xs, x = .ref a ∧ SqT K H1 a xs ∧ R (Itt K a) H1) ∨ ∃ z, x = .str z ∧ R (Its z) H1
theorem pi_any {X : Cx} {tg l : Expr} {tl : TE} (hl : PE X l tl) : PI X tg l (iAny X.K tl) := by
  refine ⟨fun pins s σ H R I h => ?_⟩
  refine thn (hl.run pins s σ H _ I h) fun v s1 ⟨x, H1, I1, r1, q1⟩ => ?_
  rcases q1 with ⟨a, xs, rfl, hq, q⟩ | ⟨a, xs, rfl, hq, q⟩ | ⟨z, rfl, q⟩
  · cases r1
    obtain ⟨its, rv, p, hz⟩ := I1.list hq
    refine wpAny_pyIter_list p.isList ?_
    exact pi_one (tk := s1.toks) I1 _ (turn_list a _) ⟨_, Heap.get?_push_size _ rfl, rfl, rfl⟩ q
  · cases r1
    obtain ⟨its, rv, p, hz⟩ := I1.tuple hq
    refine wpAny_pyIter_tuple (show s1.heap.IsTuple a its.toArray from p) ?_
    exact pi_one (tk := s1.toks) I1 _ (turn_tuple a _) ⟨_, Heap.get?_push_size _ rfl, rfl, rfl⟩ q
  · obtain ⟨t, rfl⟩ := r1
    cases ha : z.cps.all (· < 128)
    · exact wpAny_pyIter_wide ha (pi_one (tk := s1.toks) I1 _ (turn_str _ z t "str_iterator" (.inr rfl)) ⟨_, Heap.get?_push_size _ rfl, rfl, rfl⟩ q)
    · exact wpAny_pyIter_ascii ha (pi_one (tk := s1.toks) I1 _ (turn_str _ z t "str_ascii_iterator" (.inl rfl)) ⟨_, Heap.get?_push_size _ rfl, rfl, rfl⟩ q)
theorem PI_imp {X : Cx} {tg e : Expr} {t t' : TI} (h : PI X tg e t) (i : ∀ s H R, t' s H R → t s H R) : PI X tg e t' := ⟨fun pins s l H R I w => h.run pins s l H R I (i _ _ _ w)⟩

def signsG (z : Str) : List G := z.cps.toList.map fun c => .str ⟨#[c]⟩
abbrev Itr0 := Loc → Sto → R It
def itV (f : Ev) : Itr0 := fun l S => rb (f l S) fun g S => match g with
  | .str z => if z.length ≤ sizeLine then .ok (.fix (signsG z)) S else .bad
  | .tup xs => .ok (.fix xs) S
  | .tl xs => .ok (.fix xs) S
  | .ref n => (match lstAt S n with
    | some _ => .ok (.dyn n) S
    | none => .bad)
  | _ => .bad
def intsFrom (lo : Int) (n : Nat) : List G := (List.range n).map fun i => .int (lo + (i : Nat))
def intsDown (lo : Int) (n : Nat) : List G := (List.range n).map fun i => .int (lo - (i : Nat))
noncomputable def itR1 (f : As) : Itr0 := fun l S => rb (f l S) fun gs S => match gs with
  | [.int j] => if j ≤ big ∧ -big ≤ j then .ok (.fix (intsFrom 0 j.toNat)) S else .bad
  | _ => .bad
noncomputable def itR2 (f : As) : Itr0 := fun l S => rb (f l S) fun gs S => match gs with
  | [.int i, .int j] => if j ≤ big ∧ -big ≤ i ∧ i ≤ big ∧ -big ≤ j then .ok (.fix (intsFrom i (j - i).toNat)) S else .bad
  | _ => .bad
noncomputable def itR3 (f : As) : Itr0 := fun l S => rb (f l S) fun gs S => match gs with
  | [.int i, .int j, .int (-1)] => if i ≤ big ∧ -big ≤ j ∧ j ≤ big ∧ -big ≤ i then .ok (.fix (intsDown i (i - j).toNat)) S else .bad
  | _ => .bad
def numd : Nat → List G → List G
  | _, [] => []
  | k, x :: xs => .tup [.int k, x] :: numd (k + 1) xs
def itEn (f : As) : Itr0 := fun l S => rb (f l S) fun gs S => match gs with
  | [.tup xs] => .ok (.fix (numd 0 xs)) S
  | [.tl xs] => .ok (.fix (numd 0 xs)) S
  | _ => .bad
def pairG : List G → List G → List G
  | x :: xs, y :: ys => .tup [x, y] :: pairG xs ys
  | _, _ => []
def itZip (f : As) : Itr0 := fun l S => rb (f l S) fun gs S => match gs with
  | [.tup xs, .tup ys] => .ok (.fix (pairG xs ys)) S
  | [.tl xs, .tl ys] => .ok (.fix (pairG xs ys)) S
  | _ => .bad

section
variable {r : RP} {T : List (Addr × Str)} {m m' : List Addr} {S : Sto} {H H' : Hp} {W : WX} {X : Cx} {s : L2.St}
theorem seq_ok {l : List G} {p : Addr} {vs : List V} (z : l.length ≤ sizeLine) (h : ∀ hs m' H', (∀ a ∈ hs, H a = none) → ExtB r.hid m H m' H' → SqL r.K H' p vs ∧ RepVs (r.hides hs) m' H' l vs) : ItOk r T m H (.fix l) (Itl r.K p) := by
  refine ⟨fun hs k m' S' H' x hD e hR q => ?_, fun hs k m' S' H' hD e hR q => ?_, fun xs q => by cases q; exact z⟩
  · obtain ⟨hq, t⟩ := h hs m' H' hD e
    have q : l[k]? = some x := by simpa [itAt] using q
    obtain ⟨v, hv, rv⟩ := t.get q
    refine ⟨⟨vs, v, hq, hv⟩, fun v2 H2 ⟨e2, y⟩ => ?_⟩
    subst e2
    have := y vs hq
    rw [hv] at this
    cases this
    exact ⟨.refl _ _, hR, rv⟩
  · obtain ⟨hq, t⟩ := h hs m' H' hD e
    have q : l[k]? = none := by simpa [itAt] using q
    exact ⟨vs, hq, by rw [← t.length]; exact List.getElem?_eq_none_iff.mp q⟩
theorem tup_ok {l : List G} {p : Addr} {vs : List V} (z : l.length ≤ sizeLine) (h : ∀ hs m' H', (∀ a ∈ hs, H a = none) → ExtB r.hid m H m' H' → SqT r.K H' p vs ∧ RepVs (r.hides hs) m' H' l vs) : ItOk r T m H (.fix l) (Itt r.K p) := by
  refine ⟨fun hs k m' S' H' x hD e hR q => ?_, fun hs k m' S' H' hD e hR q => ?_, fun xs q => by cases q; exact z⟩
  · obtain ⟨hq, t⟩ := h hs m' H' hD e
    have q : l[k]? = some x := by simpa [itAt] using q
    obtain ⟨v, hv, rv⟩ := t.get q
    refine ⟨⟨vs, v, hq, hv⟩, fun v2 H2 ⟨e2, y⟩ => ?_⟩
    subst e2
    have := y vs hq
    rw [hv] at this
    cases this
    exact ⟨.refl _ _, hR, rv⟩
  · obtain ⟨hq, t⟩ := h hs m' H' hD e
    have q : l[k]? = none := by simpa [itAt] using q
    exact ⟨vs, hq, by rw [← t.length]; exact List.getElem?_eq_none_iff.mp q⟩
/-- a tuple, a temporary list, from here on -/
theorem tup_on {l : List G} {p : Addr} (h : RepV r m H (.tup l) (.ref p)) : ∃ vs, l.length = vs.length ∧ l.length ≤ sizeLine ∧ SqT r.K H p vs ∧ RepVs r m H l vs ∧ ∀ hs m' H', (∀ a ∈ hs, H a = none) → ExtB r.hid m H m' H' → SqT r.K H' p vs ∧ RepVs (r.hides hs) m' H' l vs := by
  cases h with
  | tup h z t =>
    refine ⟨_, t.length, by rw [t.length]; exact z, TupSq h, t, fun hs m' H' hD e => ⟨?_, (t.hides hD).extB e (fun a z => List.mem_append_right _ z)⟩⟩
    rcases h with h | h
    · exact .inl (.inl (e.keep _ _ h.1.1 h.1.2 (fun _ z => by cases z) h.2))
    · exact .inr h
theorem tl_on {l : List G} {p : Addr} (h : RepV r m H (.tl l) (.ref p)) : ∃ vs, l.length = vs.length ∧ l.length ≤ sizeLine ∧ SqL r.K H p vs ∧ RepVs r m H l vs ∧ ∀ hs m' H', (∀ a ∈ hs, H a = none) → ExtB r.hid m H m' H' → SqL r.K H' p vs ∧ RepVs (r.hides hs) m' H' l vs := by
  cases h with
  | tl n h z t =>
    exact ⟨_, t.length, by rw [t.length]; exact z, .inl (.inl h), t, fun hs m' H' hD e => ⟨.inl (.inl (e.keep _ _ n.1 n.2 (fun _ z => by cases z) h)), (t.hides hD).extB e (fun a z => List.mem_append_right _ z)⟩⟩
theorem signs_get (z : Str) (k : Nat) : (signsG z)[k]? = (z.cps[k]?).map fun c => .str ⟨#[c]⟩ := by
  unfold signsG
  rw [List.getElem?_map, Array.getElem?_toList]
theorem str_ok {z : Str} (hz : z.length ≤ sizeLine) : ItOk r T m H (.fix (signsG z)) (Its z) := by
  refine ⟨fun hs k m' S' H' x hD e hR q => ?_, fun hs k m' S' H' hD e hR q => ?_, fun xs q => by cases q; unfold signsG; rw [List.length_map, Array.length_toList]; exact hz⟩
  · have q : (signsG z)[k]? = some x := by simpa [itAt] using q
    rw [signs_get] at q
    cases q2 : z.cps[k]? with
    | none => rw [q2] at q; cases q
    | some c =>
      rw [q2] at q
      cases q
      refine ⟨(Array.getElem?_eq_some_iff.mp q2).1, fun v H2 ⟨e1, c', e2, e3⟩ => ?_⟩
      subst e1 e3
      rw [q2] at e2
      cases e2
      exact ⟨.refl _ _, hR, .str _⟩
  · have q : (signsG z)[k]? = none := by simpa [itAt] using q
    rw [signs_get] at q
    cases q2 : z.cps[k]? with
    | none => exact Array.getElem?_eq_none_iff.mp q2
    | some c => rw [q2] at q; cases q
theorem ints_ok {lo : Int} {n : Nat} (hn : n ≤ 2000000) : ItOk r T m H (.fix (intsFrom lo n)) (Itr lo n) := by
  have hg : ∀ k, (intsFrom lo n)[k]? = if k < n then some (.int (lo + (k : Nat))) else none := fun k => by
    unfold intsFrom
    rw [List.getElem?_map]
    by_cases c : k < n
    · rw [if_pos c, List.getElem?_range c]; rfl
    · rw [if_neg c, List.getElem?_eq_none (by rw [List.length_range]; omega)]; rfl
  refine ⟨fun hs k m' S' H' x hD e hR q => ?_, fun hs k m' S' H' hD e hR q => ?_, fun xs q => by cases q; unfold intsFrom; rw [List.length_map, List.length_range, sizeLine_eq]; omega⟩
  · have q : (intsFrom lo n)[k]? = some x := by simpa [itAt] using q
    rw [hg] at q
    split at q
    · cases q
      rename_i c
      exact ⟨c, fun v H2 ⟨e1, e2⟩ => by subst e1 e2; exact ⟨.refl _ _, hR, .int _⟩⟩
    · cases q
  · have q : (intsFrom lo n)[k]? = none := by simpa [itAt] using q
    rw [hg] at q
    split at q
    · cases q
    · rename_i c; exact Nat.le_of_not_lt c
theorem down_ok {lo : Int} {n : Nat} (hn : n ≤ 2000000) : ItOk r T m H (.fix (intsDown lo n)) (Itc lo (-1) n) := by
  have hg : ∀ k, (intsDown lo n)[k]? = if k < n then some (.int (lo - (k : Nat))) else none := fun k => by
    unfold intsDown
    rw [List.getElem?_map]
    by_cases c : k < n
    · rw [if_pos c, List.getElem?_range c]; rfl
    · rw [if_neg c, List.getElem?_eq_none (by rw [List.length_range]; omega)]; rfl
  refine ⟨fun hs k m' S' H' x hD e hR q => ?_, fun hs k m' S' H' hD e hR q => ?_, fun xs q => by cases q; unfold intsDown; rw [List.length_map, List.length_range, sizeLine_eq]; omega⟩
  · have q : (intsDown lo n)[k]? = some x := by simpa [itAt] using q
    rw [hg] at q
    split at q
    · cases q
      rename_i c
      refine ⟨c, fun v H2 ⟨e1, e2⟩ => ?_⟩
      subst e1 e2
      have e3 : lo + ((k : Nat) : Int) * -1 = lo - (k : Nat) := by omega
      rw [e3]
      exact ⟨.refl _ _, hR, .int _⟩
    · cases q
  · have q : (intsDown lo n)[k]? = none := by simpa [itAt] using q
    rw [hg] at q
    split at q
    · cases q
    · rename_i c; exact Nat.le_of_not_lt c
theorem numd_get : ∀ (l : List G) (b k : Nat), (numd b l)[k]? = (l[k]?).map fun x => .tup [.int ((b + k : Nat) : Int), x]
  | [], b, k => by simp [numd]
  | x :: l, b, 0 => by simp [numd]
  | x :: l, b, k + 1 => by
    unfold numd
    rw [List.getElem?_cons_succ, List.getElem?_cons_succ, numd_get l (b + 1) k]
    have : b + 1 + k = b + (k + 1) := by omega
    rw [this]
theorem numd_len : ∀ (l : List G) (b : Nat), (numd b l).length = l.length
  | [], b => rfl
  | x :: l, b => by unfold numd; rw [List.length_cons, List.length_cons, numd_len l (b + 1)]
theorem pair_rep {x y : G} {u v : V} (a : RepV r m H x u) (b : RepV r m H y v) : RepVs r m H [x, y] [u, v] := .cons a (.cons b .nil)
theorem en_fix {l : List G} {J : L2.It} {sq : Hp → List V → Prop} (z : l.length ≤ sizeLine) {vs : List V}
    (hgo : ∀ i H x, sq H vs → vs[i]? = some x → J.go i H) (hy : ∀ i H v H', J.yld i H v H' → ∃ T x, v = .ref T ∧ H T = none ∧ H' = upd H T (.tup [.int (i : Nat), x]) ∧ (sq H vs → vs[i]? = some x)) (hst : ∀ i H, sq H vs → vs.length ≤ i → J.stop i H)
    (h : ∀ hs m' H', (∀ a ∈ hs, H a = none) → ExtB r.hid m H m' H' → sq H' vs ∧ RepVs (r.hides hs) m' H' l vs) : ItOk r T m H (.fix (numd 0 l)) J := by
  refine ⟨fun hs k m' S' H' x hD e hR q => ?_, fun hs k m' S' H' hD e hR q => ?_, fun xs q => by cases q; rw [numd_len]; exact z⟩
  · obtain ⟨hq, t⟩ := h hs m' H' hD e
    have q : (numd 0 l)[k]? = some x := by simpa [itAt] using q
    rw [numd_get] at q
    cases q2 : l[k]? with
    | none => rw [q2] at q; cases q
    | some g =>
      rw [q2] at q
      cases q
      obtain ⟨v, hv, rv⟩ := t.get q2
      refine ⟨hgo k H' v hq hv, fun v2 H2 y => ?_⟩
      obtain ⟨T', x', e1, e2, e3, e4⟩ := hy k H' v2 H2 y
      subst e1 e3
      have := e4 hq
      rw [hv] at this
      cases this
      refine ⟨Ext.new e2 _, hR.fresh e2 _, ?_⟩
      have e5 : (0 + k : Nat) = k := by omega
      rw [e5]
      exact hR.newTup e2 (by show 2 ≤ sizeLine; decide) (pair_rep (.int _) rv)
  · obtain ⟨hq, t⟩ := h hs m' H' hD e
    have q : (numd 0 l)[k]? = none := by simpa [itAt] using q
    have := List.getElem?_eq_none_iff.mp q
    rw [numd_len, t.length] at this
    exact hst k H' hq this
theorem pair_get : ∀ (xs ys : List G) (k : Nat), (pairG xs ys)[k]? = (match xs[k]?, ys[k]? with | some x, some y => some (.tup [x, y]) | _, _ => none)
  | [], ys, k => by simp [pairG]
  | x :: xs, [], k => by
    simp only [pairG, List.getElem?_nil]
    cases (x :: xs)[k]? <;> rfl
  | x :: xs, y :: ys, 0 => by simp [pairG]
  | x :: xs, y :: ys, k + 1 => by
    unfold pairG
    rw [List.getElem?_cons_succ, List.getElem?_cons_succ, List.getElem?_cons_succ, pair_get xs ys k]
theorem pair_len : ∀ (xs ys : List G), (pairG xs ys).length ≤ xs.length
  | [], ys => by simp [pairG]
  | x :: xs, [] => by simp [pairG]
  | x :: xs, y :: ys => by unfold pairG; have := pair_len xs ys; simp; omega
theorem zip_fix {l l2 : List G} {J : L2.It} {sq : Hp → List V → Prop} {sq2 : Hp → List V → Prop} (z : l.length ≤ sizeLine) {vs vs2 : List V}
    (hgo : ∀ i H x y, sq H vs → sq2 H vs2 → vs[i]? = some x → vs2[i]? = some y → J.go i H) (hy : ∀ i H v H', J.yld i H v H' → ∃ T x y, v = .ref T ∧ H T = none ∧ H' = upd H T (.tup [x, y]) ∧ (sq H vs → vs[i]? = some x) ∧ (sq2 H vs2 → vs2[i]? = some y))
    (hst : ∀ i H, sq H vs → sq2 H vs2 → (vs.length ≤ i ∨ vs2.length ≤ i) → J.stop i H)
    (h : ∀ hs m' H', (∀ a ∈ hs, H a = none) → ExtB r.hid m H m' H' → sq H' vs ∧ RepVs (r.hides hs) m' H' l vs) (h2 : ∀ hs m' H', (∀ a ∈ hs, H a = none) → ExtB r.hid m H m' H' → sq2 H' vs2 ∧ RepVs (r.hides hs) m' H' l2 vs2) : ItOk r T m H (.fix (pairG l l2)) J := by
  refine ⟨fun hs k m' S' H' x hD e hR q => ?_, fun hs k m' S' H' hD e hR q => ?_, fun xs q => by cases q; have := pair_len l l2; omega⟩
  · obtain ⟨hq, t⟩ := h hs m' H' hD e
    obtain ⟨hq2, t2⟩ := h2 hs m' H' hD e
    have q : (pairG l l2)[k]? = some x := by simpa [itAt] using q
    rw [pair_get] at q
    cases q1 : l[k]? with
    | none => rw [q1] at q; cases q
    | some g =>
      cases q2 : l2[k]? with
      | none => rw [q1, q2] at q; cases q
      | some g2 =>
        rw [q1, q2] at q
        cases q
        obtain ⟨v, hv, rv⟩ := t.get q1
        obtain ⟨v2, hv2, rv2⟩ := t2.get q2
        refine ⟨hgo k H' v v2 hq hq2 hv hv2, fun v3 H2 y => ?_⟩
        obtain ⟨T', x', y', e1, e2, e3, e4, e5⟩ := hy k H' v3 H2 y
        subst e1 e3
        have a1 := e4 hq
        have a2 := e5 hq2
        rw [hv] at a1
        rw [hv2] at a2
        cases a1
        cases a2
        exact ⟨Ext.new e2 _, hR.fresh e2 _, hR.newTup e2 (by show 2 ≤ sizeLine; decide) (pair_rep rv rv2)⟩
  · obtain ⟨hq, t⟩ := h hs m' H' hD e
    obtain ⟨hq2, t2⟩ := h2 hs m' H' hD e
    have q : (pairG l l2)[k]? = none := by simpa [itAt] using q
    rw [pair_get] at q
    refine hst k H' hq hq2 ?_
    cases q1 : l[k]? with
    | none => exact .inl (by rw [← t.length]; exact List.getElem?_eq_none_iff.mp q1)
    | some g =>
      cases q2 : l2[k]? with
      | none => exact .inr (by rw [← t2.length]; exact List.getElem?_eq_none_iff.mp q2)
      | some g2 => rw [q1, q2] at q; cases q
theorem dyn_ok {n : Nat} {a : Addr} (h : m[n]? = some a) : ItOk r T m H (.dyn n) (Itl r.K a) := by
  have key : ∀ hs m' S' H' xs, ExtB r.hid m H m' H' → Rep (r.hides hs) T m' S' H' → lstAt S' n = some xs → ∃ vs, SqL r.K H' a vs ∧ RepVs (r.hides hs) m' H' xs vs := fun hs m' S' H' xs e hR q => by
    unfold lstAt at q
    cases q2 : S'[n]? with
    | none => rw [q2] at q; cases q
    | some o =>
      rw [q2] at q
      cases o with
      | lst w l =>
        cases q
        have ho := hR.obj n a _ (e.get h) q2
        cases w with
        | true => obtain ⟨vs, h1, z, t⟩ := ho; exact ⟨vs, .inl (.inl h1), t⟩
        | false => obtain ⟨vs, h1, z, t⟩ := ho; exact ⟨vs, .inl h1, t⟩
      | dic _ _ => cases q
      | ins _ _ => cases q
      | dead => cases q
  refine ⟨fun hs k m' S' H' x hD e hR q => ?_, fun hs k m' S' H' hD e hR q => ?_, fun xs q => by cases q⟩
  · have q : (lstAt S' n).map (fun xs => xs[k]?) = some _ := q
    cases q2 : lstAt S' n with
    | none => rw [q2] at q; cases q
    | some xs =>
      rw [q2] at q
      have q : xs[k]? = some x := Option.some.inj q
      obtain ⟨vs, hq, t⟩ := key hs m' S' H' xs e hR q2
      obtain ⟨v, hv, rv⟩ := t.get q
      refine ⟨⟨vs, v, hq, hv⟩, fun v2 H2 ⟨e2, y⟩ => ?_⟩
      subst e2
      have := y vs hq
      rw [hv] at this
      cases this
      exact ⟨.refl _ _, hR, rv⟩
  · have q : (lstAt S' n).map (fun xs => xs[k]?) = some _ := q
    cases q2 : lstAt S' n with
    | none => rw [q2] at q; cases q
    | some xs =>
      rw [q2] at q
      have q : xs[k]? = none := Option.some.inj q
      obtain ⟨vs, hq, t⟩ := key hs m' S' H' xs e hR q2
      exact ⟨vs, hq, by rw [← t.length]; exact List.getElem?_eq_none_iff.mp q⟩
variable {tg e : Expr} {f : Ev} {es : List Expr} {fs : As} {p pos tpos : Pos} {elts : List Expr} {kk : Nat}
theorem pst_it {i : It} {J : L2.It} {R : L2.It → Hp → Prop} (q : Pst r T W (fun m' H' (i : It) (J : L2.It) => ItOk r T m' H' i J) s m H (.ok i S) fun J H' => R J H') (hR : Rep r T m S H) (h : ItOk r T m H i J) : R J H := q m H J (.refl _ _) hR h
theorem pi_itV (hK : X.K = r.K) (he : PE X e (tF r T W f)) : PI X tg e (tIF r T W (itV f)) :=
  PI_imp (pi_any he) fun s H R ⟨m, S, l, hR, hL, q⟩ => mono_tF (stE hR hL q) fun x H1 ⟨m1, S1, g, e, hR1, hL1, h1, q1⟩ => by
    rw [hK]
    cases g with
    | str z =>
      dsimp only at q1
      split at q1
      · cases h1
        exact .inr (.inr ⟨z, rfl, pst_it q1 hR1 (str_ok (by assumption))⟩)
      · exact False.elim q1
    | tup xs =>
      cases h1 with
      | @tup p vs _ h z t =>
        obtain ⟨vs, h0, z, h1, h2, h3⟩ := tup_on (.tup h z t)
        exact .inr (.inl ⟨p, vs, rfl, h1, pst_it q1 hR1 (tup_ok z h3)⟩)
    | tl xs =>
      cases h1 with
      | @tl p vs _ n h z t =>
        obtain ⟨vs, h0, z, h1, h2, h3⟩ := tl_on (.tl n h z t)
        exact .inl ⟨p, vs, rfl, h1, pst_it q1 hR1 (seq_ok z h3)⟩
    | ref n =>
      dsimp only at q1
      cases h1 with
      | @ref _ a hn =>
        cases e2 : lstAt S1 n with
        | none => rw [e2] at q1; exact False.elim q1
        | some xs =>
          rw [e2] at q1
          obtain ⟨p, vs, e3, _, _, h3⟩ := seqL_rep hR1 (.ref hn) (by intro _ z; cases z) e2
          cases e3
          exact .inl ⟨a, vs, rfl, h3, pst_it q1 hR1 (dyn_ok hn)⟩
    | _ => exact False.elim q1
theorem pi_itR1 {a : Expr} (hg : Gl X "range") (hm : X.mg "range" = none) (ha : PA X [a] (tFA r T W fs)) (hs : starEach [a] X.env = [(false, eval a X.env)]) : PI X tg (.Call (.Name "range" p) [a] [] pos) (tIF r T W (itR1 fs)) :=
  PI_imp (pi_range1 hg hm ha hs) fun s H R ⟨m, S, l, hR, hL, q⟩ => mono_tFA (stA hR hL q) fun x H1 ⟨m1, S1, g, e, hR1, hL1, h1, q1⟩ => by
    have hbig := big_eq
    dsimp only at q1
    split at q1
    · split at q1
      · obtain ⟨v, rfl, h2⟩ := len1 h1
        cases h2
        exact ⟨_, rfl, by omega, by omega, pst_it q1 hR1 (ints_ok (by omega))⟩
      · exact False.elim q1
    · exact False.elim q1
theorem pi_itR2 {a b : Expr} (hg : Gl X "range") (hm : X.mg "range" = none) (ha : PA X [a, b] (tFA r T W fs)) (hs : starEach [a, b] X.env = [(false, eval a X.env), (false, eval b X.env)]) (hs2 : starEach [b] X.env = [(false, eval b X.env)]) :
    PI X tg (.Call (.Name "range" p) [a, b] [] pos) (tIF r T W (itR2 fs)) :=
  PI_imp (pi_range2 hg hm ha hs hs2) fun s H R ⟨m, S, l, hR, hL, q⟩ => mono_tFA (stA hR hL q) fun x H1 ⟨m1, S1, g, e, hR1, hL1, h1, q1⟩ => by
    have hbig := big_eq
    dsimp only at q1
    split at q1
    · split at q1
      · obtain ⟨v, v2, rfl, h2, h3⟩ := len2 h1
        cases h2; cases h3
        exact ⟨_, _, rfl, by omega, pst_it q1 hR1 (ints_ok (by omega))⟩
      · exact False.elim q1
    · exact False.elim q1
theorem pi_itR3 {a b c : Expr} (hg : Gl X "range") (hm : X.mg "range" = none) (ha : PA X [a, b, c] (tFA r T W fs)) (hs : starEach [a, b, c] X.env = (false, eval a X.env) :: starEach [b, c] X.env) (hpl : (backTo pos (starEach [b, c] X.env)).any (·.1) = false) :
    PI X tg (.Call (.Name "range" p) [a, b, c] [] pos) (tIF r T W (itR3 fs)) :=
  PI_imp (pi_range3 hg hm ha hs hpl) fun s H R ⟨m, S, l, hR, hL, q⟩ => mono_tFA (stA hR hL q) fun x H1 ⟨m1, S1, g, e, hR1, hL1, h1, q1⟩ => by
    have hbig := big_eq
    dsimp only at q1
    split at q1
    · split at q1
      · cases h1 with
        | cons a1 t1 =>
          obtain ⟨v, v2, rfl, h2, h3⟩ := len2 t1
          cases a1; cases h2; cases h3
          exact ⟨_, _, _, _, rfl, RgC.neg (by omega) (by omega) (by omega) (by omega), pst_it q1 hR1 (down_ok (by omega))⟩
      · exact False.elim q1
    · exact False.elim q1
theorem pi_itEn {a : Expr} (hK : X.K = r.K) (hg : Gl X "enumerate") (hm : X.mg "enumerate" = none) (ha : PA X [a] (tFA r T W fs)) (hs : starEach [a] X.env = [(false, eval a X.env)]) : PI X (.Tuple elts kk tpos) (.Call (.Name "enumerate" p) [a] [] pos) (tIF r T W (itEn fs)) :=
  PI_imp (pi_enumA hg hm ha hs) fun s H R ⟨m, S, l, hR, hL, q⟩ => mono_tFA (stA hR hL q) fun x H1 ⟨m1, S1, g, e, hR1, hL1, h1, q1⟩ => by
    dsimp only at q1
    rw [hK]
    split at q1
    · obtain ⟨v, rfl, h2⟩ := len1 h1
      cases h2 with
      | @tup p vs _ h z t =>
        obtain ⟨vs, h0, z, h1, h2, h3⟩ := tup_on (.tup h z t)
        refine ⟨p, vs, rfl, .inr ⟨h1, pst_it q1 hR1 (en_fix (sq := fun H vs => SqT r.K H p vs) z (fun i H x a b => ⟨vs, x, a, b⟩) (fun i H v H' ⟨T, x, a, b, c, d⟩ => ⟨T, x, a, b, c, fun y => d vs y⟩) (fun i H a b => ⟨vs, a, b⟩) h3)⟩⟩
    · obtain ⟨v, rfl, h2⟩ := len1 h1
      cases h2 with
      | @tl p vs _ n h z t =>
        obtain ⟨vs, h0, z, h1, h2, h3⟩ := tl_on (.tl n h z t)
        refine ⟨p, vs, rfl, .inl ⟨h1, pst_it q1 hR1 (en_fix (sq := fun H vs => SqL r.K H p vs) z (fun i H x a b => ⟨vs, x, a, b⟩) (fun i H v H' ⟨T, x, a, b, c, d⟩ => ⟨T, x, a, b, c, fun y => d vs y⟩) (fun i H a b => ⟨vs, a, b⟩) h3)⟩⟩
    · exact False.elim q1
theorem pi_itZip {a b : Expr} (hK : X.K = r.K) (hg : Gl X "zip") (hm : X.mg "zip" = none) (ha : PA X [a, b] (tFA r T W fs)) (hs : starEach [a, b] X.env = (false, eval a X.env) :: starEach [b] X.env) (hpl : (backTo pos (starEach [b] X.env)).any (·.1) = false) :
    PI X (.Tuple elts kk tpos) (.Call (.Name "zip" p) [a, b] [] pos) (tIF r T W (itZip fs)) :=
  PI_imp (RZ.pi_zipA hg hm ha hs hpl) fun s H R ⟨m, S, l, hR, hL, q⟩ => mono_tFA (stA hR hL q) fun x H1 ⟨m1, S1, g, e, hR1, hL1, h1, q1⟩ => by
    dsimp only at q1
    rw [hK]
    split at q1
    · obtain ⟨v, v2, rfl, h2, h3⟩ := len2 h1
      cases h2 with
      | @tup p vs _ h z t =>
        cases h3 with
        | @tup p' vs' _ h' z' t' =>
          obtain ⟨vs, h0, z, h1, h2, h3⟩ := tup_on (.tup h z t)
          obtain ⟨vs', h0', z', h1', h2', h3'⟩ := tup_on (.tup h' z' t')
          exact ⟨p, p', vs, vs', rfl, .inr ⟨h1, h1', pst_it q1 hR1 (zip_fix (sq := fun H vs => SqT r.K H p vs) (sq2 := fun H vs => SqT r.K H p' vs) z (fun i H x y a b c d => ⟨vs, vs', x, y, a, b, c, d⟩) (fun i H v H' ⟨T, x, y, a, b, c, d, e⟩ => ⟨T, x, y, a, b, c, fun k => d vs k, fun k => e vs' k⟩) (fun i H a b c => ⟨vs, vs', a, b, c⟩) h3 h3')⟩⟩
    · obtain ⟨v, v2, rfl, h2, h3⟩ := len2 h1
      cases h2 with
      | @tl p vs _ n h z t =>
        cases h3 with
        | @tl p' vs' _ n' h' z' t' =>
          obtain ⟨vs, h0, z, h1, h2, h3⟩ := tl_on (.tl n h z t)
          obtain ⟨vs', h0', z', h1', h2', h3'⟩ := tl_on (.tl n' h' z' t')
          exact ⟨p, p', vs, vs', rfl, .inl ⟨h1, h1', pst_it q1 hR1 (zip_fix (sq := fun H vs => SqL r.K H p vs) (sq2 := fun H vs => SqL r.K H p' vs) z (fun i H x y a b c d => ⟨vs, vs', x, y, a, b, c, d⟩) (fun i H v H' ⟨T, x, y, a, b, c, d, e⟩ => ⟨T, x, y, a, b, c, fun k => d vs k, fun k => e vs' k⟩) (fun i H a b c => ⟨vs, vs', a, b, c⟩) h3 h3')⟩⟩
    · exact False.elim q1
end
end GL

end

section
set_option Elab.async false
set_option linter.all false
set_option maxRecDepth 100000
set_option maxHeartbeats 4000000
/-! GL: attributes, stores, methods of lists. -/
namespace GL
open PySem PySem.Spec PyProof.Rows L2

/-- the attributes that the instances of the module's classes bear -/
abbrev FTab := List (Str × Str)
def FldOk (r : RP) (t : FTab) : Prop := ∀ c f, (c, f) ∈ t → ∃ C, r.mg c = some (.ref C) ∧ Cls r.K C ∧ NoAttr r.K C f
def gFld (t : FTab) (f : Str) (x : G) (S : Sto) : Option G := match x with
  | .ref n => (match S[n]? with
    | some (.ins c fs) => if t.contains (c, f) then fs.lookup f else none
    | _ => none)
  | _ => none
def setF (t : FTab) (x : G) (f : Str) (y : G) (S : Sto) : Option Sto := match x with
  | .ref n => (match S[n]? with
    | some (.ins c fs) => if t.contains (c, f) ∧ fs.length < 1000 then some (S.set n (.ins c (putG f y fs))) else none
    | _ => none)
  | _ => none
def setI (x i y : G) (S : Sto) : Option Sto := match x, i with
  | .ref n, .int k => (match S[n]? with
    | some (.lst true l) => (ixN l.length k).map fun j => S.set n (.lst true (l.set j y))
    | _ => none)
  | _, _ => none
def so (l : Loc) : Option Sto → SR
  | some S => .nx l S
  | none => .bad
def sFldS (t : FTab) (f : Str) (o v : Ev) : StM := fun l S => sr l (v l S) fun y S => sr l (o l S) fun x S => so l (setF t x f y S)
def sIxS (o i v : Ev) : StM := fun l S => sr l (v l S) fun y S => sr l (o l S) fun x S => sr l (i l S) fun k S => so l (setI x k y S)
/-- o.f += v, ints -/
def sFldAug (t : FTab) (f : Str) (o v : Ev) : StM := fun l S => sr l (o l S) fun x S => match x with
  | .ref n => (match S[n]? with
    | some (.ins c fs) => (match fs.lookup f with
      | some (.int i) => if t.contains (c, f) = false then .bad else sr l (v l S) fun y S => (match y, S[n]? with
        | .int j, some (.ins c' fs') => if c' = c ∧ fs'.length < 1000 then .nx l (S.set n (.ins c (putG f (.int (i + j)) fs'))) else .bad
        | _, _ => .bad)
      | _ => .bad)
    | _ => .bad)
  | _ => .bad
/-- name op= e, ints -/
def sAugN (neg : Bool) (i : Nat) (e : Ev) : StM := fun l S => match l[i]? with
  | some (some (.int a)) => sr l (e l S) fun y S => (match y with
    | .int b => .nx (l.set i (some (.int (if neg = true then a - b else a + b)))) S
    | _ => .bad)
  | _ => .bad
def gApp (x : G) (xs : List G) (S : Sto) : Option (G × Sto) := match x, xs with
  | .ref n, [y] => (match S[n]? with
    | some (.lst true l) => if l.length < sizeLine then some (.non, S.set n (.lst true (l ++ [y]))) else none
    | _ => none)
  | _, _ => none
def gExt (x : G) (xs : List G) (S : Sto) : Option (G × Sto) := match x, xs with
  | .ref n, [y] => (match S[n]?, lstW S y with
    | some (.lst true l), some l2 => if l.length + l2.length ≤ sizeLine then some (.non, S.set n (.lst true (l ++ l2))) else none
    | _, _ => none)
  | _, _ => none
section
variable {r : RP} {T : List (Addr × Str)} {m m' : List Addr} {S : Sto} {H H' : Hp} {W : WX} {X : Cx} {s : L2.St} {t : FTab} {o e v i : Expr} {f x : Str} {fo fe fv fi : Ev} {pos pos' apos cpos : Pos} {D : Ends} {l : Loc}
theorem ins_rep (hR : Rep r T m S H) {n : Nat} {a : Addr} {c : Str} {fs : List (Str × G)} (hn : m[n]? = some a) (h : S[n]? = some (.ins c fs)) : ∃ C dx vs, r.mg c = some (.ref C) ∧ H a = some (.ins C dx vs) ∧ RepFs r m H fs vs := hR.obj n a _ hn h
theorem g_fld (hK : X.K = r.K) (ht : FldOk r t) (he : PE X e (tF r T W fe)) (hb : attributeBase e f X.env (eval e X.env) = eval e X.env) : PE X (.Attribute e f pos) (tF r T W (e1 (gFld t f) fe)) :=
  PE_imp (pe_fld he hb) fun s H Q ⟨m, S, l, hR, hL, q⟩ => mono_tF (stE hR hL q) fun x H1 ⟨m1, S1, g, e, hR1, hL1, h1, q1⟩ => by
    obtain ⟨m2, S2, g1, g2, hR2, h2, e2, k⟩ := fin1 hR1 h1 q1
    unfold gFld at e2
    split at e2
    · rename_i n
      cases h2 with
      | @ref _ a hn =>
        split at e2
        · rename_i c fs hs
          split at e2
          · rename_i hc
            obtain ⟨C, dx, vs, g1, g2, g3⟩ := ins_rep hR2 hn hs
            obtain ⟨C', c1, c2, c3⟩ := ht c f (by simpa using hc)
            rw [g1] at c1
            cases c1
            obtain ⟨v, h3, h4⟩ := g3.lookup e2
            rw [hK]
            exact ⟨a, C, dx, vs, v, rfl, g2, c2, c3, h3, k _ _ (.refl _ _) hR2 h4⟩
          · cases e2
        · cases e2
    · cases e2
theorem repFs_put (h : RepV r m H g v') : ∀ {fs : List (Str × G)} {vs : List (Str × V)}, RepFs r m H fs vs → RepFs r m H (putG f g fs) (putF f v' vs)
  | _, _, .nil => .cons h .nil
  | (k, a) :: fs, (_, b) :: vs, .cons p q => by
    unfold putG putF
    by_cases e : k = f
    · rw [if_pos e, if_pos e]; exact .cons h q
    · rw [if_neg e, if_neg e]; exact .cons p (repFs_put h q)
/-- a write of an instance's attribute -/
theorem setF_rep {g1 g : G} {v1 v2 : V} {S' : Sto} (ht : FldOk r t) (hR : Rep r T m S H) (h1 : RepV r m H g1 v1) (h2 : RepV r m H g v2) (e : setF t g1 f g S = some S') :
    ∃ a C dx vs, v1 = .ref a ∧ H a = some (.ins C dx vs) ∧ Cls r.K C ∧ NoAttr r.K C f ∧ vs.length < 1000 ∧ Ext m H m (upd H a (.ins C dx (putF f v2 vs))) ∧ Rep r T m S' (upd H a (.ins C dx (putF f v2 vs))) := by
  unfold setF at e
  split at e
  · rename_i n
    cases h1 with
    | @ref _ a hn =>
      split at e
      · rename_i c fs hs
        split at e
        · rename_i hc
          cases e
          obtain ⟨C, dx, vs, g1, g2, g3⟩ := ins_rep hR hn hs
          obtain ⟨C', c1, c2, c3⟩ := ht c f (by simpa using hc.1)
          rw [g1] at c1
          cases c1
          have ex : Ext m H m (upd H a (.ins C dx (putF f v2 vs))) := Ext.write (List.mem_of_getElem? hn) g2 (fun _ z => by cases z)
          refine ⟨a, C, dx, vs, rfl, g2, c2, c3, by rw [← g3.length]; exact hc.2, ex, ?_⟩
          exact hR.write hn g2 (fun _ z => by cases z) (fun _ z => by cases z) ⟨C, dx, _, g1, upd_same, (repFs_put h2 g3).ext ex⟩
        · cases e
      · cases e
  · cases e
theorem setI_rep {g1 gi g : G} {v1 vi v2 : V} {S' : Sto} (hR : Rep r T m S H) (h1 : RepV r m H g1 v1) (hi : RepV r m H gi vi) (h2 : RepV r m H g v2) (e : setI g1 gi g S = some S') :
    ∃ a k vs j, v1 = .ref a ∧ vi = .int k ∧ H a = some (.lst vs) ∧ ixN vs.length k = some j ∧ Ext m H m (upd H a (.lst (vs.set j v2))) ∧ Rep r T m S' (upd H a (.lst (vs.set j v2))) := by
  unfold setI at e
  split at e
  · rename_i n k
    cases h1 with
    | @ref _ a hn =>
      cases hi
      split at e
      · rename_i l hs
        cases e1 : ixN l.length k with
        | none => rw [e1] at e; cases e
        | some j =>
          rw [e1] at e
          cases e
          obtain ⟨vs, g2, z, tt⟩ := hR.obj n a _ hn hs
          have ex : Ext m H m (upd H a (.lst (vs.set j v2))) := Ext.write (List.mem_of_getElem? hn) g2 (fun _ z => by cases z)
          refine ⟨a, k, vs, j, rfl, rfl, g2, by rw [← tt.length]; exact e1, ex, ?_⟩
          exact hR.write hn g2 (fun _ z => by cases z) (fun _ z => by cases z) ⟨_, upd_same, by rw [List.length_set]; exact z, (tt.set h2 j).ext ex⟩
      · cases e
  · cases e
theorem g_sfld (hK : X.K = r.K) (ht : FldOk r t) (ho : PE X o (tF r T W fo)) (hv : PE X v (tF r T W fv)) (hs : swapsWith v (some (.Attribute o f pos')) pos.line X.env = pure false) : PS X (.Assign [.Attribute o f pos'] v pos) (tSF r T W (sFldS t f fo fv)) :=
  PS_imp (ps_fld ho hv hs) fun D s H ⟨m, S, l, hR, hL, q⟩ => mono_tF (stS hR hL q) fun y H1 ⟨m1, S1, g, e, hR1, hL1, h1, q1⟩ => mono_tF (stS hR1 hL1 q1) fun x H2 ⟨m2, S2, g2, e2, hR2, hL2, h2, q2⟩ => by
    cases e3 : setF t g2 f g S2 with
    | none => rw [e3] at q2; exact False.elim q2
    | some S3 =>
      rw [e3] at q2
      obtain ⟨a, C, dx, vs, rfl, b1, b2, b3, b4, b5, b6⟩ := setF_rep ht hR2 h2 (h1.ext e2) e3
      rw [hK]
      exact ⟨a, C, dx, vs, rfl, b1, b2, b3, b4, q2 m2 _ s b5 b6 (hL2.ext b5)⟩
theorem g_six (ho : PE X o (tF r T W fo)) (hi : PE X i (tF r T W fi)) (hv : PE X v (tF r T W fv)) (hs : swapsWithSole [.Subscript o i pos'] v pos.line X.env = pure false) (hw : swappedStores [.Subscript o i pos'] v X.env = pure none)
    (h1 : (assignEach [.Subscript o i pos'] X.env).map (·.2) = [assign (.Subscript o i pos') X.env])
    (ha : ∀ v, assign (.Subscript o i pos') X.env v = (do
      let ov ← holding [v] (eval o X.env)
      let iv ← holding [v, ov] (eval i X.env)
      standAt pos'
      holding [v, ov, iv] (setItem ov iv v)
      release [v, ov, iv] [])) : PS X (.Assign [.Subscript o i pos'] v pos) (tSF r T W (sIxS fo fi fv)) :=
  PS_imp (ps_asg hv (pg_sub ho hi set_list ha) hs hw h1) fun D s H ⟨m, S, l, hR, hL, q⟩ => mono_tF (stS hR hL q) fun y H1 ⟨m1, S1, g, e, hR1, hL1, h1, q1⟩ => mono_tF (stS hR1 hL1 q1) fun x H2 ⟨m2, S2, g2, e2, hR2, hL2, h2, q2⟩ =>
    mono_tF (stS hR2 hL2 q2) fun z H3 ⟨m3, S3, g3, e3, hR3, hL3, h3, q3⟩ => by
    cases e4 : setI g2 g3 g S3 with
    | none => rw [e4] at q3; exact False.elim q3
    | some S4 =>
      rw [e4] at q3
      obtain ⟨a, k, vs, j, rfl, rfl, b1, b2, b3, b4⟩ := setI_rep hR3 (h2.ext e3) h3 ((h1.ext e2).ext e3) e4
      exact ⟨a, vs, k, j, rfl, rfl, b1, b2, q3 m3 _ s b3 b4 (hL3.ext b3)⟩
theorem g_sfldaug (hK : X.K = r.K) (ht : FldOk r t) (ho : PE X o (tF r T W fo)) (hv : PE X v (tF r T W fv)) : PS X (.AugAssign (.Attribute o f pos') .Add v pos) (tSF r T W (sFldAug t f fo fv)) :=
  PS_imp (ps_fldaug ho hv in_add) fun D s H ⟨m, S, l, hR, hL, q⟩ => mono_tF (stS hR hL q) fun x H1 ⟨m1, S1, g, e, hR1, hL1, h1, q1⟩ => by
    cases g with
    | ref n =>
      cases h1 with
      | @ref _ a hn =>
        dsimp only at q1
        split at q1
        · rename_i c fs hs
          split at q1
          · rename_i ii hl
            obtain ⟨C, dx, vs, g1, g2, g3⟩ := ins_rep hR1 hn hs
            obtain ⟨v, h3, h4⟩ := g3.lookup hl
            cases h4
            rw [hK]
            split at q1
            · exact False.elim q1
            rename_i hc
            have hc : t.contains (c, f) = true := by simpa using hc
            obtain ⟨C', c1, c2, c3⟩ := ht c f (by simpa using hc)
            rw [g1] at c1
            cases c1
            refine ⟨a, C, dx, vs, _, rfl, g2, c2, c3, h3, mono_tF (stS hR1 hL1 q1) fun y H2 ⟨m2, S2, g2', e2', hR2, hL2, h2, q2⟩ => ?_⟩
            split at q2
            · rename_i j c' fs' hs'
              split at q2
              · rename_i hh
                obtain ⟨rfl, hz⟩ := hh
                cases h2
                refine ⟨_, _, rfl, rfl, ?_⟩
                obtain ⟨C2, dx2, vs2, b1, b2, b3⟩ := ins_rep hR2 (e2'.get hn) hs'
                rw [g1] at b1
                cases b1
                have ex : Ext m2 H2 m2 (upd H2 a (.ins C dx2 (putF f (.int (ii + j)) vs2))) := Ext.write (List.mem_of_getElem? (e2'.get hn)) b2 (fun _ z => by cases z)
                refine ⟨dx2, vs2, b2, by rw [← b3.length]; exact hz, q2 m2 _ s ex ?_ (hL2.ext ex)⟩
                exact hR2.write (e2'.get hn) b2 (fun _ z => by cases z) (fun _ z => by cases z) ⟨C, dx2, _, g1, upd_same, (repFs_put (.int _) b3).ext ex⟩
              · exact False.elim q2
            · exact False.elim q2
          · exact False.elim q1
        · exact False.elim q1
    | _ => exact False.elim q1

/-- name += e, name -= e -/
theorem g_augadd {j : Nat} (hN : X.N.Nodup) (hj : X.N[j]? = some x) (hx : L2.Loc X.env.scope x) (hf : X.fn x = true ∨ X.env.scope.names.lookup x = some .local) (he : PE X e (tF r T W fe)) : PS X (.AugAssign (.Name x pos') .Add e pos) (tSF r T W (sAugN false j fe)) :=
  PS_imp (ps_aug hN hj hx he ip_add hf) fun D s H ⟨m, S, l, hR, hL, q⟩ => by
    unfold sAugN at q
    split at q
    · rename_i a ea
      obtain ⟨v, h1, h2⟩ := hL.get j _ ea
      cases h2
      refine ⟨_, h1, mono_tF (stS hR hL q) fun y H1 ⟨m1, S1, g, e, hR1, hL1, h1, q1⟩ => ?_⟩
      split at q1
      · cases h1
        exact ⟨_, _, rfl, rfl, q1 m1 H1 _ (.refl _ _) hR1 (hL1.set j (.int _))⟩
      · exact False.elim q1
    · exact False.elim q
theorem g_augsub {j : Nat} (hN : X.N.Nodup) (hj : X.N[j]? = some x) (hx : L2.Loc X.env.scope x) (hf : X.fn x = true ∨ X.env.scope.names.lookup x = some .local) (he : PE X e (tF r T W fe)) : PS X (.AugAssign (.Name x pos') .Sub e pos) (tSF r T W (sAugN true j fe)) :=
  PS_imp (ps_aug hN hj hx he ip_sub hf) fun D s H ⟨m, S, l, hR, hL, q⟩ => by
    unfold sAugN at q
    split at q
    · rename_i a ea
      obtain ⟨v, h1, h2⟩ := hL.get j _ ea
      cases h2
      refine ⟨_, h1, mono_tF (stS hR hL q) fun y H1 ⟨m1, S1, g, e, hR1, hL1, h1, q1⟩ => ?_⟩
      split at q1
      · cases h1
        exact ⟨_, _, rfl, rfl, q1 m1 H1 _ (.refl _ _) hR1 (hL1.set j (.int _))⟩
      · exact False.elim q1
    · exact False.elim q
/-- methods of lists that change them -/
theorem mt_gApp : MtR X "list.append" (rPU r T gApp) := MtR_imp mt_append fun x xs H Q ⟨m, S, g1, gs, g, S', hR, h1, h2, e, k⟩ => by
  unfold gApp at e
  split at e
  · rename_i n y
    split at e
    · rename_i l hs
      split at e
      · rename_i c
        cases e
        cases h1 with
        | @ref _ a hn =>
          obtain ⟨v, rfl, h3⟩ := len1 h2
          obtain ⟨vs, g2, z, tt⟩ := hR.obj n a _ hn hs
          have ex : Ext m H m (upd H a (.lst (vs ++ [v]))) := Ext.write (List.mem_of_getElem? hn) g2 (fun _ z => by cases z)
          refine ⟨a, vs, v, rfl, rfl, g2, by rw [← tt.length]; exact c, k _ _ ex ?_ .non⟩
          exact hR.write hn g2 (fun _ z => by cases z) (fun _ z => by cases z) ⟨_, upd_same, by rw [List.length_append, ← tt.length]; exact c, (tt.append (.cons h3 .nil)).ext ex⟩
      · cases e
    · cases e
  · cases e
theorem mt_gExt : MtR X "list.extend" (rPU r T gExt) := MtR_imp mt_extend fun x xs H Q ⟨m, S, g1, gs, g, S', hR, h1, h2, e, k⟩ => by
  unfold gExt at e
  split at e
  · rename_i n y
    split at e
    · rename_i l l2 hs e2
      split at e
      · rename_i c
        cases e
        cases h1 with
        | @ref _ a hn =>
          obtain ⟨v, rfl, h3⟩ := len1 h2
          obtain ⟨vs, g2, z, tt⟩ := hR.obj n a _ hn hs
          obtain ⟨p, vs2, rfl, z2, t2, q2⟩ := lstW_rep hR h3 e2
          have ex : Ext m H m (upd H a (.lst (vs ++ vs2))) := Ext.write (List.mem_of_getElem? hn) g2 (fun _ z => by cases z)
          refine ⟨a, p, vs, vs2, rfl, rfl, g2, q2, by rw [← tt.length, ← t2.length]; exact c, k _ _ ex ?_ .non⟩
          exact hR.write hn g2 (fun _ z => by cases z) (fun _ z => by cases z) ⟨_, upd_same, by rw [List.length_append, ← tt.length, ← t2.length]; exact c, (tt.append t2).ext ex⟩
      · cases e
    · cases e
  · cases e
/-- o.name(e, ..), a method of a list of the store -/
def eML (f : G → List G → Sto → Option (G × Sto)) (o : Ev) (a : As) : Ev := fun l S => rb (o l S) fun x S => if (lstW S x).isSome then rb (a l S) fun xs S => (match f x xs S with
  | some (g, S) => .ok g S
  | none => .bad) else .bad
variable {es : List Expr} {fs : As} {name : Str} {id : String}
theorem g_ml {f : G → List G → Sto → Option (G × Sto)} (hK : X.K = r.K) (slot : Slot "list" name id) (hty : typeOf (.builtin id) = pure (.type "method_descriptor")) (hm : MtR X id (rPU r T f)) (ho : PE X o (tF r T W fo)) (ha : PA X (e :: es) (tFA r T W fs))
    (hbase : attributeBase o name X.env (eval o X.env) = eval o X.env)
    (hfew : ((backTo cpos (starEach (e :: es) X.env)).all (fun x => !x.1) && (backToKw cpos (keywordEach [] X.env)).all (fun x => x.1.isSome)
      && decide ((e :: es).length + ([] : List Keyword).length + (if ([] : List Keyword).isEmpty then 0 else 1) < 30)) = true)
    (hline : (apos.endLine == cpos.line) = true) (hs : starEach (e :: es) X.env = (false, eval e X.env) :: starEach es X.env) (hplain : (backTo cpos (starEach es X.env)).any (·.1) = false) :
    PE X (.Call (.Attribute o name apos) (e :: es) [] cpos) (tF r T W (eML f fo fs)) :=
  PE_imp (pe_bm F.plainAttrs_list slot hty hm ho ha hbase hfew hline hs hplain) fun s H Q ⟨m, S, l, hR, hL, q⟩ => mono_tF (stE hR hL q) fun x H1 ⟨m1, S1, g, e, hR1, hL1, h1, q1⟩ => by
    dsimp only at q1
    split at q1
    · rename_i c
      obtain ⟨l2, e2⟩ := Option.isSome_iff_exists.mp c
      obtain ⟨p, vs, rfl, z, t, q2⟩ := lstW_rep hR1 h1 e2
      rw [hK]
      exact ⟨.inl ⟨rfl, vs, .inl (.inl q2)⟩, mono_tFA (stA hR1 hL1 q1) fun xs H2 ⟨m2, S2, gs, e3, hR2, hL2, h2, q3⟩ => finU hR2 (h1.ext e3) h2 q3⟩
    · exact False.elim q1
end
end GL

end

section
set_option Elab.async false
set_option linter.all false
set_option maxRecDepth 100000
set_option maxHeartbeats 4000000
/-! GL: defs and their calls. -/
namespace GL
open PySem PySem.Spec PyProof.Rows L2

/-! ### the plain side -/
structure FnD where
  np : Nat
  nN : Nat
  body : Calls → List G → StM
def lo0 (nN : Nat) (gs : List G) : Loc := gs.map some ++ List.replicate (nN - gs.length) none
def bodyR (r : SR) : R G := match r with
  | .nx _ S => .ok .non S
  | .rt g S => .ok g S
  | .exc c fs _ S => .exc c fs S
  | _ => .bad
def callN (tab : FK → Option FnD) : Nat → Calls
  | 0 => fun _ _ _ => .bad
  | n + 1 => fun k gs S => match tab k with
    | some d => if gs.length = d.np then bodyR (d.body (callN tab n) gs (lo0 d.nN gs) S) else .bad
    | none => .bad
/-! ### contexts -/
structure Ctx (r : RP) (T : List (Addr × Str)) (W : WX) (X : Cx) : Prop where
  K : X.K = r.K
  mg : X.mg = r.mg
  calm : X.calm = true
  hd : X.A.handled = none
  un : X.A.units + 64 < cLine
  gu : X.A.guards = some []
  tk : Takes X W
/-- the module that stands -/
structure Md where
  P : Program
  w : World
  K : PySem.W.Frag
  mg : Str → Option Value
  base : Heap
  T : List (Addr × Str)
  isClo : Nat → Obj → List (Str × Addr) → Option Addr → Addr → Str → Prop
def Md.is (M : Md) (r : RP) : Prop := r.K = M.K ∧ r.mg = M.mg ∧ r.isClo = M.isClo ∧ r.hp = none
def Md.of (M : Md) (X : Cx) : Prop := X.prog = M.P ∧ X.w = M.w ∧ X.K = M.K ∧ X.mg = M.mg ∧ X.base = M.base
/-- a def's promise, from the plain call -/
def spG (M : Md) (np : Nat) (cl : List G → Sto → R G) : Sp := fun vs H Q E => vs.length = np ∧ ∃ r m S gs, M.is r ∧ Rep r M.T m S H ∧ RepVs r m H gs vs ∧ Pst r M.T (fun c d _ H => E c d H) (RepV r) [] m H (cl gs S) Q
structure GFn (M : Md) (k : Nat) (f : Addr) (fd : FuncData) (ps : List Str) (sp : Sp) : Prop where
  len : ∀ vs H Q E, sp vs H Q E → vs.length = ps.length
  run : ∀ (A : Around) (outer : List Env) (s : Shared) (H : Hp) (args : Args) (us : List Value) (vs : List V) (Q : VK) (E : XK), Room k A → A.guards = some [] → Env0 M.P M.w M.K M.mg M.base A outer s H → BindsTo s fd args (ps.zip us) → Vals vs us → sp vs H Q E →
    codeAny (model M.P M.w) A (.call (.ref f) args) (CR (L2.CX M.P M.w) outer M.P M.w H s Q E) s
theorem pst_wish {r : RP} {T : List (Addr × Str)} {W : WX} {s : L2.St} {m : List Addr} {H : Hp} {res : R G} {Q : VK} (h : Pst r T W (RepV r) s m H res Q) : Pst r T (fun c d _ H => WE W s c d H) (RepV r) [] m H res Q := by
  cases res with
  | ok x S => exact h
  | exc c fs S => exact h
  | bad => exact h
theorem guards_deeper {A : Around} {env : Env} (h : A.guards = some []) : (A.deeper env).guards = some [] := by
  first
    | exact h
    | (simp [Around.deeper, h])
theorem guards_make {A : Around} {C : Addr} {us : List Value} {kw : List (Str × Value)} (h : A.guards = some []) : (A.under (.builtin "type.__call__" ⟨.ref C :: us, kw⟩)).guards = some [] := by
  first
    | exact h
    | (simp [Around.under, Code.guards, Code.isGuard, pushGuards, guardIds, h])
section
variable {M : Md} {k : Nat} {f : Addr} {fd : FuncData} {ps : List Str} {sp : Sp} {X : Cx}
theorem GFn.mono {j : Nat} (F : GFn M j f fd ps sp) (h : j ≤ k) : GFn M k f fd ps sp := ⟨F.len, fun A outer s H args us vs Q E hr => F.run A outer s H args us vs Q E (hr.mono h)⟩
theorem run_g {E : L2.St → XK} {pins : List (Addr × Obj)} {σ : L2.St} {H : Hp} {s : Shared} {Q : VK} {us : List Value} {vs : List V} (hX : M.of X) (F : GFn M k f fd ps sp) (hr : Room k X.A) (hg : X.A.guards = some []) (hb : Binds X.K fd ps []) (hx : PassesAt (L2.CX X.prog X.w) X σ (E σ))
    (I : Inv X pins σ H s) (r : Vals vs us) (h : sp vs H Q (E σ)) : wpAny (model X.prog X.w) X.A (call (.ref f) us) (EP X pins σ Q) X.xe s := by
  obtain ⟨h1, h2, h3, h4, h5⟩ := hX
  have hl : us.length = ps.length := by rw [← r.length]; exact F.len _ _ _ _ h
  have b := hb s us I.kIn (by rw [List.append_nil]; exact hl)
  rw [List.append_nil] at b
  have e0 := I.env0
  have run := F.run X.A X.stack s H ⟨us, []⟩ us vs Q (E σ) hr hg (by rw [← h1, ← h2, ← h3, ← h4, ← h5]; exact e0) b r h
  rw [← h1, ← h2] at run
  refine wpAny_call (codeAny_mono run fun r s' hq => ?_)
  cases r with
  | error e => exact hx pins H s e s' I hq
  | ok fl =>
    cases fl with
    | ret u => exact I.after hq
    | next => exact False.elim hq
    | brk => exact False.elim hq
    | cont => exact False.elim hq
end
/-- a def that may be called by its name, a method, a class -/
structure CalF (M : Md) (k : Nat) (x : Str) (np : Nat) (cl : List G → Sto → R G) : Prop where
  ex : ∃ (f : Addr) (fd : FuncData) (ps : List Str), M.mg x = some (.ref f) ∧ PySem.W.keepIn M.K (.ref f) = true ∧ Binds M.K fd ps [] ∧ GFn M k f fd ps (spG M np cl)
structure CalM (M : Md) (k : Nat) (c m : Str) (np : Nat) (cl : List G → Sto → R G) : Prop where
  ex : ∃ (C f : Addr) (fd : FuncData) (ps : List Str), M.mg c = some (.ref C) ∧ Cls M.K C ∧ Meth M.K C m f ∧ Binds M.K fd ps [] ∧ GFn M k f fd ps (spG M np cl)
structure CalC (M : Md) (k : Nat) (c : Str) (np : Nat) (cl : List G → Sto → R G) : Prop where
  ex : ∃ (C f : Addr) (fd : FuncData) (ps : List Str), M.mg c = some (.ref C) ∧ Mk M.K C f ∧ Binds M.K fd ps [] ∧ GFn M k f fd ps (spG M np cl)
/-- a class is called: an instance, then its __init__ -/
def eMk (call : Calls) (c : Str) (a : As) : Ev := fun l S => rb (a l S) fun xs S => rb (call (.me c "__init__") (.ref S.length :: xs) (S ++ [.ins c []])) fun g S' => match g with
  | .non => .ok (.ref S.length) S'
  | _ => .bad
/-- a method of an instance whose class is known -/
def eMe (call : Calls) (t : FTab) (c m : Str) (o : Ev) (a : As) : Ev := fun l S => rb (o l S) fun x S => match x with
  | .ref n => (match S[n]? with
    | some (.ins c' fs) => if c' = c ∧ fs.lookup m = none then rb (a l S) fun xs S => call (.me c m) (x :: xs) S else .bad
    | _ => .bad)
  | _ => .bad
section
variable {M : Md} {k : Nat} {r : RP} {W : WX} {X : Cx} {x m' : Str} {np : Nat} {p pos apos : Pos} {e o : Expr} {es : List Expr} {fs : As} {fo : Ev} {call : Calls} {s : L2.St} {m : List Addr} {H : Hp} {S : Sto}
theorem sp_of {cl : List G → Sto → R G} {gs : List G} {vs : List V} {Q : VK} (hM : M.is r) (hR : Rep r M.T m S H) (h1 : RepVs r m H gs vs) (hn : gs.length = np) (q : Pst r M.T W (RepV r) s m H (cl gs S) Q) : spG M np cl vs H Q (WE W s) :=
  ⟨by rw [← h1.length]; exact hn, r, m, S, gs, hM, hR, h1, pst_wish q⟩
/-- the plain call takes only so many values -/
def Arity (np : Nat) (cl : List G → Sto → R G) : Prop := ∀ gs S, gs.length ≠ np → cl gs S = .bad
theorem pst_arity {cl : List G → Sto → R G} (ha : Arity np cl) {gs : List G} {Q : VK} (q : Pst r M.T W (RepV r) s m H (cl gs S) Q) : gs.length = np := Classical.byContradiction fun z => by
  rw [ha gs S z] at q
  exact q
theorem g_callF (c : Ctx r M.T W X) (hX : M.of X) (hM : M.is r) (F : CalF M k x np (call (.fn x))) (har : Arity np (call (.fn x))) (hr : Room k X.A) (hg : Gl X x) (ha : PA X (e :: es) (tFA r M.T W fs)) (hdb : (x == ("__debug__" : Str)) = false)
    (he : starEach (e :: es) X.env = (false, eval e X.env) :: starEach es X.env) (hpl : (backTo pos (starEach es X.env)).any (·.1) = false) : PE X (.Call (.Name x p) (e :: es) [] pos) (tF r M.T W (eCl call (.fn x) fs)) := by
  obtain ⟨f, fd, ps, h1, h2, h3, h4⟩ := F.ex
  obtain ⟨x1, x2, x3, x4, x5⟩ := id hX
  refine ⟨fun pins s σ H Q I ⟨m, S, l, hR, hL, q⟩ => ?_⟩
  refine wpAny_Call_Name_kw (ld_glob I hg (by rw [x4]; exact h1) ?_ hdb)
  refine PySem.W.callWith_K (h₀ := X.base) I.ok.mod.kin (by rw [x3]; exact h2) (thn (ha.run pos pins s σ H _ I (stA hR hL q)) fun us s1 ⟨vs, H1, I1, r1, m1, S1, g, e, hR1, hL1, h5, q1⟩ => ⟨I1.kIn, ?_⟩) he hpl
  refine run_g (E := WE W) hX h4 hr c.gu (by rw [x3]; exact h3) (passAt c.tk σ) I1 r1 (sp_of hM hR1 h5 (pst_arity har q1) q1)
theorem g_callF0 (c : Ctx r M.T W X) (hX : M.of X) (hM : M.is r) (F : CalF M k x np (call (.fn x))) (har : Arity np (call (.fn x))) (hr : Room k X.A) (hg : Gl X x) (hdb : (x == ("__debug__" : Str)) = false) : PE X (.Call (.Name x p) [] [] pos) (tF r M.T W (eCl call (.fn x) aNil)) := by
  obtain ⟨f, fd, ps, h1, h2, h3, h4⟩ := F.ex
  obtain ⟨x1, x2, x3, x4, x5⟩ := id hX
  refine ⟨fun pins s σ H Q I ⟨m, S, l, hR, hL, q⟩ => ?_⟩
  refine wpAny_Call_Name_kw (ld_glob I hg (by rw [x4]; exact h1) ?_ hdb)
  have q1 : Pst r M.T W (RepV r) σ m H (call (.fn x) [] S) Q := q
  exact PySem.W.callWith_K0 I.kIn (by rw [x3]; exact h2) (run_g (us := []) (E := WE W) hX h4 hr c.gu (by rw [x3]; exact h3) (passAt c.tk σ) I .nil (sp_of hM hR .nil (pst_arity har q1) q1))
/-- what is between an instance and its method -/
theorem me_obj {n : Nat} {a : Addr} {c : Str} {fs' : List (Str × G)} {C : Addr} (hR : Rep r M.T m S H) (hn : m[n]? = some a) (h : S[n]? = some (.ins c fs')) (hC : r.mg c = some (.ref C)) (hl : fs'.lookup m' = none) :
    ∃ dx vs, H a = some (.ins C dx vs) ∧ vs.lookup m' = none := by
  obtain ⟨C', dx, vs, h1, h2, h3⟩ := hR.obj n a _ hn h
  rw [hC] at h1
  cases h1
  exact ⟨dx, vs, h2, h3.lookupN hl⟩
theorem g_callM {pl : Sem Bool} {t : FTab} {cn : Str} (c : Ctx r M.T W X) (hX : M.of X) (hM : M.is r) (F : CalM M k cn m' np (call (.me cn m'))) (har : Arity np (call (.me cn m'))) (hr : Room k X.A) (ho : PE X o (tF r M.T W fo)) (ha : PA X (e :: es) (tFA r M.T W fs))
    (hst : starEach (e :: es) X.env = (false, eval e X.env) :: starEach es X.env) (hpl : (backTo pos (starEach es X.env)).any (·.1) = false)
    (ht : eval (.Call (.Attribute o m' apos) (e :: es) [] pos) X.env = (do
      let ov ← eval o X.env
      standAt apos.atName
      let (f, first) ← holding [ov] (getMethod ov m' pl)
      callWith pos f first (backTo pos (starEach (e :: es) X.env)) (backToKw pos (keywordEach [] X.env)))) : PE X (.Call (.Attribute o m' apos) (e :: es) [] pos) (tF r M.T W (eMe call t cn m' fo fs)) := by
  obtain ⟨C, f, fd, ps, h1, h2, h3, h4, h5⟩ := F.ex
  obtain ⟨x1, x2, x3, x4, x5⟩ := id hX
  refine ⟨fun pins s σ H Q I ⟨m, S, l, hR, hL, q⟩ => ?_⟩
  refine PySem.W.methodCall_KW (pl := pl) (thn (ho.run pins s σ H _ I (stE hR hL q)) fun u s1 ⟨x, H1, I1, rx, m1, S1, g, e, hR1, hL1, hx, q1⟩ => ?_) ht
  cases g with
  | ref n =>
    cases hx with
    | @ref _ a hn =>
      obtain rfl : u = Value.ref a := rx
      dsimp only at q1
      split at q1
      · rename_i c' fs' hs
        split at q1
        · rename_i hh
          obtain ⟨rfl, hl⟩ := hh
          obtain ⟨dx, vs, e1, e2⟩ := me_obj hR1 hn hs (by rw [hM.2.1]; exact h1) hl
          refine getmeth_ok I1 e1 (by rw [x3]; exact h2) (by rw [x3]; exact h3) e2 ?_
          refine PySem.W.callWith_K (first := [.ref a]) (h₀ := X.base) I.ok.mod.kin (by rw [x3]; exact h3.kp) (thn (ha.run pos pins s1 σ H1 _ I1 (stA hR1 hL1 q1)) fun us s2 ⟨vs, H2, I2, r2, m2, S2, gs, e', hR2, hL2, h6, q2⟩ => ⟨I2.kIn, ?_⟩) hst hpl
          have h7 : RepVs r m2 H2 (.ref n :: gs) (V.ref a :: vs) := .cons (.ref (e'.get hn)) h6
          exact run_g (us := .ref a :: us) (vs := .ref a :: vs) (E := WE W) hX h5 hr c.gu (by rw [x3]; exact h4) (passAt c.tk σ) I2 (.cons rfl r2) (sp_of hM hR2 h7 (pst_arity har q2) q2)
        · exact False.elim q1
      · exact False.elim q1
  | _ => exact False.elim q1
theorem g_callM0 {pl : Sem Bool} {t : FTab} {cn : Str} (c : Ctx r M.T W X) (hX : M.of X) (hM : M.is r) (F : CalM M k cn m' np (call (.me cn m'))) (har : Arity np (call (.me cn m'))) (hr : Room k X.A) (ho : PE X o (tF r M.T W fo))
    (ht : eval (.Call (.Attribute o m' apos) [] [] pos) X.env = (do
      let ov ← eval o X.env
      standAt apos.atName
      let (f, first) ← holding [ov] (getMethod ov m' pl)
      callWith pos f first (backTo pos (starEach [] X.env)) (backToKw pos (keywordEach [] X.env)))) : PE X (.Call (.Attribute o m' apos) [] [] pos) (tF r M.T W (eMe call t cn m' fo aNil)) := by
  obtain ⟨C, f, fd, ps, h1, h2, h3, h4, h5⟩ := F.ex
  obtain ⟨x1, x2, x3, x4, x5⟩ := id hX
  refine ⟨fun pins s σ H Q I ⟨m, S, l, hR, hL, q⟩ => ?_⟩
  refine PySem.W.methodCall_KW (pl := pl) (thn (ho.run pins s σ H _ I (stE hR hL q)) fun u s1 ⟨x, H1, I1, rx, m1, S1, g, e, hR1, hL1, hx, q1⟩ => ?_) ht
  cases g with
  | ref n =>
    cases hx with
    | @ref _ a hn =>
      obtain rfl : u = Value.ref a := rx
      dsimp only at q1
      split at q1
      · rename_i c' fs' hs
        split at q1
        · rename_i hh
          obtain ⟨rfl, hl⟩ := hh
          obtain ⟨dx, vs, e1, e2⟩ := me_obj hR1 hn hs (by rw [hM.2.1]; exact h1) hl
          refine getmeth_ok I1 e1 (by rw [x3]; exact h2) (by rw [x3]; exact h3) e2 ?_
          have q2 : Pst r M.T W (RepV r) σ m1 H1 (call (.me c' m') [.ref n] S1) Q := q1
          have h7 : RepVs r m1 H1 [.ref n] [V.ref a] := .cons (.ref hn) .nil
          exact PySem.W.callWith_K0 (first := [.ref a]) I1.kIn (by rw [x3]; exact h3.kp) (run_g (us := [.ref a]) (vs := [.ref a]) (E := WE W) hX h5 hr c.gu (by rw [x3]; exact h4) (passAt c.tk σ) I1 (.cons rfl .nil) (sp_of hM hR1 h7 (pst_arity har q2) q2))
        · exact False.elim q1
      · exact False.elim q1
  | _ => exact False.elim q1
/-- the new instance, laid -/
theorem mk_rep {C x dx : Addr} {c : Str} (hR : Rep r M.T m S H) (hC : r.mg c = some (.ref C)) (hx : H x = none) (hd : H dx = none) (ne : dx ≠ x) :
    Ext m H (m ++ [x]) (upd (upd H dx (.own x)) x (.ins C dx [])) ∧ Rep r M.T (m ++ [x]) (S ++ [.ins c []]) (upd (upd H dx (.own x)) x (.ins C dx [])) := by
  have h1 := hR.fresh hd (.own x)
  have e1 := Ext.new (m := m) hd (.own x)
  have hx2 : upd H dx (.own x) x = none := by rw [upd_ne (Ne.symm ne)]; exact hx
  exact ⟨e1.trans (Ext.alloc hx2 _), h1.alloc hx2 ⟨C, dx, [], hC, upd_same, .nil⟩⟩

theorem run_mk {f C : Addr} {fd : FuncData} {ps : List Str} {sp : Sp} {E : L2.St → XK} {pins : List (Addr × Obj)} {σ : L2.St} {s : Shared} {Q : VK} {us : List Value} {vs : List V} (hX : M.of X) (Mm : Mk X.K C f) (F : GFn M k f fd ps sp) (hr : Room (k + 1) X.A) (hg : X.A.guards = some [])
    (hb : Binds X.K fd ps []) (hx : PassesAt (L2.CX X.prog X.w) X σ (E σ)) (I : Inv X pins σ H s) (r1 : Vals vs us)
    (h : ∀ x dx, H x = none → H dx = none → dx ≠ x → sp (.ref x :: vs) (upd (upd H dx (.own x)) x (.ins C dx [])) (fun v H2 => v = .non ∧ Q (.ref x) H2) (E σ)) :
    wpAny (model X.prog X.w) X.A (PySem.call (.ref C) us) (EP X pins σ Q) X.xe s := by
  obtain ⟨x1, x2, x3, x4, x5⟩ := id hX
  have hq := h (s.heap.objs.size + 1) s.heap.objs.size (I.hok.fresh (Nat.le_succ _)) (I.hok.fresh (Nat.le_refl _)) (Nat.ne_of_lt (Nat.lt_succ_self _))
  have I2 := Inv.made (C := C) I
  have r2 : Vals (V.ref (s.heap.objs.size + 1) :: vs) (Value.ref (s.heap.objs.size + 1) :: us) := .cons rfl r1
  have hl : (Value.ref (s.heap.objs.size + 1) :: us ++ []).length = ps.length := by
    rw [List.append_nil]
    have e := r2.length
    rw [F.len _ _ _ _ hq] at e
    exact e.symm
  have b := hb _ (Value.ref (s.heap.objs.size + 1) :: us) I2.kIn hl
  rw [List.append_nil] at b
  have e0 := I2.env0.make C us []
  have run := F.run _ X.stack _ _ ⟨Value.ref (s.heap.objs.size + 1) :: us, []⟩ (Value.ref (s.heap.objs.size + 1) :: us) _ _ (E σ) (hr.make C us []) (guards_make hg) (by rw [← x1, ← x2, ← x3, ← x4, ← x5]; exact e0) b r2 hq
  rw [← x1, ← x2] at run
  refine wpAny_call (make_map (f := f) I.kIn Mm.makes Mm.init (beq_iff_eq.mp Mm.fn) (codeAny_mono run fun r s' hq' => ?_))
  cases r with
  | error e => exact hx pins _ _ e s' I2 hq'
  | ok fl =>
    cases fl with
    | ret u =>
      obtain ⟨v, H', I3, rv, ev, q3⟩ := I2.after hq'
      subst ev
      exact ⟨rv, ⟨V.ref (s.heap.objs.size + 1), H', I3, rfl, q3⟩⟩
    | next => exact False.elim hq'
    | brk => exact False.elim hq'
    | cont => exact False.elim hq'
theorem g_mk {cn : Str} (c : Ctx r M.T W X) (hX : M.of X) (hM : M.is r) (F : CalC M k cn np (call (.me cn "__init__"))) (har : Arity np (call (.me cn "__init__"))) (hr : Room (k + 1) X.A) (hg : Gl X cn) (ha : PA X (e :: es) (tFA r M.T W fs)) (hdb : (cn == ("__debug__" : Str)) = false)
    (he : starEach (e :: es) X.env = (false, eval e X.env) :: starEach es X.env) (hpl : (backTo pos (starEach es X.env)).any (·.1) = false) : PE X (.Call (.Name cn p) (e :: es) [] pos) (tF r M.T W (eMk call cn fs)) := by
  obtain ⟨C, f, fd, ps, h1, h2, h3, h4⟩ := F.ex
  obtain ⟨x1, x2, x3, x4, x5⟩ := id hX
  refine ⟨fun pins s σ H Q I ⟨m, S, l, hR, hL, q⟩ => ?_⟩
  refine wpAny_Call_Name_kw (ld_glob I hg (by rw [x4]; exact h1) ?_ hdb)
  refine PySem.W.callWith_K (h₀ := X.base) I.ok.mod.kin (by rw [x3]; exact h2.kp) (thn (ha.run pos pins s σ H _ I (stA hR hL q)) fun us s1 ⟨vs, H1, I1, r1, m1, S1, gs, e, hR1, hL1, h5, q1⟩ => ⟨I1.kIn, ?_⟩) he hpl
  refine run_mk (E := WE W) hX (by rw [x3]; exact h2) h4 hr c.gu (by rw [x3]; exact h3) (passAt c.tk σ) I1 r1 fun x dx hx hd ne => ?_
  obtain ⟨ex, hR2⟩ := mk_rep hR1 (by rw [hM.2.1]; exact h1) hx hd ne
  have h7 : RepVs r (m1 ++ [x]) (upd (upd H1 dx (.own x)) x (.ins C dx [])) (.ref S1.length :: gs) (V.ref x :: vs) := .cons (.ref (by rw [← hR1.len, List.getElem?_append_right (Nat.le_refl _)]; simp)) (h5.ext ex)
  have q2 := Pst.ext ex q1
  refine sp_of hM hR2 h7 ?_ (W := W) ?_
  · exact Classical.byContradiction fun z => by
      dsimp only at q2
      rw [har _ _ z] at q2
      exact q2
  · revert q2
    dsimp only
    cases call (.me cn "__init__") (.ref S1.length :: gs) (S1 ++ [.ins cn []]) with
    | bad => exact id
    | exc c fs S => exact id
    | ok g S' =>
      intro q2 m2 H2 v e2 a b
      cases g with
      | non =>
        cases b
        exact ⟨rfl, q2 m2 H2 _ e2 a (.ref (e2.get (by rw [← hR1.len, List.getElem?_append_right (Nat.le_refl _)]; simp)))⟩
      | _ => exact False.elim q2
/-- THE RULE: a def by its body -/
theorem repL_start {nN : Nat} {gs : List G} {vs : List V} (N : List Str) (hN : N.length = nN) (h : RepVs r m H gs vs) : RepL r m H (lo0 nN gs) (L2.start N vs) := by
  have hl := h.length
  refine ⟨by unfold lo0 L2.start; simp [hl, hN], fun i g q => ?_⟩
  unfold lo0 at q
  unfold L2.start
  by_cases hi : i < gs.length
  · rw [List.getElem?_append_left (by simpa using hi), List.getElem?_map] at q
    cases e : gs[i]? with
    | none => rw [e] at q; cases q
    | some g' =>
      rw [e] at q
      cases q
      obtain ⟨v, hv, rv⟩ := h.get e
      exact ⟨v, by rw [List.getElem?_append_left (by rw [List.length_map, ← hl]; exact hi), List.getElem?_map, hv]; rfl, rv⟩
  · rw [List.getElem?_append_right (by simpa using hi), List.getElem?_replicate] at q
    split at q <;> cases q
end
section
variable {M : Md} {k : Nat}
/-- a body's end, seen from the caller -/
theorem pst_body {r : RP} {T : List (Addr × Str)} {m : List Addr} {S : Sto} {H : Hp} {Q : VK} {E : XK} {res : SR} (hR : Rep r T m S H) (q : Pst r T (fun c d _ H => E c d H) (RepV r) [] m H (bodyR res) Q) :
    PstS (r.at_ m H) T (fun c d _ H => E c d H) { nx := fun _ H' => Q .non H', rt := Q } m H res := by
  revert q
  unfold bodyR
  cases res with
  | nx l S' => exact fun q m2 H2 s2 e a b => q m2 H2 .non e (hR.leave e a) .non
  | rt g S' => exact fun q m2 H2 v e a b => q m2 H2 v e (hR.leave e a) (b.like (.un r m H))
  | exc c fs l S' => exact fun q m2 H2 s2 C d e a b k x => q m2 H2 C d e (hR.leave e a) k (x.like (.un r m H))
  | bk l S' => exact False.elim
  | ct l S' => exact False.elim
  | bad => exact id
theorem g_fn {x qual : Str} {params : Arguments} {stb : List Stmt} {scope : Scope} {f : Addr} {fd : FuncData} {N ps : List Str} {nN : Nat} {np : Nat} {body : StM} {cl : List G → Sto → R G} (F : FunD M.K x qual params stb scope [] [] f fd) (S : FnScope N ps scope) (hn : N.length = nN) (hp : ps.length = np)
    (hcl : ∀ gs S, gs.length = np → cl gs S = bodyR (body (lo0 nN gs) S))
    (hbody : ∀ (cdv : Value) (A : Around) (outer : List Env) (s : Shared) (H : Hp) (E : XK) (r : RP), fd.code = cdv → M.is r → Room k (A.deeper (envOfC qual scope s.heap.objs.size f cdv)) →
      Ctx r M.T (fun c d _ H => E c d H) (cxOf (L2.CX M.P M.w) M.P M.w M.K M.mg M.base N qual scope f cdv A outer s H E) → M.of (cxOf (L2.CX M.P M.w) M.P M.w M.K M.mg M.base N qual scope f cdv A outer s H E) →
      PassesOwn (model M.P M.w) (A.deeper (envOfC qual scope s.heap.objs.size f cdv)) (envOfC qual scope s.heap.objs.size f cdv) (cxOf (L2.CX M.P M.w) M.P M.w M.K M.mg M.base N qual scope f cdv A outer s H E).xe →
      PSs (cxOf (L2.CX M.P M.w) M.P M.w M.K M.mg M.base N qual scope f cdv A outer s H E) stb (tSF r M.T (fun c d _ H => E c d H) body)) : GFn M (k + 1) f fd ps (spG M np cl) := by
  obtain ⟨oc, od, dV, kV, doc, pm, an, cdv, ct, osl, rfl, lk, hcd, _, _⟩ := F.ex
  refine ⟨fun vs H Q E h => by rw [hp]; exact h.1, fun A outer s H args us vs Q E hr hgu e0 hb r1 hsp => ?_⟩
  have hl : vs.length = ps.length := by rw [hp]; exact hsp.1
  have KX : M.K.In s.heap := e0.mod.kin.keeps fun b o e => (e0.bs b o e).1
  have lim : s.heap.NoLimit := e0.mod.nolimit.keeps fun b o e => (e0.bs b o e).1
  have hkind : ∀ y ∈ ps.zip us, scope.names.lookup y.1 = some .local ∨ (scope.names.lookup y.1 = some .cell ∧ ((cellsFrom (s.heap.objs.size + 1) scope.names []).lookup y.1).isSome = true) := fun ⟨n, v⟩ hy => by
    rcases S.par n (List.of_mem_zip hy).1 with q | q
    · exact .inl q
    · exact .inr ⟨q, PySem.W.cellsFrom_some _ _ _ (.inl q)⟩
  refine codeAny_call_function hr.depth (KX _ _ lk) rfl S.co S.gen rfl (PySem.W.codeRec_of KX hcd) (hb _ _ _ _ ?_)
  refine wpAny_newFunctionEnv_cells S.kind hkind fun env he s1 x => ?_
  subst he
  refine ⟨lim.keeps x.toInCall.keep, codeAny_func ?_⟩
  have I : Inv (cxOf (L2.CX M.P M.w) M.P M.w M.K M.mg M.base N qual scope f cdv A outer s H E) [] (L2.start N vs) H s1 := inv_start S hr.hd e0 hl r1 x
  obtain ⟨hlen, r, m, S0, gs, hM, hR, h1, q⟩ := hsp
  have hgl : gs.length = np := by rw [h1.length]; exact hlen
  have room := hr.deeper (envOfC qual scope s.heap.objs.size f cdv)
  have tk := takes_of (X := cxOf (L2.CX M.P M.w) M.P M.w M.K M.mg M.base N qual scope f cdv A outer s H E) (E := E) (E₁ := fun e' s'' => L2.CX M.P M.w outer H s E e' s'') rfl rfl rfl rfl
  have own := passes_of (X := cxOf (L2.CX M.P M.w) M.P M.w M.K M.mg M.base N qual scope f cdv A outer s H E) (K := fun e s'' => L2.CX M.P M.w outer H s E e s'') (E₁ := fun e' s'' => L2.CX M.P M.w outer H s E e' s'') rfl
  have ht := hbody cdv A outer s H E (r.at_ m H) rfl hM room ⟨hM.1.symm, hM.2.1.symm, rfl, room.hd, room.units, guards_deeper hgu, tk⟩ ⟨rfl, rfl, rfl, rfl, rfl⟩ own
  refine wpAny_mono (ht.run [] s1 (L2.start N vs) H { nx := fun _ H' => Q .non H', rt := Q } I ⟨m, S0, lo0 nN gs, hR.enter, repL_start N hn (h1.like (.at_ r m H)), ?_⟩) (fun fl s' hs => ?_) fun e s' hs => hs
  · rw [hcl gs S0 hgl] at q
    exact pst_body hR q
  · have fin : ∀ {σ' : L2.St} {H' : Hp} {v : V} {u : Value}, Inv (cxOf (L2.CX M.P M.w) M.P M.w M.K M.mg M.base N qual scope f cdv A outer s H E) [] σ' H' s' → RelV v u → Q v H' → CE outer M.P M.w H s Q u s' :=
      fun {σ' H' v u} J rv q => ⟨v, H', J.os, J.bare, J.base, J.hok, rv, q⟩
    cases fl with
    | ret u =>
      obtain ⟨v, σ', H', J, rv, q⟩ := hs
      exact fin J rv q
    | next =>
      obtain ⟨σ', H', J, q⟩ := hs
      exact fin (v := V.non) (u := Value.none) J rfl q
    | brk =>
      obtain ⟨_, _, _, q⟩ := hs
      exact False.elim q
    | cont =>
      obtain ⟨_, _, _, q⟩ := hs
      exact False.elim q
end
end GL

end

section
set_option Elab.async false
set_option linter.all false
set_option maxRecDepth 100000
set_option maxHeartbeats 4000000
/-! GL: lambdas. -/
namespace GL
open PySem PySem.Spec PyProof.Rows L2 LamX

/-- a lambda of the text: fr the names that it captures; dfl: it has one parameter, and that by default 0 -/
structure LamD where
  qual : Str
  params : Arguments
  body : Expr
  scope : Scope
  fr : List Str
  dfl : Bool
def dvOf : Option Addr → Value
  | none => .none
  | some p => .ref p
def loIs (lam : Nat → Option LamD) (ln : Nat) (o : Obj) (cl : List (Str × Addr)) (dp : Option Addr) (c' : Addr) (q : Str) : Prop :=
  ∃ L : LamD, lam ln = some L ∧ q = L.qual ∧ ∃ doc pm ctv, o = PySem.W.kdv_obj "<lambda>" q L.params (.expr L.body) L.scope cl (dvOf dp) doc pm c' ctv
theorem upd_none' {H : Hp} {a b : Addr} {o : HO} (e : upd H a o b = Option.none) : H b = Option.none := by
  unfold upd at e
  split at e
  · cases e
  · exact e
section
variable {X : Cx} {pins : List (Addr × Obj)} {σ : L2.St} {H : Hp} {s : Shared}
/-- an object just made is known from now on and stays as it is -/
theorem inv_fix {o : Obj} {t' : Nat} (I : Inv X pins σ H s) (hf : o.isFreed = false) :
    Inv X pins σ (upd H s.heap.objs.size (fixO s.heap.objs.size o)) { s with heap := s.heap.push o, toks := t' } := by
  refine I.laid (a := s.heap.objs.size) (fun b u e => Heap.get?_push_of_some _ e) (Nat.le_refl _) ?_
  have e : (s.heap.push o).get? s.heap.objs.size = some o := Heap.get?_push_size _ hf
  exact ⟨e, ⟨_, e⟩, fun h1 h2 z st => st _ z⟩
theorem fixO_at {P : Program} {w : World} {h : Heap} {a : Addr} {o : Obj} (hok : HOk P w H h) (e : H a = some (fixO a o)) : h.get? a = some o := by
  obtain ⟨z, _, _⟩ := hok a _ e
  exact z
/-- what the making of a lambda does to what is tracked: the table, the code object, the function -/
structure LamMade (T : List (Addr × Str)) (H H2 : Hp) (f c' : Addr) (q : Str) (o : Obj) : Prop where
  ext : ExtN H H2
  grow : ∀ b, H2 b = none → H b = none
  tabs : Tabs T H2
  new : H f = none
  newc : H c' = none ∨ H c' = some (CodeO c' q)
  fn : H2 f = some (fixO f o)
  code : H2 c' = some (CodeO c' q)
theorem lam_tail {T : List (Addr × Str)} {c P : Addr} {params : Arguments} {body : Expr} {scope : Scope} {pos : Pos} {dV : Value} {E : Value → Shared → Prop} {Q : Value → Shared → Prop} (I : Inv X pins σ H s) (TB : TabB X.base X.mg c P) (hcode : X.env.code = .ref c)
    (hm : (P, X.env.qual ++ "<lambda>") ∈ T) (hu : ∀ p ∈ T, p.1 = P → p.2 = X.env.qual ++ "<lambda>") (hT : Tabs T H) (hfree : ∀ y ∈ scope.names, y.2 = .free → ∃ c, X.env.cells.lookup y.1 = some c)
    (h : ∀ (f c' : Addr) (doc pm ctv : Value) (H2 : Hp) (s' : Shared), Inv X pins σ H2 s' →
      LamMade T H H2 f c' (X.env.qual ++ "<lambda>") (PySem.W.kdv_obj "<lambda>" (X.env.qual ++ "<lambda>") params (.expr body) scope (cloFrom X.env.cells scope.names []) dV doc pm c' ctv) → Q (.ref f) s') :
    wpAny (model X.prog X.w) X.A (makeTail "<lambda>" (X.env.qual ++ "<lambda>") params (.expr body) scope X.env dV .none none pos pos.line) Q E s := by
  obtain ⟨ps, hP, ht, ha⟩ := hT _ hm
  have bP : s.heap.BuiltinsAt X.mg P := TB.bm.keeps I.bk
  have hP' : s.heap.get? P = some { cls := .none, data := .fields ps } := I.hok P _ hP
  cases hc : codeAmong pos ps.toList with
  | none =>
    refine PySem.W.kdv_makeTail (mg := X.mg) (c := c) (P := P) (ps := ps) (closure_ok hfree) I.ok.glob (I.mod.glob.keeps I.bk) hcode (TB.code.keeps I.bk) hP' ht hc TB.gP bP fun c' ctv doc h' tk hx hge hlt hrec htb => ?_
    obtain ⟨c2, oc, vs, t, e2, hoc, hd, hv⟩ := hrec
    cases e2
    have nC : H c' = none := I.hok.fresh hge
    have I1 := inv_table (t' := tk) (more := #[rawInt pos.line, rawInt pos.col, .ref c']) (h' := h') I hP (fun b o hb e => hx b o hb e) htb hge ⟨oc, vs, t, hoc, hd, hv⟩
    have hE : ExtN H (upd (upd H P (.tbl (ps ++ #[rawInt pos.line, rawInt pos.col, .ref c']))) c' (CodeO c' (X.env.qual ++ "<lambda>"))) := fun b o e n => by
      rw [upd_ne (ne_of_none e nC), upd_ne (fun z => n ps (Option.some.inj (e.symm.trans (by rw [z]; exact hP))))]
      exact e
    have eL : (ps ++ #[rawInt pos.line, rawInt pos.col, .ref c']).toList = ps.toList ++ [rawInt pos.line, rawInt pos.col, .ref c'] := by simp
    have T1 : Tabs T (upd (upd H P (.tbl (ps ++ #[rawInt pos.line, rawInt pos.col, .ref c']))) c' (CodeO c' (X.env.qual ++ "<lambda>"))) := fun p hp => by
      by_cases hb : p.1 = P
      · rw [hu p hp hb, hb]
        refine ⟨_, by rw [upd_ne (ne_of_none hP nC), upd_same], by rw [eL]; exact PySem.TriplesOk_snoc _ _ _ _ ht, fun p' cv hcv => ?_⟩
        rw [eL] at hcv
        rcases among_app _ ht hcv with z | z
        · obtain ⟨c0, e1, e2⟩ := ha p' cv z
          exact ⟨c0, e1, hE _ _ e2 codeO_ne⟩
        · exact ⟨c', z, upd_same⟩
      · obtain ⟨ps', a1, a2, a3⟩ := hT p hp
        refine ⟨ps', by rw [upd_ne (ne_of_none a1 nC), upd_ne hb]; exact a1, a2, fun p' cv hcv => ?_⟩
        obtain ⟨c0, e1, e2⟩ := a3 p' cv hcv
        exact ⟨c0, e1, hE _ _ e2 codeO_ne⟩
    have nF := I1.hok.fresh (Nat.le_refl _)
    have I2 := inv_fix (o := PySem.W.kdv_obj "<lambda>" (X.env.qual ++ "<lambda>") params (.expr body) scope (cloFrom X.env.cells scope.names []) dV doc ((X.mg "__name__").getD .none) c' ctv) (t' := tk) I1 rfl
    refine h h'.objs.size c' doc _ ctv _ _ I2 ⟨fun b o e n => ?_, fun b e => upd_none' (upd_none' (upd_none' e)), T1.ext fun b o e => ?_, I.hok.fresh (Nat.le_trans hge (Nat.le_of_lt hlt)), .inl nC, upd_same, ?_⟩
    · have e1 := hE b o e n
      exact (upd_ne (ne_of_none e1 nF)).trans e1
    · exact (upd_ne (ne_of_none e nF)).trans e
    · exact (upd_ne (Nat.ne_of_lt hlt)).trans upd_same
  | some cv =>
    obtain ⟨c', e, hco⟩ := ha pos cv hc
    subst e
    refine PySem.W.kdv_makeTailHit (mg := X.mg) (c := c) (P := P) (ps := ps) (closure_ok hfree) I.ok.glob (I.mod.glob.keeps I.bk) hcode (TB.code.keeps I.bk) hP' ht hc bP fun ctv doc h' tk hx hsz => ?_
    have I1 : Inv X pins σ H { s with heap := h', toks := tk } := I.kept hx
    have nF : H h'.objs.size = none := I1.hok.fresh (Nat.le_refl _)
    have I2 := inv_fix (o := PySem.W.kdv_obj "<lambda>" (X.env.qual ++ "<lambda>") params (.expr body) scope (cloFrom X.env.cells scope.names []) dV doc ((X.mg "__name__").getD .none) c' ctv) (t' := tk) I1 rfl
    refine h h'.objs.size c' doc _ ctv _ _ I2 ⟨fun b o e n => ?_, fun b e => upd_none' e, hT.ext fun b o e => ?_, nF, .inr hco, upd_same, ?_⟩
    · exact (upd_ne (ne_of_none e nF)).trans e
    · exact (upd_ne (ne_of_none e nF)).trans e
    · exact (upd_ne (ne_of_none hco nF)).trans hco
/-- a lambda without default -/
theorem lam_make4 {T : List (Addr × Str)} {c P : Addr} {params : Arguments} {body : Expr} {scope : Scope} {pos : Pos} {E : Value → Shared → Prop} {Q : Value → Shared → Prop} (I : Inv X pins σ H s) (TB : TabB X.base X.mg c P) (hcode : X.env.code = .ref c)
    (hm : (P, X.env.qual ++ "<lambda>") ∈ T) (hu : ∀ p ∈ T, p.1 = P → p.2 = X.env.qual ++ "<lambda>") (hT : Tabs T H) (hdef : defaultsOf params X.env = ([], [])) (hfree : ∀ y ∈ scope.names, y.2 = .free → ∃ c, X.env.cells.lookup y.1 = some c)
    (h : ∀ (f c' : Addr) (doc pm ctv : Value) (H2 : Hp) (s' : Shared), Inv X pins σ H2 s' →
      LamMade T H H2 f c' (X.env.qual ++ "<lambda>") (PySem.W.kdv_obj "<lambda>" (X.env.qual ++ "<lambda>") params (.expr body) scope (cloFrom X.env.cells scope.names []) .none doc pm c' ctv) → Q (.ref f) s') :
    wpAny (model X.prog X.w) X.A (eval (.Lambda params body scope pos) X.env) Q E s := by
  refine PySem.W.kla_eval hdef ?_
  rw [makeFunction_eq]
  simp only [List.zip_nil_right, List.filterMap_nil, List.isEmpty_nil, if_true, pure_bind]
  exact lam_tail I TB hcode hm hu hT hfree h
/-- one whose only parameter is by default a written int -/
theorem lam_makeD {T : List (Addr × Str)} {c P : Addr} {params : Arguments} {body : Expr} {scope : Scope} {pos dpos : Pos} {i : Int} {dj : Nat} {E : Value → Shared → Prop} {Q : Value → Shared → Prop} (I : Inv X pins σ H s) (TB : TabB X.base X.mg c P) (hcode : X.env.code = .ref c)
    (hm : (P, X.env.qual ++ "<lambda>") ∈ T) (hu : ∀ p ∈ T, p.1 = P → p.2 = X.env.qual ++ "<lambda>") (hT : Tabs T H) (hd : params.defaults = [.Constant (.int i) dj dpos]) (hk0 : params.kw_defaults = []) (hfree : ∀ y ∈ scope.names, y.2 = .free → ∃ c, X.env.cells.lookup y.1 = some c)
    (h : ∀ (p f c' : Addr) (t : Tok) (doc pm ctv : Value) (H1 H2 : Hp) (s' : Shared), H p = none → H1 = upd H p (fixO p (PySem.W.kdv_tup [.int i t])) → Inv X pins σ H2 s' →
      LamMade T H1 H2 f c' (X.env.qual ++ "<lambda>") (PySem.W.kdv_obj "<lambda>" (X.env.qual ++ "<lambda>") params (.expr body) scope (cloFrom X.env.cells scope.names []) (.ref p) doc pm c' ctv) → Q (.ref f) s') :
    wpAny (model X.prog X.w) X.A (eval (.Lambda params body scope pos) X.env) Q E s := by
  refine PySem.W.kdv_lam (by rw [hd]; rfl) hk0 ?_
  rw [hd]
  refine PySem.W.kdv_all1 (wpAny_Constant_int ?_)
  refine PySem.W.kdv_all0 ?_
  have I1 := I.tok (s.toks + 1)
  rw [makeFunction_eq]
  simp only [List.zip_nil_right, List.filterMap_nil, List.isEmpty_nil, if_true, pure_bind, List.isEmpty_cons, Bool.false_eq_true, if_false]
  refine wpAny_bind (wpAny_newTextTuple ?_)
  have np : H s.heap.objs.size = none := I1.hok.fresh (Nat.le_refl _)
  have I2 := inv_fix (o := PySem.W.kdv_tup [.int i s.toks]) (t' := s.toks + 1) I1 rfl
  exact lam_tail I2 TB hcode hm hu (hT.ext fun b o e => (upd_ne (ne_of_none e np)).trans e) hfree fun f c' doc pm ctv H2 s' I3 A => h _ f c' s.toks doc pm ctv _ H2 s' np rfl I3 A
end
section
variable {r : RP} {T : List (Addr × Str)} {m : List Addr} {S : Sto} {H H2 : Hp} {f c' : Addr} {q : Str} {o : Obj}
theorem ext_nt {φ : Heap → Prop} (ps : Array Value) : HO.ext φ ≠ .tbl ps := fun z => by cases z
theorem LamMade.ex (L : LamMade T H H2 f c' q o) : Ext m H m H2 := ⟨⟨[], by simp, by simp⟩, fun a u _ n h => L.ext a u h n, L.grow, fun a φ h => L.ext a _ h ext_nt⟩
theorem repO_tbl {a : Addr} {go : GO} (h : RepO r m H a go) : ∃ u, H a = some u ∧ ∀ ps, u ≠ .tbl ps := by
  cases go with
  | lst w l =>
    cases w with
    | true => obtain ⟨vs, h, _⟩ := h; exact ⟨_, h, fun _ z => by cases z⟩
    | false =>
      obtain ⟨vs, h, _⟩ := h
      rcases h with h | ⟨_, h⟩
      · exact ⟨_, h, fun _ z => by cases z⟩
      · exact ⟨_, h, fun _ z => by cases z⟩
  | ins c fs => obtain ⟨_, _, _, _, h, _⟩ := h; exact ⟨_, h, fun _ z => by cases z⟩
  | dic z l =>
    obtain ⟨kvs, h, _⟩ := h
    cases z with
    | true => obtain ⟨o, h⟩ := h; exact ⟨_, h, fun _ z => by cases z⟩
    | false => exact ⟨_, h, fun _ z => by cases z⟩
  | dead => obtain ⟨o, h⟩ := h; exact ⟨_, h, fix_ne⟩
theorem LamMade.rep (L : LamMade T H H2 f c' q o) (hR : Rep r T m S H) : Rep r T m S H2 := by
  refine ⟨hR.len, hR.nd, fun n a ob h1 h2 => ?_, L.tabs, fun b hb => ?_, hR.ent.trans L.ex⟩
  · have ho := hR.obj n a ob h1 h2
    obtain ⟨u, hu, hn⟩ := repO_tbl ho
    exact ho.ext (L.ex) (by rw [L.ext a u hu hn, hu])
  · obtain ⟨x1, xs, x2⟩ := hR.hid b hb
    exact ⟨x1, xs, L.ext b _ x2 (fun _ z => by cases z)⟩
/-- the made function takes a place in the store -/
theorem place_ex {H1 : Hp} (e1 : Ext m H m H1) (L : LamMade T H1 H2 f c' q o) : Ext m H (m ++ [f]) H2 :=
  ⟨⟨[f], rfl, by simpa using e1.grow f L.new⟩, fun a u hm n h => L.ex.keep a u hm n (e1.keep a u hm n h), fun a h => e1.grow a (L.ex (m := m).grow a h), fun a φ h => L.ex (m := m).fx a φ (e1.fx a φ h)⟩
theorem place_rep (hR : Rep r T m S H) (L : LamMade T H H2 f c' q o) : Rep r T (m ++ [f]) (S ++ [.dead]) H2 := by
  have ex : Ext m H (m ++ [f]) H2 := place_ex (Ext.refl _ _) L
  have nm : f ∉ m := (hR.notIn L.new).1
  refine ⟨by simp [hR.len], ?_, fun i a ob h1 h2 => ?_, L.tabs, fun b hb => ?_, hR.ent.trans ex⟩
  · rw [List.nodup_append]
    exact ⟨hR.nd, by simp, fun x hx y hy => by simp at hy; subst hy; exact fun z => nm (by rw [← z]; exact hx)⟩
  · by_cases hi : i < m.length
    · rw [List.getElem?_append_left hi] at h1
      rw [List.getElem?_append_left (by rw [← hR.len]; exact hi)] at h2
      have ho := hR.obj i a ob h1 h2
      obtain ⟨u, hu, hn⟩ := repO_tbl ho
      exact ho.ext ex (by rw [L.ext a u hu hn, hu])
    · rw [List.getElem?_append_right (Nat.le_of_not_lt hi)] at h1
      rw [List.getElem?_append_right (by rw [← hR.len]; exact Nat.le_of_not_lt hi)] at h2
      have e0 : i - m.length = 0 := by
        have := (List.getElem?_eq_some_iff.mp h1).1
        simp at this; omega
      rw [e0] at h1
      rw [← hR.len, e0] at h2
      simp at h1 h2
      subst h1 h2
      exact ⟨_, L.fn⟩
  · obtain ⟨x1, xs, x2⟩ := hR.hid b hb
    refine ⟨fun z => ?_, xs, L.ext b _ x2 (fun _ z => by cases z)⟩
    rcases List.mem_append.mp z with z | z
    · exact x1 z
    · have e : b = f := by simpa using z
      rw [e, L.new] at x2
      cases x2
end
/-- what is known of a function made of the lambda ln: cl what it captured -/
def LamAt (M : Md) (lam : Nat → Option LamD) (H : Hp) (ln : Nat) (f : Addr) (cl : List (Str × Addr)) : Prop :=
  ∃ (L : LamD) (o : Obj) (dp : Option Addr) (c' : Addr) (q : Str), lam ln = some L ∧ H f = some (fixO f o) ∧ loIs lam ln o cl dp c' q ∧ H c' = some (CodeO c' q) ∧
    (L.dfl = false → dp = none) ∧ (L.dfl = true → ∃ p t, dp = some p ∧ H p = some (fixO p (PySem.W.kdv_tup [.int 0 t])))
theorem LamAt.ext {M : Md} {lam : Nat → Option LamD} {m m' : List Addr} {H H' : Hp} {ln : Nat} {f : Addr} {cl : List (Str × Addr)} (e : Ext m H m' H') (h : LamAt M lam H ln f cl) : LamAt M lam H' ln f cl := by
  obtain ⟨L, o, dp, c', q, h1, h2, h3, h4, h5, h6⟩ := h
  refine ⟨L, o, dp, c', q, h1, e.fx _ _ h2, h3, e.fx _ _ h4, h5, fun z => ?_⟩
  obtain ⟨p, t, e1, e2⟩ := h6 z
  exact ⟨p, t, e1, e.fx _ _ e2⟩
/-- the captured names' values -/
def capG (l : Loc) : List Nat → Option (List G)
  | [] => some []
  | j :: js => match l[j]? with
    | some (some g) => (capG l js).map fun gs => g :: gs
    | _ => none
theorem capG_rep {r : RP} {m : List Addr} {H : Hp} {l : Loc} {σ : L2.St} (hL : RepL r m H l σ) : ∀ {js : List Nat} {cap : List G}, capG l js = some cap → ∃ ws : List V, js.map (NdefX.slotAt σ) = ws.map some ∧ RepVs r m H cap ws
  | [], _, e => by cases e; exact ⟨[], rfl, .nil⟩
  | j :: js, cap, e => by
    unfold capG at e
    split at e
    · rename_i g hj
      cases e2 : capG l js with
      | none => rw [e2] at e; cases e
      | some gs =>
        rw [e2] at e
        cases e
        obtain ⟨ws, h1, h2⟩ := capG_rep hL e2
        obtain ⟨v, hv, rv⟩ := hL.get j g hj
        exact ⟨v :: ws, by rw [List.map_cons, List.map_cons, h1, NdefX.slotAt_of hv], .cons rv h2⟩
    · cases e
/-- a lambda that captures is made: its value tells what the captured names are now -/
def eLamC (ln : Nat) (js : List Nat) : Ev := fun l S => match capG l js with
  | some cap => .ok (.clo ln (S.length + 1) cap) (S ++ [.dead])
  | none => .bad
section
variable {M : Md} {r : RP} {W : WX} {X : Cx} {lam : Nat → Option LamD}
/-- a lambda that captures nothing -/
theorem g_lam0 {c P : Addr} {params : Arguments} {body : Expr} {scope : Scope} {pos : Pos} {ln : Nat} {L : LamD} (hM : M.is r) (hlo : M.isClo = loIs lam) (TB : TabB X.base X.mg c P) (hcode : X.env.code = .ref c) (hm : (P, X.env.qual ++ "<lambda>") ∈ M.T) (hu : ∀ p ∈ M.T, p.1 = P → p.2 = X.env.qual ++ "<lambda>")
    (hdef : defaultsOf params X.env = ([], [])) (hfr : ∀ y ∈ scope.names, y.2 ≠ .free) (hL : lam ln = some L) (hq : L.qual = X.env.qual ++ "<lambda>") (hp : L.params = params) (hb : L.body = body) (hs : L.scope = scope) :
    PE X (.Lambda params body scope pos) (tF r M.T W (eC (.clo ln 0 []))) := by
  refine ⟨fun pins s σ H Q I ⟨m, S, l, hR, hL', q⟩ => ?_⟩
  have hfree : ∀ y ∈ scope.names, y.2 = .free → ∃ c, X.env.cells.lookup y.1 = some c := fun y hy e => absurd e (hfr y hy)
  refine lam_make4 I TB hcode hm hu hR.tabs hdef hfree fun f c' doc pm ctv H2 s' I2 A => ?_
  have hR2 := A.rep hR
  have nf : ∀ {y c}, (y, c) ∈ cloFrom X.env.cells scope.names [] → False := fun {y c} z => by
    rcases cloFrom_mem z with z | ⟨z, _⟩
    · cases z
    · exact hfr _ z rfl
  have ecl : cloFrom X.env.cells scope.names [] = [] := by
    cases e : cloFrom X.env.cells scope.names [] with
    | nil => rfl
    | cons p l => exact (nf (y := p.1) (c := p.2) (by rw [e]; exact List.mem_cons_self)).elim
  have nh : ∀ a φ, H2 a = some (.ext φ) → a ∉ r.hid := fun a φ h z => by
    obtain ⟨_, xs, hx⟩ := hR2.hid a z
    rw [h] at hx
    cases hx
  refine ⟨.ref f, H2, I2, rfl, q m H2 (.ref f) A.ex hR2 ?_⟩
  refine .clo (nh _ _ A.fn) A.fn ?_ (nh _ _ A.code) A.code
  rw [hM.2.2.1, hlo]
  refine ⟨L, hL, hq.symm, doc, pm, ctv, ?_⟩
  rw [hp, hb, hs, ecl] <;> rfl
/-- what the words of a lambda's text must be -/
structure LamTx (lam : Nat → Option LamD) (X : Cx) (ln : Nat) (L : LamD) (params : Arguments) (body : Expr) (scope : Scope) (js : List Nat) : Prop where
  lam : lam ln = some L
  q : L.qual = X.env.qual ++ "<lambda>"
  p : L.params = params
  b : L.body = body
  s : L.scope = scope
  free : ∀ y ∈ scope.names, y.2 = .free → X.env.scope.names.lookup y.1 = some .cell ∨ X.env.scope.names.lookup y.1 = some .free
  fr : ∀ y ∈ L.fr, (y, NameKind.free) ∈ scope.names
  at_ : js.map (fun j => X.N[j]?) = L.fr.map some
theorem LamTx.hf {ln : Nat} {L : LamD} {params : Arguments} {body : Expr} {scope : Scope} {js : List Nat} (t : LamTx lam X ln L params body scope js) (ok : X.Ok) : ∀ y ∈ scope.names, y.2 = .free → ∃ c, X.env.cells.lookup y.1 = some c :=
  fun y hy e => (t.free y hy e).elim (fun z => ok.has _ (.inl z)) fun z => ok.has _ (.inr z)
theorem LamTx.caps {ln : Nat} {L : LamD} {params : Arguments} {body : Expr} {scope : Scope} {js : List Nat} (t : LamTx lam X ln L params body scope js) (ok : X.Ok) : NdefX.Caps X (cloFrom X.env.cells scope.names []) L.fr js :=
  NdefX.Caps.made ok t.free t.fr t.at_
/-- the reading of a lambda that captures: what is known of the function, too -/
def tLamC (r : RP) (M : Md) (lam : Nat → Option LamD) (W : WX) (X : Cx) (scope : Scope) (ln : Nat) (js : List Nat) : TE := fun s H Q => ∃ m S l, Rep r M.T m S H ∧ RepL r m H l s ∧ ∃ cap, capG l js = some cap ∧
  ∀ f H', H f = none → Ext m H (m ++ [f]) H' → Rep r M.T (m ++ [f]) (S ++ [.dead]) H' → RepV r (m ++ [f]) H' (.clo ln (S.length + 1) cap) (.ref f) → LamAt M lam H' ln f (cloFrom X.env.cells scope.names []) → Q (.ref f) H'
theorem g_lamCF {c P : Addr} {params : Arguments} {body : Expr} {scope : Scope} {pos : Pos} {ln : Nat} {L : LamD} {js : List Nat} (TB : TabB X.base X.mg c P) (hcode : X.env.code = .ref c) (hm : (P, X.env.qual ++ "<lambda>") ∈ M.T) (hu : ∀ p ∈ M.T, p.1 = P → p.2 = X.env.qual ++ "<lambda>")
    (hdef : defaultsOf params X.env = ([], [])) (hd : L.dfl = false) (t : LamTx lam X ln L params body scope js) :
    PE X (.Lambda params body scope pos) (tLamC r M lam W X scope ln js) := by
  refine ⟨fun pins s σ H Q I ⟨m, S, l, hR, hL', cap, hc, q⟩ => ?_⟩
  refine lam_make4 I TB hcode hm hu hR.tabs hdef (t.hf I.ok) fun f c' doc pm ctv H2 s' I2 A => ?_
  refine ⟨.ref f, H2, I2, rfl, q f H2 A.new (place_ex (Ext.refl _ _) A) (place_rep hR A) (.cloS (by rw [← hR.len, List.getElem?_append_right (Nat.le_refl _)]; simp)) ?_⟩
  refine ⟨L, _, none, c', _, t.lam, A.fn, ⟨L, t.lam, t.q.symm, doc, pm, ctv, ?_⟩, A.code, fun _ => rfl, fun z => by rw [hd] at z; cases z⟩
  rw [t.p, t.b, t.s] <;> rfl
theorem g_lamCD {c P : Addr} {params : Arguments} {body : Expr} {scope : Scope} {pos dpos : Pos} {dj : Nat} {ln : Nat} {L : LamD} {js : List Nat} (TB : TabB X.base X.mg c P) (hcode : X.env.code = .ref c) (hm : (P, X.env.qual ++ "<lambda>") ∈ M.T) (hu : ∀ p ∈ M.T, p.1 = P → p.2 = X.env.qual ++ "<lambda>")
    (hdef : params.defaults = [.Constant (.int 0) dj dpos]) (hk0 : params.kw_defaults = []) (hd : L.dfl = true) (t : LamTx lam X ln L params body scope js) :
    PE X (.Lambda params body scope pos) (tLamC r M lam W X scope ln js) := by
  refine ⟨fun pins s σ H Q I ⟨m, S, l, hR, hL', cap, hc, q⟩ => ?_⟩
  refine lam_makeD I TB hcode hm hu hR.tabs hdef hk0 (t.hf I.ok) fun p f c' tk doc pm ctv H1 H2 s' np e1 I2 A => ?_
  subst e1
  have hR1 := hR.fresh np (fixO p (PySem.W.kdv_tup [.int 0 tk]))
  have x1 := Ext.new (m := m) np (fixO p (PySem.W.kdv_tup [.int 0 tk]))
  refine ⟨.ref f, H2, I2, rfl, q f H2 (x1.grow f A.new) (place_ex x1 A) (place_rep hR1 A) (.cloS (by rw [← hR.len, List.getElem?_append_right (Nat.le_refl _)]; simp)) ?_⟩
  refine ⟨L, _, some p, c', _, t.lam, A.fn, ⟨L, t.lam, t.q.symm, doc, pm, ctv, ?_⟩, A.code, fun z => (by rw [hd] at z; cases z), fun _ => ⟨p, tk, rfl, (A.ex (m := m)).fx _ _ upd_same⟩⟩
  rw [t.p, t.b, t.s] <;> rfl
end
/-- a lambda that may be called: k ahead of its frame -/
structure CalL (M : Md) (lam : Nat → Option LamD) (k ln np : Nat) (cl : List G → Sto → R G) : Prop where
  run : ∀ (f c' : Addr) (o : Obj) (q : Str) (A : Around) (outer : List Env) (s : Shared) (H : Hp) (us : List Value) (vs : List V) (Q : VK) (E : XK), loIs lam ln o [] none c' q → Room k A → A.guards = some [] → Env0 M.P M.w M.K M.mg M.base A outer s H →
    H f = some (fixO f o) → H c' = some (CodeO c' q) → Vals vs us → spG M np cl vs H Q E → codeAny (model M.P M.w) A (.call (.ref f) ⟨us, []⟩) (CR (L2.CX M.P M.w) outer M.P M.w H s Q E) s
/-- one that captured: it is given its arguments, then what it captured -/
structure CalK (M : Md) (lam : Nat → Option LamD) (k ln np : Nat) (cl : List G → Sto → R G) : Prop where
  run : ∀ (f : Addr) (clo : List (Str × Addr)) (L : LamD) (A : Around) (outer : List Env) (s : Shared) (H : Hp) (us : List Value) (vs ws : List V) (Q : VK) (E : XK) (r : RP) (m : List Addr) (S : Sto) (xs cap : List G), lam ln = some L → LamAt M lam H ln f clo → Room k A → A.guards = some [] →
    Env0 M.P M.w M.K M.mg M.base A outer s H → NdefX.CellsAt clo L.fr (ws.map some) s.heap H → Vals vs us → M.is r → Rep r M.T m S H → RepVs r m H xs vs → RepVs r m H cap ws → xs.length + cap.length = np →
    Pst r M.T (fun c d _ H => E c d H) (RepV r) [] m H (cl (xs ++ cap) S) Q → codeAny (model M.P M.w) A (.call (.ref f) ⟨us, []⟩) (CR (L2.CX M.P M.w) outer M.P M.w H s Q E) s
abbrev lamNF (L : LamD) (cl : List (Str × Addr)) (c' : Addr) : NdefX.NF := ⟨"<lambda>", L.qual, L.params, [], L.scope, cl, c'⟩
abbrev lamX (M : Md) (N : List Str) (L : LamD) (cl : List (Str × Addr)) (f c' : Addr) (A : Around) (outer : List Env) (s : Shared) (H : Hp) (E : XK) : Cx := NdefX.ncx (L2.CX M.P M.w) M.P M.w M.K M.mg M.base N (lamNF L cl c') f A outer s H E
theorem startF_nil (N : List Str) (vs : List V) : NdefX.startF N vs [] = L2.start N vs := by
  unfold NdefX.startF L2.start
  simp
theorem pst_lam {r : RP} {T : List (Addr × Str)} {m : List Addr} {S : Sto} {H : Hp} {Q : VK} {E : XK} {res : R G} (hR : Rep r T m S H) {s : L2.St} (q : Pst r T (fun c d _ H => E c d H) (RepV r) [] m H res Q) :
    Pst (r.at_ m H) T (fun c d _ H => E c d H) (RepV (r.at_ m H)) s m H res Q := by
  revert q
  cases res with
  | ok g S' => exact fun q m2 H2 v e a b => q m2 H2 v e (hR.leave e a) (b.like (.un r m H))
  | exc c fs S' => exact fun q m2 H2 C d e a k x => q m2 H2 C d e (hR.leave e a) k (x.like (.un r m H))
  | bad => exact id
theorem g_lamcal {M : Md} {lam : Nat → Option LamD} {k ln np nN : Nat} {L : LamD} {N ps : List Str} {fe : Ev} {cl : List G → Sto → R G} (hL : lam ln = some L) (S : NdefX.NScope N ps [] L.scope) (hn : N.length = nN) (hp : ps.length = np)
    (hb : ∀ (doc pm cv ctv : Value) (us : List Value), us.length = ps.length → bindArgs (PySem.W.kdv_fn "<lambda>" L.qual L.params (.expr L.body) L.scope [] .none doc pm cv ctv) ⟨us, []⟩ = pure (ps.zip us))
    (hcl : ∀ gs S, gs.length = np → cl gs S = fe (lo0 nN gs) S)
    (hbody : ∀ (f c' : Addr) (A : Around) (outer : List Env) (s : Shared) (H : Hp) (E : XK) (r : RP), M.is r → Room k (A.deeper (NdefX.envF (lamNF L [] c') f s.heap.objs.size)) → Ctx r M.T (fun c d _ H => E c d H) (lamX M N L [] f c' A outer s H E) → M.of (lamX M N L [] f c' A outer s H E) →
      PE (lamX M N L [] f c' A outer s H E) L.body (tF r M.T (fun c d _ H => E c d H) fe)) : CalL M lam (k + 1) ln np cl := by
  refine ⟨fun f c' o q A outer s H us vs Q E hlo hr hgu e0 hf hc r1 hsp => ?_⟩
  obtain ⟨L', hL', hq, doc, pm, ctv, ho⟩ := hlo
  rw [hL] at hL'
  cases hL'
  subst hq
  have lim : s.heap.NoLimit := e0.mod.nolimit.keeps fun b o e => (e0.bs b o e).1
  have hl : vs.length = ps.length := by rw [hp]; exact hsp.1
  have hof := fixO_at e0.hok hf
  rw [ho] at hof
  obtain ⟨⟨oc, ws, t, hoc, hdc, hvc⟩, _, _⟩ := e0.hok c' _ hc
  refine PySem.W.kla_callFunE hr.depth hof rfl S.co S.gen rfl ⟨c', oc, ws, t, rfl, hoc, hdc, hvc⟩ ?_
  rw [show bindArgs (PySem.W.kdv_fn "<lambda>" L.qual L.params (.expr L.body) L.scope [] (dvOf none) doc pm (.ref c') ctv) ⟨us, []⟩ = pure (ps.zip us) from hb doc pm _ ctv us (by rw [← r1.length]; exact hl)]
  refine wpAny_pure (wpAny_newFunctionEnv S.nocell (fun ⟨n, _⟩ hy => S.par n (List.of_mem_zip hy).1) (fun h₁ hns hsb => ⟨lim.fresh _ hsb, ?_⟩) S.kind)
  show codeAny _ _ (.expr L.body (NdefX.envF (lamNF L [] c') f s.heap.objs.size)) _ _
  have kp : ∀ b o, s.heap.get? b = some o → h₁.get? b = some o := fun b o e => hsb.extBut b o (Nat.ne_of_lt (Heap.lt_size e)) (Heap.get?_push_of_some _ e)
  have I : Inv (lamX M N L [] f c' A outer s H E) [] (NdefX.startF N vs []) H { s with heap := h₁, toks := s.toks + (ps.zip us).length } :=
    NdefX.inv_startN S hr.hd e0 hl r1 ⟨rfl, fun y c z => (by cases z), fun x y c z => (by cases z), fun i y z => by simp at z⟩ hns kp
  rw [startF_nil] at I
  obtain ⟨hlen, r, m, S0, gs, hM, hR, h1, q⟩ := hsp
  have hgl : gs.length = np := by rw [h1.length]; exact hlen
  have room := hr.deeper (NdefX.envF (lamNF L [] c') f s.heap.objs.size)
  have tk := takes_of (X := lamX M N L [] f c' A outer s H E) (E := E) (E₁ := fun e' s'' => L2.CX M.P M.w outer H s E e' s'') rfl rfl rfl rfl
  have ht := hbody f c' A outer s H E (r.at_ m H) hM room ⟨hM.1.symm, hM.2.1.symm, rfl, room.hd, room.units, guards_deeper hgu, tk⟩ ⟨rfl, rfl, rfl, rfl, rfl⟩
  refine PySem.W.kla_codeExpr (wpAny_mono (ht.run [] _ (L2.start N vs) H Q I ⟨m, S0, lo0 nN gs, hR.enter, repL_start N hn (h1.like (.at_ r m H)), ?_⟩) (fun v s' hq => ?_) fun e s' hq => hq)
  · rw [hcl gs S0 hgl] at q
    exact pst_lam hR q
  · obtain ⟨w', H', J', rv, q⟩ := hq
    exact ⟨w', H', J'.os, J'.bare, J'.base, J'.hok, rv, q⟩
theorem startF_some (N : List Str) (vs ws : List V) : NdefX.startF N vs (ws.map some) = L2.start N (vs ++ ws) := by
  unfold NdefX.startF L2.start
  simp [Nat.sub_sub]
theorem RepL.cons {r : RP} {m : List Addr} {H : Hp} {l : Loc} {s : L2.St} {x : Option V} (h : RepL r m H l s) : RepL r m H (none :: l) (x :: s) := ⟨by simp [h.len], fun i g q => by
  cases i with
  | zero => cases q
  | succ i => exact h.get i g q⟩
theorem start_cons {N : List Str} {v : V} {ws : List V} : L2.start N (v :: ws) = some v :: L2.start N.tail ws := by
  unfold L2.start
  cases N <;> simp
/-- the first slot's value is not told -/
def eShift (e : Ev) : Ev := fun l S => e (none :: l) S
theorem g_lamcalC {M : Md} {lam : Nat → Option LamD} {k ln np nN : Nat} {L : LamD} {N ps : List Str} {fe : Ev} {cl : List G → Sto → R G} (hL : lam ln = some L) (hd : L.dfl = false) (S : NdefX.NScope N ps L.fr L.scope) (hn : N.length = nN) (hp : ps.length + L.fr.length = np)
    (hb : ∀ (clo : List (Str × Addr)) (doc pm cv ctv : Value) (us : List Value), us.length = ps.length → bindArgs (PySem.W.kdv_fn "<lambda>" L.qual L.params (.expr L.body) L.scope clo .none doc pm cv ctv) ⟨us, []⟩ = pure (ps.zip us))
    (hcl : ∀ gs S, gs.length = np → cl gs S = fe (lo0 nN gs) S)
    (hbody : ∀ (clo : List (Str × Addr)) (f c' : Addr) (A : Around) (outer : List Env) (s : Shared) (H : Hp) (E : XK) (r : RP), M.is r → Room k (A.deeper (NdefX.envF (lamNF L clo c') f s.heap.objs.size)) → Ctx r M.T (fun c d _ H => E c d H) (lamX M N L clo f c' A outer s H E) → M.of (lamX M N L clo f c' A outer s H E) →
      PE (lamX M N L clo f c' A outer s H E) L.body (tF r M.T (fun c d _ H => E c d H) fe)) : CalK M lam (k + 1) ln np cl := by
  refine ⟨fun f clo L' A outer s H us vs ws Q E r m S0 xs cap hL' hla hr hgu e0 hC r1 hM hR h1 h2 hlen q => ?_⟩
  rw [hL] at hL'
  cases hL'
  obtain ⟨L', o, dp, c', q', g1, hf, ⟨L'', g2, g3, doc, pm, ctv, ho⟩, hc, d1, _⟩ := hla
  rw [hL] at g1 g2
  cases g1; cases g2
  subst g3
  obtain rfl := d1 hd
  have hws : ws.length = L.fr.length := by have := hC.len; rwa [List.length_map] at this
  have lim : s.heap.NoLimit := e0.mod.nolimit.keeps fun b o e => (e0.bs b o e).1
  have hl : vs.length = ps.length := by
    have a1 := h1.length
    have a2 := h2.length
    omega
  have hof := fixO_at e0.hok hf
  rw [ho] at hof
  obtain ⟨⟨oc, ws', t, hoc, hdc, hvc⟩, _, _⟩ := e0.hok c' _ hc
  refine PySem.W.kla_callFunE hr.depth hof rfl S.co S.gen rfl ⟨c', oc, ws', t, rfl, hoc, hdc, hvc⟩ ?_
  rw [show bindArgs (PySem.W.kdv_fn "<lambda>" L.qual L.params (.expr L.body) L.scope clo (dvOf none) doc pm (.ref c') ctv) ⟨us, []⟩ = pure (ps.zip us) from hb clo doc pm _ ctv us (by rw [← r1.length]; exact hl)]
  refine wpAny_pure (wpAny_newFunctionEnv S.nocell (fun ⟨n, _⟩ hy => S.par n (List.of_mem_zip hy).1) (fun h₁ hns hsb => ⟨lim.fresh _ hsb, ?_⟩) S.kind)
  show codeAny _ _ (.expr L.body (NdefX.envF (lamNF L clo c') f s.heap.objs.size)) _ _
  have kp : ∀ b o, s.heap.get? b = some o → h₁.get? b = some o := fun b o e => hsb.extBut b o (Nat.ne_of_lt (Heap.lt_size e)) (Heap.get?_push_of_some _ e)
  have I : Inv (lamX M N L clo f c' A outer s H E) [] (NdefX.startF N vs (ws.map some)) H { s with heap := h₁, toks := s.toks + (ps.zip us).length } :=
    NdefX.inv_startN S hr.hd e0 hl r1 hC hns kp
  rw [startF_some] at I
  have room := hr.deeper (NdefX.envF (lamNF L clo c') f s.heap.objs.size)
  have tk := takes_of (X := lamX M N L clo f c' A outer s H E) (E := E) (E₁ := fun e' s'' => L2.CX M.P M.w outer H s E e' s'') rfl rfl rfl rfl
  have ht := hbody clo f c' A outer s H E (r.at_ m H) hM room ⟨hM.1.symm, hM.2.1.symm, rfl, room.hd, room.units, guards_deeper hgu, tk⟩ ⟨rfl, rfl, rfl, rfl, rfl⟩
  refine PySem.W.kla_codeExpr (wpAny_mono (ht.run [] _ (L2.start N (vs ++ ws)) H Q I ⟨m, S0, lo0 nN (xs ++ cap), hR.enter, repL_start N hn ((h1.append h2).like (.at_ r m H)), ?_⟩) (fun v s' hq => ?_) fun e s' hq => hq)
  · rw [hcl (xs ++ cap) S0 (by rw [List.length_append]; exact hlen)] at q
    exact pst_lam hR q
  · obtain ⟨w', H', J', rv, q⟩ := hq
    exact ⟨w', H', J'.os, J'.bare, J'.base, J'.hok, rv, q⟩
/-- one whose only parameter is by default 0, called without -/
theorem g_lamcalD {M : Md} {lam : Nat → Option LamD} {k ln np nN : Nat} {L : LamD} {N : List Str} {p0 : Str} {fe : Ev} {cl : List G → Sto → R G} (hL : lam ln = some L) (hd : L.dfl = true) (S : NdefX.NScope N [p0] L.fr L.scope) (hn : N.length = nN + 1) (hp : L.fr.length = np)
    (hb : ∀ (clo : List (Str × Addr)) (p : Addr) (doc pm cv ctv : Value) (t : Tok), ∃ k, bindArgs (PySem.W.kdv_fn "<lambda>" L.qual L.params (.expr L.body) L.scope clo (.ref p) doc pm cv ctv) ⟨[], []⟩ = seqItems? (.ref p) >>= k ∧ k (some #[.int 0 t]) = pure [(p0, .int 0 t)])
    (hcl : ∀ gs S, gs.length = np → cl gs S = eShift fe (lo0 nN gs) S)
    (hbody : ∀ (clo : List (Str × Addr)) (f c' : Addr) (A : Around) (outer : List Env) (s : Shared) (H : Hp) (E : XK) (r : RP), M.is r → Room k (A.deeper (NdefX.envF (lamNF L clo c') f s.heap.objs.size)) → Ctx r M.T (fun c d _ H => E c d H) (lamX M N L clo f c' A outer s H E) → M.of (lamX M N L clo f c' A outer s H E) →
      PE (lamX M N L clo f c' A outer s H E) L.body (tF r M.T (fun c d _ H => E c d H) fe)) : CalK M lam (k + 1) ln np cl := by
  refine ⟨fun f clo L' A outer s H us vs ws Q E r m S0 xs cap hL' hla hr hgu e0 hC r1 hM hR h1 h2 hlen q => ?_⟩
  rw [hL] at hL'
  cases hL'
  obtain ⟨L', o, dp, c', q', g1, hf, ⟨L'', g2, g3, doc, pm, ctv, ho⟩, hc, _, d1⟩ := hla
  rw [hL] at g1 g2
  cases g1; cases g2
  subst g3
  obtain ⟨p, tk0, rfl, hp0⟩ := d1 hd
  have hws : ws.length = L.fr.length := by have := hC.len; rwa [List.length_map] at this
  have lim : s.heap.NoLimit := e0.mod.nolimit.keeps fun b o e => (e0.bs b o e).1
  have hxs : xs = [] := by
    have a2 := h2.length
    cases xs with
    | nil => rfl
    | cons x xs => rw [List.length_cons] at hlen; omega
  subst hxs
  cases h1
  cases r1
  have hof := fixO_at e0.hok hf
  rw [ho] at hof
  obtain ⟨⟨oc, ws', t, hoc, hdc, hvc⟩, _, _⟩ := e0.hok c' _ hc
  refine PySem.W.kla_callFunE hr.depth hof rfl S.co S.gen rfl ⟨c', oc, ws', t, rfl, hoc, hdc, hvc⟩ ?_
  obtain ⟨kk, b1, b2⟩ := hb clo p doc pm (.ref c') ctv tk0
  refine BindsTo.of_defaults (s := s) (fd := PySem.W.kdv_fn "<lambda>" L.qual L.params (.expr L.body) L.scope clo (dvOf (some p)) doc pm (.ref c') ctv) (T := p) (items := #[.int 0 tk0]) (n := 0) rfl (fixO_at e0.hok hp0) rfl b1 b2 _ _ _ _ ?_
  refine (wpAny_newFunctionEnv S.nocell (fun ⟨n, _⟩ hy => by simp at hy; rw [hy.1]; exact S.par p0 (by simp)) (fun h₁ hns hsb => ⟨lim.fresh _ hsb, ?_⟩) S.kind)
  show codeAny _ _ (.expr L.body (NdefX.envF (lamNF L clo c') f s.heap.objs.size)) _ _
  have kp : ∀ b o, s.heap.get? b = some o → h₁.get? b = some o := fun b o e => hsb.extBut b o (Nat.ne_of_lt (Heap.lt_size e)) (Heap.get?_push_of_some _ e)
  have I : Inv (lamX M N L clo f c' A outer s H E) [] (NdefX.startF N [V.int 0] (ws.map some)) H { s with heap := h₁, toks := s.toks + ([p0].zip [Value.int 0 tk0]).length } :=
    NdefX.inv_startN S hr.hd e0 rfl (.cons ⟨tk0, rfl⟩ .nil) hC hns kp
  rw [startF_some, List.singleton_append, start_cons] at I
  have room := hr.deeper (NdefX.envF (lamNF L clo c') f s.heap.objs.size)
  have tk := takes_of (X := lamX M N L clo f c' A outer s H E) (E := E) (E₁ := fun e' s'' => L2.CX M.P M.w outer H s E e' s'') rfl rfl rfl rfl
  have ht := hbody clo f c' A outer s H E (r.at_ m H) hM room ⟨hM.1.symm, hM.2.1.symm, rfl, room.hd, room.units, guards_deeper hgu, tk⟩ ⟨rfl, rfl, rfl, rfl, rfl⟩
  refine PySem.W.kla_codeExpr (wpAny_mono (ht.run [] _ _ H Q I ⟨m, S0, none :: lo0 nN cap, hR.enter, (repL_start N.tail (by rw [List.length_tail, hn]; rfl) (h2.like (.at_ r m H))).cons, ?_⟩) (fun v s' hq => ?_) fun e s' hq => hq)
  · rw [List.nil_append, hcl cap S0 (by simpa using hlen)] at q
    exact pst_lam hR q
  · obtain ⟨w', H', J', rv, q⟩ := hq
    exact ⟨w', H', J'.os, J'.bare, J'.base, J'.hok, rv, q⟩
end GL

end

section
set_option Elab.async false
set_option linter.all false
set_option maxRecDepth 100000
set_option maxHeartbeats 4000000
/-! GL: calls of lambdas, and of defs that are given lambdas. -/
namespace GL
open PySem PySem.Spec PyProof.Rows L2 LamX

/-- a local name that holds a def or a lambda that captured nothing is called -/
def eClL (fns : List Str) (call : Calls) (i : Nat) (a : As) : Ev := fun l S => match l[i]? with
  | some (some (.gl x)) => if fns.contains x then rb (a l S) fun xs S => call (.fn x) xs S else .bad
  | some (some (.clo ln 0 [])) => rb (a l S) fun xs S => call (.la ln 0) xs S
  | _ => .bad
section
open Classical
/-- a parameter that holds the lambda cv is called -/
noncomputable def eClC (cv : G) (call : Calls) (i : Nat) (a : As) : Ev := fun l S => if l[i]? = some (some cv) then (match cv with
  | .clo ln (_ + 1) cap => rb (a l S) fun xs S => call (.la ln 1) (xs ++ cap) S
  | _ => .bad) else .bad
end
section
variable {M : Md} {lam : Nat → Option LamD} {k : Nat} {r : RP} {W : WX} {X : Cx} {i : Nat} {x : Str} {p pos : Pos} {e : Expr} {es : List Expr} {fs : As} {call : Calls}
theorem run_lam {ln np : Nat} {cl : List G → Sto → R G} {f c' : Addr} {o : Obj} {q : Str} {E : L2.St → XK} {pins : List (Addr × Obj)} {σ : L2.St} {H : Hp} {s : Shared} {Q : VK} {us : List Value} {vs : List V} (hX : M.of X) (F : CalL M lam k ln np cl) (hlo : loIs lam ln o [] none c' q) (hr : Room k X.A) (hg : X.A.guards = some [])
    (hx : PassesAt (L2.CX X.prog X.w) X σ (E σ)) (I : Inv X pins σ H s) (hf : H f = some (fixO f o)) (hc : H c' = some (CodeO c' q)) (r1 : Vals vs us) (h : spG M np cl vs H Q (E σ)) : wpAny (model X.prog X.w) X.A (PySem.call (.ref f) us) (EP X pins σ Q) X.xe s := by
  obtain ⟨h1, h2, h3, h4, h5⟩ := hX
  have e0 := I.env0
  have run := F.run f c' o q X.A X.stack s H us vs Q (E σ) hlo hr hg (by rw [← h1, ← h2, ← h3, ← h4, ← h5]; exact e0) hf hc r1 h
  rw [← h1, ← h2] at run
  refine wpAny_call (codeAny_mono run fun r s' hq => ?_)
  cases r with
  | error e => exact hx pins H s e s' I hq
  | ok fl =>
    cases fl with
    | ret u => exact I.after hq
    | next => exact False.elim hq
    | brk => exact False.elim hq
    | cont => exact False.elim hq
theorem run_lamK {ln np : Nat} {cl : List G → Sto → R G} {f : Addr} {clo : List (Str × Addr)} {L : LamD} {E : L2.St → XK} {pins : List (Addr × Obj)} {σ : L2.St} {H : Hp} {s : Shared} {Q : VK} {us : List Value} {vs ws : List V} {m : List Addr} {S : Sto} {xs cap : List G} (hX : M.of X) (F : CalK M lam k ln np cl) (hL : lam ln = some L) (hla : LamAt M lam H ln f clo) (hr : Room k X.A) (hg : X.A.guards = some [])
    (hx : PassesAt (L2.CX X.prog X.w) X σ (E σ)) (I : Inv X pins σ H s) (hC : NdefX.CellsAt clo L.fr (ws.map some) s.heap H) (r1 : Vals vs us) (hM : M.is r) (hR : Rep r M.T m S H) (h1 : RepVs r m H xs vs) (h2 : RepVs r m H cap ws) (hn : xs.length + cap.length = np)
    (q : Pst r M.T (fun c d _ H => E σ c d H) (RepV r) [] m H (cl (xs ++ cap) S) Q) : wpAny (model X.prog X.w) X.A (PySem.call (.ref f) us) (EP X pins σ Q) X.xe s := by
  obtain ⟨x1, x2, x3, x4, x5⟩ := hX
  have e0 := I.env0
  have run := F.run f clo L X.A X.stack s H us vs ws Q (E σ) r m S xs cap hL hla hr hg (by rw [← x1, ← x2, ← x3, ← x4, ← x5]; exact e0) hC r1 hM hR h1 h2 hn q
  rw [← x1, ← x2] at run
  refine wpAny_call (codeAny_mono run fun r s' hq => ?_)
  cases r with
  | error e => exact hx pins H s e s' I hq
  | ok fl =>
    cases fl with
    | ret u => exact I.after hq
    | next => exact False.elim hq
    | brk => exact False.elim hq
    | cont => exact False.elim hq
theorem g_callLoc (c : Ctx r M.T W X) (hX : M.of X) (hM : M.is r) (hlo : M.isClo = loIs lam) (hr : Room k X.A) (hN : X.N[i]? = some x) (hv : Vis X.env.scope x)
    {fns : List Str} (hk : ∀ y ∈ fns, ∃ f, M.mg y = some (.ref f) ∧ PySem.W.keepIn M.K (.ref f) = true) (hF : ∀ y xs S, call (.fn y) xs S ≠ .bad → CalF M k y xs.length (call (.fn y))) (hL : ∀ ln xs S, call (.la ln 0) xs S ≠ .bad → CalL M lam k ln xs.length (call (.la ln 0)))
    (ha : PA X (e :: es) (tFA r M.T W fs)) (hdb : (x == ("__debug__" : Str)) = false) (hcd : (x == ("__classdict__" : Str)) = false)
    (he : starEach (e :: es) X.env = (false, eval e X.env) :: starEach es X.env) (hpl : (backTo pos (starEach es X.env)).any (·.1) = false) : PE X (.Call (.Name x p) (e :: es) [] pos) (tF r M.T W (eClL fns call i fs)) := by
  obtain ⟨x1, x2, x3, x4, x5⟩ := id hX
  refine ⟨fun pins s σ H Q I ⟨m, S, l, hR, hL', q⟩ => ?_⟩
  unfold eClL at q
  split at q
  · rename_i y hy
    obtain ⟨v, hv1, hv2⟩ := hL'.get i _ hy
    split at q
    · rename_i hin
      cases hv2 with
      | @gl _ f hf =>
        refine wpAny_Call_Name_kw (thn ((pe_var (pos := p) hN hv hdb hcd).run pins s σ H (fun v H1 => v = .ref f ∧ H1 = H) I ⟨.ref f, hv1, rfl, rfl⟩) fun u s1 ⟨v, H1, I1, r1, q1⟩ => ?_)
        obtain ⟨rfl, rfl⟩ := q1
        cases r1
        obtain ⟨f0, k1, k2⟩ := hk y (by simpa using hin)
        rw [hM.2.1, k1] at hf
        cases hf
        refine PySem.W.callWith_K (h₀ := X.base) I.ok.mod.kin (by rw [x3]; exact k2) (thn (ha.run pos pins s1 σ _ _ I1 (stA hR hL' q)) fun us s2 ⟨vs, H2, I2, r2, m2, S2, gs, e2, hR2, hL2, h6, q2⟩ => ⟨I2.kIn, ?_⟩) he hpl
        have hb : call (.fn y) gs S2 ≠ .bad := fun z => by dsimp only at q2; rw [z] at q2; exact q2
        obtain ⟨f', fd, ps, g1, g2, g3, g4⟩ := (hF y gs S2 hb).ex
        rw [k1] at g1
        cases g1
        exact run_g (E := WE W) hX g4 hr c.gu (by rw [x3]; exact g3) (passAt c.tk σ) I2 r2 (sp_of hM hR2 h6 rfl q2)
    · exact False.elim q
  · rename_i ln hy
    obtain ⟨v, hv1, hv2⟩ := hL'.get i _ hy
    have hv3 := hv2
    cases hv2 with
    | @clo f c' o q' _ n1 h1 k n2 h2 =>
      refine wpAny_Call_Name_kw (thn ((pe_var (pos := p) hN hv hdb hcd).run pins s σ H (fun v H1 => v = .ref f ∧ H1 = H) I ⟨.ref f, hv1, rfl, rfl⟩) fun u s1 ⟨v, H1, I1, r1, q1⟩ => ?_)
      obtain ⟨rfl, rfl⟩ := q1
      cases r1
      rw [hM.2.2.1, hlo] at k
      obtain ⟨L, hL0, hq, doc, pm, ctv, ho⟩ := id k
      have hof := fixO_at I1.hok h1
      rw [ho] at hof
      refine PySem.W.callWith_F ⟨_, _, _, _, hof⟩ (thn (ha.run pos pins s1 σ _ _ I1 (stA hR hL' q)) fun us s2 ⟨vs, H2, I2, r2, m2, S2, gs, e2, hR2, hL2, h6, q2⟩ => ?_) he hpl
      have h1' := e2.fx f _ h1
      have h2' := e2.fx c' _ h2
      have hof2 := fixO_at I2.hok h1'
      rw [ho] at hof2
      refine ⟨⟨_, _, _, _, hof2⟩, ?_⟩
      have hb : call (.la ln 0) gs S2 ≠ .bad := fun z => by dsimp only at q2; rw [z] at q2; exact q2
      exact run_lam (E := WE W) hX (hL ln gs S2 hb) k hr c.gu (passAt c.tk σ) I2 h1' h2' r2 (sp_of hM hR2 h6 rfl q2)
  · exact False.elim q
end
/-- what a frame that began at (s, H) was told of the lambda cv that it was given -/
structure CloE (M : Md) (lam : Nat → Option LamD) (r : RP) (m : List Addr) (H : Hp) (s : Shared) (outer : List Env) (ln n : Nat) (cap : List G) (f : Addr) (clo : List (Str × Addr)) (ws : List V) (L : LamD) : Prop where
  lm : lam ln = some L
  at_ : m[n]? = some f
  la : LamAt M lam H ln f clo
  cells : NdefX.CellsAt clo L.fr (ws.map some) s.heap H
  rep : RepVs r m H cap ws
  nf : ∀ y c, clo.lookup y = some c → c ∉ frs outer
section
variable {M : Md} {lam : Nat → Option LamD} {k : Nat} {r : RP} {W : WX} {X : Cx} {i : Nat} {x : Str} {p pos : Pos} {e : Expr} {es : List Expr} {fs : As} {call : Calls} {cv : G}
theorem clo_call {ln n : Nat} {cap : List G} {f : Addr} {clo : List (Str × Addr)} {ws : List V} {L : LamD} (c : Ctx r M.T W X) (hX : M.of X) (hM : M.is r) (hr : Room k X.A) (hex : X.ex = []) (hH : r.H0 = X.H_0) (C : CloE M lam r r.m0 r.H0 X.s_0 X.outer ln n cap f clo ws L)
    (hF : ∀ xs S, call (.la ln 1) (xs ++ cap) S ≠ .bad → CalK M lam k ln (xs.length + cap.length) (call (.la ln 1)))
    {pins : List (Addr × Obj)} {σ : L2.St} {H : Hp} {s : Shared} {Q : VK} {us : List Value} {vs : List V} {m : List Addr} {S : Sto} {xs : List G} (I : Inv X pins σ H s) (r2 : Vals vs us) (hR : Rep r M.T m S H) (h1 : RepVs r m H xs vs)
    (q : Pst r M.T W (RepV r) σ m H (call (.la ln 1) (xs ++ cap) S) Q) : wpAny (model X.prog X.w) X.A (PySem.call (.ref f) us) (EP X pins σ Q) X.xe s := by
  have hb : call (.la ln 1) (xs ++ cap) S ≠ .bad := fun z => by rw [z] at q; exact q
  have cells := C.cells
  rw [hH] at cells
  have cells' := cells.later C.nf (fun y c _ => by rw [hex]; simp) I
  have ent := hR.ent
  refine run_lamK (E := WE W) hX (hF xs S hb) C.lm (C.la.ext ent) hr c.gu (passAt c.tk σ) I cells' r2 hM hR h1 (C.rep.ext ent) rfl ?_
  revert q
  cases call (.la ln 1) (xs ++ cap) S with
  | ok x S => exact id
  | exc c fs S => exact id
  | bad => exact id
theorem g_callClo (c : Ctx r M.T W X) (hX : M.of X) (hM : M.is r) (hr : Room k X.A) (hex : X.ex = []) (hH : r.H0 = X.H_0) (hC : ∀ ln n cap, cv = .clo ln (n + 1) cap → ∃ f clo ws L, CloE M lam r r.m0 r.H0 X.s_0 X.outer ln n cap f clo ws L)
    (hF : ∀ ln cap xs S, call (.la ln 1) (xs ++ cap) S ≠ .bad → CalK M lam k ln (xs.length + cap.length) (call (.la ln 1))) (hN : X.N[i]? = some x) (hv : Vis X.env.scope x)
    (ha : PA X (e :: es) (tFA r M.T W fs)) (hdb : (x == ("__debug__" : Str)) = false) (hcd : (x == ("__classdict__" : Str)) = false)
    (he : starEach (e :: es) X.env = (false, eval e X.env) :: starEach es X.env) (hpl : (backTo pos (starEach es X.env)).any (·.1) = false) : PE X (.Call (.Name x p) (e :: es) [] pos) (tF r M.T W (eClC cv call i fs)) := by
  refine ⟨fun pins s σ H Q I ⟨m, S, l, hR, hL', q⟩ => ?_⟩
  unfold eClC at q
  split at q
  · rename_i hi
    cases cv with
    | clo ln n cap =>
      cases n with
      | zero => exact False.elim q
      | succ n =>
        obtain ⟨f, clo, ws, L, C⟩ := hC ln n cap rfl
        obtain ⟨v, hv1, hv2⟩ := hL'.get i _ hi
        have ent := hR.ent
        cases hv2 with
        | @cloS f' _ _ _ hf' =>
          have e1 := ent.get C.at_
          rw [e1] at hf'
          cases hf'
          refine wpAny_Call_Name_kw (thn ((pe_var (pos := p) hN hv hdb hcd).run pins s σ H (fun v H1 => v = .ref f ∧ H1 = H) I ⟨.ref f, hv1, rfl, rfl⟩) fun u s1 ⟨v, H1, I1, r1, q1⟩ => ?_)
          obtain ⟨rfl, rfl⟩ := q1
          cases r1
          obtain ⟨L', o, dp, c', q', g1, g2, ⟨L'', g3, g4, doc, pm, ctv, ho⟩, g5⟩ := C.la.ext ent
          have hof := fixO_at I1.hok g2
          rw [ho] at hof
          refine PySem.W.callWith_F ⟨_, _, _, _, hof⟩ (thn (ha.run pos pins s1 σ _ _ I1 (stA hR hL' q)) fun us s2 ⟨vs, H2, I2, r2, m2, S2, gs, e2, hR2, hL2, h6, q2⟩ => ?_) he hpl
          have hof2 := fixO_at I2.hok (e2.fx f _ g2)
          rw [ho] at hof2
          exact ⟨⟨_, _, _, _, hof2⟩, clo_call c hX hM hr hex hH C (hF ln cap) I2 r2 hR2 h6 q2⟩
    | _ => exact False.elim q
  · exact False.elim q
theorem g_callClo0 (c : Ctx r M.T W X) (hX : M.of X) (hM : M.is r) (hr : Room k X.A) (hex : X.ex = []) (hH : r.H0 = X.H_0) (hC : ∀ ln n cap, cv = .clo ln (n + 1) cap → ∃ f clo ws L, CloE M lam r r.m0 r.H0 X.s_0 X.outer ln n cap f clo ws L)
    (hF : ∀ ln cap xs S, call (.la ln 1) (xs ++ cap) S ≠ .bad → CalK M lam k ln (xs.length + cap.length) (call (.la ln 1))) (hN : X.N[i]? = some x) (hv : Vis X.env.scope x)
    (hdb : (x == ("__debug__" : Str)) = false) (hcd : (x == ("__classdict__" : Str)) = false) : PE X (.Call (.Name x p) [] [] pos) (tF r M.T W (eClC cv call i aNil)) := by
  refine ⟨fun pins s σ H Q I ⟨m, S, l, hR, hL', q⟩ => ?_⟩
  unfold eClC at q
  split at q
  · rename_i hi
    cases cv with
    | clo ln n cap =>
      cases n with
      | zero => exact False.elim q
      | succ n =>
        obtain ⟨f, clo, ws, L, C⟩ := hC ln n cap rfl
        obtain ⟨v, hv1, hv2⟩ := hL'.get i _ hi
        have ent := hR.ent
        cases hv2 with
        | @cloS f' _ _ _ hf' =>
          have e1 := ent.get C.at_
          rw [e1] at hf'
          cases hf'
          refine wpAny_Call_Name_kw (thn ((pe_var (pos := p) hN hv hdb hcd).run pins s σ H (fun v H1 => v = .ref f ∧ H1 = H) I ⟨.ref f, hv1, rfl, rfl⟩) fun u s1 ⟨v, H1, I1, r1, q1⟩ => ?_)
          obtain ⟨rfl, rfl⟩ := q1
          cases r1
          obtain ⟨L', o, dp, c', q', g1, g2, ⟨L'', g3, g4, doc, pm, ctv, ho⟩, g5⟩ := C.la.ext ent
          have hof := fixO_at I1.hok g2
          rw [ho] at hof
          refine PySem.W.callWith_F0 (first := []) ⟨_, _, _, _, hof⟩ ?_
          have q2 : Pst r M.T W (RepV r) σ m H1 (call (.la ln 1) ([] ++ cap) S) Q := q
          exact clo_call (us := []) (vs := []) (xs := []) c hX hM hr hex hH C (hF ln cap) I1 .nil hR .nil q2
    | _ => exact False.elim q
  · exact False.elim q
end
/-! ### defs that are given a lambda -/
/-- a def one of whose parameters (the last one) holds a lambda that captured -/
structure CalFC (M : Md) (lam : Nat → Option LamD) (k : Nat) (x : Str) (np : Nat) (cl : List G → Sto → R G) : Prop where
  ex : ∃ (f : Addr) (fd : FuncData) (ps : List Str), M.mg x = some (.ref f) ∧ PySem.W.keepIn M.K (.ref f) = true ∧ Binds M.K fd ps [] ∧ ps.length = np ∧
    ∀ (A : Around) (outer : List Env) (s : Shared) (H : Hp) (args : Args) (us : List Value) (vs : List V) (Q : VK) (E : XK) (r : RP) (m : List Addr) (S : Sto) (gs : List G) (ln n : Nat) (cap : List G) (f0 : Addr) (clo : List (Str × Addr)) (ws : List V) (L : LamD), Room k A → A.guards = some [] →
      Env0 M.P M.w M.K M.mg M.base A outer s H → BindsTo s fd args (ps.zip us) → Vals vs us → M.is r → Rep r M.T m S H → RepVs r m H gs vs → gs.length = np → gs.getLast? = some (.clo ln (n + 1) cap) → CloE M lam r m H s outer ln n cap f0 clo ws L →
      Pst r M.T (fun c d _ H => E c d H) (RepV r) [] m H (cl gs S) Q → codeAny (model M.P M.w) A (.call (.ref f) args) (CR (L2.CX M.P M.w) outer M.P M.w H s Q E) s
section
variable {M : Md} {lam : Nat → Option LamD} {k : Nat}
theorem CloE.like {r r' : RP} {m : List Addr} {H : Hp} {s : Shared} {outer : List Env} {ln n : Nat} {cap : List G} {f : Addr} {clo : List (Str × Addr)} {ws : List V} {L : LamD} (kk : RP.Like r r') (C : CloE M lam r m H s outer ln n cap f clo ws L) : CloE M lam r' m H s outer ln n cap f clo ws L :=
  ⟨C.lm, C.at_, C.la, C.cells, C.rep.like kk, C.nf⟩
theorem g_fnC {xn qual : Str} {params : Arguments} {stb : List Stmt} {scope : Scope} {f : Addr} {fd : FuncData} {N ps : List Str} {nN : Nat} {np : Nat} {body : G → StM} {cl : List G → Sto → R G} (F : FunD M.K xn qual params stb scope [] [] f fd) (S : FnScope N ps scope) (hn : N.length = nN) (hp : ps.length = np)
    (hm : M.mg xn' = some (.ref f)) (hkp : PySem.W.keepIn M.K (.ref f) = true) (hbi : Binds M.K fd ps [])
    (hcl : ∀ gs S cv, gs.length = np → gs.getLast? = some cv → cl gs S = bodyR (body cv (lo0 nN gs) S))
    (hbody : ∀ (cv : G) (cdv : Value) (A : Around) (outer : List Env) (s : Shared) (H : Hp) (E : XK) (r : RP), fd.code = cdv → M.is r → Room k (A.deeper (envOfC qual scope s.heap.objs.size f cdv)) →
      Ctx r M.T (fun c d _ H => E c d H) (cxOf (L2.CX M.P M.w) M.P M.w M.K M.mg M.base N qual scope f cdv A outer s H E) → M.of (cxOf (L2.CX M.P M.w) M.P M.w M.K M.mg M.base N qual scope f cdv A outer s H E) →
      PassesOwn (model M.P M.w) (A.deeper (envOfC qual scope s.heap.objs.size f cdv)) (envOfC qual scope s.heap.objs.size f cdv) (cxOf (L2.CX M.P M.w) M.P M.w M.K M.mg M.base N qual scope f cdv A outer s H E).xe →
      r.H0 = H → (∀ ln n cap, cv = .clo ln (n + 1) cap → ∃ f clo ws L, CloE M lam r r.m0 r.H0 s outer ln n cap f clo ws L) →
      PSs (cxOf (L2.CX M.P M.w) M.P M.w M.K M.mg M.base N qual scope f cdv A outer s H E) stb (tSF r M.T (fun c d _ H => E c d H) (body cv))) : CalFC M lam (k + 1) xn' np cl := by
  refine ⟨f, fd, ps, hm, hkp, hbi, hp, ?_⟩
  obtain ⟨oc, od, dV, kV, doc, pm, an, cdv, ct, osl, rfl, lk, hcd, _, _⟩ := F.ex
  intro A outer s H args us vs Q E r m S0 gs ln n cap f0 clo ws L hr hgu e0 hb r1 hM hR h1 hgl hlast hC q
  have hl : vs.length = ps.length := by rw [hp, ← h1.length]; exact hgl
  have KX : M.K.In s.heap := e0.mod.kin.keeps fun b o e => (e0.bs b o e).1
  have lim : s.heap.NoLimit := e0.mod.nolimit.keeps fun b o e => (e0.bs b o e).1
  have hkind : ∀ y ∈ ps.zip us, scope.names.lookup y.1 = some .local ∨ (scope.names.lookup y.1 = some .cell ∧ ((cellsFrom (s.heap.objs.size + 1) scope.names []).lookup y.1).isSome = true) := fun ⟨n, v⟩ hy => by
    rcases S.par n (List.of_mem_zip hy).1 with q | q
    · exact .inl q
    · exact .inr ⟨q, PySem.W.cellsFrom_some _ _ _ (.inl q)⟩
  refine codeAny_call_function hr.depth (KX _ _ lk) rfl S.co S.gen rfl (PySem.W.codeRec_of KX hcd) (hb _ _ _ _ ?_)
  refine wpAny_newFunctionEnv_cells S.kind hkind fun env he s1 x => ?_
  subst he
  refine ⟨lim.keeps x.toInCall.keep, codeAny_func ?_⟩
  have I : Inv (cxOf (L2.CX M.P M.w) M.P M.w M.K M.mg M.base N qual scope f cdv A outer s H E) [] (L2.start N vs) H s1 := inv_start S hr.hd e0 hl r1 x
  have room := hr.deeper (envOfC qual scope s.heap.objs.size f cdv)
  have tk := takes_of (X := cxOf (L2.CX M.P M.w) M.P M.w M.K M.mg M.base N qual scope f cdv A outer s H E) (E := E) (E₁ := fun e' s'' => L2.CX M.P M.w outer H s E e' s'') rfl rfl rfl rfl
  have own := passes_of (X := cxOf (L2.CX M.P M.w) M.P M.w M.K M.mg M.base N qual scope f cdv A outer s H E) (K := fun e s'' => L2.CX M.P M.w outer H s E e s'') (E₁ := fun e' s'' => L2.CX M.P M.w outer H s E e' s'') rfl
  have ht := hbody (.clo ln (n + 1) cap) cdv A outer s H E (r.at_ m H) rfl hM room ⟨hM.1.symm, hM.2.1.symm, rfl, room.hd, room.units, guards_deeper hgu, tk⟩ ⟨rfl, rfl, rfl, rfl, rfl⟩ own rfl (fun ln' n' cap' e => by
    cases e
    exact ⟨f0, clo, ws, L, hC.like (.at_ r m H)⟩)
  refine wpAny_mono (ht.run [] s1 (L2.start N vs) H { nx := fun _ H' => Q .non H', rt := Q } I ⟨m, S0, lo0 nN gs, hR.enter, repL_start N hn (h1.like (.at_ r m H)), ?_⟩) (fun fl s' hs => ?_) fun e s' hs => hs
  · rw [hcl gs S0 _ hgl hlast] at q
    exact pst_body hR q
  · have fin : ∀ {σ' : L2.St} {H' : Hp} {v : V} {u : Value}, Inv (cxOf (L2.CX M.P M.w) M.P M.w M.K M.mg M.base N qual scope f cdv A outer s H E) [] σ' H' s' → RelV v u → Q v H' → CE outer M.P M.w H s Q u s' :=
      fun {σ' H' v u} J rv q => ⟨v, H', J.os, J.bare, J.base, J.hok, rv, q⟩
    cases fl with
    | ret u =>
      obtain ⟨v, σ', H', J, rv, q⟩ := hs
      exact fin J rv q
    | next =>
      obtain ⟨σ', H', J, q⟩ := hs
      exact fin (v := V.non) (u := Value.none) J rfl q
    | brk =>
      obtain ⟨_, _, _, q⟩ := hs
      exact False.elim q
    | cont =>
      obtain ⟨_, _, _, q⟩ := hs
      exact False.elim q
end
/-! ### the arguments, the last one a lambda -/
section
variable {M : Md} {lam : Nat → Option LamD} {k : Nat} {r : RP} {W : WX} {X : Cx} {x : Str} {p pos : Pos} {e : Expr} {es : List Expr} {fs : As} {fa : Ev} {call : Calls} {ln : Nat} {js : List Nat} {scope : Scope}
def LastL (M : Md) (lam : Nat → Option LamD) (X : Cx) (scope : Scope) (ln : Nat) (js : List Nat) (l : Loc) (m : List Addr) (H : Hp) (xs : List G) (vs : List V) : Prop :=
  ∃ f n cap, capG l js = some cap ∧ xs.getLast? = some (.clo ln (n + 1) cap) ∧ vs.getLast? = some (.ref f) ∧ m[n]? = some f ∧ LamAt M lam H ln f (cloFrom X.env.cells scope.names [])
def tFAL (r : RP) (M : Md) (lam : Nat → Option LamD) (W : WX) (X : Cx) (scope : Scope) (ln : Nat) (js : List Nat) (f : As) : TA := fun s H Q => ∃ m S l, Rep r M.T m S H ∧ RepL r m H l s ∧
  Pst r M.T W (fun m' H' xs vs => RepVs r m' H' xs vs ∧ LastL M lam X scope ln js l m' H' xs vs) s m H (f l S) Q
theorem g_al1 (hl : PE X e (tLamC r M lam W X scope ln js)) (hs : starEach [e] X.env = (false, eval e X.env) :: starEach [] X.env) : PA X [e] (tFAL r M lam W X scope ln js (aCons (eLamC ln js) aNil)) :=
  PA_imp (pa_cons hl pa_nil hs) fun s H Q ⟨m, S, l, hR, hL, q⟩ => by
    have q2 : Pst r M.T W (fun m' H' xs vs => RepVs r m' H' xs vs ∧ LastL M lam X scope ln js l m' H' xs vs) s m H (rb (eLamC ln js l S) fun x S => .ok [x] S) Q := q
    unfold eLamC at q2
    cases hc : capG l js with
    | none => rw [hc] at q2; exact False.elim q2
    | some cap =>
      rw [hc] at q2
      refine ⟨m, S, l, hR, hL, cap, hc, fun f H' nf ex hR' rv la => q2 (m ++ [f]) H' [.ref f] ex hR' ⟨.cons rv .nil, f, S.length, cap, hc, rfl, rfl, ?_, la⟩⟩
      rw [← hR.len, List.getElem?_append_right (Nat.le_refl _)]; simp
theorem g_alcons (ha : PE X e (tF r M.T W fa)) (hr : PA X es (tFAL r M lam W X scope ln js fs)) (hne : ∀ l S xs S', fs l S = .ok xs S' → xs ≠ []) (hs : starEach (e :: es) X.env = (false, eval e X.env) :: starEach es X.env) :
    PA X (e :: es) (tFAL r M lam W X scope ln js (aCons fa fs)) :=
  PA_imp (pa_cons ha hr hs) fun s H Q ⟨m, S, l, hR, hL, q⟩ => by
    have q2 : Pst r M.T W (fun m' H' xs vs => RepVs r m' H' xs vs ∧ LastL M lam X scope ln js l m' H' xs vs) s m H (rb (fa l S) fun x S => rb (fs l S) fun xs S => .ok (x :: xs) S) Q := q
    refine mono_tF (stE hR hL q2) fun x H1 ⟨m1, S1, g, e1, hR1, hL1, h1, q3⟩ => ⟨m1, S1, l, hR1, hL1, ?_⟩
    dsimp only at q3
    cases e2 : fs l S1 with
    | bad => rw [e2] at q3; exact q3
    | exc c f S2 => rw [e2] at q3; exact q3
    | ok xs S2 =>
      rw [e2] at q3
      intro m2 H2 vs ex hR2 ⟨h2, f, n, cap, c1, c2, c3, c4, c5⟩
      have hx := hne l S1 xs S2 e2
      refine q3 m2 H2 (x :: vs) ex hR2 ⟨.cons (h1.ext ex) h2, f, n, cap, c1, ?_, ?_, c4, c5⟩
      · cases xs with
        | nil => exact absurd rfl hx
        | cons y ys => rw [List.getLast?_cons_cons]; exact c2
      · cases vs with
        | nil => cases c3
        | cons y ys => rw [List.getLast?_cons_cons]; exact c3
theorem aCons_ne {fa : Ev} {fs : As} : ∀ l S xs S', aCons fa fs l S = .ok xs S' → xs ≠ [] := fun l S xs S' e => by
  unfold aCons at e
  cases h : fa l S with
  | bad => rw [h] at e; cases e
  | exc _ _ _ => rw [h] at e; cases e
  | ok x S1 =>
    rw [h] at e
    have e : rb (fs l S1) (fun xs S => R.ok (x :: xs) S) = .ok xs S' := e
    cases h2 : fs l S1 with
    | bad => rw [h2] at e; cases e
    | exc _ _ _ => rw [h2] at e; cases e
    | ok ys S2 => rw [h2] at e; cases e; simp
/-- own cells are no frames -/
theorem cells_nf {pins : List (Addr × Obj)} {σ : L2.St} {H : Hp} {s : Shared} (I : Inv X pins σ H s) (hfn : ∀ y, X.fn y = true) {y : Str} {a : Addr} (e : X.env.cells.lookup y = some a) : a ∉ frs X.stack := fun z => by
  rcases List.mem_cons.mp (I.stkSub a z) with z | z
  · exact I.cne y a e z
  · have h1 := I.ok.cab y a (hfn y) e
    obtain ⟨_, o, ho, _⟩ := I.ok.funs.mem z
    exact absurd (Heap.lt_size ho) (Nat.not_lt.mpr h1)
theorem g_callFC {L : LamD} {params : Arguments} {body : Expr} {np : Nat} (c : Ctx r M.T W X) (hX : M.of X) (hM : M.is r) (F : CalFC M lam k x np (call (.fc x))) (har : Arity np (call (.fc x))) (hr : Room k X.A) (hg : Gl X x) (hfn : ∀ y, X.fn y = true) (t : LamTx lam X ln L params body scope js) (ha : PA X (e :: es) (tFAL r M lam W X scope ln js fs)) (hdb : (x == ("__debug__" : Str)) = false)
    (he : starEach (e :: es) X.env = (false, eval e X.env) :: starEach es X.env) (hpl : (backTo pos (starEach es X.env)).any (·.1) = false) : PE X (.Call (.Name x p) (e :: es) [] pos) (tF r M.T W (eCl call (.fc x) fs)) := by
  obtain ⟨f, fd, ps, h1, h2, h3, hpn, h4⟩ := F.ex
  obtain ⟨x1, x2, x3, x4, x5⟩ := id hX
  refine ⟨fun pins s σ H Q I ⟨m, S, l, hR, hL, q⟩ => ?_⟩
  refine wpAny_Call_Name_kw (ld_glob I hg (by rw [x4]; exact h1) ?_ hdb)
  have q1 : Pst r M.T W (RepV r) σ m H (rb (fs l S) fun xs S => call (.fc x) xs S) Q := q
  have st : tFAL r M lam W X scope ln js fs σ H fun vs H1 => ∃ m1 S1 xs, Ext m H m1 H1 ∧ Rep r M.T m1 S1 H1 ∧ RepL r m1 H1 l σ ∧ (RepVs r m1 H1 xs vs ∧ LastL M lam X scope ln js l m1 H1 xs vs) ∧ Pst r M.T W (RepV r) σ m1 H1 (call (.fc x) xs S1) Q :=
    ⟨m, S, l, hR, hL, Pst.mono (Pst.bind q1) fun vs H1 ⟨m1, S1, xs, e1, a, b, q⟩ => ⟨m1, S1, xs, e1, a, hL.ext e1, b, q⟩⟩
  refine PySem.W.callWith_K (h₀ := X.base) I.ok.mod.kin (by rw [x3]; exact h2) (thn (ha.run pos pins s σ H _ I st) fun us s1 ⟨vs, H1, I1, r1, m1, S1, xs, e1, hR1, hL1, ⟨h5, f0, n, cap, c1, c2, c3, c4, c5⟩, q2⟩ => ⟨I1.kIn, ?_⟩) he hpl
  have hxs := pst_arity har q2
  obtain ⟨ws, w1, w2⟩ := capG_rep hL1 c1
  have caps := t.caps I1.ok
  have C : CloE M lam r m1 H1 s1 X.stack ln n cap f0 (cloFrom X.env.cells scope.names []) ws L :=
    ⟨t.lam, c4, c5, by rw [← w1]; exact NdefX.cells_of I1 caps, w2, fun y a e => cells_nf I1 hfn (caps.sub y a e)⟩
  have hl : us.length = ps.length := by rw [← r1.length, ← h5.length, hxs, hpn]
  have b := h3 s1 us (by rw [← x3]; exact I1.kIn) (by rw [List.append_nil]; exact hl)
  rw [List.append_nil] at b
  have e0 := I1.env0
  have run := h4 X.A X.stack s1 H1 ⟨us, []⟩ us vs Q (WE W σ) r m1 S1 xs ln n cap f0 _ ws L hr c.gu (by rw [← x1, ← x2, ← x3, ← x4, ← x5]; exact e0) b r1 hM hR1 h5 hxs c2 C (by
    revert q2
    cases call (.fc x) xs S1 <;> exact id)
  rw [← x1, ← x2] at run
  refine wpAny_call (codeAny_mono run fun r s' hq => ?_)
  cases r with
  | error e => exact passAt c.tk σ pins H1 s1 e s' I1 hq
  | ok fl =>
    cases fl with
    | ret u => exact I1.after hq
    | next => exact False.elim hq
    | brk => exact False.elim hq
    | cont => exact False.elim hq
end
end GL

end

section
set_option Elab.async false
set_option linter.all false
set_option maxRecDepth 100000
set_option maxHeartbeats 4000000
/-! GL: exceptions of own classes are made: __init__ says super().__init__(text), then stores its parameters. -/
namespace GL
open PySem PySem.Spec PyProof.Rows L2

/-- what the written part says of an own exception class and its __init__ -/
structure XcK (P : Program) (K : PySem.W.Frag) (C fI cc cda : Addr) (qual : Str) (params : Arguments) (body : List Stmt) (scope : Scope) : Prop where
  T : OexC K C
  cC : (PySem.W.clsIn K C).isSome = true
  iC : PySem.W.findIn K (.ref C) "__init__" = some (some (.ref fI))
  tI : PySem.W.typeIn K (.ref fI) = some (.type "function")
  lk : ∃ oc od doc pm ct osl, K.lookup fI = some ⟨oc, od, .func (PySem.W.fnX "__init__" qual params body scope [("__class__", cc)] .none .none doc pm none (.ref cda) ct), osl⟩
  hc : PySem.W.codeIn K (.ref cda) qual = true
  cell : ∃ c0 d0 sl, K.lookup cc = some ⟨c0, d0, .cell (some (.ref C)), sl⟩
  code : ∃ c0 d0 vs sl file tf, K.lookup cda = some ⟨c0, d0, .fields vs, sl⟩ ∧ vs[2]? = some (.str file tf) ∧ ((P.main.file : Str) == file) = true
  sup : PySem.W.ks_superIn K C C "__init__" = some (some (.builtin "ValueError.__init__"))
  ve : PySem.W.subIn K (.ref C) (.type "ValueError") = some true
  any : PySem.W.nsIn K cStatics "thirdparty.any" = some none
  self : PySem.W.mroIn K C (.ref C) = some true
section
variable {P : Program} {K : PySem.W.Frag} {C fI cc cda : Addr} {qual : Str} {params : Arguments} {body : List Stmt} {scope : Scope}
variable {X : Cx} {pins : List (Addr × Obj)} {σ : L2.St} {H : Hp} {s : Shared} {E : Value → Shared → Prop}
theorem call_mw {prog : Program} {w : World} {A : Around} {E : Value → Shared → Prop} {h : Heap} {g : Array GenState} {d : Drawn} {t : Nat} {os : OsState} {nm q : Str} {C N : Addr} {bs bm : List Value} {hdct : Bool} {sn : List Str} {sub : List Value} {ab : Bool} {col : Option Bool} {dd : Option Addr} {k0 k1 k2 k3 k5 : Option Value}
    {u e t0 : Addr} {dv : Option Addr} {rest : List Value} {Q : Value → Shared → Prop}
    (hC : h.get? C = some (excClassObj nm q C N bs bm hdct sn sub ab col dd k0 k1 k2 k3 k5 "ValueError.__new__")) (he : h.get? e = some (PySem.W.excObj C t0 dv .none)) (hu : h.get? u = some (PySem.W.kxs_mw "ValueError.__init__" e)) (hrest : rest.length ≤ sizeLine)
    (hq : ∀ h' t1, (∀ b o, b ≠ e → h.get? b = some o → h'.get? b = some o) → h'.get? e = some (PySem.W.excObj C t1 dv .none) → Q .none ⟨h', g, d, t, os⟩) :
    wpAny (model prog w) A (PySem.call (.ref u) rest) Q E ⟨h, g, d, t, os⟩ := by
  have FB := F.excBase_ValueError
  refine wpAny_call (codeAny_of_tree ?_)
  show wpAny _ A.in1 (callAny (.ref u) ⟨rest, []⟩) _ _ _
  simp only [callAny]
  refine wpAny_bind (wpAny_load hu ?_)
  simp only [PySem.W.kxs_mw, show (Value.type "method-wrapper" == Value.type "method" || Value.type "method-wrapper" == Value.type "builtin_function_or_method" || Value.type "method-wrapper" == Value.type "method-wrapper") = true by decide, if_true]
  refine PySem.W.KFB.if_so (by decide) ?_
  refine wpAny_bind (PySem.W.check_bound_init FB.toExcCallFacts hC he rfl ?_)
  refine wpAny_bind (wpAny_pure (wpAny_pure ?_))
  refine ⟨plainId_quiet FB.init.plain _, codeAny_builtin FB.initEntry ?_⟩
  exact PySem.W.exc_init_tree (cls := .ref C) (t0 := t0) (dv := dv) (c2 := .none) (c3 := .none) (b4 := .bool false) he hrest fun h' k1 k2 _ => hq h' _ k1 k2
theorem meth_form {env : Env} {o : Expr} {name msg : Str} {j : Nat} {p2 p3 p4 : Pos} (hpos : (p2.endLine == p4.line) = true) : eval (.Call (.Attribute o name p2) [.Constant (.str msg) j p3] [] p4) env = (do
      let ov ← attributeBase o name env (eval o env)
      standAt p2.atName
      let (f, first) ← holding [ov] (getMethod ov name (do return (← importBound o env).getD true))
      callWith p4 f first (backTo p4 (starEach [.Constant (.str msg) j p3] env)) []) := by
  rw [arm_eval_Call]
  unfold methodCall calleeOf methodCallPos
  have e : methodCallForm ([Expr.Constant (.str msg) j p3].length + ([] : List Keyword).length) (backTo p4 (starEach [.Constant (.str msg) j p3] env)) (backToKw p4 (keywordEach [] env)) = true := by rfl
  rw [e]
  simp only [hpos, if_true, Bool.not_true, Bool.false_or, pure_bind]
  rfl
/-- super().__init__(text) of an exception that is being made -/
theorem super_stmt (Z : XcK X.prog X.K C fI cc cda qual params body scope) {L : Addr} (henv : X.env = PySem.W.envX qual scope L fI (.ref cda) [("__class__", cc)])
    {self : Str} {ar : Arg} (hp : (params.posonlyargs ++ params.args).head? = some ar) (har : ar.arg = self) (hks : scope.names.lookup ("super" : Str) = some .globalImplicit) (hkc : scope.names.lookup ("__class__" : Str) = some .free)
    (hks2 : scope.names.lookup self = some .local) (hN : X.N[0]? = some self) (hds : (self == ("__debug__" : Str)) = false) (hcs : (self == ("__classdict__" : Str)) = false) (htop : (X.prog.main.scope.names.lookup ("super" : Str)).isSome = false) (hm : X.mg "super" = none)
    {a : Addr} (hs0 : σ[0]? = some (some (.ref a))) (he : H a = some (exo a C none)) {st : List Stmt} {p0 p1 p2 p3 p4 p5 : Pos} {msg : Str} {j : Nat} (hpos : (p2.endLine == p4.line) = true) (I : Inv X pins σ H s) {Q : Flow → Shared → Prop}
    (h : ∀ s', Inv X pins σ H s' → Q .next s') :
    _root_.PySem.wpAt (model X.prog X.w) X.A (.func st X.env) (exec (.Expr (.Call (.Attribute (.Call (.Name "super" p0) [] [] p1) "__init__" p2) [.Constant (.str msg) j p3] [] p4) p5) X.env) Q X.xe s := by
  obtain ⟨oc, od, doc, pm, ct, osl, lk⟩ := Z.lk
  obtain ⟨c0, d0, sl0, hcell⟩ := Z.cell
  obtain ⟨c1, d1, vs1, sl1, file, tf, hcda, hvs1, hfile⟩ := Z.code
  obtain ⟨nm, q, N, bs, bm, sn, sub, ab, col, dd, k0, k1, k2, k3, k5, hC, hbm⟩ := Z.T.cls
  have hcl : PySem.W.clsIn X.K C = some { name := nm, bases := bs, mro := .ref C :: bm, ns := N, qualname := q, hasDict := true, slotNames := sn, subclasses := sub, abstract := ab, collection := col, hasDel := false } := by unfold PySem.W.clsIn; rw [hC] <;> rfl
  obtain ⟨mb, hmb1, hmb2⟩ := I.mod.blt
  obtain ⟨m, hn, hl⟩ := id I.loc
  have hk : X.env.scope.kind = .function := I.ok.kind
  have hi : interactive X.env = false := by
    unfold interactive
    simp [hk]
  refine PySem.ks_wpAt_Expr_any ?_ hi rfl
  refine PySem.ks_wpAt_MethodCall (pl := (do return (← importBound (.Call (.Name "super" p0) [] [] p1) X.env).getD true)) ?_ (meth_form hpos)
  refine PySem.ks_wpAt_super_base (f := fI) (cc := cda) (fd := PySem.W.fnX "__init__" qual params body scope [("__class__", cc)] .none .none doc pm none (.ref cda) ct) (by rw [henv]; exact hks) (by rw [henv]; exact hkc) (by decide) (by rw [henv]) (I.kIn _ _ lk) rfl hp (by rw [henv]) (I.kIn _ _ hcda) rfl hvs1 hfile htop ?_
  refine PySem.W.ks_loadName_global hk (by rw [henv]; exact hks) (Calls.loadGlobal_builtin (by rw [I.ok.glob]; exact I.mod.glob.keeps I.bk) hm (by rw [I.ok.blt]; exact hmb1.keeps I.bk) ((hmb2 "super" (by decide)).trans (show bootBuiltins "super" = some (.type "super") by decide +kernel)) ⟨rfl, ?_⟩)
  refine wpAny_loadName_free hk (by rw [henv]; exact hkc) (c := cc) (v := .ref C) (by rw [henv] <;> rfl) ⟨_, I.kIn _ _ hcell, rfl⟩ ?_
  have hv : Vis X.env.scope self := .inl (by rw [henv]; exact hks2)
  obtain ⟨u, ru, lu⟩ := hl 0 self (.ref a) hN hs0 hv
  obtain rfl : u = Value.ref a := ru
  have lu : m self = some (.ref a) := by
    rcases lu with ⟨_, z⟩ | ⟨z, _⟩
    · exact z
    · rcases z with z | z
      · have z' : X.env.scope.names.lookup self = some .cell := z
        rw [henv, show (PySem.W.envX qual scope L fI (.ref cda) [("__class__", cc)]).scope = scope from rfl, hks2] at z'; cases z'
      · have z' : X.env.scope.names.lookup self = some .free := z
        rw [henv, show (PySem.W.envX qual scope L fI (.ref cda) [("__class__", cc)]).scope = scope from rfl, hks2] at z'; cases z'
  rw [har]
  refine wpAny_loadName_local hk (by rw [henv]; exact hks2) hn lu ?_
  have hxo := exo_at I.hok he
  obtain ⟨t1, hxo⟩ := hxo
  obtain ⟨hp', g, d, t, os⟩ := s
  refine PySem.ks_wpAny_isType_cls (I.kIn _ _ hC) rfl ⟨rfl, ?_⟩
  refine PySem.ks_wpAny_call_super (I.kIn _ _ hC) rfl hxo rfl (fun c z => by cases z) (PySem.W.looks_mroIn I.kIn Z.self) (fun h1 hso k1 => ?_)
  have I1 : Inv X pins σ H ⟨h1, g, d, t, os⟩ := I.kept (t' := t) k1
  obtain ⟨t2, hxo1⟩ := exo_at I1.hok he
  have hInst : PySem.W.InstAt h1 a _ C none := ⟨hxo1, rfl, rfl, trivial⟩
  have hsup := Z.sup
  unfold PySem.W.ks_superIn at hsup
  rw [hcl] at hsup
  refine PySem.W.kxs_getMethod PySem.W.kxs_ValueError hso (PySem.W.looks_opaque I1.kIn Z.any) (l₀ := .ref C :: bm) (fun A Q E s k q => wpAny_bind ((PySem.W.looks_clsIn I1.kIn hcl) A _ E s k (wpAny_pure q))) rfl I1.kIn hsup (hInst.type.andThen (PySem.W.looks_subIn I1.kIn Z.ve)) (PySem.W.ks_ne I1.kIn hInst hcl) (by decide) ?_
  have hbw : (h1.push (PySem.W.kxs_mw "ValueError.__init__" a)).get? h1.objs.size = some (PySem.W.kxs_mw "ValueError.__init__" a) := Heap.get?_push_at rfl rfl
  have I2 : Inv X pins σ H ⟨h1.push (PySem.W.kxs_mw "ValueError.__init__" a), g, d, t + 1, os⟩ := I1.kept (t' := t + 1) fun b o e => Heap.get?_push_of_some _ e
  dsimp only
  refine PySem.W.kxs_callWith (i := "ValueError.__init__") (x := a) rfl (Calls.evalArgs_plain (rest := []) (Calls.spliced_cons (Calls.Constant_str (pos := p3) (k := j) (Calls.spliced_nil ⟨hbw, ?_⟩))))
  have I3 : Inv X pins σ H ⟨h1.push (PySem.W.kxs_mw "ValueError.__init__" a), g, d, t + 1 + 1, os⟩ := I2.tok _
  obtain ⟨t3, hx3⟩ := exo_at I3.hok he
  refine call_mw (dv := none) (t0 := t3) (I3.kIn _ _ hC) hx3 hbw (by rw [List.nil_append, List.length_singleton, sizeLine_eq]; omega) fun h4 t4 k4 hx4 => ?_
  have J := I3.write (t' := t + 1 + 1) (x := a) (e := a) (o := exo a C none) (by rw [he]; exact True.intro) (.inl rfl) k4 ⟨_, hx4⟩ (exo_ok hx4)
  have eu : upd H a (exo a C none) = H := by
    funext b
    by_cases hb : b = a
    · rw [hb, upd_same, he]
    · rw [upd_ne hb]
  rw [eu] at J
  exact h _ J
end
/-! ### the stores behind it -/
/-- self.f = x, one behind another; x at its slot -/
def StoreAt (N : List Str) (sc : Scope) (self : Str) : List Stmt → List (Str × Nat) → Prop
  | [], [] => True
  | .Assign [.Attribute (.Name y _) f _] (.Name x _) _ :: r, (f', i) :: l => y = self ∧ f = f' ∧ N[i]? = some x ∧ sc.names.lookup x = some .local ∧ (x == ("__debug__" : Str)) = false ∧ (x == ("__classdict__" : Str)) = false ∧ StoreAt N sc self r l
  | _, _ => False
def tStores (K : PySem.W.Frag) : List (Str × Nat) → TS
  | [] => tNext
  | (f, i) :: l => tSeq (tOst K f (tVar 0) (tVar i)) (tStores K l)
theorem pss_stores {X : Cx} {self : Str} (h0 : X.N[0]? = some self) (hv : X.env.scope.names.lookup self = some .local) (hd : (self == ("__debug__" : Str)) = false) (hc : (self == ("__classdict__" : Str)) = false) :
    ∀ (sts : List Stmt) (l : List (Str × Nat)), StoreAt X.N X.env.scope self sts l → PSs X sts (tStores X.K l)
  | [], [], _ => pss_nil
  | st :: r, [], h => by
    unfold StoreAt at h
    split at h <;> first | exact h.elim | (rename_i e; cases e) | skip
    all_goals first | exact h.elim | skip
    all_goals simp_all
  | [], p :: l, h => by
    unfold StoreAt at h
    exact h.elim
  | st :: r, (f, i) :: l, h => by
    unfold StoreAt at h
    split at h
    · rename_i e _; cases e
    · rename_i y p1 f1 p2 x p3 p4 r' f' i' l' e1 e2
      cases e1; cases e2
      obtain ⟨rfl, rfl, h1, h2, h3, h4, h5⟩ := h
      exact pss_cons (ps_ost (pe_var h0 (.inl hv) hd hc) (pe_var h1 (.inl h2) h3 h4) rfl) (pss_stores h0 hv hd hc r l h5)
    · exact h.elim
/-- what they leave, once there is a dict -/
theorem stores_go {K : PySem.W.Frag} {a C dx : Addr} {σ : L2.St} (T : OexC K C) (h0 : σ[0]? = some (some (.ref a))) : ∀ (l : List (Str × Nat)) (ys : List V) (H : Hp) (fs : List (Str × V)) (D : Ends), H a = some (exo a C (some dx)) → H dx = some (exd dx fs) → dx ≠ a → fs.length + l.length ≤ 900 →
    (∀ p ∈ l, PySem.W.findIn K (.ref C) p.1 = some none) → l.map (fun p => σ[p.2]?) = ys.map (fun y => some (some y)) →
    (∀ H2 fs', H2 a = some (exo a C (some dx)) → H2 dx = some (exd dx fs') → fs' = ((l.map (·.1)).zip ys).reverse ++ fs → (∀ b, b ≠ dx → H2 b = H b) → D.nx σ H2) → tStores K l D σ H
  | [], ys, H, fs, D, ea, ed, ne, hl, hf, hv, hD => hD H fs ea ed (by simp) (fun _ _ => rfl)
  | (f, i) :: l, [], H, fs, D, ea, ed, ne, hl, hf, hv, hD => by cases hv
  | (f, i) :: l, y :: ys, H, fs, D, ea, ed, ne, hl, hf, hv, hD => by
    rw [List.map_cons, List.map_cons] at hv
    obtain ⟨hy, hv⟩ := List.cons.inj hv
    refine ⟨y, hy, .ref a, h0, a, C, rfl, T, hf (f, i) List.mem_cons_self, .inr ⟨dx, fs, ea, ed, by simp at hl; omega, ?_⟩⟩
    refine stores_go T h0 l ys _ ((f, y) :: fs) D (by rw [upd_ne (Ne.symm ne)]; exact ea) upd_same ne (by simp at hl ⊢; omega) (fun p hp => hf p (List.mem_cons_of_mem _ hp)) hv fun H2 fs' e1 e2 e3 e4 => ?_
    refine hD H2 fs' e1 e2 (by rw [e3]; simp) fun b hb => ?_
    rw [e4 b hb, upd_ne hb]
def fldsOf {a : Type} (fns : List Str) (xs : List a) : List (Str × a) := (fns.zip xs).reverse
theorem stores_start {K : PySem.W.Frag} {a C : Addr} {σ : L2.St} (T : OexC K C) (h0 : σ[0]? = some (some (.ref a))) (l : List (Str × Nat)) (ys : List V) (H : Hp) (D : Ends) (ea : H a = some (exo a C none)) (hl : l.length ≤ 800)
    (hf : ∀ p ∈ l, PySem.W.findIn K (.ref C) p.1 = some none) (hv : l.map (fun p => σ[p.2]?) = ys.map (fun y => some (some y))) (h1 : l = [] → D.nx σ H)
    (h2 : l ≠ [] → ∀ dx H2, H dx = none → dx ≠ a → H2 a = some (exo a C (some dx)) → H2 dx = some (exd dx (fldsOf (l.map (·.1)) ys)) → (∀ b, b ≠ a → b ≠ dx → H2 b = H b) → D.nx σ H2) : tStores K l D σ H := by
  cases l with
  | nil => exact h1 rfl
  | cons p l =>
    obtain ⟨f, i⟩ := p
    cases ys with
    | nil => cases hv
    | cons y ys =>
      rw [List.map_cons, List.map_cons] at hv
      obtain ⟨hy, hv⟩ := List.cons.inj hv
      refine ⟨y, hy, .ref a, h0, a, C, rfl, T, hf (f, i) List.mem_cons_self, .inl ⟨ea, fun dx n ne => ?_⟩⟩
      refine stores_go T h0 l ys _ [(f, y)] D upd_same (by rw [upd_ne ne]; exact upd_same) ne (by simp at hl ⊢; omega) (fun p hp => hf p (List.mem_cons_of_mem _ hp)) hv fun H2 fs' e1 e2 e3 e4 => ?_
      refine h2 (by simp) dx H2 n ne e1 (by rw [e2, e3]; simp [fldsOf]) fun b hb hb2 => ?_
      rw [e4 b hb2, upd_ne hb, upd_ne hb2]
/-- an own exception class over ValueError, its __init__ storing its parameters -/
def XcO (P : Program) (K : PySem.W.Frag) (C fI : Addr) (fd : FuncData) (ps fns : List Str) : Prop :=
  ∃ (cc cda : Addr) (qual : Str) (params : Arguments) (args : List Arg) (sts : List Stmt) (scope : Scope) (self : Str) (ar : Arg) (l : List (Str × Nat)) (p0 p1 p2 p3 p4 p5 : Pos) (msg : Str) (j : Nat) (oc : Value) (od : Option Addr) (doc pm ct : Value) (osl : Array (Option Value)),
    XcK P K C fI cc cda qual params (.Expr (.Call (.Attribute (.Call (.Name "super" p0) [] [] p1) "__init__" p2) [.Constant (.str msg) j p3] [] p4) p5 :: sts) scope ∧
    fd = PySem.W.fnX "__init__" qual params (.Expr (.Call (.Attribute (.Call (.Name "super" p0) [] [] p1) "__init__" p2) [.Constant (.str msg) j p3] [] p4) p5 :: sts) scope [("__class__", cc)] .none .none doc pm none (.ref cda) ct ∧
    K.lookup fI = some ⟨oc, od, .func fd, osl⟩ ∧ params = ⟨[], args, none, [], [], none, []⟩ ∧ args.map (·.arg) = ps ∧
    ps ≠ [] ∧ ps[0]? = some self ∧ NdefX.NScope (ps ++ [("__class__" : Str)]) ps ["__class__"] scope ∧ (params.posonlyargs ++ params.args).head? = some ar ∧ ar.arg = self ∧ scope.names.lookup ("super" : Str) = some .globalImplicit ∧ scope.names.lookup ("__class__" : Str) = some .free ∧
    scope.names.lookup self = some .local ∧ (self == ("__debug__" : Str)) = false ∧ (self == ("__classdict__" : Str)) = false ∧ (P.main.scope.names.lookup ("super" : Str)).isSome = false ∧ (p2.endLine == p4.line) = true ∧
    StoreAt (ps ++ [("__class__" : Str)]) scope self sts l ∧ l.map (·.1) = fns ∧ l.map (·.2) = (List.range l.length).map (· + 1) ∧ ps.length = l.length + 1 ∧ l.length ≤ 800 ∧ (∀ p ∈ l, PySem.W.findIn K (.ref C) p.1 = some none)
def spInit (C : Addr) (fns : List Str) : Sp := fun vs H Q _ => ∃ (a : Addr) (ws : List V), vs = .ref a :: ws ∧ ws.length = fns.length ∧ H a = some (exo a C none) ∧ (fns = [] → Q .non H) ∧
  (fns ≠ [] → ∀ dx H2, H dx = none → dx ≠ a → H2 a = some (exo a C (some dx)) → H2 dx = some (exd dx (fldsOf fns ws)) → (∀ b, b ≠ a → b ≠ dx → H2 b = H b) → Q .non H2)
theorem XcO.fnok {P : Program} {w : World} {K : PySem.W.Frag} {mg : Str → Option Value} {base : Heap} {C fI : Addr} {fd : FuncData} {ps fns : List Str} {k : Nat} (Z : XcO P K C fI fd ps fns) (hm : mg "super" = none) (hb : Binds K fd ps []) :
    FnOk P w K mg base (L2.CX P w) (k + 1) fI fd ps (spInit C fns) := by
  obtain ⟨cc, cda, qual, params, args0, sts, scope, self, ar, l, p0, p1, p2, p3, p4, p5, msg, j, oc, od, doc, pm, ct, osl, XK, rfl, lk, _, _, hne, h0, S, hp, har, hks, hkc, hks2, hds, hcs, htop, hpos, hst, hl1, hl2, hlen, h800, hfi⟩ := Z
  have hln : ps.length = fns.length + 1 := by rw [← hl1, List.length_map]; exact hlen
  refine ⟨fun vs H Q E ⟨a, ws, e, hw, _⟩ => by rw [e, hln, List.length_cons, hw], fun A outer s H args us vs Q E hr e0 hbi r1 hsp => ?_⟩
  obtain ⟨a, ws, rfl, hw, ea, q0, q1⟩ := hsp
  have KX : K.In s.heap := e0.mod.kin.keeps fun b o e => (e0.bs b o e).1
  have lim : s.heap.NoLimit := e0.mod.nolimit.keeps fun b o e => (e0.bs b o e).1
  obtain ⟨c0, d0, sl0, hcell⟩ := XK.cell
  have hcn : H cc = none := (e0.bs cc _ (e0.mod.kin _ _ hcell)).2
  refine PySem.ks_codeAny_call_defAt hr.depth (KX _ _ lk) rfl lim (PySem.W.codeRec_of KX XK.hc) rfl hbi S.nocell (fun ⟨n, _⟩ hy => S.par n (List.of_mem_zip hy).1) (fun h1 hns kp => ?_) S.co S.gen S.kind
  have I : Inv (NdefX.ncx (L2.CX P w) P w K mg base (ps ++ [("__class__" : Str)]) ⟨"__init__", qual, params, .Expr (.Call (.Attribute (.Call (.Name "super" p0) [] [] p1) "__init__" p2) [.Constant (.str msg) j p3] [] p4) p5 :: sts, scope, [("__class__", cc)], cda⟩ fI A outer s H E) []
      (NdefX.startF (ps ++ [("__class__" : Str)]) (V.ref a :: ws) ([V.ref C].map some)) H { s with heap := h1, toks := s.toks + (ps.zip us).length } := by
    refine NdefX.inv_startN S hr.hd e0 (by rw [hln, List.length_cons, hw]) r1 ⟨rfl, fun y c e => ?_, fun x y c e1 e2 => ?_, fun i y e => ?_⟩ hns kp
    · have e : (match y == ("__class__" : Str) with | true => some cc | false => none) = some c := e
      split at e
      · cases e
        exact ⟨hcn, _, ⟨_, KX _ _ hcell, rfl⟩⟩
      · cases e
    · have f : ∀ {z : Str}, List.lookup z [(("__class__" : Str), cc)] = some c → z = "__class__" := fun {z} e => by
        rw [List.lookup_cons] at e
        cases q : z == ("__class__" : Str) with
        | true => exact beq_iff_eq.mp q
        | false => rw [q] at e; cases e
      rw [f e1, f e2]
    · cases i with
      | zero =>
        cases e
        refine ⟨cc, by rw [List.lookup_cons]; simp, fun v ev => ?_⟩
        cases ev
        exact ⟨.ref C, rfl, _, KX _ _ hcell, rfl⟩
      | succ i => simp at e
  rw [startF_some] at I
  refine PySem.ks_wpAt_execs_cons ?_
  refine super_stmt (X := NdefX.ncx (L2.CX P w) P w K mg base (ps ++ [("__class__" : Str)]) ⟨"__init__", qual, params, .Expr (.Call (.Attribute (.Call (.Name "super" p0) [] [] p1) "__init__" p2) [.Constant (.str msg) j p3] [] p4) p5 :: sts, scope, [("__class__", cc)], cda⟩ fI A outer s H E) XK (L := s.heap.objs.size) rfl hp har hks hkc hks2 (by show (ps ++ [("__class__" : Str)])[0]? = _; rw [List.getElem?_append_left (by omega)]; exact h0) hds hcs htop hm (a := a) (by unfold L2.start; rfl) ea hpos I fun s2 I2 => ?_
  refine wpAt_of_wpAny ?_
  refine wpAny_mono ((pss_stores (X := NdefX.ncx (L2.CX P w) P w K mg base (ps ++ [("__class__" : Str)]) ⟨"__init__", qual, params, .Expr (.Call (.Attribute (.Call (.Name "super" p0) [] [] p1) "__init__" p2) [.Constant (.str msg) j p3] [] p4) p5 :: sts, scope, [("__class__", cc)], cda⟩ fI A outer s H E) (by show (ps ++ [("__class__" : Str)])[0]? = _; rw [List.getElem?_append_left (by omega)]; exact h0) hks2 hds hcs sts l hst).run [] s2 _ H { nx := fun _ H' => Q .non H', rt := Q } I2 (stores_start XK.T (a := a) (by unfold L2.start; rfl) l ws H _ ea h800 hfi ?_ (fun e => q0 (by rw [← hl1, e] <;> rfl)) fun e dx H2 n ne e1 e2 e3 => q1 (by rw [← hl1]; intro z; exact e (List.map_eq_nil_iff.mp z)) dx H2 n ne e1 (by rw [← hl1]; exact e2) e3)) (fun fl s' hs => ?_) fun e s' hs => hs
  · have hwl : ws.length = l.length := by rw [hw, ← hl1, List.length_map]
    apply List.ext_getElem?
    intro i
    rw [List.getElem?_map, List.getElem?_map]
    have h3 : (l.map (·.2))[i]? = ((List.range l.length).map (· + 1))[i]? := by rw [hl2]
    rw [List.getElem?_map, List.getElem?_map] at h3
    by_cases hi : i < l.length
    · rw [List.getElem?_eq_getElem hi, List.getElem?_range hi] at h3
      simp only [Option.map_some, Option.some.injEq] at h3
      rw [List.getElem?_eq_getElem hi, List.getElem?_eq_getElem (by omega : i < ws.length)]
      simp only [Option.map_some]
      rw [h3]
      congr 1
      unfold L2.start
      rw [List.getElem?_append_left (by simp; omega), List.getElem?_map, List.cons_append, List.getElem?_cons_succ, List.getElem?_append_left (by omega), List.getElem?_eq_getElem (by omega : i < ws.length)]
      rfl
    · rw [List.getElem?_eq_none (by omega), List.getElem?_eq_none (by omega)]
      rfl
  · have fin : ∀ {σ' : L2.St} {H' : Hp} {v : V} {u : Value}, Inv (NdefX.ncx (L2.CX P w) P w K mg base (ps ++ [("__class__" : Str)]) ⟨"__init__", qual, params, .Expr (.Call (.Attribute (.Call (.Name "super" p0) [] [] p1) "__init__" p2) [.Constant (.str msg) j p3] [] p4) p5 :: sts, scope, [("__class__", cc)], cda⟩ fI A outer s H E) [] σ' H' s' → RelV v u → Q v H' → CE outer P w H s Q u s' :=
      fun {σ' H' v u} J rv q => ⟨v, H', J.os, J.bare, J.base, J.hok, rv, q⟩
    cases fl with
    | ret u =>
      obtain ⟨v, σ', H', J, rv, q⟩ := hs
      exact fin J rv q
    | next =>
      obtain ⟨σ', H', J, q⟩ := hs
      exact fin (v := V.non) (u := Value.none) J rfl q
    | brk =>
      obtain ⟨_, _, _, q⟩ := hs
      exact False.elim q
    | cont =>
      obtain ⟨_, _, _, q⟩ := hs
      exact False.elim q
/-- how the arguments are bound -/
def BindEq (ps : List Str) : Prop := ∀ {name qual : Str} {args : List Arg} {body : List Stmt} {scope : Scope} {cl : List (Str × Addr)} {doc pm cdv ct : Value} {an : Option Addr} {us : List Value}, args.map (·.arg) = ps → us.length = ps.length →
    bindArgs (PySem.W.fnX name qual ⟨[], args, none, [], [], none, []⟩ body scope cl .none .none doc pm an cdv ct) ⟨us, []⟩ = pure (ps.zip us)
theorem bind_self : BindEq [("self" : Str)] := fun h hl => by
  rename_i name qual args body scope cl doc pm cdv ct an us
  match args, h, us, hl with
  | [⟨x0, a0, p0⟩], h, [u0], _ =>
    simp only [List.map_cons, List.map_nil, List.cons.injEq, and_true] at h
    obtain rfl := h
    rfl
theorem bind_self_part_place : BindEq [("self" : Str), ("part" : Str), ("place" : Str)] := fun h hl => by
  rename_i name qual args body scope cl doc pm cdv ct an us
  match args, h, us, hl with
  | [⟨x0, a0, p0⟩, ⟨x1, a1, p1⟩, ⟨x2, a2, p2⟩], h, [u0, u1, u2], _ =>
    simp only [List.map_cons, List.map_nil, List.cons.injEq, and_true] at h
    obtain ⟨rfl, rfl, rfl⟩ := h
    rfl
theorem bind_self_value : BindEq [("self" : Str), ("value" : Str)] := fun h hl => by
  rename_i name qual args body scope cl doc pm cdv ct an us
  match args, h, us, hl with
  | [⟨x0, a0, p0⟩, ⟨x1, a1, p1⟩], h, [u0, u1], _ =>
    simp only [List.map_cons, List.map_nil, List.cons.injEq, and_true] at h
    obtain ⟨rfl, rfl⟩ := h
    rfl
theorem bind_self_name : BindEq [("self" : Str), ("name" : Str)] := fun h hl => by
  rename_i name qual args body scope cl doc pm cdv ct an us
  match args, h, us, hl with
  | [⟨x0, a0, p0⟩, ⟨x1, a1, p1⟩], h, [u0, u1], _ =>
    simp only [List.map_cons, List.map_nil, List.cons.injEq, and_true] at h
    obtain ⟨rfl, rfl⟩ := h
    rfl
theorem bind_self_place : BindEq [("self" : Str), ("place" : Str)] := fun h hl => by
  rename_i name qual args body scope cl doc pm cdv ct an us
  match args, h, us, hl with
  | [⟨x0, a0, p0⟩, ⟨x1, a1, p1⟩], h, [u0, u1], _ =>
    simp only [List.map_cons, List.map_nil, List.cons.injEq, and_true] at h
    obtain ⟨rfl, rfl⟩ := h
    rfl
theorem bind_self_limit : BindEq [("self" : Str), ("limit" : Str)] := fun h hl => by
  rename_i name qual args body scope cl doc pm cdv ct an us
  match args, h, us, hl with
  | [⟨x0, a0, p0⟩, ⟨x1, a1, p1⟩], h, [u0, u1], _ =>
    simp only [List.map_cons, List.map_nil, List.cons.injEq, and_true] at h
    obtain ⟨rfl, rfl⟩ := h
    rfl
theorem bind_self_line : BindEq [("self" : Str), ("line" : Str)] := fun h hl => by
  rename_i name qual args body scope cl doc pm cdv ct an us
  match args, h, us, hl with
  | [⟨x0, a0, p0⟩, ⟨x1, a1, p1⟩], h, [u0, u1], _ =>
    simp only [List.map_cons, List.map_nil, List.cons.injEq, and_true] at h
    obtain ⟨rfl, rfl⟩ := h
    rfl
theorem XcO.binds {P : Program} {K : PySem.W.Frag} {C fI : Addr} {fd : FuncData} {ps fns : List Str} (Z : XcO P K C fI fd ps fns) (hb : BindEq ps) : Binds K fd ps [] := by
  obtain ⟨cc, cda, qual, params, args, sts, scope, self, ar, l, p0, p1, p2, p3, p4, p5, msg, j, oc, od, doc, pm, ct, osl, XK, rfl, lk, rfl, ha, _⟩ := Z
  intro s us _ hl
  rw [List.append_nil] at hl ⊢
  exact BindsTo.of_eq (hb ha hl)
/-! ### raise C(e, ..) -/
theorem repFs_zip {r : RP} {m : List Addr} {H : Hp} : ∀ {fns : List Str} {xs : List G} {vs : List V}, RepVs r m H xs vs → RepFs r m H (fns.zip xs) (fns.zip vs)
  | [], _, _, _ => by rw [List.zip_nil_left, List.zip_nil_left]; exact .nil
  | _ :: _, _, _, .nil => .nil
  | f :: fns, _, _, .cons a b => .cons a (repFs_zip b)
theorem RepFs.append {r : RP} {m : List Addr} {H : Hp} : ∀ {fs fs2 : List (Str × G)} {vs vs2 : List (Str × V)}, RepFs r m H fs vs → RepFs r m H fs2 vs2 → RepFs r m H (fs ++ fs2) (vs ++ vs2)
  | _, _, _, _, .nil, t => t
  | _, _, _, _, .cons a b, t => .cons a (RepFs.append b t)
theorem RepFs.reverse {r : RP} {m : List Addr} {H : Hp} {fs : List (Str × G)} {vs : List (Str × V)} (t : RepFs r m H fs vs) : RepFs r m H fs.reverse vs.reverse := by
  induction fs generalizing vs with
  | nil => cases t; exact .nil
  | cons g gs ih =>
    cases t with
    | cons a b =>
      rw [List.reverse_cons, List.reverse_cons]
      exact (ih b).append (.cons a .nil)
def sRaise (c : Str) (fns : List Str) (a : As) : StM := fun l S => sr l (a l S) fun xs S => if xs.length = fns.length then .exc c (fldsOf fns xs) l S else .bad
/-- an exception class that may be made -/
structure XcC (M : Md) (x : Str) (fns : List Str) : Prop where
  ex : ∃ (C fI : Addr) (fd : FuncData) (ps : List Str), M.mg x = some (.ref C) ∧ XcO M.P M.K C fI fd ps fns ∧ BindEq ps
  sup : M.mg "super" = none
theorem upd_del {H1 H2 : Hp} {a d : Addr} {u : HO} (na : H1 a = none) (h : ∀ b, b ≠ a → b ≠ d → H2 b = H1 b) : upd (del H2 a) d u = upd H1 d u := by
  funext b
  by_cases hb : b = d
  · rw [hb, upd_same, upd_same]
  · rw [upd_ne hb, upd_ne hb]
    by_cases hba : b = a
    · rw [hba, del_same, na]
    · rw [del_ne hba, h b hba hb]
section
variable {M : Md} {r : RP} {W : WX} {X : Cx} {x : Str} {p pos pos' : Pos} {e : Expr} {es : List Expr} {fs : As} {fns : List Str}
theorem pmk_x (Z : XcC M x fns) (hX : M.of X) (hfn : fns ≠ []) (tk : Takes X W) (hr : Room 2 X.A) (hg : Gl X x) (ha : PA X (e :: es) (tFA r M.T W fs)) (hdb : (x == ("__debug__" : Str)) = false)
    (he : starEach (e :: es) X.env = (false, eval e X.env) :: starEach es X.env) (hpl : (backTo pos (starEach es X.env)).any (·.1) = false) :
    ∃ C, M.mg x = some (.ref C) ∧ PMk X (.Call (.Name x p) (e :: es) [] pos) (fun σ H Q => tFA r M.T W fs σ H fun vs H1 => vs.length = fns.length ∧ vs.length ≤ 1000 ∧ ∀ d, H1 d = none → Q (.ref C) (some d) (upd H1 d (.xd (fldsOf fns vs)))) := by
  obtain ⟨x1, x2, x3, x4, x5⟩ := id hX
  obtain ⟨C, fI, fd, ps, hC, Z1, hb⟩ := Z.ex
  have B := Z1.binds hb
  have F1 := Z1.fnok (w := X.w) (mg := M.mg) (base := M.base) (k := 0) Z.sup B
  obtain ⟨cc, cda, qual, params, args, sts, scope, self, ar, l, p0, p1, p2, p3, p4, p5, msg, j, oc, od, doc, pm, ct, osl, XK, e1, lk, _⟩ := id Z1
  refine ⟨C, hC, fun pins s σ H Q I h => ?_⟩
  refine pmk_oex (X := X) (CX := L2.CX X.prog X.w) (C := C) (fI := fI) (k := 1) (fd := fd) (ps := ps) (sp := spInit C fns) (ds := []) (dvs := []) (by rw [x3]; exact XK.T) (by rw [x3]; exact XK.iC) (by rw [x3]; exact XK.tI) (by rw [x1, x3, x4, x5]; exact F1) hr (by rw [x3]; exact B) .nil
    (passes_call tk (E := fun _ _ _ => False) (fun _ _ _ _ z => z.elim)) hg (by rw [x4]; exact hC) ha hdb he hpl pins s σ H Q I ?_
  refine mono_tFA h fun vs H1 ⟨h1, h2, h3⟩ => ⟨h2, fun a na => ⟨a, vs, by rw [List.append_nil], h1, upd_same, fun z => absurd z hfn, fun _ dx H2 n ne e1 e2 e3 => ⟨rfl, dx, fldsOf fns vs, e1, e2, ?_, ?_⟩⟩⟩
  · rwa [upd_ne ne] at n
  · rw [upd_ne ne] at n
    rw [upd_del na fun b hb hd => by rw [e3 b hb hd, upd_ne hb]]
    exact h3 dx n
theorem g_raise {pos2 : Pos} (c : Ctx r M.T W X) (Z : XcC M x fns) (hX : M.of X) (hM : M.is r) (hfn : fns ≠ []) (h9 : fns.length ≤ 900) (hr : Room 2 X.A) (hg : Gl X x) (ha : PA X (e :: es) (tFA r M.T W fs)) (hdb : (x == ("__debug__" : Str)) = false)
    (he : starEach (e :: es) X.env = (false, eval e X.env) :: starEach es X.env) (hpl : (backTo pos (starEach es X.env)).any (·.1) = false) :
    PS X (.Raise (some (.Call (.Name x p) (e :: es) [] pos)) none pos2) (tSF r M.T W (sRaise x fns fs)) := by
  obtain ⟨C, hC, hmk⟩ := pmk_x (p := p) (pos := pos) Z hX hfn c.tk hr hg ha hdb he hpl
  refine PS_imp (ps_raise c.calm c.tk hmk) fun D s H ⟨m, S, l, hR, hL, q⟩ => ?_
  refine mono_tFA (stSA hR hL q) fun vs H1 ⟨m1, S1, xs, ex, hR1, hL1, h1, q1⟩ => ?_
  split at q1
  · rename_i hl
    have hlv := h1.length
    refine ⟨by omega, by omega, fun d nd => ?_⟩
    exact q1 m1 _ s C (some d) (Ext.new nd _) (hR1.fresh nd _) (hL1.ext (Ext.new nd _)) (by rw [hM.2.1]; exact hC) (.some (hR1.notIn nd) upd_same ((repFs_zip (h1.ext (Ext.new nd _))).reverse))
  · exact False.elim q1
end
end GL

end

section
set_option Elab.async false
set_option linter.all false
set_option maxRecDepth 100000
set_option maxHeartbeats 4000000
/-! GL: == of instances whose class tells it. -/
namespace GL
open PySem PySem.Spec PyProof.Rows L2
structure EqCls (K : PySem.W.Frag) (C f : Addr) : Prop where
  at_ : PySem.W.findIn K (.ref C) "__eq__" = some (some (.ref f))
  fn : PySem.W.isFn K (.ref f) = true
  tup : PySem.W.notFirst K C (.type "tuple") = true
  self : PySem.W.notFirst K C (.ref C) = true
structure CalE (M : Md) (k : Nat) (c : Str) (cl : List G → Sto → R G) : Prop where
  ex : ∃ (C f : Addr) (fd : FuncData) (ps : List Str), M.mg c = some (.ref C) ∧ EqCls M.K C f ∧ Binds M.K fd ps [] ∧ GFn M k f fd ps (spG M 2 cl)
def isOf (c : Str) (S : Sto) : G → Bool
  | .ref n => (match S[n]? with
    | some (.ins d _) => decide (d = c)
    | _ => false)
  | _ => false
def isTup : G → Bool
  | .tup _ => true
  | _ => false
def eEqO (call : Calls) (c : Str) (a b : Ev) : Ev := fun l S => rb (a l S) fun x S => rb (b l S) fun y S => if isOf c S x = true ∧ (isTup y = true ∨ isOf c S y = true) then
  rb (call (.me c "__eq__") [x, y] S) fun g S => (match g with
    | .bl b => .ok (.bl b) S
    | _ => .bad) else .bad
section
variable {M : Md} {k : Nat} {r : RP} {W : WX} {X : Cx} {cn : Str} {p pos : Pos} {a b : Expr} {fa fb : Ev} {call : Calls} {m : List Addr} {H : Hp} {S : Sto}
theorem isOf_rep {g : G} {v : V} {C : Addr} (hR : Rep r M.T m S H) (h : RepV r m H g v) (e : isOf cn S g = true) (hC : r.mg cn = some (.ref C)) : ∃ a dx vs, v = .ref a ∧ H a = some (.ins C dx vs) := by
  cases h with
  | @ref n a hn =>
    have e : (match S[n]? with
      | some (.ins d _) => decide (d = cn)
      | _ => false) = true := e
    split at e
    · rename_i d fs hs
      have e := of_decide_eq_true e
      subst e
      obtain ⟨C', dx, vs, h1, h2, h3⟩ := hR.obj n a _ hn hs
      rw [hC] at h1
      cases h1
      exact ⟨a, dx, vs, rfl, h2⟩
    · cases e
  | _ => cases e
theorem op_gEqO (c : Ctx r M.T W X) (hX : M.of X) (hM : M.is r) (F : CalE M k cn (call (.me cn "__eq__"))) (hr : Room k X.A) {pins : List (Addr × Obj)} {s : Shared} {σ : L2.St} {x y : V} {g1 g2 : G} {v u : Value} {Q : VK}
    (I : Inv X pins σ H s) (rx : L2.RelV x v) (ry : L2.RelV y u) (hR : Rep r M.T m S H) (h1 : RepV r m H g1 x) (h2 : RepV r m H g2 y) (e1 : isOf cn S g1 = true) (e2 : isTup g2 = true ∨ isOf cn S g2 = true)
    (q : Pst r M.T W (RepV r) σ m H (rb (call (.me cn "__eq__") [g1, g2] S) fun g S => (match g with
      | .bl b => .ok (.bl b) S
      | _ => .bad)) Q) : wpAny (model X.prog X.w) X.A (compareOp .Eq v u) (EP X pins σ Q) X.xe s := by
  obtain ⟨C, f, fd, ps, f1, f2, f3, f4⟩ := F.ex
  obtain ⟨x1, x2, x3, x4, x5⟩ := id hX
  have hC : r.mg cn = some (.ref C) := by rw [hM.2.1]; exact f1
  obtain ⟨ax, dx, vx, rfl, hax⟩ := isOf_rep hR h1 e1 hC
  cases rx
  obtain ⟨mA, J, _⟩ := ins_get I.hok hax
  obtain ⟨od, J, _⟩ := J.look
  obtain ⟨mF, hF⟩ := I.fr
  show wpAny (model X.prog X.w) X.A (richCompare .Eq (.ref ax) u) (EP X pins σ Q) X.xe s
  have hsp : spG M 2 (call (.me cn "__eq__")) [.ref ax, y] H (fun v H' => ∃ b, v = .bl b ∧ Q (.bl b) H') (WE W σ) := by
    refine ⟨rfl, r, m, S, [g1, g2], hM, hR, .cons h1 (.cons h2 .nil), ?_⟩
    refine pst_wish (W := W) (s := σ) ?_
    revert q
    cases call (.me cn "__eq__") [g1, g2] S with
    | bad => exact id
    | exc c fs S => exact id
    | ok g S' =>
      intro q m2 H2 v ex hR2 hv
      cases g with
      | bl b => cases hv; exact ⟨b, rfl, q m2 H2 _ ex hR2 (.bl b)⟩
      | _ => exact False.elim q
  have go : wpAny (model X.prog X.w) X.A (PySem.call (.ref f) [.ref ax, u]) (PySem.W.CmpBack (EP X pins σ Q)) X.xe s := by
    refine wpAny_mono (run_g (vs := [.ref ax, y]) (E := WE W) hX f4 hr c.gu (by rw [x3]; exact f3) (passAt c.tk σ) I (.cons rfl (.cons ry .nil)) hsp) (fun v s' hq => ?_) fun _ _ e => e
    obtain ⟨z, H', I', rz, b, ez, q⟩ := hq
    subst ez
    cases rz
    exact ⟨.bl b, H', I', rfl, q⟩
  rcases e2 with e2 | e2
  · cases h2 with
    | @tup pp vs _ h z t =>
      obtain rfl : u = Value.ref pp := ry
      have ht : ∃ o, s.heap.get? pp = some o ∧ o.cls = .type "tuple" := by
        obtain ⟨its, rv, ⟨o, h1, h2, _⟩, _⟩ := I.tuple (by rw [c.K]; exact TupSq h)
        exact ⟨o, h1, h2⟩
      obtain ⟨o, ho, hc⟩ := ht
      refine PySem.W.cmp_K (op := .Eq) (tb := .type "tuple") (by have := c.un; omega) hF I.ok.mod.kin J (hc ▸ (PySem.W.Looks.ld ho).andThen .now) (by rw [x3]; exact f2.tup) (by rw [x3]; exact f2.at_) (by rw [x3]; exact f2.fn) go
    | _ => cases e2
  · obtain ⟨ay, dy, vy, rfl, hay⟩ := isOf_rep hR h2 e2 hC
    cases ry
    obtain ⟨mB, J', _⟩ := ins_get I.hok hay
    obtain ⟨od', J', _⟩ := J'.look
    exact PySem.W.cmp_K (op := .Eq) (tb := .ref C) (by have := c.un; omega) hF I.ok.mod.kin J J'.type (by rw [x3]; exact f2.self) (by rw [x3]; exact f2.at_) (by rw [x3]; exact f2.fn) go
theorem eqo_imp {s : L2.St} {H : Hp} {Q : VK} (h : tF r M.T W (eEqO call cn fa fb) s H Q) : tF r M.T W fa s H fun x H1 => tF r M.T W fb s H1 fun y H2 => ∃ m S g1 g2, Rep r M.T m S H2 ∧ RepV r m H2 g1 x ∧ RepV r m H2 g2 y ∧ isOf cn S g1 = true ∧ (isTup g2 = true ∨ isOf cn S g2 = true) ∧
    Pst r M.T W (RepV r) s m H2 (rb (call (.me cn "__eq__") [g1, g2] S) fun g S => (match g with
      | .bl b => .ok (.bl b) S
      | _ => .bad)) Q := by
  obtain ⟨m, S, l, hR, hL, q⟩ := h
  refine mono_tF (stE hR hL q) fun x H1 ⟨m1, S1, g, e, hR1, hL1, h1, q1⟩ => mono_tF (stE hR1 hL1 q1) fun y H2 ⟨m2, S2, g2, e2, hR2, hL2, h2, q2⟩ => ?_
  dsimp only at q2
  split at q2
  · rename_i hc
    exact ⟨m2, S2, g, g2, hR2, h1.ext e2, h2, hc.1, hc.2, q2⟩
  · exact False.elim q2
theorem g_eqo (c : Ctx r M.T W X) (hX : M.of X) (hM : M.is r) (F : CalE M k cn (call (.me cn "__eq__"))) (hr : Room k X.A) (ha : PE X a (tF r M.T W fa)) (hb : PE X b (tF r M.T W fb)) (hm : behindInMarks .Eq b = false) :
    PE X (.Compare a [.Eq] [b] pos) (tF r M.T W (eEqO call cn fa fb)) := by
  refine ⟨fun pins s σ H Q I h => ?_⟩
  exact wpAny_Compare1 (binT ha hb I (R := fun x y H2 => ∃ m S g1 g2, Rep r M.T m S H2 ∧ RepV r m H2 g1 x ∧ RepV r m H2 g2 y ∧ isOf cn S g1 = true ∧ (isTup g2 = true ∨ isOf cn S g2 = true) ∧
    Pst r M.T W (RepV r) σ m H2 (rb (call (.me cn "__eq__") [g1, g2] S) fun g S => (match g with
      | .bl b => .ok (.bl b) S
      | _ => .bad)) Q) (eqo_imp h) fun v u s2 x y H2 I2 rx ry ⟨m, S, g1, g2, hR, h1, h2, e1, e2, q⟩ => op_gEqO c hX hM F hr I2 rx ry hR h1 h2 e1 e2 q) hm
theorem g_teqo (c : Ctx r M.T W X) (hX : M.of X) (hM : M.is r) (F : CalE M k cn (call (.me cn "__eq__"))) (hr : Room k X.A) (ha : PE X a (tF r M.T W fa)) (hb : PE X b (tF r M.T W fb)) (hm : behindInMarks .Eq b = false) :
    PT X (.Compare a [.Eq] [b] pos) (tFT r M.T W (tV (eEqO call cn fa fb))) := by
  refine ⟨fun pins s σ H Q I h => ?_⟩
  have h := eqo_imp (tV_imp h)
  refine wpAny_isTrue_Compare1 (thn (ha.run pins s σ H _ I h) fun v s1 ⟨x, H1, I1, r1, q1⟩ => thn (hb.run pins s1 σ H1 _ I1 q1) fun u s2 ⟨y, H2, I2, r2, m, S, g1, g2, hR, h1, h2, e1, e2, q⟩ =>
    thn (op_gEqO c hX hM F hr I2 r1 r2 hR h1 h2 e1 e2 q) fun c s3 ⟨z, H3, I3, r3, k, e, q3⟩ => ?_) hm
  subst e
  cases r3
  exact wpAny_truthy_bool ⟨H3, I3, q3⟩
end
end GL

end

section
set_option Elab.async false
set_option linter.all false
set_option maxRecDepth 100000
set_option maxHeartbeats 4000000
/-! GL: while an exception is handled. -/
namespace PySem.W
open PySem PySem.Spec PySem.Calls PyProof.Rows
section
variable {prog : Program} {w : World} {A : Around} {E : Value → Shared → Prop} {s : Shared} {K : Frag} {x D : Addr} {ox : Obj} {od : Option Obj}
theorem findObj_dataD {C : Addr} {name : Str} {a g : Value} (hc : (clsIn K C).isSome = true) (ha : findIn K (.ref C) name = some (some a)) (hg : specialIn K a "__get__" = some (some g)) (ht : takesIn K a = some true) : findObj K C od name = some (.bind g a) := by
  obtain ⟨cd, hc⟩ := Option.isSome_iff_exists.mp hc
  unfold findObj
  rw [hc, Option.bind_some, ha, Option.bind_some]
  simp [hg, ht]
/-- e.__class__, whatever e's dict -/
theorem classE {Q : Option Value → Shared → Prop} (hga : findIn K (.ref D) "__getattribute__" = some (some (.builtin "BaseException.__getattribute__"))) (hgt : findIn K (.ref D) "__getattr__" = some none) (hsub : subIn K (.ref D) (.type "BaseException") = some true)
    (hdct : hasDictIn K D = true) (ha : findIn K (.ref D) "__class__" = some (some (.builtin "object.__class__")))
    (hn : specialIn K (.builtin "object.__class__") "__get__" = some (some (.builtin "getset_descriptor.__get__"))) (htk : takesIn K (.builtin "object.__class__") = some true) (hm : mroIn K D (.type "object") = some true)
    (X : K.In s.heap) (I : InstAt s.heap x ox D od) (h : Q (some (.ref D)) { s with toks := s.toks + 1 }) : wpAny (model prog w) A (getAttr? (.ref x) "__class__") Q E s := by
  have hf : findObj K D od "__class__" = some (.bind (.builtin "getset_descriptor.__get__") (.builtin "object.__class__")) := findObj_dataD (by obtain ⟨cd, hc, _⟩ := any_some hdct; rw [hc]; rfl) ha hn htk
  obtain ⟨hp, g, d, t, os⟩ := s
  have L0 := I.type (M := model prog w)
  have L1 := looks_findIn (M := model prog w) X hga
  have L2 := looks_findIn (M := model prog w) X hgt
  have L3 := looks_find (M := model prog w) X I hf
  have sub : Looks (model prog w) hp (isInstance (.ref x) (.type "BaseException")) true := L0.andThen (looks_subIn X hsub)
  have hx0 : (false && onTheHeap (Value.builtin "BaseException.__getattribute__")) = false := rfl
  have hx2 : (Value.builtin "BaseException.__getattribute__" == Value.builtin "object.__getattribute__") = false := by decide +kernel
  have hx1 : (onTheHeap (Value.ref D) && Value.builtin "BaseException.__getattribute__" == Value.builtin "object.__getattribute__") = false := by rw [hx2]; rfl
  unfold getAttr? getAttrBy? getAttrBy
  refine wpAny_bind (wpAny_mkText (wpAny_bind (wpAny_attempt (wpAny_holding (wpAny_bind (L0.at (wpAny_bind (L1.at ?_))))))))
  show wpAny _ _ (if (onTheHeap (Value.ref D) && Value.builtin "BaseException.__getattribute__" == Value.builtin "object.__getattribute__") = true then _ else _) _ _ _
  rw [hx1, if_neg Bool.false_ne_true]
  unfold getAttrByItsOwn hookBefore
  refine wpAny_bind ?_
  rw [if_pos (show onTheHeap (Value.ref D) = true from rfl)]
  refine L2.at ?_
  refine wpAny_bind (wpAny_attempt (wpAny_holding ?_))
  unfold callGetattribute
  rw [hx0, if_neg Bool.false_ne_true]
  unfold boundAndCalled
  rw [PySem.F.excAttr_ValueError.ga.bind (.ref x)]
  refine wpAny_bind (wpAny_pure ?_)
  show wpAny _ _ (call (.builtin "BaseException.__getattribute__") [.ref x, .str "__class__" t]) _ _ _
  refine wpAny_call (codeAny_call_builtin PySem.F.excAttr_ValueError.ga.plain PySem.F.entry_bexc_ga ?_)
  refine @check_slot (model prog w) _ _ ⟨hp, g, d, t + 1, os⟩ "BaseException.__getattribute__" "BaseException" "__getattribute__" (.ref x) [.str "__class__" t] [] _ (by decide +kernel) (by decide +kernel) sub (PySem.F.args_bexc_ga (.ref x) (.str "__class__" t)) ?_
  unfold Builtin.«object.__getattribute__»
  refine wpAny_bind (wpAny_of_eq (a := ((Value.ref x : Value), [Value.str "__class__" t])) (by first | rfl | (simp only [slotArgs]; rfl)) ?_)
  refine wpAny_bind (wpAny_pure (wpAny_bind (L0.at (wpAny_bind (L3.at ?_)))))
  show wpAny _ _ (holding [Value.builtin "object.__class__"] (call (.builtin "getset_descriptor.__get__") [.builtin "object.__class__", .ref x, .ref D]) >>= ret) _ _ _
  refine wpAny_bind (wpAny_holding (wpAny_call (class_get (s := ⟨hp, g, d, t + 1, os⟩) (ox := ox) (od := od) X I hm ?_)))
  refine wpAny_pure ?_
  show wpAny _ _ (handedOut (.ref D)) _ _ _
  rw [handedOut_of (v := .ref D) rfl]
  first
    | exact wpAny_pure (wpAny_pure h)
    | exact wpAny_pure h
    | exact wpAny_pure (wpAny_bind (wpAny_pure (wpAny_pure h)))
theorem kitE (hga : findIn K (.ref D) "__getattribute__" = some (some (.builtin "BaseException.__getattribute__"))) (hgt : findIn K (.ref D) "__getattr__" = some none) (hsub : subIn K (.ref D) (.type "BaseException") = some true) (hdct : hasDictIn K D = true) (ha : findIn K (.ref D) "__class__" = some (some (.builtin "object.__class__")))
    (hn : specialIn K (.builtin "object.__class__") "__get__" = some (some (.builtin "getset_descriptor.__get__"))) (htk : takesIn K (.builtin "object.__class__") = some true) (hm : mroIn K D (.type "object") = some true) :
    KitX K (.ref x) (.ref D) (fun h => ∃ od, InstAt h x ox D od) where
  ty := fun _ _ _ ⟨_, I⟩ => I.type
  it := fun _ _ X _ => by
    obtain ⟨cdD, hcD, _⟩ := any_some hdct
    unfold clsIn at hcD
    split at hcD
    · rename_i c' d' cd' sl' ho
      intro A' Q' E' s' k q
      unfold isType loadHead
      exact wpAny_bind (wpAny_loadPart (k _ _ (X _ _ ho)) (wpAny_pure q))
    · cases hcD
  ne := fun h tp dd its n sl X htp => by
    obtain ⟨cdD, hcD, _⟩ := any_some hdct
    refine Bool.eq_false_iff.mpr fun q => ?_
    have e : D = tp := Value.ref.inj (beq_iff_eq.mp q)
    subst e
    unfold clsIn at hcD
    split at hcD
    · rename_i c' d' cd' sl' ho
      have z := (X _ _ ho).symm.trans htp
      cases z
    · cases hcD
  ca := fun X ⟨_, I⟩ k => classE hga hgt hsub hdct ha hn htk hm X I k
end
end PySem.W
namespace GL
open PySem PySem.Spec PyProof.Rows L2 LamX

/-! ### no exception in it -/
mutual
def noHx : G → Bool
  | .hx _ _ => false
  | .tup l => noHxs l
  | .fz l => noHxs l
  | .tl l => noHxs l
  | .td l => noHxd l
  | _ => true
def noHxs : List G → Bool
  | [] => true
  | g :: r => noHx g && noHxs r
def noHxd : List (G × G) → Bool
  | [] => true
  | (_, g) :: r => noHx g && noHxd r
end
section
variable {r r1 : RP} {m : List Addr} {H : Hp}
/-- r, but for the exception -/
def setHp (r : RP) (p : Addr × Obj) : RP := { r with hp := some p }
mutual
theorem RepV.cool {p : Addr × Obj} : ∀ {g : G} {v : V}, RepV (setHp r p) m H g v → noHx g = true → RepV r m H g v
  | _, _, .non, _ => .non
  | _, _, .bl b, _ => .bl b
  | _, _, .int i, _ => .int i
  | _, _, .str s, _ => .str s
  | _, _, .ty n, _ => .ty n
  | _, _, .tup h z t, e => .tup h z (RepVs.cool t (by simpa only [noHx] using e))
  | _, _, .fz h z t, e => .fz h z (RepVs.cool t (by simpa only [noHx] using e))
  | _, _, .tl n h z t, e => .tl n h z (RepVs.cool t (by simpa only [noHx] using e))
  | _, _, .td n h t, e => .td n h (RepKs.cool t (by simpa only [noHx] using e))
  | _, _, .ref h, _ => .ref h
  | _, _, .gl h, _ => .gl h
  | _, _, .hx a b c x, e => by simp [noHx] at e
  | _, _, .clo n1 h1 q n2 h2, _ => .clo n1 h1 q n2 h2
  | _, _, .cloS h, _ => .cloS h
theorem RepVs.cool {p : Addr × Obj} : ∀ {g : List G} {v : List V}, RepVs (setHp r p) m H g v → noHxs g = true → RepVs r m H g v
  | _, _, .nil, _ => .nil
  | _, _, .cons a b, e => by
    simp only [noHxs, Bool.and_eq_true] at e
    exact .cons (RepV.cool a e.1) (RepVs.cool b e.2)
theorem RepKs.cool {p : Addr × Obj} : ∀ {g : List (G × G)} {v : List (L2.Key × V)}, RepKs (setHp r p) m H g v → noHxd g = true → RepKs r m H g v
  | _, _, .nil, _ => .nil
  | _, _, .cons a b, e => by
    simp only [noHxd, Bool.and_eq_true] at e
    exact .cons (RepV.cool a e.1) (RepKs.cool b e.2)
end
mutual
theorem RepV.no (hn : r.hp = none) : ∀ {g : G} {v : V}, RepV r m H g v → noHx g = true
  | _, _, .non => by simp only [noHx]
  | _, _, .bl b => by simp only [noHx]
  | _, _, .int i => by simp only [noHx]
  | _, _, .str s => by simp only [noHx]
  | _, _, .ty n => by simp only [noHx]
  | _, _, .tup h z t => by simp only [noHx]; exact RepVs.no hn t
  | _, _, .fz h z t => by simp only [noHx]; exact RepVs.no hn t
  | _, _, .tl n h z t => by simp only [noHx]; exact RepVs.no hn t
  | _, _, .td n h t => by simp only [noHx]; exact RepKs.no hn t
  | _, _, .ref h => by simp only [noHx]
  | _, _, .gl h => by simp only [noHx]
  | _, _, .hx a b c x => by rw [hn] at a; cases a
  | _, _, .clo n1 h1 q n2 h2 => by simp only [noHx]
  | _, _, .cloS h => by simp only [noHx]
theorem RepVs.no (hn : r.hp = none) : ∀ {g : List G} {v : List V}, RepVs r m H g v → noHxs g = true
  | _, _, .nil => by simp only [noHxs]
  | _, _, .cons a b => by simp only [noHxs, Bool.and_eq_true]; exact ⟨RepV.no hn a, RepVs.no hn b⟩
theorem RepKs.no (hn : r.hp = none) : ∀ {g : List (G × G)} {v : List (L2.Key × V)}, RepKs r m H g v → noHxd g = true
  | _, _, .nil => by simp only [noHxd]
  | _, _, .cons a b => by simp only [noHxd, Bool.and_eq_true]; exact ⟨RepV.no hn a, RepKs.no hn b⟩
end
def noHxf : List (Str × G) → Bool
  | [] => true
  | (_, g) :: r => noHx g && noHxf r
theorem RepFs.no (hn : r.hp = none) : ∀ {g : List (Str × G)} {v : List (Str × V)}, RepFs r m H g v → noHxf g = true
  | _, _, .nil => rfl
  | _, _, .cons a b => by simp only [noHxf, Bool.and_eq_true]; exact ⟨RepV.no hn a, RepFs.no hn b⟩
theorem RepFs.cool {p : Addr × Obj} : ∀ {g : List (Str × G)} {v : List (Str × V)}, RepFs (setHp r p) m H g v → noHxf g = true → RepFs r m H g v
  | _, _, .nil, _ => .nil
  | _, _, .cons a b, e => by
    simp only [noHxf, Bool.and_eq_true] at e
    exact .cons (RepV.cool a e.1) (RepFs.cool b e.2)
def noHxO : GO → Bool
  | .lst _ l => noHxs l
  | .dic _ l => noHxd l
  | .ins _ fs => noHxf fs
  | .dead => true
theorem RepO.no (hn : r.hp = none) {a : Addr} {o : GO} (h : RepO r m H a o) : noHxO o = true := by
  cases o with
  | lst w l =>
    cases w with
    | true => obtain ⟨vs, h1, z, t⟩ := h; exact t.no hn
    | false => obtain ⟨vs, h1, z, t⟩ := h; exact t.no hn
  | dic z l => obtain ⟨kvs, h1, t⟩ := h; exact t.no hn
  | ins c fs => obtain ⟨C, dx, vs, h1, h2, t⟩ := h; exact t.no hn
  | dead => rfl
theorem RepO.cool {p : Addr × Obj} {a : Addr} {o : GO} (h : RepO (setHp r p) m H a o) (e : noHxO o = true) : RepO r m H a o := by
  cases o with
  | lst w l =>
    cases w with
    | true => obtain ⟨vs, h1, z, t⟩ := h; exact ⟨vs, h1, z, t.cool e⟩
    | false => obtain ⟨vs, h1, z, t⟩ := h; exact ⟨vs, h1, z, t.cool e⟩
  | dic z l => obtain ⟨kvs, h1, t⟩ := h; exact ⟨kvs, h1, t.cool e⟩
  | ins c fs => obtain ⟨C, dx, vs, h1, h2, t⟩ := h; exact ⟨C, dx, vs, h1, h2, t.cool e⟩
  | dead => exact h
theorem like_hp {p : Addr × Obj} (hn : r.hp = none) : RP.Like r (setHp r p) := ⟨rfl, rfl, fun q h => (by rw [hn] at h; cases h), rfl, rfl⟩
theorem Rep.hot {T : List (Addr × Str)} {S : Sto} {p : Addr × Obj} (hn : r.hp = none) (h : Rep r T m S H) : Rep (setHp r p) T m S H :=
  ⟨h.len, h.nd, fun n a o h1 h2 => (h.obj n a o h1 h2).like (like_hp hn), h.tabs, h.hid, h.ent⟩
theorem Rep.cool {T : List (Addr × Str)} {m' : List Addr} {H' : Hp} {S : Sto} {p : Addr × Obj} (hn : r.hp = none) (h : Rep r T m S H) (h' : Rep (setHp r p) T m' S H') : Rep r T m' S H' :=
  ⟨h'.len, h'.nd, fun n a o h1 h2 => (h'.obj n a o h1 h2).cool (by
    have hl : n < m.length := by rw [h.len]; exact (List.getElem?_eq_some_iff.mp h2).1
    exact (h.obj n m[n] o (List.getElem?_eq_getElem hl) h2).no hn), h'.tabs, h'.hid, h'.ent⟩
end
/-! ### a def that is called with the exception -/
structure CtxH (M : Md) (r : RP) (T : List (Addr × Str)) (W : WX) (X : Cx) : Prop where
  K : X.K = r.K
  mg : X.mg = r.mg
  un : X.A.units + 64 < cLine
  gu : X.A.guards = some []
  rK : r.K = M.K
  rm : r.mg = M.mg
  hx : ∃ p, r.hp = some p ∧ p ∈ X.pn ∧ ∃ vs, p.2.data = .fields vs
structure CalH (M : Md) (k : Nat) (x : Str) (cl : List G → Sto → R G) : Prop where
  ex : ∃ (f : Addr) (fd : FuncData) (ps : List Str), M.mg x = some (.ref f) ∧ PySem.W.keepIn M.K (.ref f) = true ∧ Binds M.K fd ps [] ∧ ps.length = 1 ∧
    ∀ (A : Around) (outer : List Env) (s : Shared) (H : Hp) (args : Args) (us : List Value) (Q : VK) (p : Addr × Obj) (r : RP) (m : List Addr) (S : Sto) (c : Str) (fs : List (Str × G)), L2H.RoomH k A → A.guards = some [] → (∃ ws, p.2.data = .fields ws) → L2H.PinOk outer H s p →
      Env0 M.P M.w M.K M.mg M.base A outer s H → BindsTo s fd args (ps.zip us) → Vals [.ref p.1] us → r.K = M.K → r.mg = M.mg → r.hp = some p → Rep r M.T m S H → RepV r m H (.hx c fs) (.ref p.1) →
      Pst r M.T (fun _ _ _ _ => False) (RepV r) [] m H (cl [.hx c fs] S) Q → codeAny (model M.P M.w) A (.call (.ref f) args) (CR (L2.CX M.P M.w) outer M.P M.w H s Q fun _ _ _ => False) s
section
variable {M : Md} {k : Nat}
theorem CalH.zero {x : Str} {f : Addr} {fd : FuncData} {ps : List Str} (h1 : M.mg x = some (.ref f)) (h2 : PySem.W.keepIn M.K (.ref f) = true) (h3 : Binds M.K fd ps []) (h4 : ps.length = 1) : CalH M k x fun _ _ => .bad :=
  ⟨f, fd, ps, h1, h2, h3, h4, fun _ _ _ _ _ _ _ _ _ _ _ _ _ _ _ _ _ _ _ _ _ _ _ _ _ q => False.elim q⟩
theorem g_fnH {xn xn' qual : Str} {params : Arguments} {stb : List Stmt} {scope : Scope} {f : Addr} {fd : FuncData} {N ps : List Str} {nN : Nat} {body : StM} {cl : List G → Sto → R G} (F : FunD M.K xn qual params stb scope [] [] f fd) (S : FnScope N ps scope) (hn : N.length = nN) (hp : ps.length = 1)
    (hm : M.mg xn' = some (.ref f)) (hkp : PySem.W.keepIn M.K (.ref f) = true) (hbi : Binds M.K fd ps [])
    (hcl : ∀ gs S, gs.length = 1 → cl gs S = bodyR (body (lo0 nN gs) S))
    (hbody : ∀ (cdv : Value) (A : Around) (outer : List Env) (s : Shared) (H : Hp) (p : Addr × Obj) (r : RP), fd.code = cdv →
      CtxH M r M.T (fun _ _ _ _ => False) (L2H.cxH (L2.CX M.P M.w) M.P M.w M.K M.mg M.base N qual scope f cdv A outer s H (fun _ _ _ => False) p) → M.of (L2H.cxH (L2.CX M.P M.w) M.P M.w M.K M.mg M.base N qual scope f cdv A outer s H (fun _ _ _ => False) p) →
      PSs (L2H.cxH (L2.CX M.P M.w) M.P M.w M.K M.mg M.base N qual scope f cdv A outer s H (fun _ _ _ => False) p) stb (tSF r M.T (fun _ _ _ _ => False) body)) : CalH M (k + 1) xn' cl := by
  refine ⟨f, fd, ps, hm, hkp, hbi, hp, ?_⟩
  obtain ⟨oc, od, dV, kV, doc, pm, an, cdv, ct, osl, rfl, lk, hcd, _, _⟩ := F.ex
  intro A outer s H args us Q p r m S0 c fs hr hgu hfl hpin e0 hb r1 hrK hrm hrp hR h1 q
  have hl : ([V.ref p.1] : List V).length = ps.length := by rw [hp]; rfl
  have KX : M.K.In s.heap := e0.mod.kin.keeps fun b o e => (e0.bs b o e).1
  have lim : s.heap.NoLimit := e0.mod.nolimit.keeps fun b o e => (e0.bs b o e).1
  have hkind : ∀ y ∈ ps.zip us, scope.names.lookup y.1 = some .local ∨ (scope.names.lookup y.1 = some .cell ∧ ((cellsFrom (s.heap.objs.size + 1) scope.names []).lookup y.1).isSome = true) := fun ⟨n, v⟩ hy => by
    rcases S.par n (List.of_mem_zip hy).1 with q | q
    · exact .inl q
    · exact .inr ⟨q, PySem.W.cellsFrom_some _ _ _ (.inl q)⟩
  refine codeAny_call_function hr.depth (KX _ _ lk) rfl S.co S.gen rfl (PySem.W.codeRec_of KX hcd) (hb _ _ _ _ ?_)
  refine wpAny_newFunctionEnv_cells S.kind hkind fun env he s1 x => ?_
  subst he
  refine ⟨lim.keeps x.toInCall.keep, codeAny_func ?_⟩
  have I : Inv (L2H.cxH (L2.CX M.P M.w) M.P M.w M.K M.mg M.base N qual scope f cdv A outer s H (fun _ _ _ => False) p) [] (L2.start N [.ref p.1]) H s1 := L2H.inv_startH S hpin e0 hl r1 x
  have room := hr.deeper (envOfC qual scope s.heap.objs.size f cdv)
  have ht := hbody cdv A outer s H p (r.at_ m H) rfl ⟨hrK.symm, hrm.symm, by have := room.un; show (A.deeper _).units + 64 < cLine; omega, guards_deeper hgu, hrK, hrm, p, hrp, List.mem_cons_self, hfl⟩ ⟨rfl, rfl, rfl, rfl, rfl⟩
  refine wpAny_mono (ht.run [] s1 (L2.start N [.ref p.1]) H { nx := fun _ H' => Q .non H', rt := Q } I ⟨m, S0, lo0 nN [.hx c fs], hR.enter, repL_start N hn (.cons (h1.like (.at_ r m H)) .nil), ?_⟩) (fun fl s' hs => ?_) fun e s' hs => hs
  · rw [hcl [.hx c fs] S0 rfl] at q
    exact pst_body (E := fun _ _ _ => False) hR q
  · have fin : ∀ {σ' : L2.St} {H' : Hp} {v : V} {u : Value}, Inv (L2H.cxH (L2.CX M.P M.w) M.P M.w M.K M.mg M.base N qual scope f cdv A outer s H (fun _ _ _ => False) p) [] σ' H' s' → RelV v u → Q v H' → CE outer M.P M.w H s Q u s' :=
      fun {σ' H' v u} J rv q => ⟨v, H', J.os, J.bare, J.base, J.hok, rv, q⟩
    cases fl with
    | ret u =>
      obtain ⟨v, σ', H', J, rv, q⟩ := hs
      exact fin J rv q
    | next =>
      obtain ⟨σ', H', J, q⟩ := hs
      exact fin (v := V.non) (u := Value.none) J rfl q
    | brk =>
      obtain ⟨_, _, _, q⟩ := hs
      exact False.elim q
    | cont =>
      obtain ⟨_, _, _, q⟩ := hs
      exact False.elim q
end
/-! ### isinstance and the attributes of the exception -/
/-- the module's own exceptions; who is whose -/
structure XTab where
  top : Str
  cls : List Str
  sub : List (Str × Str)
  fld : List (Str × Str)
def XTab.is (t : XTab) (c d : Str) : Bool := c == d || t.sub.contains (c, d)
structure XTabOk (K : PySem.W.Frag) (mg : Str → Option Value) (t : XTab) : Prop where
  ins : ∀ c ∈ t.cls, ∃ C, mg c = some (.ref C) ∧ ExcC K C ∧ PySem.W.kitOne K (.ref C) (.type "ValueError") = some true
  own : ∀ c ∈ t.cls, ∀ d ∈ t.cls, ∀ C D, mg c = some (.ref C) → mg d = some (.ref D) → PySem.W.kitOne K (.ref C) (.ref D) = some (t.is c d)
  top : ∀ c ∈ t.cls, ∀ C D, mg c = some (.ref C) → mg t.top = some (.ref D) → PySem.W.exmOne K (.ref C) (.ref D) = some (t.is c t.top)
  fld : ∀ c f, (c, f) ∈ t.fld → ∃ C, mg c = some (.ref C) ∧ XfC K C ∧ PySem.W.findIn K (.ref C) f = some none
def gIsiX (t : XTab) (xs : List G) (_ : Sto) : Option G := match xs with
  | [.hx c _, .gl d] => if t.cls.contains c && t.cls.contains d then some (.bl (t.is c d)) else none
  | [.hx c _, .ty n] => if t.cls.contains c && n == "ValueError" then some (.bl true) else none
  | _ => none
def gFldX (t : XTab) (f : Str) (x : G) (_ : Sto) : Option G := match x with
  | .hx c fs => if t.fld.contains (c, f) then fs.lookup f else none
  | _ => none
section
variable {M : Md} {r : RP} {T : List (Addr × Str)} {X : Cx} {m : List Addr} {H : Hp} {S : Sto} {W W' : WX} {o : Expr} {fo : Ev} {pos : Pos} {t : XTab}
theorem hx_inst (c : CtxH M r T W X) {pins : List (Addr × Obj)} {σ : L2.St} {s : Shared} {cn : Str} {fs : List (Str × G)} {v : V} (I : Inv X pins σ H s) (h : RepV r m H (.hx cn fs) v) :
    ∃ (p : Addr × Obj) (C : Addr), v = .ref p.1 ∧ r.mg cn = some (.ref C) ∧ s.heap.get? p.1 = some p.2 ∧ p.2.cls = .ref C ∧ PySem.W.notCls p.2 = true ∧ RepX r m H fs p.2.dict := by
  obtain ⟨p0, e0, hm, vs, hv⟩ := c.hx
  cases h with
  | @hx p _ C _ a b d x =>
    rw [e0] at a
    cases a
    refine ⟨p0, C, rfl, d, (I.pin p0 (List.mem_append_left _ hm)).1, b, ?_, x⟩
    unfold PySem.W.notCls
    rw [hv]
theorem hx_at (c : CtxH M r T W X) {pins : List (Addr × Obj)} {σ : L2.St} {s : Shared} {cn : Str} {fs : List (Str × G)} {v : V} (I : Inv X pins σ H s) (h : RepV r m H (.hx cn fs) v) :
    ∃ (p : Addr × Obj) (C : Addr), v = .ref p.1 ∧ r.mg cn = some (.ref C) ∧ ∃ od, PySem.W.InstAt s.heap p.1 p.2 C od := by
  obtain ⟨p, C, e1, e2, e3, e4, e5, x⟩ := hx_inst c I h
  refine ⟨p, C, e1, e2, ?_⟩
  cases hd : p.2.dict with
  | none => exact ⟨none, e3, e4, e5, by rw [hd]; trivial⟩
  | some d =>
    rw [hd] at x
    cases x with
    | some n hx t =>
      obtain ⟨mA, hns, hr⟩ := (I.hok d _ hx : ObjOk X.prog X.w H s.heap d (.xd _))
      obtain ⟨od, ho, hl⟩ := lookIn_ns hns
      exact ⟨some od, e3, e4, e5, by rw [hd]; exact ho⟩
theorem cr_gIsiX (c : CtxH M r T W X) (ht : XTabOk M.K M.mg t) : CallR X (.builtin "isinstance") (rPA r T (gIsiX t)) := by
  intro pins s σ H xs us Q I rs h
  obtain ⟨m, S, gs, g, hR, h1, e, k⟩ := h
  have one : ∀ {cn : Str} {fs : List (Str × G)} {g2 : G} {cv : Value} {b : Bool} {v v2 : V}, RepV r m H (.hx cn fs) v → xs = [v, v2] → (∀ u, RelV v2 u → u = cv) → (∀ C, r.mg cn = some (.ref C) → ExcC M.K C ∧ PySem.W.kitOne M.K (.ref C) cv = some b) → g = .bl b →
      wpAny (model X.prog X.w) X.A (call (.builtin "isinstance") us) (EP X pins σ Q) X.xe s := fun {cn fs g2 cv b v v2} hv ex hcv hK eg => by
    subst ex eg
    obtain ⟨p, C, rfl, e2, od, J⟩ := hx_at c I hv
    obtain ⟨Z, hk⟩ := hK C e2
    cases rs with
    | cons rx rr =>
      cases rr with
      | cons rt rr =>
        cases rr
        cases rx
        have ec := hcv _ rt
        subst ec
        have hKK : X.K = M.K := c.K.trans c.rK
        exact PySem.W.kia_one (K := M.K) (PySem.W.kitE (x := p.1) (ox := p.2) Z.hg Z.hk Z.hs Z.hd Z.ha Z.hn Z.ht Z.hm) (by rw [← hKK]; exact I.kIn) ⟨od, J⟩ hk (fun z => nomatch z) fun tk => ⟨.bl b, H, I.kept (t' := tk) fun _ _ z => z, rfl, k H _ (.refl _ _) hR (.bl b)⟩
  unfold gIsiX at e
  split at e
  · rename_i cn fs d
    obtain ⟨v, v2, ex, hv, h2⟩ := len2 h1
    split at e
    · rename_i hc
      rw [Bool.and_eq_true] at hc
      cases e
      have hc1 : cn ∈ t.cls := List.contains_iff_mem.mp hc.1
      have hc2 : d ∈ t.cls := List.contains_iff_mem.mp hc.2
      obtain ⟨D, hD, _⟩ := ht.ins d hc2
      cases h2 with
      | gl hg =>
        rw [c.rm, hD] at hg
        cases hg
        refine one (g2 := .gl d) (cv := .ref D) hv ex (fun u hu => hu) (fun C hC => ?_) rfl
        rw [c.rm] at hC
        obtain ⟨C', hC', Z, _⟩ := ht.ins cn hc1
        rw [hC] at hC'
        cases hC'
        exact ⟨Z, ht.own cn hc1 d hc2 C D hC hD⟩
    · cases e
  · rename_i cn fs n
    obtain ⟨v, v2, ex, hv, h2⟩ := len2 h1
    split at e
    · rename_i hc
      rw [Bool.and_eq_true, beq_iff_eq] at hc
      cases e
      have hc1 : cn ∈ t.cls := List.contains_iff_mem.mp hc.1
      have hc2 := hc.2
      subst hc2
      cases h2
      refine one (g2 := .non) (cv := .type "ValueError") hv ex (fun u hu => hu) (fun C hC => ?_) rfl
      rw [c.rm] at hC
      obtain ⟨C', hC', Z, hk⟩ := ht.ins cn hc1
      rw [hC] at hC'
      cases hC'
      exact ⟨Z, hk⟩
    · cases e
  · cases e
theorem g_fldX {f : Str} (c : CtxH M r T W X) (ht : XTabOk M.K M.mg t) (ho : PE X o (tF r T W' fo)) (hb : attributeBase o f X.env (eval o X.env) = eval o X.env) : PE X (.Attribute o f pos) (tF r T W' (e1 (gFldX t f) fo)) := by
  refine ⟨fun pins s σ H Q I ⟨m, S, l, hR, hL, q⟩ => ?_⟩
  refine attr_of hb (thn (ho.run pins s σ H _ I (stE hR hL q)) fun u s1 ⟨x, H1, I1, rx, m1, S1, g, e, hR1, hL1, h1, q1⟩ => ?_)
  obtain ⟨m2, S2, g1, g2, hR2, h2, e2, k⟩ := fin1 hR1 h1 q1
  unfold gFldX at e2
  split at e2
  · rename_i cn fs
    split at e2
    · rename_i hc
      obtain ⟨C, hC, Z, hno⟩ := ht.fld cn f (List.contains_iff_mem.mp hc)
      obtain ⟨p, C', rfl, d1, d2, d3, d4, x⟩ := hx_inst c I1 h2
      rw [c.rm, hC] at d1
      cases d1
      obtain rfl : u = Value.ref p.1 := rx
      cases hd : p.2.dict with
      | none =>
        rw [hd] at x
        cases x
        cases e2
      | some dd =>
        rw [hd] at x
        cases x with
        | some n hx t' =>
          obtain ⟨v, lv, rv⟩ := t'.lookup e2
          obtain ⟨mA, hns, hr⟩ := (I1.hok dd _ hx : ObjOk X.prog X.w H1 s1.heap dd (.xd _))
          obtain ⟨od, ho', hl⟩ := lookIn_ns hns
          obtain ⟨u, hu, ru⟩ := RelO.some_of (v := v) (o := mA f) (by rw [← lv]; exact hr f)
          have J : PySem.W.InstAt s1.heap p.1 p.2 C (some od) := ⟨d2, d3, d4, by rw [hd]; exact ho'⟩
          have hKK : X.K = M.K := c.K.trans c.rK
          exact HandSPX.exc_get (K := M.K) (by rw [← hKK]; exact I1.kIn) J Z.ga Z.gg Z.exC (PySem.W.findObj_own Z.hdC hno rfl (by rw [hl, hu])) (handed_of ru) ⟨v, H1, I1.tok _, ru, k H1 v (.refl _ _) hR2 rv⟩
    · cases e2
  · cases e2
end
end GL

end

section
set_option Elab.async false
set_option linter.all false
set_option maxRecDepth 100000
set_option maxHeartbeats 4000000
/-! GL: the law's end. -/
namespace GL
open PySem PySem.Spec PyProof.Rows L2 LamX

/-- what is tracked at the law's start: the script (if it is none of the module's own objects), the code tables -/
noncomputable def H0 (K : PySem.W.Frag) (a : Addr) (sc : Obj) (vs : List V) (tb : List Addr) : Hp := fun b =>
  if b = a ∧ K.lookup a = none then some (.frz sc (.lst vs)) else if b ∈ tb then some (.tbl #[]) else none
section
variable {K : PySem.W.Frag} {a : Addr} {sc : Obj} {vs : List V} {tb : List Addr} {b : Addr} {u : HO}
theorem H0_cases (h : H0 K a sc vs tb b = some u) : (b = a ∧ K.lookup a = none ∧ u = .frz sc (.lst vs)) ∨ (b ∈ tb ∧ u = .tbl #[]) := by
  unfold H0 at h
  split at h
  · rename_i c
    exact .inl ⟨c.1, c.2, (Option.some.inj h).symm⟩
  · split at h
    · rename_i c
      exact .inr ⟨c, (Option.some.inj h).symm⟩
    · cases h
theorem H0_tb (hb : b ∈ tb) (na : a ∉ tb) : H0 K a sc vs tb b = some (.tbl #[]) := by
  unfold H0
  rw [if_neg (fun z => na (by rw [← z.1]; exact hb)), if_pos hb]
theorem H0_out (h1 : ¬ (b = a ∧ K.lookup a = none)) (h2 : b ∉ tb) : H0 K a sc vs tb b = none := by
  unfold H0
  rw [if_neg h1, if_neg h2]
end
theorem repI {r : RP} {m : List Addr} {H : Hp} : ∀ ns : List Int, RepVs r m H (ns.map .int) (ns.map V.int)
  | [] => .nil
  | n :: l => .cons (.int n) (repI l)
/-- the facts of the heap behind the top that the end asks for -/
structure LawIn (K : PySem.W.Frag) (mg mb : Str → Option Value) (s : Shared) (a : Addr) (vs : List Value) (ns : List Int) (cs : List (Addr × Addr)) : Prop where
  kin : K.In s.heap
  ns_ : s.heap.Ns mainGlobals mg
  bns : s.heap.Ns builtinsNs mb
  bb : ∀ x : Str, x ≠ "__name__" → mb x = bootBuiltins x
  lim : s.heap.NoLimit
  gens : s.gens = #[]
  tabs : ∀ p ∈ cs, s.heap.get? p.2 = some { cls := .none, data := .fields #[] }
  ntab : ∀ p ∈ cs, K.lookup p.2 = none
  code : ∀ p ∈ cs, PySem.W.CodeHd s.heap p.1 p.2
  bm : ∃ (bm : Addr) (ob : Obj), mg "__builtins__" = some (.ref bm) ∧ bm ≠ builtinsNs ∧ s.heap.get? bm = some ob ∧ ob.cls = .type "module" ∧ ob.dict = some builtinsNs ∧ ob.data = .plain
  obj : s.heap.get? a = some { cls := .type "list", data := .seq vs.toArray }
  iare : IntsAre vs ns
  len : ns.length ≤ sizeLine
section
variable {K : PySem.W.Frag} {mg mb : Str → Option Value} {s : Shared} {a : Addr} {vs : List Value} {ns : List Int} {cs : List (Addr × Addr)} {P : Program} {w : World}
abbrev scO (vs : List Value) : Obj := { cls := .type "list", data := .seq vs.toArray }
noncomputable abbrev LawIn.H (_ : LawIn K mg mb s a vs ns cs) : Hp := H0 K a (scO vs) (ns.map V.int) (cs.map (·.2))
theorem LawIn.tab (L : LawIn K mg mb s a vs ns cs) {b : Addr} (hb : b ∈ cs.map (·.2)) : s.heap.get? b = some { cls := .none, data := .fields #[] } := by
  obtain ⟨p, hp, e⟩ := List.mem_map.mp hb
  rw [← e]
  exact L.tabs p hp
theorem LawIn.na (L : LawIn K mg mb s a vs ns cs) : a ∉ cs.map (·.2) := fun z => by
  have q := L.tab z
  rw [L.obj] at q
  have z' : Data.seq vs.toArray _ = Data.fields #[] := congrArg Obj.data (Option.some.inj q)
  cases z'
/-- an object that is neither the script's list nor an empty table is not tracked -/
theorem LawIn.free (L : LawIn K mg mb s a vs ns cs) {b : Addr} {o : Obj} (e : s.heap.get? b = some o) (h1 : ∀ v n, o.data ≠ .seq v n) (h2 : o.data ≠ .fields #[]) : L.H b = none := by
  cases q : L.H b with
  | none => rfl
  | some u =>
    rcases H0_cases q with ⟨rfl, _, _⟩ | ⟨hb, _⟩
    · rw [L.obj] at e
      cases e
      exact (h1 _ _ rfl).elim
    · rw [L.tab hb] at e
      cases e
      exact (h2 rfl).elim
theorem LawIn.hok (L : LawIn K mg mb s a vs ns cs) : HOk P w L.H s.heap := fun b u q => by
  rcases H0_cases q with ⟨rfl, _, rfl⟩ | ⟨hb, rfl⟩
  · exact ⟨L.obj, by rw [List.length_map]; exact L.len, vs, _, vals_ints L.iare, L.obj⟩
  · exact L.tab hb
theorem LawIn.kb (L : LawIn K mg mb s a vs ns cs) : K.In (hidT s.heap L.H) := fun b o e => hidT_get (L.kin b o e) (by
  cases q : L.H b with
  | none => rfl
  | some u =>
    rcases H0_cases q with ⟨rfl, hk, _⟩ | ⟨hb, _⟩
    · rw [hk] at e; cases e
    · obtain ⟨p, hp, ep⟩ := List.mem_map.mp hb
      rw [← ep, L.ntab p hp] at e
      cases e)
theorem LawIn.nsb (L : LawIn K mg mb s a vs ns cs) {b : Addr} {m : Str → Option Value} (h : s.heap.Ns b m) : (hidT s.heap L.H).Ns b m := by
  obtain ⟨o, es, ep, e, d, r⟩ := h
  exact ⟨o, es, ep, hidT_get e (L.free e (fun v n z => by rw [d] at z; cases z) fun z => by rw [d] at z; cases z), d, r⟩
theorem LawIn.env (L : LawIn K mg mb s a vs ns cs) : Env0 P w K mg (hidT s.heap L.H) callerA [] s L.H :=
  ⟨rfl, ⟨L.kb, L.nsb L.ns_, ⟨mb, L.nsb L.bns, L.bb⟩, let ⟨mc, h1, h2⟩ := L.lim; ⟨mc, L.nsb h1, h2⟩⟩, fun b o e => of_hidT e, Nat.le_of_eq (hidT_size _ _), trivial, fun b hb => absurd (show b ∈ ([] : List Addr) from hb) (by simp), L.hok, .of_eq L.gens⟩
theorem LawIn.tb (L : LawIn K mg mb s a vs ns cs) : ∀ p ∈ cs, TabB (hidT s.heap L.H) mg p.1 p.2 := fun p hp => by
  refine ⟨?_, ?_, fun z => ?_⟩
  · obtain ⟨o, us, file, tf, flags, tg, inF, text, tt, e1, r1, r2, r3, r⟩ := L.code p hp
    refine ⟨o, us, file, tf, flags, tg, inF, text, tt, hidT_get e1 (L.free e1 (fun v n z => by rw [r2] at z; cases z) fun z => ?_), r1, r2, r3, r⟩
    rw [r2] at z
    cases z
    simp at r3
  · obtain ⟨bm, ob, b1, b2, b3, b4, b5, b6⟩ := L.bm
    refine ⟨bm, ob, b1, b2, fun q => ?_, fun q => ?_, hidT_get b3 (L.free b3 (fun v n z => by rw [b6] at z; cases z) fun z => by rw [b6] at z; cases z), b4, b5, b6⟩
    · obtain ⟨o, es, ep, e, hd, _⟩ := L.ns_
      rw [q, e] at b3
      cases b3
      rw [hd] at b6
      cases b6
    · rw [q, L.tabs p hp] at b3
      cases b3
      cases b6
  · obtain ⟨o, es, ep, e, hd, _⟩ := L.ns_
    rw [z, L.tabs p hp] at e
    cases e
    cases hd
/-- THE END: the law's plain call gives True -/
theorem LawIn.call {fa : Addr} {fd : FuncData} {x : Str} {k : Nat} {T : List (Addr × Str)} {isClo : Nat → Obj → List (Str × Addr) → Option Addr → Addr → Str → Prop} {cl : List G → Sto → R G} {S' : Sto} (L : LawIn K mg mb s a vs ns cs) (hr : Room k callerA)
    (hT : ∀ p ∈ T, p.1 ∈ cs.map (·.2)) (F : GFn ⟨P, w, K, mg, hidT s.heap L.H, T, isClo⟩ k fa fd [x] (spG ⟨P, w, K, mg, hidT s.heap L.H, T, isClo⟩ 1 cl)) (hbind : ∀ (s : Shared) (u : Value), BindsTo s fd ⟨[u], []⟩ [(x, u)])
    (hcl : cl [.fz (ns.map .int)] [] = .ok (.bl true) S') :
    codeAny (model P w) callerA (.call (.ref fa) ⟨[.ref a], []⟩) (fun r s' => r = .ok (.ret (.bool true)) ∧ OldK s.heap s'.heap ∧ s'.os = s.os ∧ AllBare s'.gens) s := by
  have hsp : spG ⟨P, w, K, mg, hidT s.heap L.H, T, isClo⟩ 1 cl [.ref a] L.H (fun v _ => v = .bl true) (fun _ _ _ => False) := by
    refine ⟨rfl, ⟨K, mg, none, isClo, [], [], L.H⟩, [], [], [.fz (ns.map .int)], ⟨rfl, rfl, rfl, rfl⟩, ⟨rfl, List.nodup_nil, fun n b o h => by simp at h, fun p hp => ?_, fun b h => (by cases h), Ext.refl _ _⟩, .cons ?_ .nil, ?_⟩
    · exact TabS.nil (H0_tb (hT p hp) L.na)
    · refine .fz ?_ (by rw [List.length_map]; exact L.len) (repI ns)
      cases hk : K.lookup a with
      | none => exact .inl ⟨⟨by simp, by simp⟩, scO vs, if_pos ⟨rfl, hk⟩⟩
      | some o =>
        have e := L.kin a o hk
        rw [L.obj] at e
        cases e
        have rv := vals_ints L.iare
        have hl := L.len
        have hl2 := L.iare.length
        exact .inr ⟨_, vs.toArray, _, hk, rfl, rfl, rfl, by rw [List.size_toArray, hl2]; exact hl, by simpa using rv⟩
    · rw [hcl]
      intro m' H' v e hR hv
      cases hv
      rfl
  refine codeAny_mono (F.run callerA [] s L.H ⟨[.ref a], []⟩ [.ref a] [.ref a] _ _ hr rfl L.env (hbind s (.ref a)) (.cons rfl .nil) hsp) fun r s' h => ?_
  cases r with
  | error e =>
    obtain ⟨_, _, _, _, _, _, _, _, _, _, _, _, z⟩ := h
    exact z.elim
  | ok fl =>
    cases fl with
    | next => exact False.elim h
    | brk => exact False.elim h
    | cont => exact False.elim h
    | ret u =>
      obtain ⟨v, H', os, bare, un, hok', r', q⟩ := h
      have q' : v = .bl true := q
      subst q'
      obtain rfl : u = Value.bool true := r'
      have key : ∀ b o, b ∉ cs.map (·.2) → s.heap.get? b = some o → s'.heap.get? b = some o := fun b o nb e => by
        cases q : L.H b with
        | none => exact un.keep b o e q (by intro z; exact absurd (show b ∈ ([] : List Addr) from z) (by simp)) (by simp)
        | some u =>
          rcases H0_cases q with ⟨rfl, _, rfl⟩ | ⟨hb, _⟩
          · obtain ⟨e2, _⟩ := hok' _ _ (un.frzs _ _ _ q)
            rw [L.obj] at e
            cases e
            exact e2
          · exact absurd hb nb
      have grown : ∀ b ∈ cs.map (·.2), ∃ p ∈ cs, p.2 = b ∧ ∃ more : Array Value, s'.heap.get? b = some { cls := .none, data := .fields more } := fun b hb => by
        obtain ⟨p, hp, ep⟩ := List.mem_map.mp hb
        obtain ⟨more, z⟩ := un.tbls b #[] (H0_tb hb L.na)
        exact ⟨p, hp, ep, _, hok' b _ z⟩
      refine ⟨rfl, ⟨fun b o e => ?_, fun b o e => ?_⟩, os, bare⟩
      · by_cases hb : b ∈ cs.map (·.2)
        · obtain ⟨p, hp, ep, more, hm⟩ := grown b hb
          subst ep
          rw [L.tabs p hp] at e
          cases e
          exact .inr (.inl ⟨((L.code p hp).tab (L.tabs p hp)).isCodeTable, rfl, #[], more, rfl, by rw [Array.empty_append]; exact hm⟩)
        · exact .inl (key b o hb e)
      · by_cases hb : b ∈ cs.map (·.2)
        · obtain ⟨p, hp, ep, more, hm⟩ := grown b hb
          exact ⟨_, hm⟩
        · exact ⟨o, key b o hb e⟩
end
end GL

end

section
set_option Elab.async false
set_option linter.all false
set_option maxRecDepth 100000
set_option maxHeartbeats 4000000
/-! GL: a table of defs, all of them sound; the walk's end. -/
namespace GL
open PySem PySem.Spec PyProof.Rows L2 LamX

theorem bodyR_ret {fe : Ev} {l : Loc} {S : Sto} : bodyR (sRet fe l S) = fe l S := by
  unfold sRet sr
  cases fe l S <;> rfl
structure AllOk (M : Md) (tab : FK → Option FnD) (lam : Nat → Option LamD) (n : Nat) : Prop where
  fn : ∀ x d, tab (.fn x) = some d → CalF M (2 * n + 2) x d.np (callN tab n (.fn x))
  me : ∀ c m d, tab (.me c m) = some d → (m == "__init__") = false → (m == "__eq__") = false → CalM M (2 * n + 2) c m d.np (callN tab n (.me c m))
  cl : ∀ c d, tab (.me c "__init__") = some d → CalC M (2 * n + 2) c d.np (callN tab n (.me c "__init__"))
  eq : ∀ c d, tab (.me c "__eq__") = some d → CalE M (2 * n + 2) c (callN tab n (.me c "__eq__"))
  la : ∀ ln d, tab (.la ln 0) = some d → CalL M lam (2 * n + 2) ln d.np (callN tab n (.la ln 0))
  lk : ∀ ln d, tab (.la ln 1) = some d → CalK M lam (2 * n + 2) ln d.np (callN tab n (.la ln 1))
  fc : ∀ x d, tab (.fc x) = some d → CalFC M lam (2 * n + 2) x d.np (callN tab n (.fc x))
  fh : ∀ x d, tab (.fh x) = some d → CalH M (2 * n + 2) x (callN tab n (.fh x))
theorem arity {tab : FK → Option FnD} {k : FK} {d : FnD} (h : tab k = some d) : ∀ n, Arity d.np (callN tab n k)
  | 0 => fun gs S _ => rfl
  | n + 1 => fun gs S hl => by
    show (match tab k with
      | some d => if gs.length = d.np then bodyR (d.body (callN tab n) gs (lo0 d.nN gs) S) else .bad
      | none => .bad) = .bad
    rw [h]
    exact if_neg hl
theorem callN_eq {tab : FK → Option FnD} {k : FK} {d : FnD} (h : tab k = some d) (n : Nat) (gs : List G) (S : Sto) (hl : gs.length = d.np) : callN tab (n + 1) k gs S = bodyR (d.body (callN tab n) gs (lo0 d.nN gs) S) := by
  show (match tab k with
    | some d => if gs.length = d.np then bodyR (d.body (callN tab n) gs (lo0 d.nN gs) S) else .bad
    | none => .bad) = _
  rw [h]
  exact if_pos hl
theorem callN_none {tab : FK → Option FnD} {k : FK} (h : tab k = none) : ∀ (n : Nat) (gs : List G) (S : Sto), callN tab n k gs S = .bad
  | 0, _, _ => rfl
  | n + 1, gs, S => by
    show (match tab k with
      | some d => if gs.length = d.np then bodyR (d.body (callN tab n) gs (lo0 d.nN gs) S) else .bad
      | none => .bad) = .bad
    rw [h]
theorem not_bad {tab : FK → Option FnD} {k : FK} {n : Nat} {gs : List G} {S : Sto} (h : callN tab n k gs S ≠ .bad) : ∃ d, tab k = some d ∧ gs.length = d.np := by
  cases e : tab k with
  | none => exact absurd (callN_none e n gs S) h
  | some d => exact ⟨d, rfl, Classical.byContradiction fun z => h (arity e n gs S z)⟩
section
variable {M : Md} {tab : FK → Option FnD} {lam : Nat → Option LamD} {n : Nat} {r : RP} {W : WX} {X : Cx}
theorem AllOk.locF (A : AllOk M tab lam n) (y : Str) (xs : List G) (S : Sto) (h : callN tab n (.fn y) xs S ≠ .bad) : CalF M (2 * n + 2) y xs.length (callN tab n (.fn y)) := by
  obtain ⟨d, h1, h2⟩ := not_bad h
  rw [h2]
  exact A.fn y d h1
theorem AllOk.locL (A : AllOk M tab lam n) (ln : Nat) (xs : List G) (S : Sto) (h : callN tab n (.la ln 0) xs S ≠ .bad) : CalL M lam (2 * n + 2) ln xs.length (callN tab n (.la ln 0)) := by
  obtain ⟨d, h1, h2⟩ := not_bad h
  rw [h2]
  exact A.la ln d h1
theorem AllOk.locK (A : AllOk M tab lam n) (ln : Nat) (cap xs : List G) (S : Sto) (h : callN tab n (.la ln 1) (xs ++ cap) S ≠ .bad) : CalK M lam (2 * n + 2) ln (xs.length + cap.length) (callN tab n (.la ln 1)) := by
  obtain ⟨d, h1, h2⟩ := not_bad h
  rw [List.length_append] at h2
  rw [h2]
  exact A.lk ln d h1
/-- a def of the module as a value -/
theorem g_glob {x : Str} {p : Pos} {f : Addr} (hM : M.is r) (hX : M.of X) (hg : Gl X x) (hm : M.mg x = some (.ref f)) (hd : (x == ("__debug__" : Str)) = false) : PE X (.Name x p) (tF r M.T W (eC (.gl x))) :=
  PE_imp (pe_glob (v := .ref f) hg (by rw [hX.2.2.2.1]; exact hm) rfl hd) fun s H Q ⟨m, S, l, hR, hL, q⟩ => q.ok_of hR (.gl (by rw [hM.2.1]; exact hm))

end
/-- the walk's end, from the plain call -/
theorem walk_G {l : PySem.W.OpenLaw} {n k : Nat} {q : Program} {loose : List Str} {XP : (Str → Option Value) → Heap → Prop} {YP : World → Heap → Prop} {d : DefRec} {x : Str}
    (hn : l.most = some n) (hn2 : n ≤ sizeLine) (hdf : d.params.defaults = []) (hr : Room k callerA)
    (F : ∀ (w : World) (mg : Str → Option Value) (fa : Addr) (h : Heap), YP w h → h.Ns mainGlobals mg → mg d.name = some (.ref fa) → ∃ (K : PySem.W.Frag) (cs : List (Addr × Addr)) (fd : FuncData) (T : List (Addr × Str)) (isClo : Nat → Obj → List (Str × Addr) → Option Addr → Addr → Str → Prop) (cl : List G → Sto → R G),
      K.In h ∧ (∀ p ∈ cs, h.get? p.2 = some { cls := .none, data := .fields #[] }) ∧ (∀ p ∈ cs, K.lookup p.2 = none) ∧ (∀ p ∈ cs, PySem.W.CodeHd h p.1 p.2) ∧ (∀ p ∈ T, p.1 ∈ cs.map (·.2)) ∧ (∀ (s : Shared) (u : Value), BindsTo s fd ⟨[u], []⟩ [(x, u)]) ∧
        (∀ ns : List Int, ns.length ≤ n → (∀ z ∈ ns, Builtin.Int.intBits z ≤ 1048576) → ∃ S', cl [.fz (ns.map .int)] [] = .ok (.bl true) S') ∧
        ∀ base : Heap, K.In base → base.Ns mainGlobals mg → (∀ p ∈ cs, TabB base mg p.1 p.2) → GFn ⟨l.prog, w, K, mg, base, T, isClo⟩ k fa fd [x] (spG ⟨l.prog, w, K, mg, base, T, isClo⟩ 1 cl)) :
    PySem.W.WalkO q loose XP YP l.row.toRowW d [] (fun f vs => PySem.call f vs) := by
  refine Att.attach_callB hn hdf fun w s₀ s₁ mg mb fa o pm cd doc a vs ns G Y ho hd hcd hmg hobj hints hlen hbits hg => ?_
  obtain ⟨K, cs, fd, T, isClo, cl, KX, h1, h2, h3, h4, h5, h6, h7⟩ := F w mg fa _ Y G.T.g hmg
  obtain ⟨S', e⟩ := h6 ns hlen hbits
  have L : LawIn K mg mb s₁ a vs ns cs := ⟨KX, G.T.g, G.T.b, G.T.builtins, G.T.nolimit, hg, h1, h2, h3, G.T.bmain, hobj, hints, Nat.le_trans hlen hn2⟩
  exact L.call hr h4 (h7 _ L.kb (L.nsb L.ns_) L.tb) h5 e
end GL

end

section
set_option Elab.async false
set_option linter.all false
set_option maxRecDepth 100000
set_option maxHeartbeats 4000000
/-! GL: try: return .. except X as e: return f(e). -/
namespace GL
open PySem PySem.Spec PyProof.Rows L2 LamX

section
open Classical
/-- i: e's slot -/
noncomputable def sTold (call : Calls) (t : XTab) (rf : Str) (i : Nat) (b : StM) : StM := fun l S => match b l S with
  | .exc c fs l' S' => if t.cls.contains c = true ∧ t.is c t.top = true ∧ i < l'.length then (match call (.fh rf) [.hx c fs] S' with
    | .ok g S'' => if S'' = S' ∧ noHx g = true then .rt g S'' else .bad
    | _ => .bad) else .bad
  | .nx _ _ => .bad
  | r => r
end
section
variable {M : Md} {k : Nat} {r : RP} {W : WX} {X : Cx} {i : Nat} {n rf : Str} {call : Calls} {t : XTab} {cP : Addr}
/-- what the suite is told -/
def tHand (M : Md) (call : Calls) (r : RP) (rf : Str) (i : Nat) (a : Addr) (cls : Value) (d : Option Addr) : TS := fun D σ H => ∃ m S c C fs g, Rep r M.T m S H ∧ cls = .ref C ∧ M.mg c = some (.ref C) ∧ RepX r m H fs d ∧ σ[i]? = some (some (.ref a)) ∧
  call (.fh rf) [.hx c fs] S = .ok g S ∧ noHx g = true ∧ ∀ m' H' v, Ext m H m' H' → Rep r M.T m' S H' → RepV r m' H' g v → D.rt v H'
theorem g_hand {p1 p2 cp rp : Pos} {a : Addr} {oe : Obj} {cls : Value} {d : Option Addr} {pn : List (Addr × Obj)} (hX : M.of X) (hM : M.is r) (hgu : X.A.guards = some []) (hr : Room k X.A) (F : CalH M k rf (call (.fh rf))) (hN : X.N[i]? = some n) (hv : Vis X.env.scope n) (hg : Gl X rf)
    (hdb : (n == ("__debug__" : Str)) = false) (hcd : (n == ("__classdict__" : Str)) = false) (hdf : (rf == ("__debug__" : Str)) = false) (hz : Zc cls d oe) (hf : ∃ vs, oe.data = .fields vs)
    (he : starEach [.Name n p2] X.env = (false, eval (.Name n p2) X.env) :: starEach [] X.env) :
    PSs (X.suite a ((a, oe) :: pn)) [.Return (some (.Call (.Name rf p1) [.Name n p2] [] cp)) rp] (tHand M call r rf i a cls d) := by
  obtain ⟨f, fd, ps, h1, h2, h3, h4, h5⟩ := F.ex
  obtain ⟨x1, x2, x3, x4, x5⟩ := id hX
  have hc : PE (X.suite a ((a, oe) :: pn)) (.Call (.Name rf p1) [.Name n p2] [] cp) (fun σ H Q => tHand M call r rf i a cls d { nx := fun _ _ => False, rt := Q } σ H) := by
    refine ⟨fun pins s σ H Q I ⟨m, S, c, C, fs, g, hR, e1, e2, hx, hσ, e3, e4, k1⟩ => ?_⟩
    refine wpAny_Call_Name_kw (ld_glob I hg (show X.mg rf = some (.ref f) by rw [x4]; exact h1) ?_ hdf)
    refine PySem.W.callWith_K (h₀ := X.base) I.ok.mod.kin (show PySem.W.keepIn X.K (.ref f) = true by rw [x3]; exact h2) (thn ((pa_cons (pe_var (X := X.suite a ((a, oe) :: pn)) (pos := p2) hN hv hdb hcd) pa_nil he).run cp pins s σ H (fun vs H1 => vs = [.ref a] ∧ H1 = H) I ⟨.ref a, hσ, rfl, rfl⟩) fun us s1 ⟨vs, H1, I1, r1, q⟩ => ⟨I1.kIn, ?_⟩) he rfl
    obtain ⟨ev, eH⟩ := q
    subst ev eH
    have P1 := I1.pin (a, oe) (List.mem_append_left _ List.mem_cons_self)
    have hpin : L2H.PinOk X.stack H1 s1 (a, oe) := ⟨P1.1, P1.2.1, fun hm => (List.mem_cons.mp (I1.stkSub a hm)).elim P1.2.2.1 P1.2.2.2.1, P1.2.2.2.2⟩
    have hl : us.length = ps.length := by rw [← r1.length, h4]; rfl
    have b := h3 s1 us (by rw [← x3]; exact I1.kIn) (by rw [List.append_nil]; exact hl)
    rw [List.append_nil] at b
    have e0 := I1.env0
    have hn : r.hp = none := hM.2.2.2
    have hoe : oe.cls = .ref C ∧ oe.dict = d := ⟨hz.1.trans e1, hz.2⟩
    have run := h5 (X.A.mark (some (.ref a))) X.stack s1 H1 ⟨us, []⟩ us Q (a, oe) (setHp r (a, oe)) m S c fs ⟨hr.dp, hr.un⟩ hgu hf hpin (by rw [← x1, ← x2, ← x3, ← x4, ← x5]; exact e0) b r1 hM.1 hM.2.1 rfl (hR.hot hn)
      (.hx rfl hoe.1 (by show r.mg c = _; rw [hM.2.1]; exact e2) (by show RepX _ m H1 fs oe.dict; rw [hoe.2]; exact hx.like (like_hp hn))) (by
        rw [e3]
        exact fun m' H' v ex a b => k1 m' H' v ex (hR.cool hn a) (b.cool e4))
    rw [← x1, ← x2] at run
    refine wpAny_call (codeAny_mono run fun r s' hq => ?_)
    cases r with
    | error e =>
      obtain ⟨_, _, _, _, _, _, _, _, _, _, _, _, z⟩ := hq
      exact z.elim
    | ok fl =>
      cases fl with
      | ret u => exact I1.after hq
      | next => exact False.elim hq
      | brk => exact False.elim hq
      | cont => exact False.elim hq
  exact pss_one (PS_imp (ps_ret hc) fun D σ H h => h)
theorem g_told {np p1 p2 cp rp pos' pos : Pos} {body : List Stmt} {b : StM} (c : Ctx r M.T W X) (hX : M.of X) (hM : M.is r) (ht : XTabOk M.K M.mg t) (hr : Room k X.A) (F : CalH M k rf (call (.fh rf)))
    (hs : X.stack = X.env :: X.outer) (hf : X.env.frame = some X.env.locals) (hNd : X.N.Nodup) (hN : X.N[i]? = some n) (hln : X.env.kindOf n = some .local) (hv : Vis X.env.scope n) (hgt : Gl X t.top) (hg : Gl X rf)
    (hdb : (n == ("__debug__" : Str)) = false) (hcd : (n == ("__classdict__" : Str)) = false) (hdf : (rf == ("__debug__" : Str)) = false) (hdt : (t.top == ("__debug__" : Str)) = false) (hcP : M.mg t.top = some (.ref cP))
    (he : starEach [.Name n p2] X.env = (false, eval (.Name n p2) X.env) :: starEach [] X.env)
    (hb : ∀ (W' : WX) (pn : List (Addr × Obj)) (xe : Value → Shared → Prop), Ctx r M.T W' (X.tr pn xe) → M.of (X.tr pn xe) → PSs (X.tr pn xe) body (tSF r M.T W' b)) :
    PS X (.Try body [.ExceptHandler (some (.Name t.top np)) (some n) [.Return (some (.Call (.Name rf p1) [.Name n p2] [] cp)) rp] pos'] [] [] pos) (tSF r M.T W (sTold call t rf i b)) := by
  refine PS_imp (ps_try_as (c := .ref cP) (tb := fun W' => tSF r M.T W' b) (ts := tHand M call r rf i) hs hf hNd hN hln ⟨hgt, hdt, .inl (by rw [hX.2.2.2.1]; exact hcP)⟩ c.tk (fun W' pn xe tk hp => hb W' pn xe ⟨c.K, c.mg, c.calm, c.hd, c.un, c.gu, tk⟩ hX)
    (fun a oe cls d pn hz hfl => g_hand hX hM c.gu hr F hN hv hg hdb hcd hdf hz hfl he)) fun D s H ⟨m, S, l, hR, hL, q⟩ => ⟨m, S, l, hR, hL, ?_⟩
  unfold sTold at q
  cases e : b l S with
  | bad => rw [e] at q; exact q
  | nx l' S' => rw [e] at q; exact False.elim q
  | rt g S' => rw [e] at q; exact q
  | bk l' S' => rw [e] at q; exact q
  | ct l' S' => rw [e] at q; exact q
  | exc cn fs l' S' =>
    rw [e] at q
    dsimp only at q
    split at q
    · rename_i hc
      obtain ⟨c1, c3, c4⟩ := hc
      split at q
      · rename_i g S'' e2
        split at q
        · rename_i hq
          obtain ⟨q1, q2⟩ := hq
          subst q1
          intro m' H' s' C d ex a b' hC x
          have hC' : M.mg cn = some (.ref C) := by rw [← hM.2.1]; exact hC
          have hk := ht.top cn (List.contains_iff_mem.mp c1) C cP hC' hcP
          refine ⟨true, by rw [hX.2.2.1, hk, c3], fun _ a0 ha0 => ?_, fun z => by cases z⟩
          have hlen : i < s'.length := by rw [← b'.len]; exact c4
          exact ⟨m', S'', cn, C, fs, g, a, rfl, hC', x, by simp [hlen], e2, q2, fun m2 H2 v ex2 a2 b2 => q m2 H2 v (ex.trans ex2) a2 b2⟩
        · exact False.elim q
      · exact False.elim q
    · exact False.elim q
end
theorem boot_ValueError : bootBuiltins "ValueError" = some (.type "ValueError") := by kernel_rfl
theorem g_globH {M : Md} {r : RP} {T : List (Addr × Str)} {W W' : WX} {X : Cx} {x : Str} {p : Pos} {f : Addr} (c : CtxH M r T W X) (hX : M.of X) (hg : Gl X x) (hm : M.mg x = some (.ref f)) (hd : (x == ("__debug__" : Str)) = false) : PE X (.Name x p) (tF r T W' (eC (.gl x))) :=
  PE_imp (pe_glob (v := .ref f) hg (by rw [hX.2.2.2.1]; exact hm) rfl hd) fun s H Q ⟨m, S, l, hR, hL, q⟩ => q.ok_of hR (.gl (by rw [c.rm]; exact hm))
def lamB (sc sco : Scope) (fr : List Str) : Bool := (sco.names.all fun y => decide (y.2 ≠ .free) || (decide (sc.names.lookup y.1 = some .cell) || decide (sc.names.lookup y.1 = some .free))) && fr.all fun y => decide ((y, NameKind.free) ∈ sco.names)
theorem lamTx_by {lam : Nat → Option LamD} {X : Cx} {ln : Nat} {L : LamD} {params : Arguments} {body : Expr} {sco : Scope} {js : List Nat} (sc : Scope) (h1 : lam ln = some L) (h2 : L.qual = X.env.qual ++ "<lambda>") (h3 : L.params = params) (h4 : L.body = body) (h5 : L.scope = sco)
    (hs : X.env.scope = sc) (h : lamB sc sco L.fr = true) (h6 : js.map (fun j => X.N[j]?) = L.fr.map some) : LamTx lam X ln L params body sco js := by
  subst hs
  unfold lamB at h
  rw [Bool.and_eq_true, List.all_eq_true, List.all_eq_true] at h
  refine ⟨h1, h2, h3, h4, h5, fun y hy e => ?_, fun y hy => of_decide_eq_true (h.2 y hy), h6⟩
  have := h.1 y hy
  simp only [Bool.or_eq_true, decide_eq_true_eq] at this
  rcases this with q | q
  · exact absurd e q
  · exact q
/-! ### what they compute -/
theorem eClC_eq {ln k i : Nat} {cap : List G} {call : Calls} {a : As} {l : GL.Loc} {S : Sto} (h : l[i]? = some (some (.clo ln (k + 1) cap))) : eClC (.clo ln (k + 1) cap) call i a l S = rb (a l S) fun xs S => call (.la ln 1) (xs ++ cap) S := by
  unfold eClC
  rw [if_pos h]
theorem sTold_exc {call : Calls} {t : XTab} {rf : Str} {i : Nat} {b : StM} {l l' : GL.Loc} {S S' : Sto} {c : Str} {fs : List (Str × G)} {g : G} (h : b l S = .exc c fs l' S') (hc : t.cls.contains c = true) (hi : t.is c t.top = true) (hl : i < l'.length)
    (hr : call (.fh rf) [.hx c fs] S' = .ok g S') (hn : noHx g = true) : sTold call t rf i b l S = .rt g S' := by
  unfold sTold
  rw [h]
  dsimp only
  rw [if_pos ⟨hc, hi, hl⟩, hr]
  dsimp only
  rw [if_pos ⟨rfl, hn⟩]
theorem sTold_rt {call : Calls} {t : XTab} {rf : Str} {i : Nat} {b : StM} {l : GL.Loc} {S S' : Sto} {g : G} (h : b l S = .rt g S') : sTold call t rf i b l S = .rt g S' := by
  unfold sTold
  rw [h]
theorem rb_exc {a b : Type} {c : Str} {fs : List (Str × G)} {S : Sto} {k : a → Sto → R b} : rb (.exc c fs S) k = .exc c fs S := rfl
theorem sr_exc {a : Type} {c : Str} {fs : List (Str × G)} {l : GL.Loc} {S : Sto} {k : a → Sto → SR} : sr l (.exc c fs S) k = .exc c fs l S := rfl
theorem bodyR_exc {c : Str} {fs : List (Str × G)} {l : GL.Loc} {S : Sto} : bodyR (.exc c fs l S) = .exc c fs S := rfl
end GL

end

section
set_option Elab.async false
set_option linter.all false
set_option maxRecDepth 100000
set_option maxHeartbeats 4000000
/-! GL: comprehensions of two clauses. -/
namespace GL
open PySem PySem.Spec PyProof.Rows L2
abbrev Itr0' := Loc → Sto → R It
def lcGo2 (g : Tg) (t : Te) (it : Itr0') (vs1 : List Nat) (g1 : Tg) (t1 : Te) (e : Ev) (l : Loc) : List G → List G → Sto → R (List G)
  | [], acc, S => .ok acc S
  | x :: xs, acc, S => (match tgSet g x l with
    | none => .bad
    | some l' => rbN (t l' S) fun k S => if k = true then rbN (it l' S) fun i S => (match i with
        | .fix ys => rbN (lcGo g1 t1 e (wipeL l' vs1) ys acc S) fun acc S => lcGo2 g t it vs1 g1 t1 e l xs acc S
        | .dyn _ => .bad)
      else lcGo2 g t it vs1 g1 t1 e l xs acc S)
def eLc2 (it : Itr0') (own : List Nat) (g : Tg) (t : Te) (it1 : Itr0') (vs1 : List Nat) (g1 : Tg) (t1 : Te) (e : Ev) : Ev := fun l S => rb (it l S) fun i S => match i with
  | .fix xs => rb (lcGo2 g t it1 vs1 g1 t1 e (wipeL l own) xs [] S) fun ys S => if ys.length < sizeLine then .ok (.tl ys) S else .bad
  | .dyn _ => .bad
/-- the second source: whatever is hidden -/
def tIh (r : RP) (T : List (Addr × Str)) (f : Itr0') : TI := fun s H Q => ∃ hid, tIF { r with hid := hid } T W0 f s H Q
theorem lcGo_len (g : Tg) (t : Te) (e : Ev) (l : Loc) : ∀ (xs acc : List G) (S S' : Sto) (ys : List G), lcGo g t e l xs acc S = .ok ys S' → acc.length ≤ ys.length
  | [], acc, S, S', ys, h => by cases h; exact Nat.le_refl _
  | x :: xs, acc, S, S', ys, h => by
    unfold lcGo at h
    cases e1 : tgSet g x l with
    | none => rw [e1] at h; cases h
    | some l' =>
      rw [e1] at h
      dsimp only at h
      cases e2 : t l' S with
      | ok k S1 =>
        rw [e2] at h
        simp only [rbN] at h
        cases k with
        | false => exact lcGo_len g t e l xs acc _ _ ys (by simpa using h)
        | true =>
          simp only [if_true] at h
          cases e3 : e l' S1 with
          | ok y S2 =>
            rw [e3] at h
            have := lcGo_len g t e l xs (acc ++ [y]) _ _ ys (by simpa using h)
            simp at this
            omega
          | exc _ _ _ => rw [e3] at h; cases h
          | bad => rw [e3] at h; cases h
      | exc _ _ _ => rw [e2] at h; cases h
      | bad => rw [e2] at h; cases h
theorem lcGo2_len (g : Tg) (t : Te) (it : Itr0') (vs1 : List Nat) (g1 : Tg) (t1 : Te) (e : Ev) (l : Loc) : ∀ (xs acc : List G) (S S' : Sto) (ys : List G), lcGo2 g t it vs1 g1 t1 e l xs acc S = .ok ys S' → acc.length ≤ ys.length
  | [], acc, S, S', ys, h => by cases h; exact Nat.le_refl _
  | x :: xs, acc, S, S', ys, h => by
    unfold lcGo2 at h
    cases e1 : tgSet g x l with
    | none => rw [e1] at h; cases h
    | some l' =>
      rw [e1] at h
      dsimp only at h
      cases e2 : t l' S with
      | ok k S1 =>
        rw [e2] at h
        simp only [rbN] at h
        cases k with
        | false => exact lcGo2_len g t it vs1 g1 t1 e l xs acc _ _ ys (by simpa using h)
        | true =>
          simp only [if_true] at h
          cases e3 : it l' S1 with
          | ok i S2 =>
            rw [e3] at h
            cases i with
            | dyn _ => cases h
            | fix zs =>
              dsimp only at h
              cases e4 : lcGo g1 t1 e (wipeL l' vs1) zs acc S2 with
              | ok a2 S3 =>
                rw [e4] at h
                have h1 := lcGo_len _ _ _ _ _ _ _ _ _ e4
                have h2 := lcGo2_len g t it vs1 g1 t1 e l xs a2 _ _ ys (by simpa using h)
                omega
              | exc _ _ _ => rw [e4] at h; cases h
              | bad => rw [e4] at h; cases h
          | exc _ _ _ => rw [e3] at h; cases h
          | bad => rw [e3] at h; cases h
      | exc _ _ _ => rw [e2] at h; cases h
      | bad => rw [e2] at h; cases h
section
variable {r : RP} {T : List (Addr × Str)} {W : WX} {s : L2.St} {m : List Addr} {H : Hp} {S : Sto} {l : Loc}
/-- what is still to come: its end is no longer than a line -/
theorem acc_short {res : R (List G)} {n : Nat} {Q : VK} (hl : ∀ ys S', res = .ok ys S' → n ≤ ys.length) (q : Pst r T W (RepV r) s m H (rb res fun ys S => if ys.length < sizeLine then .ok (.tl ys) S else .bad) Q) (hne : ∀ c fs S', res ≠ .exc c fs S') : n < sizeLine := by
  cases e : res with
  | ok ys S' =>
    have h1 := hl ys S' e
    rw [e] at q
    simp only [rb] at q
    split at q
    · omega
    · exact False.elim q
  | exc c fs S' => exact absurd e (hne c fs S')
  | bad => rw [e] at q; exact False.elim q
theorem lcGo_noexc (g : Tg) (t : Te) (e : Ev) (l : Loc) : ∀ (xs acc : List G) (S : Sto) (c : Str) (fs : List (Str × G)) (S' : Sto), lcGo g t e l xs acc S ≠ .exc c fs S'
  | [], acc, S, c, fs, S', h => by cases h
  | x :: xs, acc, S, c, fs, S', h => by
    unfold lcGo at h
    cases e1 : tgSet g x l with
    | none => rw [e1] at h; cases h
    | some l' =>
      rw [e1] at h
      dsimp only at h
      cases e2 : t l' S with
      | ok k S1 =>
        rw [e2] at h
        simp only [rbN] at h
        cases k with
        | false => exact lcGo_noexc g t e l xs acc _ c fs S' (by simpa using h)
        | true =>
          simp only [if_true] at h
          cases e3 : e l' S1 with
          | ok y S2 => rw [e3] at h; exact lcGo_noexc g t e l xs _ _ c fs S' (by simpa using h)
          | exc _ _ _ => rw [e3] at h; cases h
          | bad => rw [e3] at h; cases h
      | exc _ _ _ => rw [e2] at h; cases h
      | bad => rw [e2] at h; cases h
theorem lcGo2_noexc (g : Tg) (t : Te) (it : Itr0') (vs1 : List Nat) (g1 : Tg) (t1 : Te) (e : Ev) (l : Loc) : ∀ (xs acc : List G) (S : Sto) (c : Str) (fs : List (Str × G)) (S' : Sto), lcGo2 g t it vs1 g1 t1 e l xs acc S ≠ .exc c fs S'
  | [], acc, S, c, fs, S', h => by cases h
  | x :: xs, acc, S, c, fs, S', h => by
    unfold lcGo2 at h
    cases e1 : tgSet g x l with
    | none => rw [e1] at h; cases h
    | some l' =>
      rw [e1] at h
      dsimp only at h
      cases e2 : t l' S with
      | ok k S1 =>
        rw [e2] at h
        simp only [rbN] at h
        cases k with
        | false => exact lcGo2_noexc g t it vs1 g1 t1 e l xs acc _ c fs S' (by simpa using h)
        | true =>
          simp only [if_true] at h
          cases e3 : it l' S1 with
          | ok i S2 =>
            rw [e3] at h
            cases i with
            | dyn _ => cases h
            | fix zs =>
              dsimp only at h
              cases e4 : lcGo g1 t1 e (wipeL l' vs1) zs acc S2 with
              | ok a2 S3 => rw [e4] at h; exact lcGo2_noexc g t it vs1 g1 t1 e l xs a2 _ c fs S' (by simpa using h)
              | exc _ _ _ => rw [e4] at h; cases h
              | bad => rw [e4] at h; cases h
          | exc _ _ _ => rw [e3] at h; cases h
          | bad => rw [e3] at h; cases h
      | exc _ _ _ => rw [e2] at h; cases h
      | bad => rw [e2] at h; cases h
/-- the new list's own rule: one more element -/
theorem lc2_fix {own vs1 : List Nat} {t t1 : Tg} {tst tst1 : Te} {it1 : Itr0'} {elt : Ev} {J : L2.It} {xs : List G} {Q : VK} (ht : ∀ i ∈ t.is, i ∈ own) (ht1 : ∀ i ∈ t1.is, i ∈ vs1) (hI : ItOk r T m H (.fix xs) J) (hR : Rep r T m S H) (hL : RepL r m H l s)
    (q : Pst r T W (RepV r) s m H (rb (lcGo2 t tst it1 vs1 t1 tst1 elt (wipeL l own) xs [] S) fun ys S => if ys.length < sizeLine then .ok (.tl ys) S else .bad) Q) (Dd : Addr) (hD : H Dd = none) :
    ∃ Wv : Nat → Nat → Hp → Prop, (∃ n, Wv 0 n (upd H Dd (.lst []))) ∧ ∀ i n H, Wv i n H → (J.stop i H ∧ Q (.ref Dd) H) ∨
      (J.go i H ∧ ∃ Nx : Hp → Prop, (∀ H', Nx H' → ∃ n', n' < n ∧ Wv (i + 1) n' H') ∧ ∀ x H', J.yld i H x H' → tgT r.K t x (L2.wipe s own) H' fun s2 H2 => L2.wipe s2 own = L2.wipe s own ∧ tTh r T tst s2 H2 fun b H3 =>
        if b = true then tIh r T it1 s2 H3 fun J1 H4 => ∃ W1 : Nat → Nat → Hp → Prop, (∃ n, W1 0 n H4) ∧ ∀ j k H, W1 j k H → (J1.stop j H ∧ Nx H) ∨
          (J1.go j H ∧ ∃ Nx1 : Hp → Prop, (∀ H', Nx1 H' → ∃ k', k' < k ∧ W1 (j + 1) k' H') ∧ ∀ x H', J1.yld j H x H' → tgT r.K t1 x (L2.wipe s2 vs1) H' fun s3 H5 => L2.wipe s3 vs1 = L2.wipe s2 vs1 ∧ tTh r T tst1 s3 H5 fun b H6 =>
            if b = true then tEh r T elt s3 H6 fun y H7 => ∃ acc, H7 Dd = some (.lst acc) ∧ acc.length < sizeLine ∧ Nx1 (upd H7 Dd (.lst (acc ++ [y]))) else Nx1 H6)
        else Nx H3) := by
  have hm : Dd ∈ (r.hide Dd).hid := by simp [RP.hides]
  refine ⟨fun i n H' => n = xs.length - i ∧ i ≤ xs.length ∧ ∃ m' S' acc accV, Ext m H m' H' ∧ Rep (r.hide Dd) T m' S' H' ∧ RepL (r.hide Dd) m' H' (wipeL l own) (L2.wipe s own) ∧ H' Dd = some (.lst accV) ∧ RepVs (r.hide Dd) m' H' acc accV ∧
    Pst r T W (RepV r) s m H (rb (lcGo2 t tst it1 vs1 t1 tst1 elt (wipeL l own) (xs.drop i) acc S') fun ys S => if ys.length < sizeLine then .ok (.tl ys) S else .bad) Q, ⟨xs.length, by simp, by simp, m, S, [], [], Ext.new hD _, hR.hide hD, (hL.wipe own).hide hD, upd_same, .nil, q⟩, ?_⟩
  rintro i n H' ⟨rfl, hi, m', S', acc, accV, e', hR', hL', hDa, hA, q'⟩
  have hla := hA.length
  cases e : xs[i]? with
  | none =>
    have hl : xs.length ≤ i := List.getElem?_eq_none_iff.mp e
    rw [List.drop_eq_nil_of_le hl] at q'
    simp only [lcGo2, rb] at q'
    split at q'
    · rename_i hz
      refine .inl ⟨hI.stop [Dd] i m' S' H' (one_none hD) e'.toB hR' (by simp [itAt, e]), q' m' H' _ e' hR'.unhide (.tl ⟨(hR'.hid Dd hm).1, fun z => ?_⟩ hDa (by omega) hA.unhide)⟩
      obtain ⟨_, ys, hy⟩ := hR.hid Dd z
      rw [hD] at hy; cases hy
    · exact False.elim q'
  | some x =>
    have hlt : i < xs.length := (List.getElem?_eq_some_iff.mp e).1
    rw [drop_cons e] at q'
    obtain ⟨g1, g2⟩ := hI.go [Dd] i m' S' H' x (one_none hD) e'.toB hR' (by simp [itAt, e])
    refine .inr ⟨g1, fun H5 => ∃ m5 S5 acc accV, Ext m H m5 H5 ∧ Rep (r.hide Dd) T m5 S5 H5 ∧ RepL (r.hide Dd) m5 H5 (wipeL l own) (L2.wipe s own) ∧ H5 Dd = some (.lst accV) ∧ RepVs (r.hide Dd) m5 H5 acc accV ∧
      Pst r T W (RepV r) s m H (rb (lcGo2 t tst it1 vs1 t1 tst1 elt (wipeL l own) (xs.drop (i + 1)) acc S5) fun ys S => if ys.length < sizeLine then .ok (.tl ys) S else .bad) Q, fun H5 h => ⟨_, (by omega : xs.length - (i + 1) < xs.length - i), rfl, hlt, h⟩, fun v H2 hy => ?_⟩
    obtain ⟨ex, hR2, hv⟩ := g2 v H2 hy
    unfold lcGo2 at q'
    cases e2 : tgSet t x (wipeL l own) with
    | none => rw [e2] at q'; exact False.elim q'
    | some l' =>
      rw [e2] at q'
      refine tg_ok (r := r.hide Dd) (hL'.ext ex) hv e2 fun s' hLs hw => ⟨(hw own ht).trans (wipe_wipe s own), (r.hide Dd).hid, ?_⟩
      have q2 : Pst r T W (RepV r) s m H (rbN (tst l' S') fun k S => rb (if k = true then rbN (it1 l' S) fun iv S => (match iv with
        | .fix ys => rbN (lcGo t1 tst1 elt (wipeL l' vs1) ys acc S) fun acc S => lcGo2 t tst it1 vs1 t1 tst1 elt (wipeL l own) (xs.drop (i + 1)) acc S
        | .dyn _ => .bad) else lcGo2 t tst it1 vs1 t1 tst1 elt (wipeL l own) (xs.drop (i + 1)) acc S) fun ys S => if ys.length < sizeLine then .ok (.tl ys) S else .bad) Q := by
        revert q'
        dsimp only
        cases tst l' S' <;> exact id
      refine ⟨m', S', l', hR2, hLs, Pst.mono (stN (r' := r.hide Dd) (relr := fun _ _ (x y : Bool) => x = y) q2) fun b H3 ⟨m3, S3, b', e3, hR3, eb, q3⟩ => ?_⟩
      subst eb
      have hD2 : H2 Dd = some (.lst accV) := ex.keep Dd _ (hR'.hid Dd hm).1 (fun _ z => by cases z) hDa
      have hD3 : H3 Dd = some (.lst accV) := e3.keep Dd _ (hR2.hid Dd hm).1 (fun _ z => by cases z) hD2
      cases b' with
      | false =>
        rw [if_neg Bool.false_ne_true] at q3 ⊢
        exact ⟨m3, S3, acc, accV, (e'.trans ex).trans e3, hR3, (hL'.ext ex).ext e3, hD3, (hA.ext ex).ext e3, q3⟩
      | true =>
        rw [if_pos rfl] at q3 ⊢
        have q4 : Pst r T W (RepV r) s m H (rbN (it1 l' S3) fun iv S => rb (match iv with
          | .fix ys => rbN (lcGo t1 tst1 elt (wipeL l' vs1) ys acc S) fun acc S => lcGo2 t tst it1 vs1 t1 tst1 elt (wipeL l own) (xs.drop (i + 1)) acc S
          | .dyn _ => .bad) fun ys S => if ys.length < sizeLine then .ok (.tl ys) S else .bad) Q := by
          revert q3
          cases it1 l' S3 <;> exact id
        refine ⟨(r.hide Dd).hid, m3, S3, l', hR3, hLs.ext e3, Pst.mono (stN (r' := r.hide Dd) (relr := fun m' H' (i : It) (J : L2.It) => ItOk (r.hide Dd) T m' H' i J) q4) fun J1 H4 ⟨m4, S4, i4, e4, hR4, hI4, q5⟩ => ?_⟩
        have hD4 : H4 Dd = some (.lst accV) := e4.keep Dd _ (hR3.hid Dd hm).1 (fun _ z => by cases z) hD3
        cases i4 with
        | dyn _ => exact False.elim q5
        | fix ys =>
          dsimp only at q5
          have hL4 := (hLs.ext e3).ext e4
          have hLo4 := ((hL'.ext ex).ext e3).ext e4
          have hA4 := ((hA.ext ex).ext e3).ext e4
          have ex4 := ((e'.trans ex).trans e3).trans e4
          have q6 : Pst r T W (RepV r) s m H (rb (rbN (lcGo t1 tst1 elt (wipeL l' vs1) (ys.drop 0) acc S4) fun acc S => lcGo2 t tst it1 vs1 t1 tst1 elt (wipeL l own) (xs.drop (i + 1)) acc S) fun ys S => if ys.length < sizeLine then .ok (.tl ys) S else .bad) Q := q5
          refine ⟨fun j k H7 => k = ys.length - j ∧ j ≤ ys.length ∧ ∃ m7 S7 acc accV, ExtB (r.hide Dd).hid m4 H4 m7 H7 ∧ Ext m H m7 H7 ∧ Rep (r.hide Dd) T m7 S7 H7 ∧ RepL (r.hide Dd) m7 H7 l' s' ∧ RepL (r.hide Dd) m7 H7 (wipeL l own) (L2.wipe s own) ∧ H7 Dd = some (.lst accV) ∧ RepVs (r.hide Dd) m7 H7 acc accV ∧
            Pst r T W (RepV r) s m H (rb (rbN (lcGo t1 tst1 elt (wipeL l' vs1) (ys.drop j) acc S7) fun acc S => lcGo2 t tst it1 vs1 t1 tst1 elt (wipeL l own) (xs.drop (i + 1)) acc S) fun ys S => if ys.length < sizeLine then .ok (.tl ys) S else .bad) Q,
            ⟨ys.length, by simp, by simp, m4, S4, acc, accV, (Ext.refl _ _).toB, ex4, hR4, hL4, hLo4, hD4, hA4, q6⟩, ?_⟩
          rintro j k H7 ⟨rfl, hj, m7, S7, acc7, accV7, eb7, ex7, hR7, hL7, hLo7, hD7, hA7, q7⟩
          have hla7 := hA7.length
          cases ej : ys[j]? with
          | none =>
            have hl : ys.length ≤ j := List.getElem?_eq_none_iff.mp ej
            rw [List.drop_eq_nil_of_le hl] at q7
            exact .inl ⟨hI4.stop [] j m7 S7 H7 (by simp) eb7 hR7 (by simp [itAt, ej]), m7, S7, acc7, accV7, ex7, hR7, hLo7, hD7, hA7, q7⟩
          | some x1 =>
            have hlt1 : j < ys.length := (List.getElem?_eq_some_iff.mp ej).1
            rw [drop_cons ej] at q7
            obtain ⟨k1, k2⟩ := hI4.go [] j m7 S7 H7 x1 (by simp) eb7 hR7 (by simp [itAt, ej])
            refine .inr ⟨k1, fun H8 => ∃ m7 S7 acc accV, ExtB (r.hide Dd).hid m4 H4 m7 H8 ∧ Ext m H m7 H8 ∧ Rep (r.hide Dd) T m7 S7 H8 ∧ RepL (r.hide Dd) m7 H8 l' s' ∧ RepL (r.hide Dd) m7 H8 (wipeL l own) (L2.wipe s own) ∧ H8 Dd = some (.lst accV) ∧ RepVs (r.hide Dd) m7 H8 acc accV ∧
              Pst r T W (RepV r) s m H (rb (rbN (lcGo t1 tst1 elt (wipeL l' vs1) (ys.drop (j + 1)) acc S7) fun acc S => lcGo2 t tst it1 vs1 t1 tst1 elt (wipeL l own) (xs.drop (i + 1)) acc S) fun ys S => if ys.length < sizeLine then .ok (.tl ys) S else .bad) Q, fun H8 h => ⟨_, (by omega : ys.length - (j + 1) < ys.length - j), rfl, hlt1, h⟩, fun v1 H8 hy1 => ?_⟩
            obtain ⟨ex8, hR8, hv8⟩ := k2 v1 H8 hy1
            unfold lcGo at q7
            cases e9 : tgSet t1 x1 (wipeL l' vs1) with
            | none => rw [e9] at q7; exact False.elim q7
            | some l9 =>
              rw [e9] at q7
              refine tg_ok (r := r.hide Dd) ((hL7.wipe vs1).ext ex8) hv8 e9 fun s9 hL9 hw9 => ⟨(hw9 vs1 ht1).trans (wipe_wipe s' vs1), (r.hide Dd).hid, ?_⟩
              have q8 : Pst r T W (RepV r) s m H (rbN (tst1 l9 S7) fun k S => rb (rbN (if k = true then rbN (elt l9 S) fun y S => lcGo t1 tst1 elt (wipeL l' vs1) (ys.drop (j + 1)) (acc7 ++ [y]) S else lcGo t1 tst1 elt (wipeL l' vs1) (ys.drop (j + 1)) acc7 S) fun acc S => lcGo2 t tst it1 vs1 t1 tst1 elt (wipeL l own) (xs.drop (i + 1)) acc S) fun ys S => if ys.length < sizeLine then .ok (.tl ys) S else .bad) Q := by
                revert q7
                dsimp only
                cases tst1 l9 S7 <;> exact id
              refine ⟨m7, S7, l9, hR8, hL9, Pst.mono (stN (r' := r.hide Dd) (relr := fun _ _ (x y : Bool) => x = y) q8) fun b H9 ⟨m9, S9, b9, e99, hR9, eb9, q9⟩ => ?_⟩
              subst eb9
              have hD8 : H8 Dd = some (.lst accV7) := ex8.keep Dd _ (hR7.hid Dd hm).1 (fun _ z => by cases z) hD7
              have hD9 : H9 Dd = some (.lst accV7) := e99.keep Dd _ (hR8.hid Dd hm).1 (fun _ z => by cases z) hD8
              have eA := ex8.trans e99
              cases b9 with
              | false =>
                rw [if_neg Bool.false_ne_true] at q9 ⊢
                exact ⟨m9, S9, acc7, accV7, eb7.transB eA.toB, ex7.trans eA, hR9, hL7.ext eA, hLo7.ext eA, hD9, hA7.ext eA, q9⟩
              | true =>
                rw [if_pos rfl] at q9 ⊢
                have q10 : Pst r T W (RepV r) s m H (rbN (elt l9 S9) fun y S => rb (rbN (lcGo t1 tst1 elt (wipeL l' vs1) (ys.drop (j + 1)) (acc7 ++ [y]) S) fun acc S => lcGo2 t tst it1 vs1 t1 tst1 elt (wipeL l own) (xs.drop (i + 1)) acc S) fun ys S => if ys.length < sizeLine then .ok (.tl ys) S else .bad) Q := by
                  revert q9
                  cases elt l9 S9 <;> exact id
                refine ⟨(r.hide Dd).hid, m9, S9, l9, hR9, hL9.ext e99, Pst.mono (stN (r' := r.hide Dd) (relr := RepV (r.hide Dd)) q10) fun y H10 ⟨m10, S10, g10, e10, hR10, hg10, q11⟩ => ?_⟩
                have hD10 : H10 Dd = some (.lst accV7) := e10.keep Dd _ (hR9.hid Dd hm).1 (fun _ z => by cases z) hD9
                have eB := eA.trans e10
                have short : accV7.length < sizeLine := by
                  have := acc_short (n := acc7.length + 1) (fun zs S' hz => ?_) q11 (fun c fs S' hz => ?_)
                  · omega
                  · cases hq : lcGo t1 tst1 elt (wipeL l' vs1) (ys.drop (j + 1)) (acc7 ++ [g10]) S10 with
                    | ok a2 S2 =>
                      rw [hq] at hz
                      have h1 := lcGo_len _ _ _ _ _ _ _ _ _ hq
                      have h2 := lcGo2_len _ _ _ _ _ _ _ _ _ _ _ _ _ hz
                      simp at h1
                      omega
                    | exc _ _ _ => rw [hq] at hz; cases hz
                    | bad => rw [hq] at hz; cases hz
                  · cases hq : lcGo t1 tst1 elt (wipeL l' vs1) (ys.drop (j + 1)) (acc7 ++ [g10]) S10 with
                    | ok a2 S2 =>
                      rw [hq] at hz
                      exact lcGo2_noexc _ _ _ _ _ _ _ _ _ _ _ _ _ _ hz
                    | exc _ _ _ => rw [hq] at hz; cases hz
                    | bad => rw [hq] at hz; cases hz
                exact ⟨accV7, hD10, short, m10, S10, acc7 ++ [g10], accV7 ++ [y], (eb7.transB eB.toB).behind hm ⟨_, hD4⟩, Ext.behind (ex7.trans eB) hD, hR10.behind hm (hR.ent.grow _ hD), (hL7.ext eB).behind hm, (hLo7.ext eB).behind hm, upd_same,
                  ((hA7.ext eB).append (.cons hg10 .nil)).behind hm, q11⟩
variable {X : Cx} {own : List (Str × Nat)} {vs1 : List Nat} {t t1 : Tg} {tst tst1 : Te} {it it1 : Itr0'} {ee : Ev} {elt tg iter tg1 iter1 : Expr} {ifs ifs1 : List Expr} {scope : Scope} {pos : Pos}
theorem PI_any {X : Cx} {tg e : Expr} {f : Itr0'} (h : ∀ hid, PI X tg e (tIF { r with hid := hid } T W0 f)) : PI X tg e (tIh r T f) := ⟨fun pins s l H R I ⟨hid, w⟩ => (h hid).run pins s l H R I w⟩
theorem g_lc2 (hK : X.K = r.K) (hc : X.calm = true) (hN : X.N.Nodup) (hi : PI X tg iter (tIF r T W it)) (ok : BlkOk X.N X.env.scope scope own) (hv : ∀ i ∈ vs1, i ∈ own.map (·.2)) (ht : ∀ i ∈ t.is, i ∈ own.map (·.2)) (ht1 : ∀ i ∈ t1.is, i ∈ vs1)
    (hg : ∀ (s : Shared) (H : Hp) (C : Addr) (cl : List (Str × Addr)) (fp : List Addr), PG (X.blk s H scope (compEnvC scope cl C X.env) fp) tg (tgT X.K t)) (htt : ∀ (s : Shared) (H : Hp) (C : Addr) (cl : List (Str × Addr)) (fp : List Addr), PTs (X.blk s H scope (compEnvC scope cl C X.env) fp) ifs (tTh r T tst))
    (hi1 : ∀ (s : Shared) (H : Hp) (C : Addr) (cl : List (Str × Addr)) (fp : List Addr), PI (X.blk s H scope (compEnvC scope cl C X.env) fp) tg1 iter1 (tIh r T it1))
    (hg1 : ∀ (s : Shared) (H : Hp) (C : Addr) (cl : List (Str × Addr)) (fp : List Addr), PG (X.blk s H scope (compEnvC scope cl C X.env) fp) tg1 (tgT X.K t1)) (htt1 : ∀ (s : Shared) (H : Hp) (C : Addr) (cl : List (Str × Addr)) (fp : List Addr), PTs (X.blk s H scope (compEnvC scope cl C X.env) fp) ifs1 (tTh r T tst1))
    (he : ∀ (s : Shared) (H : Hp) (C : Addr) (cl : List (Str × Addr)) (fp : List Addr), PE (X.blk s H scope (compEnvC scope cl C X.env) fp) elt (tEh r T ee)) (hs : ∀ x, foldedSetIterable iter X.env x = pure x) (hs1 : ∀ env x, foldedSetIterable iter1 env x = pure x) :
    PE X (.ListComp elt [⟨tg, iter, ifs, 0⟩, ⟨tg1, iter1, ifs1, 0⟩] scope pos) (tF r T W (eLc2 it (own.map (·.2)) t tst it1 vs1 t1 tst1 ee)) :=
  PE_imp (pe_lc2 hc hN hi ok hv hg htt hi1 hg1 htt1 he hs hs1) fun s H Q h => by
    rw [hK]
    obtain ⟨m, S, l, hR, hL, q⟩ := h
    refine ⟨m, S, l, hR, hL, ?_⟩
    unfold eLc2 at q
    cases e : it l S with
    | bad => rw [e] at q; exact q
    | exc c fs S1 => rw [e] at q; exact q
    | ok i S1 =>
      rw [e] at q
      refine fun m2 H2 J e2 a hI => ?_
      cases i with
      | fix xs => exact lc2_fix ht ht1 hI a (hL.ext e2) (Pst.ext e2 q)
      | dyn n => exact False.elim q
end
end GL

end

section
set_option Elab.async false
set_option linter.all false
set_option maxRecDepth 100000
set_option maxHeartbeats 4000000
/-! GL: what the head tells, as the rules want it; small things that printed proofs use. -/
namespace GL
open PySem PySem.Spec PyProof.Rows L2 LamX

/-! ### Bools of the written part -/
def clsB (K : PySem.W.Frag) (x : Str) : Bool :=
  (He.Fa.cls x).ok K && (He.eqO (PySem.W.findIn K (.ref (He.ga K x)) "__class__") (some (some (.builtin "object.__class__"))) && (He.eqO (PySem.W.specialIn K (.builtin "object.__class__") "__get__") (some (some (.builtin "getset_descriptor.__get__"))) &&
    (decide (PySem.W.takesIn K (.builtin "object.__class__") = some true) && (decide (PySem.W.mroIn K (He.ga K x) (.type "object") = some true) &&
      tyNames.all fun n => decide (PySem.W.kitOne K (.type n) (.ref (He.ga K x)) = some false) && decide (PySem.W.kitOne K (.ref (He.ga K x)) (.type n) = some false)))))
def subB (K : PySem.W.Frag) (t : Tab) : Bool := t.cls.all fun c => t.cls.all fun d => decide (PySem.W.kitOne K (.ref (He.ga K c)) (.ref (He.ga K d)) = some (c == d || t.sub.contains (c, d)))
def tabB (K : PySem.W.Frag) (t : Tab) : Bool := (t.cls.all fun c => clsB K c) && subB K t
def fldB (K : PySem.W.Frag) (t : FTab) : Bool := t.all fun p => (He.Fa.cls p.1).ok K && He.eqO (PySem.W.findIn K (.ref (He.ga K p.1)) p.2) (some none)
def eqclB (K : PySem.W.Frag) (x : Str) : Bool := He.eqO (PySem.W.findIn K (.ref (He.ga K x)) "__eq__") (some (some (.ref (He.ma K (He.ga K x) "__eq__")))) && (PySem.W.isFn K (.ref (He.ma K (He.ga K x) "__eq__")) &&
  (PySem.W.notFirst K (He.ga K x) (.type "tuple") && PySem.W.notFirst K (He.ga K x) (.ref (He.ga K x))))
section
variable {K : PySem.W.Frag} {mg : Str → Option Value} {r : RP}
theorem clsB_ok {x : Str} (h : clsB K x = true) : ClsI K (He.ga K x) ∧ (∀ n ∈ tyNames, PySem.W.kitOne K (.type n) (.ref (He.ga K x)) = some false) ∧ ∀ n ∈ tyNames, PySem.W.kitOne K (.ref (He.ga K x)) (.type n) = some false := by
  obtain ⟨h1, h⟩ := He.ba h
  obtain ⟨h2, h⟩ := He.ba h
  obtain ⟨h3, h⟩ := He.ba h
  obtain ⟨h4, h⟩ := He.ba h
  obtain ⟨h5, h⟩ := He.ba h
  refine ⟨⟨He.cls_ok h1, He.eqO_ok h2, He.eqO_ok h3, of_decide_eq_true h4, of_decide_eq_true h5⟩, fun n hn => ?_, fun n hn => ?_⟩
  · exact of_decide_eq_true (He.ba (List.all_eq_true.mp h n hn)).1
  · exact of_decide_eq_true (He.ba (List.all_eq_true.mp h n hn)).2
theorem tabB_ok {t : Tab} (h : tabB K t = true) (hK : r.K = K) (hg : ∀ c ∈ t.cls, r.mg c = some (.ref (He.ga K c))) : TabOk r t := by
  subst hK
  obtain ⟨h1, h2⟩ := He.ba h
  refine ⟨fun c hc => ?_, fun c hc d hd C D e1 e2 => ?_⟩
  · obtain ⟨a, b, d⟩ := clsB_ok (List.all_eq_true.mp h1 c hc)
    exact ⟨_, hg c hc, a, b, d⟩
  · rw [hg c hc] at e1
    rw [hg d hd] at e2
    cases e1
    cases e2
    exact of_decide_eq_true (List.all_eq_true.mp (List.all_eq_true.mp h2 c hc) d hd)
theorem fldB_ok {t : FTab} (h : fldB K t = true) (hK : r.K = K) (hg : ∀ p ∈ t, r.mg p.1 = some (.ref (He.ga K p.1))) : FldOk r t := by
  subst hK
  intro c f hm
  obtain ⟨h1, h2⟩ := He.ba (List.all_eq_true.mp h (c, f) hm)
  exact ⟨_, hg (c, f) hm, He.cls_ok h1, He.eqO_ok h2⟩
theorem eqclB_ok {x : Str} (h : eqclB K x = true) : EqCls K (He.ga K x) (He.ma K (He.ga K x) "__eq__") := by
  obtain ⟨h1, h⟩ := He.ba h
  obtain ⟨h2, h⟩ := He.ba h
  obtain ⟨h3, h4⟩ := He.ba h
  exact ⟨He.eqO_ok h1, h2, h3, h4⟩
end
/-! ### small things -/
section
variable {r : RP} {T : List (Addr × Str)} {W : WX} {X : Cx} {st : Stmt} {e : Expr} {hid : List Addr}
theorem g_bad : PS X st (tSF r T W sBad) := ⟨fun pins s l H D I ⟨m, S, l', a, b, q⟩ => False.elim q⟩
theorem g_badE : PE X e (tF r T W eBad) := ⟨fun pins s l H D I ⟨m, S, l', a, b, q⟩ => False.elim q⟩
theorem Ctx.blk (c : Ctx r T W X) {s : Shared} {H : Hp} {scope : Scope} {env : Env} {fp : List Addr} : Ctx { r with hid := hid } T W0 (X.blk s H scope env fp) :=
  ⟨c.K, c.mg, c.calm, c.hd, c.un, c.gu, takes_none5⟩
theorem Md.of_blk {M : Md} (h : M.of X) {s : Shared} {H : Hp} {scope : Scope} {env : Env} {fp : List Addr} : M.of (X.blk s H scope env fp) := h
theorem g_one' {fa : Ev} {op : BoolOp} {pos : Pos} (h : PE X e (tF r T W fa)) : PE X (.BoolOp op [e] pos) (tF r T W fa) := pe_one h
theorem g_tand1 {ta : Te} {pos : Pos} (h : PT X e (tFT r T W ta)) : PW X (.BoolOp .And [e] pos) (tFT r T W ta) := pw_and1 h
theorem g_tor1 {ta : Te} {pos : Pos} (h : PT X e (tFT r T W ta)) : PW X (.BoolOp .Or [e] pos) (tFT r T W ta) := pw_or1 h
end
/-! ### targets -/
section
variable {K : PySem.W.Frag} {X : Cx} {i : Nat} {x : Str} {pos : Pos} {es : List Expr} {e : Expr} {is : List Nat} {k : Nat}
theorem g_tn (hN : X.N.Nodup) (hi : X.N[i]? = some x) (hx : L2.Loc X.env.scope x) (hf : X.fn x = true ∨ X.env.scope.names.lookup x = some .local) : PG X (.Name x pos) (tgT K (.nm i)) := pg_name hN hi hx hf
theorem g_tnm0 (hN : X.N.Nodup) (hi : X.N[i]? = some x) (hx : L2.Loc X.env.scope x) (hf : X.fn x = true ∨ X.env.scope.names.lookup x = some .local) : PG X (.Name x pos) (gName i) := pg_name hN hi hx hf
theorem g_tgnil : PGs X [] (gNames []) := pgs_nil
theorem g_tgcons (h1 : PG X e (gName i)) (h2 : PGs X es (gNames is)) (hs : (assignEach (e :: es) X.env).map (·.2) = assign e X.env :: (assignEach es X.env).map (·.2)) : PGs X (e :: es) (gNames (i :: is)) := pgs_cons h1 h2 hs
theorem g_ttp (hc : X.calm = true) (h : PGs X es (gNames is)) (hn : (assignEach es X.env).length = is.length) (hst : (assignEach es X.env).findIdx? (·.1) = none) : PG X (.Tuple es k pos) (tgT X.K (.tp is)) := pg_tup hc h hn hst
end
/-! ### parts of the text -/
def topS (p : Program) (i : Nat) : Stmt := p.main.body.getD i (.Pass ⟨0, 0, 0, 0⟩)
def txS (l : List Stmt) (i : Nat) : Stmt := l.getD i (.Pass ⟨0, 0, 0, 0⟩)
def txE (l : List Expr) (i : Nat) : Expr := l.getD i (.Constant .none 0 ⟨0, 0, 0, 0⟩)
/-- the parts of an expression -/
def exK : Expr → List Expr
  | .BoolOp _ vs _ => vs
  | .BinOp a _ b _ => [a, b]
  | .UnaryOp _ a _ => [a]
  | .Lambda _ b _ _ => [b]
  | .IfExp a b c _ => [a, b, c]
  | .Compare a _ cs _ => a :: cs
  | .Call f as _ _ => f :: as
  | .Attribute e _ _ => [e]
  | .Subscript a b _ => [a, b]
  | .List es _ => es
  | .Tuple es _ _ => es
  | .ListComp e _ _ _ => [e]
  | _ => []
/-- the expressions of a statement -/
def stK : Stmt → List Expr
  | .Assign _ e _ => [e]
  | .Return (some e) _ => [e]
  | .Expr e _ => [e]
  | .If e _ _ _ => [e]
  | .For _ e _ _ _ => [e]
  | .While e _ _ _ => [e]
  | _ => []
/-- the suites of a statement -/
def stB : Stmt → List Stmt
  | .If _ a b _ => a ++ b
  | .For _ _ a _ _ => a
  | .While _ a _ _ => a
  | .Try a _ _ _ _ => a
  | _ => []
def lamPar : Expr → Arguments
  | .Lambda a _ _ _ => a
  | _ => ⟨[], [], none, [], [], none, []⟩
def lamBod : Expr → Expr
  | .Lambda _ b _ _ => b
  | e => e
def lamSco : Expr → Scope
  | .Lambda _ _ s _ => s
  | _ => ⟨.function, [], false, false, []⟩
end GL

end

section
set_option Elab.async false
set_option linter.all false
set_option maxRecDepth 100000
set_option maxHeartbeats 4000000
/-! GL: list(range(..)). -/
namespace GL
open PySem PySem.Spec PyProof.Rows L2
section
variable {r : RP} {T : List (Addr × Str)} {X : Cx} {m : List Addr} {H : Hp} {S : Sto} {W : WX} {a b c : Expr} {fa fb fc : Ev} {pos p p2 p3 : Pos}
noncomputable def eLstR1 (f : Ev) : Ev := fun l S => rb (f l S) fun g S => match g with
  | .int j => if j ≤ big ∧ -big ≤ j then .ok (.tl (intsFrom 0 j.toNat)) S else .bad
  | _ => .bad
noncomputable def eLstR2 (f g : Ev) : Ev := fun l S => rb (f l S) fun x S => rb (g l S) fun y S => match x, y with
  | .int i, .int j => if j ≤ big ∧ -big ≤ i ∧ i ≤ big ∧ -big ≤ j then .ok (.tl (intsFrom i (j - i).toNat)) S else .bad
  | _, _ => .bad
theorem repvs_ints : ∀ (l : List Int), RepVs r m H (l.map G.int) (l.map V.int)
  | [] => .nil
  | x :: l => .cons (.int _) (repvs_ints l)
theorem ints_rg (i j : Int) : RepVs r m H (intsFrom i (j - i).toNat) (rgV i j) := by
  have e := repvs_ints (r := r) (m := m) (H := H) ((List.range (j - i).toNat).map fun k => i + (k : Nat))
  rw [List.map_map, List.map_map] at e
  exact e
theorem g_listR1 (hK : X.K = r.K) (hc : X.calm = true) (hg : Gl X "list") (hm : X.mg "list" = none) (hg2 : Gl X "range") (hm2 : X.mg "range" = none) (ha : PE X a (tF r T W fa))
    (na : starEach [.Call (.Name "range" p2) [a] [] p3] X.env = (false, eval (.Call (.Name "range" p2) [a] [] p3) X.env) :: starEach [] X.env) (nb : starEach [a] X.env = (false, eval a X.env) :: starEach [] X.env) :
    PE X (.Call (.Name "list" p) [.Call (.Name "range" p2) [a] [] p3] [] pos) (tF r T W (eLstR1 fa)) :=
  PE_imp (pe_listRg hc hg hm (prg_1 hg2 hm2 ha nb) na) fun s H Q ⟨m, S, l, hR, hL, q⟩ => mono_tF (stE hR hL q) fun x H1 ⟨m1, S1, g, e, hR1, hL1, h1, q1⟩ => by
    cases g with
    | int j =>
      cases h1
      have hbig := big_eq
      dsimp only at q1
      split at q1
      · rename_i hb
        refine ⟨_, rfl, ⟨by omega, by omega, by omega, by omega, by omega⟩, fun p hp => ?_⟩
        have rv := ints_rg (r := r) (m := m1) (H := H1) 0 j
        rw [show j - 0 = j by omega] at rv
        exact q1 m1 _ _ (Ext.new hp _) (hR1.fresh hp _) (hR1.newTl hp (by rw [rgV_length, sizeLine_eq]; omega) rv)
      · exact False.elim q1
    | _ => exact False.elim q1
theorem g_listR2 (hK : X.K = r.K) (hc : X.calm = true) (hg : Gl X "list") (hm : X.mg "list" = none) (hg2 : Gl X "range") (hm2 : X.mg "range" = none) (ha : PE X a (tF r T W fa)) (hb : PE X b (tF r T W fb))
    (na : starEach [.Call (.Name "range" p2) [a, b] [] p3] X.env = (false, eval (.Call (.Name "range" p2) [a, b] [] p3) X.env) :: starEach [] X.env) (nb : starEach [a, b] X.env = (false, eval a X.env) :: starEach [b] X.env) (nc : starEach [b] X.env = (false, eval b X.env) :: starEach [] X.env) (hp : (backTo p3 (starEach [b] X.env)).any (·.1) = false) :
    PE X (.Call (.Name "list" p) [.Call (.Name "range" p2) [a, b] [] p3] [] pos) (tF r T W (eLstR2 fa fb)) :=
  PE_imp (pe_listRg hc hg hm (prg_2 hg2 hm2 ha hb nb nc hp) na) fun s H Q ⟨m, S, l, hR, hL, q⟩ => mono_tF (stE hR hL q) fun x H1 ⟨m1, S1, g, e, hR1, hL1, h1, q1⟩ => mono_tF (stE hR1 hL1 q1) fun y H2 ⟨m2, S2, g2, e2, hR2, hL2, h2, q2⟩ => by
    cases g with
    | int i =>
      cases g2 with
      | int j =>
        cases h1; cases h2
        have hbig := big_eq
        dsimp only at q2
        split at q2
        · rename_i hb
          refine ⟨_, _, rfl, rfl, ⟨by omega, by omega, by omega, by omega, by omega⟩, fun p hp => ?_⟩
          exact q2 m2 _ _ (Ext.new hp _) (hR2.fresh hp _) (hR2.newTl hp (by rw [rgV_length, sizeLine_eq]; omega) (ints_rg i j))
        · exact False.elim q2
      | _ => exact False.elim q2
    | _ => exact False.elim q2
end
end GL

end

section
set_option Elab.async false
set_option linter.all false
set_option maxRecDepth 100000
set_option maxHeartbeats 4000000
/-! GL: every def of the table, by its row in a list. -/
namespace GL
open PySem PySem.Spec PyProof.Rows L2
section
variable {M : Md} {lam : Nat → Option LamD} {n : Nat}
theorem GFn.zero {k np : Nat} {f : Addr} {fd : FuncData} {ps : List Str} (h : ps.length = np) : GFn M k f fd ps (spG M np fun _ _ => .bad) :=
  ⟨fun vs H Q E hs => hs.1.trans h.symm, fun A outer s H args us vs Q E _ _ _ _ _ hs => by
    obtain ⟨_, r, m, S, gs, _, _, _, q⟩ := hs
    exact False.elim q⟩
theorem CalL.zero {k ln np : Nat} : CalL M lam k ln np fun _ _ => .bad := ⟨fun f c' o q A outer s H us vs Q E _ _ _ _ _ _ _ hs => by
    obtain ⟨_, r, m, S, gs, _, _, _, q⟩ := hs
    exact False.elim q⟩
theorem CalK.zero {k ln np : Nat} : CalK M lam k ln np fun _ _ => .bad := ⟨fun _ _ _ _ _ _ _ _ _ _ _ _ _ _ _ _ _ _ _ _ _ _ _ _ _ _ _ _ _ q => False.elim q⟩
theorem CalFC.zero {k np : Nat} {x : Str} {f : Addr} {fd : FuncData} {ps : List Str} (h1 : M.mg x = some (.ref f)) (h2 : PySem.W.keepIn M.K (.ref f) = true) (h3 : Binds M.K fd ps []) (h : ps.length = np) : CalFC M lam k x np fun _ _ => .bad :=
  ⟨f, fd, ps, h1, h2, h3, h, fun _ _ _ _ _ _ _ _ _ _ _ _ _ _ _ _ _ _ _ _ _ _ _ _ _ _ _ _ _ _ _ q => False.elim q⟩
def OkAt (M : Md) (lam : Nat → Option LamD) (k : Nat) (x : FK) (np : Nat) (cl : List G → Sto → R G) : Prop := match x with
  | .fn y => CalF M k y np cl
  | .fc y => CalFC M lam k y np cl
  | .fh y => CalH M k y cl
  | .me c m => ((m == "__init__") = true → CalC M k c np cl) ∧ ((m == "__eq__") = true → CalE M k c cl) ∧ ((m == "__init__") = false → (m == "__eq__") = false → CalM M k c m np cl)
  | .la ln 0 => CalL M lam k ln np cl
  | .la ln 1 => CalK M lam k ln np cl
  | .la _ _ => True
variable {k np : Nat} {cl : List G → Sto → R G}
theorem OkAt.fn {y : Str} (h : CalF M k y np cl) : OkAt M lam k (.fn y) np cl := h
theorem OkAt.fc {y : Str} (h : CalFC M lam k y np cl) : OkAt M lam k (.fc y) np cl := h
theorem OkAt.fh {y : Str} (h : CalH M k y cl) : OkAt M lam k (.fh y) np cl := h
theorem OkAt.me {c m : Str} (h1 : (m == "__init__") = false) (h2 : (m == "__eq__") = false) (h : CalM M k c m np cl) : OkAt M lam k (.me c m) np cl := ⟨fun z => (by rw [h1] at z; cases z), fun z => (by rw [h2] at z; cases z), fun _ _ => h⟩
theorem OkAt.ini {c : Str} (h : CalC M k c np cl) : OkAt M lam k (.me c "__init__") np cl := ⟨fun _ => h, fun z => absurd z (by decide), fun z => absurd z (by decide)⟩
theorem OkAt.eq {c : Str} (h : CalE M k c cl) : OkAt M lam k (.me c "__eq__") np cl := ⟨fun z => absurd z (by decide), fun _ => h, fun _ z => absurd z (by decide)⟩
theorem OkAt.la {ln : Nat} (h : CalL M lam k ln np cl) : OkAt M lam k (.la ln 0) np cl := h
theorem OkAt.lk {ln : Nat} (h : CalK M lam k ln np cl) : OkAt M lam k (.la ln 1) np cl := h
theorem tab_mem {l : List (FK × FnD)} {x : FK} {d : FnD} (h : l.lookup x = some d) : (x, d) ∈ l := by
  induction l with
  | nil => cases h
  | cons p l ih =>
    obtain ⟨y, e⟩ := p
    rw [List.lookup_cons] at h
    cases q : (x == y) with
    | true =>
      rw [q] at h
      cases h
      rw [beq_iff_eq.mp q]
      exact List.mem_cons_self
    | false =>
      rw [q] at h
      exact List.mem_cons_of_mem _ (ih h)
theorem all_nil {P : FK × FnD → Prop} : ∀ p ∈ ([] : List (FK × FnD)), P p := fun _ h => by cases h
theorem all_cons {P : FK × FnD → Prop} {p : FK × FnD} {l : List (FK × FnD)} (h : P p) (hl : ∀ p ∈ l, P p) : ∀ q ∈ p :: l, P q := fun q hq => by
  rcases List.mem_cons.mp hq with rfl | h2
  · exact h
  · exact hl _ h2
theorem allOk_of {tab : FK → Option FnD} {l : List (FK × FnD)} (ht : ∀ x, tab x = l.lookup x) (h : ∀ p ∈ l, OkAt M lam (2 * n + 2) p.1 p.2.np (callN tab n p.1)) : AllOk M tab lam n :=
  ⟨fun x d e => h _ (tab_mem ((ht _).symm.trans e)), fun c m d e h1 h2 => (h _ (tab_mem ((ht _).symm.trans e))).2.2 h1 h2, fun c d e => (h _ (tab_mem ((ht _).symm.trans e))).1 rfl, fun c d e => (h _ (tab_mem ((ht _).symm.trans e))).2.1 rfl,
    fun ln d e => h _ (tab_mem ((ht _).symm.trans e)), fun ln d e => h _ (tab_mem ((ht _).symm.trans e)), fun x d e => h _ (tab_mem ((ht _).symm.trans e)), fun x d e => h _ (tab_mem ((ht _).symm.trans e))⟩
end
end GL

end

section
set_option Elab.async false
set_option linter.all false
set_option maxRecDepth 100000
set_option maxHeartbeats 4000000
/-! GL, plain: what a run must give (wp), loops. -/
namespace GL
open PySem
def R.wp {a : Type} (Q : a → Sto → Prop) : R a → Prop
  | .ok x S => Q x S
  | _ => False
def SR.wp (N : Loc → Sto → Prop) (T : G → Sto → Prop) (B : Loc → Sto → Prop) : SR → Prop
  | .nx l S => N l S
  | .rt g S => T g S
  | .bk l S => B l S
  | _ => False
section
variable {a b : Type} {N N' : Loc → Sto → Prop} {T T' : G → Sto → Prop} {B B' : Loc → Sto → Prop} {l : Loc} {S : Sto}
theorem R.wp_iff {Q : a → Sto → Prop} {r : R a} : r.wp Q ↔ ∃ x S, r = .ok x S ∧ Q x S := by
  cases r with
  | ok x S => exact ⟨fun h => ⟨x, S, rfl, h⟩, fun ⟨_, _, e, h⟩ => by cases e; exact h⟩
  | exc _ _ _ => exact ⟨False.elim, fun ⟨_, _, e, _⟩ => by cases e⟩
  | bad => exact ⟨False.elim, fun ⟨_, _, e, _⟩ => by cases e⟩
theorem R.wp_mono {Q Q' : a → Sto → Prop} {r : R a} (h : r.wp Q) (i : ∀ x S, Q x S → Q' x S) : r.wp Q' := by
  cases r with
  | ok x S => exact i _ _ h
  | exc _ _ _ => exact h
  | bad => exact h
theorem SR.wp_mono {r : SR} (h : r.wp N T B) (n : ∀ l S, N l S → N' l S) (t : ∀ g S, T g S → T' g S) (k : ∀ l S, B l S → B' l S) : r.wp N' T' B' := by
  cases r with
  | nx l S => exact n _ _ h
  | rt g S => exact t _ _ h
  | bk l S => exact k _ _ h
  | ct l S => exact h
  | exc _ _ _ _ => exact h
  | bad => exact h
theorem wp_rb {r : R a} {k : a → Sto → R b} {Q : b → Sto → Prop} (h : r.wp fun x S => (k x S).wp Q) : (rb r k).wp Q := by
  cases r with
  | ok x S => exact h
  | exc _ _ _ => exact h
  | bad => exact h
theorem wp_sr {r : R a} {k : a → Sto → SR} (h : r.wp fun x S => (k x S).wp N T B) : (sr l r k).wp N T B := by
  cases r with
  | ok x S => exact h
  | exc _ _ _ => exact h
  | bad => exact h
theorem wp_seq {p q : StM} (h : (p l S).wp (fun l S => (q l S).wp N T B) T B) : (sSeq p q l S).wp N T B := by
  unfold sSeq
  cases e : p l S <;> rw [e] at h <;> first | exact h | exact h.elim
theorem wp_body {r : SR} {Q : G → Sto → Prop} (h : r.wp (fun _ S => Q .non S) Q (fun _ _ => False)) : (bodyR r).wp Q := by
  cases r with
  | nx l S => exact h
  | rt g S => exact h
  | bk l S => exact h
  | ct l S => exact h
  | exc _ _ _ _ => exact h
  | bad => exact h
theorem wp_turn {g : Tg} {body k : StM} {x : G} {l0 : Loc} (e : tgSet g x l = some l0) (h : (body l0 S).wp (fun l S => (k l S).wp N T B) T N) : (fTurn g body x k l S).wp N T B := by
  unfold fTurn
  rw [e]
  dsimp only
  cases q : body l0 S <;> rw [q] at h <;> first | exact h | exact h.elim
/-- a loop over items: I k holds before turn k -/
theorem wp_fGo {g : Tg} {body : StM} {I : Nat → Loc → Sto → Prop} : ∀ (xs : List G) (j : Nat) (l : Loc) (S : Sto),
    (∀ k x l S, xs[k]? = some x → I (j + k) l S → ∃ l0, tgSet g x l = some l0 ∧ (body l0 S).wp (I (j + k + 1)) T N) → I j l S → (∀ l S, I (j + xs.length) l S → N l S) → (fGo g body xs l S).wp N T B
  | [], j, l, S, _, h0, he => he l S h0
  | x :: xs, j, l, S, st, h0, he => by
    obtain ⟨l0, e, h⟩ := st 0 x l S rfl h0
    refine wp_turn e (SR.wp_mono h (fun l S hi => wp_fGo xs (j + 1) l S (fun k x l S q hi => ?_) hi fun l S hi => he l S ?_) (fun _ _ h => h) fun _ _ h => h)
    · have := st (k + 1) x l S q (by rw [show j + (k + 1) = j + 1 + k by omega]; exact hi)
      rwa [show j + (k + 1) = j + 1 + k by omega] at this
    · rw [List.length_cons, show j + (xs.length + 1) = j + 1 + xs.length by omega]; exact hi
theorem wp_for {it : Loc → Sto → R It} {g : Tg} {body : StM} {xs : List G} (h : it l S = .ok (.fix xs) S) (I : Nat → Loc → Sto → Prop)
    (st : ∀ k x l S, xs[k]? = some x → I k l S → ∃ l0, tgSet g x l = some l0 ∧ (body l0 S).wp (I (k + 1)) T N) (h0 : I 0 l S) (he : ∀ l S, I xs.length l S → N l S) : (sFor it g body l S).wp N T B := by
  unfold sFor
  rw [h]
  refine wp_fGo (I := I) xs 0 l S (fun k x l S q hi => ?_) h0 fun l S hi => he l S ?_
  · rw [Nat.zero_add] at hi ⊢
    exact st k x l S q hi
  · rw [Nat.zero_add] at hi
    exact hi
/-- a loop over a list of the store that does not change -/
theorem wp_fDyn {g : Tg} {body : StM} {xs : List G} {n : Nat} {I : Nat → Loc → Sto → Prop} (hS : ∀ k l S, I k l S → lstAt S n = some xs)
    (st : ∀ k x l S, xs[k]? = some x → I k l S → ∃ l0, tgSet g x l = some l0 ∧ (body l0 S).wp (I (k + 1)) T N) (he : ∀ l S, I xs.length l S → N l S) :
    ∀ (d k : Nat) (m : Nat) (l : Loc) (S : Sto), xs.length = k + d → d < m → I k l S → (fDyn g body n m k l S).wp N T B
  | 0, k, m + 1, l, S, hl, hm, hi => by
    unfold fDyn
    rw [hS _ _ _ hi]
    dsimp only
    rw [List.getElem?_eq_none (by omega)]
    exact he l S (by rw [hl]; exact hi)
  | d + 1, k, m + 1, l, S, hl, hm, hi => by
    unfold fDyn
    rw [hS _ _ _ hi]
    dsimp only
    have hk : k < xs.length := by omega
    rw [List.getElem?_eq_getElem hk]
    dsimp only
    obtain ⟨l0, e, h⟩ := st k _ l S (List.getElem?_eq_getElem hk) hi
    exact wp_turn e (SR.wp_mono h (fun l S hi => wp_fDyn hS st he d (k + 1) m l S (by omega) (by omega) hi) (fun _ _ h => h) fun _ _ h => h)
  | _, _, 0, _, _, _, hm, _ => by omega
/-- a comprehension that changes nothing -/
theorem lcGo_pure {g : Tg} {t : Te} {e : Ev} {p : G → Bool} {f : G → G} : ∀ (xs acc : List G),
    (∀ x ∈ xs, ∃ l', tgSet g x l = some l' ∧ t l' S = .ok (p x) S ∧ (p x = true → e l' S = .ok (f x) S)) → lcGo g t e l xs acc S = .ok (acc ++ (xs.filter p).map f) S
  | [], acc, _ => by unfold lcGo; simp
  | x :: xs, acc, h => by
    obtain ⟨l', e1, e2, e3⟩ := h x List.mem_cons_self
    have ih := fun acc => lcGo_pure xs acc fun y hy => h y (List.mem_cons_of_mem _ hy)
    unfold lcGo
    rw [e1]
    dsimp only
    rw [e2]
    unfold rbN
    dsimp only
    cases c : p x with
    | true =>
      rw [if_pos rfl, e3 c]
      dsimp only
      rw [ih, List.filter_cons_of_pos c, List.map_cons, List.append_assoc]
      rfl
    | false =>
      rw [if_neg (by decide), ih, List.filter_cons_of_neg (by rw [c]; decide)]
theorem lcGo_wp {g : Tg} {t : Te} {e : Ev} {I : Nat → List G → Sto → Prop} {Q : List G → Sto → Prop} : ∀ (xs : List G) (j : Nat) (acc : List G) (S : Sto),
    (∀ k x acc S, xs[k]? = some x → I (j + k) acc S → ∃ l', tgSet g x l = some l' ∧ (t l' S).wp fun b S => if b = true then (e l' S).wp fun y S => I (j + k + 1) (acc ++ [y]) S else I (j + k + 1) acc S) → I j acc S →
    (∀ acc S, I (j + xs.length) acc S → Q acc S) → (lcGo g t e l xs acc S).wp Q
  | [], j, acc, S, _, h0, he => by unfold lcGo; exact he acc S h0
  | x :: xs, j, acc, S, st, h0, he => by
    obtain ⟨l', e1, h⟩ := st 0 x acc S rfl h0
    have ih := fun acc S hi => lcGo_wp (Q := Q) xs (j + 1) acc S (fun k x acc S q hi => by
      have := st (k + 1) x acc S q (by rw [show j + (k + 1) = j + 1 + k by omega]; exact hi)
      rwa [show j + (k + 1) = j + 1 + k by omega] at this) hi (fun acc S hi => he acc S (by rw [List.length_cons, show j + (xs.length + 1) = j + 1 + xs.length by omega]; exact hi))
    unfold lcGo
    rw [e1]
    dsimp only
    cases q : t l' S with
    | ok b S1 =>
      rw [q] at h
      replace h : (if b = true then (e l' S1).wp fun y S => I (j + 0 + 1) (acc ++ [y]) S else I (j + 0 + 1) acc S1) := h
      unfold rbN
      dsimp only
      cases b with
      | true =>
        rw [if_pos rfl] at h ⊢
        cases q2 : e l' S1 with
        | ok y S2 => rw [q2] at h; exact ih _ _ h
        | exc _ _ _ => rw [q2] at h; exact h.elim
        | bad => rw [q2] at h; exact h.elim
      | false => exact ih _ _ h
    | exc _ _ _ => rw [q] at h; exact h.elim
    | bad => rw [q] at h; exact h.elim
end
/-! ### places of the store -/
theorem get_mid {S0 Z : Sto} {x : GO} : (S0 ++ x :: Z)[S0.length]? = some x := by
  rw [List.getElem?_append_right (Nat.le_refl _), Nat.sub_self]; rfl
theorem set_mid {S0 Z : Sto} {x y : GO} : (S0 ++ x :: Z).set S0.length y = S0 ++ y :: Z := by
  rw [List.set_append_right _ _ (Nat.le_refl _), Nat.sub_self]; rfl
theorem get_grow {S Z : Sto} {n : Nat} {x : GO} (h : S[n]? = some x) : (S ++ Z)[n]? = some x := by
  have := (List.getElem?_eq_some_iff.mp h).1
  rw [List.getElem?_append_left this]; exact h
def Grow (S S' : Sto) : Prop := ∃ Z, S' = S ++ Z
theorem Grow.refl (S : Sto) : Grow S S := ⟨[], by simp⟩
theorem Grow.trans {S S1 S2 : Sto} (h : Grow S S1) (k : Grow S1 S2) : Grow S S2 := by
  obtain ⟨Z, rfl⟩ := h
  obtain ⟨Y, rfl⟩ := k
  exact ⟨Z ++ Y, by simp⟩
theorem Grow.push (S Z : Sto) : Grow S (S ++ Z) := ⟨Z, rfl⟩
theorem Grow.get {S S' : Sto} {n : Nat} {x : GO} (h : Grow S S') (e : S[n]? = some x) : S'[n]? = some x := by
  obtain ⟨Z, rfl⟩ := h
  exact get_grow e
/-! ### lists of ints -/
def nG (n : Nat) : G := .int n
def oG : Option Int → G
  | none => .non
  | some i => .int i
def iG (i : Int) : G := .int i
theorem intsG_map (l : List Int) : intsG (l.map iG) = some l := by
  induction l with
  | nil => rfl
  | cons x l ih => show (intsG (l.map iG)).map (fun l => x :: l) = _; rw [ih]; rfl
theorem blsG_map (l : List Bool) : blsG (l.map G.bl) = some l := by
  induction l with
  | nil => rfl
  | cons x l ih => show (blsG (l.map G.bl)).map (fun l => x :: l) = _; rw [ih]; rfl
theorem intsFrom_get {n k : Nat} {x : G} (h : (intsFrom 0 n)[k]? = some x) : k < n ∧ x = .int (k : Nat) := by
  unfold intsFrom at h
  rw [List.getElem?_map] at h
  by_cases c : k < n
  · rw [List.getElem?_range c] at h
    refine ⟨c, ?_⟩
    simp only [Option.map_some, Option.some.injEq, Int.zero_add] at h
    exact h.symm
  · rw [List.getElem?_eq_none (by rw [List.length_range]; omega)] at h
    cases h
theorem intsFrom_len {lo : Int} {n : Nat} : (intsFrom lo n).length = n := by unfold intsFrom; rw [List.length_map, List.length_range]
theorem intsFrom_zero (n : Nat) : intsFrom 0 n = (List.range n).map nG := by
  unfold intsFrom nG
  simp
theorem atI_nat {a : Type} {l : List a} {k : Nat} : L2.atI l (k : Int) = l[k]? := by
  unfold L2.atI L2.ixN
  rw [if_pos (by omega)]
  by_cases c : k < l.length
  · rw [if_pos (by omega)]; simp
  · rw [if_neg (by omega), List.getElem?_eq_none (by omega)]; rfl
theorem atI_last {a : Type} {l : List a} {x : a} : L2.atI (l ++ [x]) (-1) = some x := by
  unfold L2.atI L2.ixN
  rw [if_neg (by omega), if_pos (by simp; omega)]
  simp only [Option.bind_some]
  have : (-1 + ((l ++ [x]).length : Int)).toNat = l.length := by simp; omega
  rw [this]
  simp
theorem lcGo_map {a : Type} {S : Sto} {l : Loc} {g : Tg} {t : Te} {e : Ev} (c : a → G) {p : a → Bool} {f : a → G} : ∀ (L : List a) (acc : List G),
    (∀ x ∈ L, ∃ l', tgSet g (c x) l = some l' ∧ t l' S = .ok (p x) S ∧ (p x = true → e l' S = .ok (f x) S)) → lcGo g t e l (L.map c) acc S = .ok (acc ++ (L.filter p).map f) S
  | [], acc, _ => by unfold lcGo; simp
  | x :: xs, acc, h => by
    obtain ⟨l', e1, e2, e3⟩ := h x List.mem_cons_self
    have ih := fun acc => lcGo_map c xs acc fun y hy => h y (List.mem_cons_of_mem _ hy)
    unfold lcGo
    rw [List.map_cons]
    dsimp only
    rw [e1]
    dsimp only
    rw [e2]
    unfold rbN
    dsimp only
    cases q : p x with
    | true =>
      rw [if_pos rfl, e3 q]
      dsimp only
      rw [ih, List.filter_cons_of_pos q, List.map_cons, List.append_assoc]
      rfl
    | false =>
      rw [if_neg (by decide), ih, List.filter_cons_of_neg (by rw [q]; decide)]
theorem eLc_map {a : Type} {S : Sto} {l : Loc} {it : Loc → Sto → R It} {own : List Nat} {g : Tg} {t : Te} {e : Ev} {c : a → G} {p : a → Bool} {f : a → G} {L : List a} (h : it l S = .ok (.fix (L.map c)) S)
    (hx : ∀ x ∈ L, ∃ l', tgSet g (c x) (wipeL l own) = some l' ∧ t l' S = .ok (p x) S ∧ (p x = true → e l' S = .ok (f x) S)) : eLc it own g t e l S = .ok (.tl ((L.filter p).map f)) S := by
  unfold eLc lcV
  rw [h]
  unfold rb
  dsimp only
  rw [lcGo_map c L [] hx]
  rfl
theorem eLc_all {a : Type} {S : Sto} {l : Loc} {it : Loc → Sto → R It} {own : List Nat} {g : Tg} {e : Ev} {c : a → G} {f : a → G} {L : List a} (h : it l S = .ok (.fix (L.map c)) S)
    (hx : ∀ x ∈ L, ∃ l', tgSet g (c x) (wipeL l own) = some l' ∧ e l' S = .ok (f x) S) : eLc it own g tYes e l S = .ok (.tl (L.map f)) S := by
  have := eLc_map (t := tYes) (p := fun _ => true) (own := own) h (fun x m => let ⟨l', e1, e2⟩ := hx x m; ⟨l', e1, rfl, fun _ => e2⟩)
  rwa [List.filter_eq_self.mpr (fun _ _ => rfl)] at this
theorem itR1_nat {f : As} {l : Loc} {S : Sto} {n : Nat} (h : f l S = .ok [.int (n : Int)] S) (hn : n ≤ 1000000) : itR1 f l S = .ok (.fix ((List.range n).map nG)) S := by
  unfold itR1
  rw [h]
  unfold rb
  dsimp only
  have hbig := big_eq
  rw [if_pos (by omega), Int.toNat_natCast, intsFrom_zero]
theorem ix_tup {l : List G} {k : Nat} {x : G} {S : Sto} (h : l[k]? = some x) : gIx (.tup l) (.int (k : Int)) S = some x := by
  show (match seqG S (.tup l) with | some l => L2.atI l (k : Int) | none => none) = some x
  simp only [seqG, atI_nat, h]
theorem ix_tl {l : List G} {k : Nat} {x : G} {S : Sto} (h : l[k]? = some x) : gIx (.tl l) (.int (k : Int)) S = some x := by
  show (match seqG S (.tl l) with | some l => L2.atI l (k : Int) | none => none) = some x
  simp only [seqG, atI_nat, h]
theorem ix_ref {l : List G} {k o : Nat} {x : G} {S : Sto} (hS : lstAt S o = some l) (h : l[k]? = some x) : gIx (.ref o) (.int (k : Int)) S = some x := by
  show (match seqG S (.ref o) with | some l => L2.atI l (k : Int) | none => none) = some x
  simp only [seqG, hS, atI_nat, h]
theorem ix_last {l : List G} {o : Nat} {x : G} {S : Sto} (hS : lstAt S o = some (l ++ [x])) : gIx (.ref o) (.int (-1)) S = some x := by
  show (match seqG S (.ref o) with | some l => L2.atI l (-1) | none => none) = some x
  simp only [seqG, hS, atI_last]
theorem lst_mid {S0 Z : Sto} {w : Bool} {l : List G} : lstAt (S0 ++ .lst w l :: Z) S0.length = some l := by unfold lstAt; rw [get_mid]
theorem lst_of {S : Sto} {o : Nat} {w : Bool} {l : List G} (h : S[o]? = some (.lst w l)) : lstAt S o = some l := by unfold lstAt; rw [h]
theorem app_of {S : Sto} {o : Nat} {l : List G} {x : G} (h : S[o]? = some (.lst true l)) (hl : l.length ≤ 1000000) : gApp (.ref o) [x] S = some (.non, S.set o (.lst true (l ++ [x]))) := by
  unfold gApp
  dsimp only
  rw [h]
  dsimp only
  rw [if_pos (by rw [sizeLine_eq]; omega)]
theorem lstW_of {S : Sto} {o : Nat} {l : List G} (h : S[o]? = some (.lst true l)) : lstW S (.ref o) = some l := by
  unfold lstW
  dsimp only
  rw [h]
theorem sz (k : Nat) (h : k ≤ 100000) : k ≤ sizeLine := by rw [sizeLine_eq]; omega
section
variable {S : Sto} {x y z u v : G}
theorem gTup1 : gTup [x] S = some (.tup [x]) := if_pos (sz 1 (by omega))
theorem gTup2 : gTup [x, y] S = some (.tup [x, y]) := if_pos (sz 2 (by omega))
theorem gTup3 : gTup [x, y, z] S = some (.tup [x, y, z]) := if_pos (sz 3 (by omega))
theorem gTup4 : gTup [x, y, z, u] S = some (.tup [x, y, z, u]) := if_pos (sz 4 (by omega))
theorem gTup5 : gTup [x, y, z, u, v] S = some (.tup [x, y, z, u, v]) := if_pos (sz 5 (by omega))
theorem gLst0 : gLst [] S = some (.tl []) := if_pos (sz 0 (by omega))
theorem gLst1 : gLst [x] S = some (.tl [x]) := if_pos (sz 1 (by omega))
theorem gLst2 : gLst [x, y] S = some (.tl [x, y]) := if_pos (sz 2 (by omega))
theorem gLst3 : gLst [x, y, z] S = some (.tl [x, y, z]) := if_pos (sz 3 (by omega))
theorem eLstA0 {l : Loc} : eLstA aNil l S = .ok (.ref S.length) (S ++ [.lst true []]) := by
  show (if ([] : List G).length ≤ sizeLine then R.ok (G.ref S.length) (S ++ [.lst true []]) else R.bad) = _
  exact if_pos (sz 0 (by omega))
theorem eLstA1 {l : Loc} {a : Ev} {S' : Sto} (h : a l S = .ok x S') : eLstA (aCons a aNil) l S = .ok (.ref S'.length) (S' ++ [.lst true [x]]) := by
  unfold eLstA aCons
  rw [h]
  show (if [x].length ≤ sizeLine then R.ok (G.ref S'.length) (S' ++ [.lst true [x]]) else R.bad) = _
  exact if_pos (sz 1 (by omega))
end
theorem gMin_nat {S : Sto} {a b : Nat} : gMin [.int (a : Int), .int (b : Int)] S = some (.int ((min a b : Nat) : Int)) := by
  show some (G.int (if (b : Int) < (a : Int) then (b : Int) else (a : Int))) = _
  congr 2
  split <;> omega
section
variable {a b : Type} {x : a} {S : Sto} {l : Loc} {g : G} {N : Loc → Sto → Prop} {T : G → Sto → Prop} {B : Loc → Sto → Prop}
theorem R.wp_ok {Q : a → Sto → Prop} : (R.ok x S).wp Q = Q x S := rfl
theorem SR.wp_nx : (SR.nx l S).wp N T B = N l S := rfl
theorem SR.wp_rt : (SR.rt g S).wp N T B = T g S := rfl
theorem SR.wp_bk : (SR.bk l S).wp N T B = B l S := rfl
theorem rb_ok {k : a → Sto → R b} : rb (.ok x S) k = k x S := rfl
theorem sr_ok {k : a → Sto → SR} : sr l (.ok x S) k = k x S := rfl
theorem bof_bl {k : Bool → R a} {c : Bool} : bof (.bl c) k = k c := rfl
theorem ro_ok : ro (some g) S = .ok g S := rfl
theorem so_ok : so l (some S) = .nx l S := rfl
theorem bodyR_nx : bodyR (.nx l S) = .ok .non S := rfl
theorem bodyR_rt : bodyR (.rt g S) = .ok g S := rfl
theorem seq_nx {p q : StM} {l1 : Loc} {S1 : Sto} (h : p l S = .nx l1 S1) : sSeq p q l S = q l1 S1 := by unfold sSeq; rw [h]
theorem seq_rt {p q : StM} {S1 : Sto} (h : p l S = .rt g S1) : sSeq p q l S = .rt g S1 := by unfold sSeq; rw [h]
end
theorem mul_sm {S : Sto} {m p : Nat} (h : m ≤ 1000000) : gMulA (.int (m : Int)) (.int (p : Int)) S = some (.int ((m : Int) * p)) := by
  show (if mulOk (m : Int) (p : Int) = true then some (G.int ((m : Int) * p)) else none) = _
  refine if_pos ?_
  unfold mulOk
  simp only [Bool.or_eq_true, Bool.and_eq_true, decide_eq_true_eq]
  have hb := b64_eq
  exact .inl ⟨by omega, by omega⟩
theorem eML_of {S : Sto} {l : Loc} {o i : Nat} {a : Ev} {xs : List G} {x : G} (ho : l[i]? = some (some (.ref o))) (hS : S[o]? = some (.lst true xs)) (ha : a l S = .ok x S) (hl : xs.length ≤ 1000000) :
    eML gApp (eV i) (aCons a aNil) l S = .ok .non (S.set o (.lst true (xs ++ [x]))) := by
  unfold eML eV
  rw [ho]
  dsimp only
  rw [rb_ok, lstW_of hS]
  dsimp only [Option.isSome]
  rw [if_pos rfl]
  unfold aCons aNil
  rw [ha, rb_ok, rb_ok, rb_ok, app_of hS hl]
/-- an item whose making grows the store -/
theorem eML_wp {S : Sto} {l : Loc} {o i : Nat} {a : Ev} {xs : List G} {Q : G → Sto → Prop} (ho : l[i]? = some (some (.ref o))) (hS : S[o]? = some (.lst true xs)) (hl : xs.length ≤ 1000000)
    (ha : (a l S).wp fun x S1 => S1[o]? = some (.lst true xs) ∧ Q .non (S1.set o (.lst true (xs ++ [x])))) :
    (eML gApp (eV i) (aCons a aNil) l S).wp Q := by
  obtain ⟨x, S1, e, h1, h2⟩ := R.wp_iff.mp ha
  unfold eML eV
  rw [ho]
  dsimp only
  rw [rb_ok, lstW_of hS]
  dsimp only [Option.isSome]
  rw [if_pos rfl]
  unfold aCons aNil
  rw [e, rb_ok, rb_ok, rb_ok, app_of h1 hl]
  exact h2
theorem wp_drop {N : Loc → Sto → Prop} {T : G → Sto → Prop} {B : Loc → Sto → Prop} {e : Ev} {l : Loc} {S : Sto} (h : (e l S).wp fun _ S => N l S) : (sDrop e l S).wp N T B := wp_sr h
theorem wp_set {N : Loc → Sto → Prop} {T : G → Sto → Prop} {B : Loc → Sto → Prop} {e : Ev} {l : Loc} {S : Sto} {i : Nat} (h : (e l S).wp fun g S => N (l.set i (some g)) S) : (sSet i e l S).wp N T B := wp_sr h
theorem wp_ret {N : Loc → Sto → Prop} {T : G → Sto → Prop} {B : Loc → Sto → Prop} {e : Ev} {l : Loc} {S : Sto} (h : (e l S).wp T) : (sRet e l S).wp N T B := wp_sr h
theorem get_last {S1 : Sto} {x : GO} : (S1 ++ [x])[S1.length]? = some x := get_mid
theorem set_last {S1 : Sto} {x y : GO} : (S1 ++ [x]).set S1.length y = S1 ++ [y] := set_mid
end GL
namespace GL
theorem R_ok_of {g : G} {S : Sto} {r : SR} (h : r.wp (fun _ S' => G.non = g ∧ S' = S) (fun g' S' => g' = g ∧ S' = S) (fun _ _ => False)) : bodyR r = .ok g S := by
  cases r with
  | nx l S => obtain ⟨rfl, rfl⟩ := h; rfl
  | rt g S => obtain ⟨rfl, rfl⟩ := h; rfl
  | bk l S => exact h.elim
  | ct l S => exact h.elim
  | exc _ _ _ _ => exact h.elim
  | bad => exact h.elim
end GL
namespace GL
section
variable {S : Sto} {i : Int} {l : List G} {b c : Bool} {o : Nat}
theorem is_non : gIs .non .non S = some (.bl true) := rfl
theorem is_int : gIs (.int i) .non S = some (.bl false) := rfl
theorem is_tup : gIs (.tup l) .non S = some (.bl false) := rfl
theorem is_bl : gIs (.bl b) (.bl c) S = some (.bl (decide (b = c))) := rfl
theorem isn_non : gIsNot .non .non S = some (.bl false) := rfl
theorem isn_int : gIsNot (.int i) .non S = some (.bl true) := rfl
theorem isn_tup : gIsNot (.tup l) .non S = some (.bl true) := rfl
theorem isn_bl : gIsNot (.bl b) (.bl c) S = some (.bl (!decide (b = c))) := rfl
theorem is_o {x : Option Int} : gIs (oG x) .non S = some (.bl x.isNone) := by cases x <;> rfl
theorem isn_o {x : Option Int} : gIsNot (oG x) .non S = some (.bl x.isSome) := by cases x <;> rfl
end
theorem lcDyn_map {a : Type} {S : Sto} {l : Loc} {g : Tg} {t : Te} {e : Ev} {o : Nat} {c : a → G} {p : a → Bool} {f : a → G} {L : List a} (hS : lstAt S o = some (L.map c)) (hL : L.length ≤ 100000)
    (hx : ∀ x ∈ L, ∃ l', tgSet g (c x) l = some l' ∧ t l' S = .ok (p x) S ∧ (p x = true → e l' S = .ok (f x) S)) :
    ∀ (d k m : Nat) (acc : List G), L.length = k + d → d < m → acc.length ≤ k → lcDyn g t e l o m k acc S = .ok (acc ++ ((L.drop k).filter p).map f) S
  | 0, k, m + 1, acc, hl, hm, ha => by
    unfold lcDyn
    rw [hS]
    dsimp only
    rw [List.getElem?_eq_none (by rw [List.length_map]; omega), List.drop_eq_nil_of_le (by omega)]
    simp
  | d + 1, k, m + 1, acc, hl, hm, ha => by
    have hk : k < L.length := by omega
    obtain ⟨l', e1, e2, e3⟩ := hx L[k] (List.getElem_mem hk)
    have ih := fun acc h => lcDyn_map hS hL hx d (k + 1) m acc (by omega) (by omega) h
    unfold lcDyn
    rw [hS]
    dsimp only
    rw [List.getElem?_map, List.getElem?_eq_getElem hk, Option.map_some]
    dsimp only
    rw [e1]
    dsimp only
    rw [e2, List.drop_eq_getElem_cons hk]
    unfold rbN
    dsimp only
    cases q : p L[k] with
    | true =>
      rw [if_pos rfl, e3 q]
      dsimp only
      rw [if_pos (by rw [PySem.sizeLine_eq]; omega), ih _ (by simp; omega), List.filter_cons_of_pos q, List.map_cons, List.append_assoc]
      rfl
    | false =>
      rw [if_neg (by decide), ih _ (by omega), List.filter_cons_of_neg (by rw [q]; decide)]
  | _, _, 0, _, _, hm, _ => by omega
theorem eLc_dyn {a : Type} {S : Sto} {l : Loc} {it : Loc → Sto → R It} {own : List Nat} {g : Tg} {t : Te} {e : Ev} {o : Nat} {c : a → G} {p : a → Bool} {f : a → G} {L : List a} (h : it l S = .ok (.dyn o) S) (hS : lstAt S o = some (L.map c)) (hL : L.length ≤ 100000)
    (hx : ∀ x ∈ L, ∃ l', tgSet g (c x) (wipeL l own) = some l' ∧ t l' S = .ok (p x) S ∧ (p x = true → e l' S = .ok (f x) S)) : eLc it own g t e l S = .ok (.tl ((L.filter p).map f)) S := by
  unfold eLc lcV
  rw [h]
  unfold rb
  dsimp only
  rw [lcDyn_map hS hL hx L.length 0 wMax [] (by omega) (by rw [wMax_eq]; omega) (Nat.zero_le _)]
  rfl
end GL
namespace GL
theorem gOks_ints (n : Nat) : ∀ z : List Int, gOks n (z.map iG) = true
  | [] => by simp [gOks]
  | x :: z => by simp [gOks, gOk, iG, gOks_ints n z]
theorem gNe_tl (S : Sto) (z : List Int) : gNe (.tl (z.map iG)) (.tl []) S = some (.bl (!z.isEmpty)) := by
  show (gEqD S (.tl (z.map iG)) (.tl [])).map (fun b => G.bl (!b)) = _
  have h1 : gOk 60 (.tl (z.map iG)) = true := by rw [gOk]; exact gOks_ints _ z
  have h2 : gOk 60 (.tl []) = true := by rw [gOk]; rfl
  unfold gEqD
  rw [show gRes S (.tl (z.map iG)) = .tl (z.map iG) from rfl, show gRes S (.tl []) = .tl [] from rfl, if_pos ⟨h1, h2⟩]
  cases z with
  | nil => rfl
  | cons x z => rfl
theorem gEq_tl (S : Sto) (z : List Int) : gEq (.tl (z.map iG)) (.tl []) S = some (.bl z.isEmpty) := by
  show (gEqD S (.tl (z.map iG)) (.tl [])).map (fun b => G.bl b) = _
  have h1 : gOk 60 (.tl (z.map iG)) = true := by rw [gOk]; exact gOks_ints _ z
  have h2 : gOk 60 (.tl []) = true := by rw [gOk]; rfl
  unfold gEqD
  rw [show gRes S (.tl (z.map iG)) = .tl (z.map iG) from rfl, show gRes S (.tl []) = .tl [] from rfl, if_pos ⟨h1, h2⟩]
  cases z with
  | nil => rfl
  | cons x z => rfl
end GL
namespace GL
theorem intsDown_get {n k : Nat} {x : G} (h : (intsDown ((n : Int) - 1) n)[k]? = some x) : k < n ∧ x = .int ((n - 1 - k : Nat) : Int) := by
  unfold intsDown at h
  rw [List.getElem?_map] at h
  by_cases c : k < n
  · rw [List.getElem?_range c] at h
    refine ⟨c, ?_⟩
    rw [← Option.some.inj h]
    show G.int ((n : Int) - 1 - (k : Nat)) = _
    rw [show (n : Int) - 1 - (k : Nat) = ((n - 1 - k : Nat) : Int) by omega]
  · rw [List.getElem?_eq_none (by rw [List.length_range]; omega)] at h
    cases h
theorem intsDown_len {lo : Int} {n : Nat} : (intsDown lo n).length = n := by unfold intsDown; rw [List.length_map, List.length_range]
theorem itR3_nat {f : As} {l : Loc} {S : Sto} {n : Nat} (h : f l S = .ok [.int ((n : Int) - 1), .int (-1), .int (-1)] S) (hn : n ≤ 1000000) : itR3 f l S = .ok (.fix (intsDown ((n : Int) - 1) n)) S := by
  unfold itR3
  rw [h, rb_ok]
  have hbig := big_eq
  show (if (n : Int) - 1 ≤ big ∧ -big ≤ -1 ∧ (-1 : Int) ≤ big ∧ -big ≤ (n : Int) - 1 then R.ok (It.fix (intsDown ((n : Int) - 1) ((n : Int) - 1 - (-1)).toNat)) S else R.bad) = _
  rw [if_pos ⟨by omega, by omega, by omega, by omega⟩, show ((n : Int) - 1 - (-1)).toNat = n by omega]
theorem mul_tup1 {S : Sto} {x : G} {n : Nat} (h : n ≤ 1000) : gMulA (.tup [x]) (.int (n : Int)) S = some (.tup (List.replicate n x)) := by
  show (if ([x] : List G) ≠ [] ∧ 0 ≤ (n : Int) ∧ (n : Int) ≤ 1000 ∧ ([x] : List G).length ≤ 1000 then some (G.tup (repL (n : Int).toNat [x])) else none) = _
  rw [if_pos ⟨by simp, by omega, by omega, by simp⟩, Int.toNat_natCast]
  congr 2
  unfold repL
  induction n with
  | zero => rfl
  | succ n ih => rw [List.replicate_succ, List.replicate_succ, List.flatten_cons, ih (by omega)]; rfl
theorem mul_tl1 {S : Sto} {x : G} {n : Nat} (h : n ≤ 1000) : gMulA (.tl [x]) (.int (n : Int)) S = some (.tl (List.replicate n x)) := by
  show (if 0 ≤ (n : Int) ∧ (n : Int) ≤ 1000 ∧ ([x] : List G).length ≤ 1000 then some (G.tl (repL (n : Int).toNat [x])) else none) = _
  rw [if_pos ⟨by omega, by omega, by simp⟩, Int.toNat_natCast]
  congr 2
  unfold repL
  induction n with
  | zero => rfl
  | succ n ih => rw [List.replicate_succ, List.replicate_succ, List.flatten_cons, ih (by omega)]; rfl
end GL
namespace GL
section
variable {S : Sto} {i j : Int} {b c : Bool}
theorem gEq_int : gEq (.int i) (.int j) S = some (.bl (decide (i = j))) := rfl
theorem gNe_int : gNe (.int i) (.int j) S = some (.bl (!decide (i = j))) := rfl
theorem gEq_bl : gEq (.bl b) (.bl c) S = some (.bl (decide (b = c))) := rfl
theorem gNe_bl : gNe (.bl b) (.bl c) S = some (.bl (!decide (b = c))) := rfl
theorem gEq_non : gEq .non .non S = some (.bl true) := rfl
theorem gEq_int_non : gEq (.int i) .non S = some (.bl false) := rfl
theorem gEq_non_int : gEq .non (.int i) S = some (.bl false) := rfl
theorem gNe_non : gNe .non .non S = some (.bl false) := rfl
theorem gNe_int_non : gNe (.int i) .non S = some (.bl true) := rfl
end
end GL
namespace GL
theorem numd_at : ∀ (xs : List G) (j k : Nat) (x : G), (numd j xs)[k]? = some x → ∃ y, xs[k]? = some y ∧ x = .tup [.int ((j + k : Nat) : Int), y]
  | [], _, _, _, h => by cases h
  | y :: xs, j, 0, x, h => ⟨y, rfl, (Option.some.inj h).symm⟩
  | y :: xs, j, k + 1, x, h => by
    obtain ⟨z, h1, h2⟩ := numd_at xs (j + 1) k x h
    exact ⟨z, h1, by rw [h2, show j + 1 + k = j + (k + 1) by omega]⟩
theorem setF_of {t : FTab} {S : Sto} {o : Nat} {c f : PySem.Str} {fs : List (PySem.Str × G)} {y : G} (h : S[o]? = some (.ins c fs)) (ht : t.contains (c, f) = true) (hf : fs.length < 1000) : setF t (.ref o) f y S = some (S.set o (.ins c (putG f y fs))) := by
  unfold setF
  dsimp only
  rw [h]
  dsimp only
  rw [if_pos ⟨ht, hf⟩]
theorem for_nil {it : Loc → Sto → R It} {g : Tg} {b : StM} {l : Loc} {S : Sto} (h : it l S = .ok (.fix []) S) : sFor it g b l S = .nx l S := by
  unfold sFor
  rw [h]; rfl
theorem turn_nx {g : Tg} {body k : StM} {x : G} {l l0 l1 : Loc} {S S1 : Sto} (e : tgSet g x l = some l0) (h : body l0 S = .nx l1 S1) : fTurn g body x k l S = k l1 S1 := by
  unfold fTurn
  rw [e]
  dsimp only
  rw [h]
end GL
namespace GL
theorem lcGo_true {a : Type} {S : Sto} {l : Loc} {g : Tg} {e : Ev} (c : a → G) : ∀ (L : List a) (acc : List G),
    (∀ x ∈ L, ∃ l', tgSet g (c x) l = some l' ∧ e l' S = .ok (.bl true) S) → lcGo g tYes e l (L.map c) acc S = .ok (acc ++ L.map fun _ => .bl true) S := fun L acc h => by
  have := lcGo_map (t := tYes) c (p := fun _ => true) (f := fun _ => G.bl true) L acc (fun x m => let ⟨l', e1, e2⟩ := h x m; ⟨l', e1, rfl, fun _ => e2⟩)
  rwa [List.filter_eq_self.mpr (fun _ _ => rfl)] at this
theorem lcGo2_true {a b : Type} {S : Sto} {l : Loc} {g g1 : Tg} {it1 : Loc → Sto → R It} {vs1 : List Nat} {e : Ev} (c : a → G) (d : b → G) (M : a → List b) : ∀ (L : List a) (acc : List G),
    (∀ x ∈ L, ∃ l', tgSet g (c x) l = some l' ∧ it1 l' S = .ok (.fix ((M x).map d)) S ∧ ∀ y ∈ M x, ∃ l2, tgSet g1 (d y) (wipeL l' vs1) = some l2 ∧ e l2 S = .ok (.bl true) S) →
    lcGo2 g tYes it1 vs1 g1 tYes e l (L.map c) acc S = .ok (acc ++ (L.flatMap M).map fun _ => .bl true) S
  | [], acc, _ => by unfold lcGo2; simp
  | x :: xs, acc, h => by
    obtain ⟨l', e1, e2, e3⟩ := h x List.mem_cons_self
    have ih := fun acc => lcGo2_true (it1 := it1) (vs1 := vs1) (g1 := g1) (e := e) c d M xs acc fun y hy => h y (List.mem_cons_of_mem _ hy)
    rw [List.map_cons]
    unfold lcGo2
    rw [e1]
    dsimp only
    rw [show tYes l' S = .ok true S from rfl]
    unfold rbN
    dsimp only
    rw [if_pos rfl, e2]
    dsimp only
    rw [lcGo_true d (M x) acc e3]
    dsimp only
    rw [ih, List.flatMap_cons, List.map_append, List.append_assoc]
theorem eLc2_true {a b : Type} {S : Sto} {l : Loc} {it it1 : Loc → Sto → R It} {own vs1 : List Nat} {g g1 : Tg} {e : Ev} {c : a → G} {d : b → G} {M : a → List b} {L : List a} (h : it l S = .ok (.fix (L.map c)) S) (hL : (L.flatMap M).length ≤ 100000)
    (hx : ∀ x ∈ L, ∃ l', tgSet g (c x) (wipeL l own) = some l' ∧ it1 l' S = .ok (.fix ((M x).map d)) S ∧ ∀ y ∈ M x, ∃ l2, tgSet g1 (d y) (wipeL l' vs1) = some l2 ∧ e l2 S = .ok (.bl true) S) :
    eLc2 it own g tYes it1 vs1 g1 tYes e l S = .ok (.tl ((L.flatMap M).map fun _ => .bl true)) S := by
  unfold eLc2
  rw [h, rb_ok]
  dsimp only
  rw [lcGo2_true c d M L [] hx, rb_ok, List.nil_append, if_pos (by rw [List.length_map, PySem.sizeLine_eq]; omega)]
theorem gNe_refl {S : Sto} {l : List G} (h : gOk 60 (.tup l) = true) : gNe (.tup l) (.tup l) S = some (.bl false) := by
  show (gEqD S (.tup l) (.tup l)).map (fun b => G.bl (!b)) = _
  unfold gEqD
  rw [show gRes S (.tup l) = .tup l from rfl, if_pos ⟨h, h⟩, PySem.SeqAt.eqv_refl _ (ok_lay h).1]
  rfl
theorem lstR1_nat {f : Ev} {l : Loc} {S : Sto} {n : Nat} (h : f l S = .ok (.int (n : Int)) S) (hn : n ≤ 1000000) : eLstR1 f l S = .ok (.tl ((List.range n).map nG)) S := by
  unfold eLstR1
  rw [h, rb_ok]
  have hbig := big_eq
  dsimp only
  rw [if_pos (by omega), Int.toNat_natCast, intsFrom_zero]
theorem eLc_wp {S : Sto} {l : Loc} {it : Loc → Sto → R It} {own : List Nat} {g : Tg} {e : Ev} {xs : List G} (h : it l S = .ok (.fix xs) S) (I : Nat → List G → Sto → Prop)
    (st : ∀ k x acc S, xs[k]? = some x → I k acc S → ∃ l', tgSet g x (wipeL l own) = some l' ∧ (e l' S).wp fun y S => I (k + 1) (acc ++ [y]) S) (h0 : I 0 [] S) :
    (eLc it own g tYes e l S).wp fun g S' => ∃ ys, g = .tl ys ∧ I xs.length ys S' := by
  unfold eLc lcV
  rw [h, rb_ok]
  dsimp only
  refine wp_rb (R.wp_mono (lcGo_wp (I := I) (Q := I xs.length) xs 0 [] S (fun k x acc S q hi => ?_) h0 fun acc S hi => ?_) fun ys S hi => ?_)
  · rw [Nat.zero_add] at hi
    obtain ⟨l', e1, e2⟩ := st k x acc S q hi
    refine ⟨l', e1, ?_⟩
    show (if true = true then (e l' S).wp fun y S => I (0 + k + 1) (acc ++ [y]) S else I (0 + k + 1) acc S)
    rw [if_pos rfl, Nat.zero_add]
    exact e2
  · rw [Nat.zero_add] at hi; exact hi
  · exact ⟨ys, rfl, hi⟩
theorem eLc_wpt {S : Sto} {l : Loc} {it : Loc → Sto → R It} {own : List Nat} {g : Tg} {t : Te} {e : Ev} {xs : List G} (h : it l S = .ok (.fix xs) S) (I : Nat → List G → Sto → Prop)
    (st : ∀ k x acc S, xs[k]? = some x → I k acc S → ∃ l', tgSet g x (wipeL l own) = some l' ∧ (t l' S).wp fun b S => if b = true then (e l' S).wp fun y S => I (k + 1) (acc ++ [y]) S else I (k + 1) acc S) (h0 : I 0 [] S) :
    (eLc it own g t e l S).wp fun g S' => ∃ ys, g = .tl ys ∧ I xs.length ys S' := by
  unfold eLc lcV
  rw [h, rb_ok]
  dsimp only
  refine wp_rb (R.wp_mono (lcGo_wp (I := I) (Q := I xs.length) xs 0 [] S (fun k x acc S q hi => ?_) h0 fun acc S hi => ?_) fun ys S hi => ?_)
  · rw [Nat.zero_add] at hi ⊢
    exact st k x acc S q hi
  · rw [Nat.zero_add] at hi; exact hi
  · exact ⟨ys, rfl, hi⟩
theorem wp_e1 {f : G → Sto → Option G} {a : Ev} {l : Loc} {S : Sto} {Q : G → Sto → Prop} (h : (a l S).wp fun x S => ∃ y, f x S = some y ∧ Q y S) : (e1 f a l S).wp Q := by
  refine wp_rb (R.wp_mono h fun x S ⟨y, e, q⟩ => ?_)
  rw [e, ro_ok]
  exact q
theorem wp_eA1 {f : List G → Sto → Option G} {a : Ev} {l : Loc} {S : Sto} {Q : G → Sto → Prop} (h : (a l S).wp fun x S => ∃ y, f [x] S = some y ∧ Q y S) : (eA f (aCons a aNil) l S).wp Q := by
  refine wp_rb (wp_rb (R.wp_mono h fun x S ⟨y, e, q⟩ => ?_))
  show (ro (f [x] S) S).wp Q
  rw [e, ro_ok]
  exact q
theorem wp_e2r {f : G → G → Sto → Option G} {a b : Ev} {l : Loc} {S S1 : Sto} {x : G} {Q : G → Sto → Prop} (ha : a l S = .ok x S1) (h : (b l S1).wp fun y S => ∃ z, f x y S = some z ∧ Q z S) : (e2 f a b l S).wp Q := by
  unfold e2
  rw [ha, rb_ok]
  refine wp_rb (R.wp_mono h fun y S ⟨z, e, q⟩ => ?_)
  rw [e, ro_ok]
  exact q
theorem wp_e2 {f : G → G → Sto → Option G} {a b : Ev} {l : Loc} {S : Sto} {Q : G → Sto → Prop} (h : (a l S).wp fun x S => (b l S).wp fun y S => ∃ z, f x y S = some z ∧ Q z S) : (e2 f a b l S).wp Q := by
  refine wp_rb (R.wp_mono h fun x S h => wp_rb (R.wp_mono h fun y S ⟨z, e, q⟩ => ?_))
  rw [e, ro_ok]
  exact q
theorem wp_tV {a : Ev} {l : Loc} {S : Sto} {Q : Bool → Sto → Prop} (h : (a l S).wp fun x S => ∃ b, x = .bl b ∧ Q b S) : (tV a l S).wp Q := by
  refine wp_rb (R.wp_mono h fun x S ⟨b, e, q⟩ => ?_)
  rw [e, bof_bl]
  exact q
theorem wp_tNot {a : Te} {l : Loc} {S : Sto} {Q : Bool → Sto → Prop} (h : (a l S).wp fun x S => Q (!x) S) : (tNot a l S).wp Q := wp_rb (R.wp_mono h fun _ _ q => q)
theorem wp_tOr {a b : Te} {l : Loc} {S : Sto} {Q : Bool → Sto → Prop} (h : (a l S).wp fun x S => if x = true then Q true S else (b l S).wp Q) : (tOr a b l S).wp Q := by
  refine wp_rb (R.wp_mono h fun x S q => ?_)
  split
  · rename_i c; rw [if_pos c] at q; exact q
  · rename_i c; rw [if_neg c] at q; exact q
theorem wp_tAnd {a b : Te} {l : Loc} {S : Sto} {Q : Bool → Sto → Prop} (h : (a l S).wp fun x S => if x = true then (b l S).wp Q else Q false S) : (tAnd a b l S).wp Q := by
  refine wp_rb (R.wp_mono h fun x S q => ?_)
  split
  · rename_i c; rw [if_pos c] at q; exact q
  · rename_i c; rw [if_neg c] at q; exact q
theorem wp_if {t : Te} {a b : StM} {l : Loc} {S : Sto} {N : Loc → Sto → Prop} {T : G → Sto → Prop} {B : Loc → Sto → Prop} (h : (t l S).wp fun x S => if x = true then (a l S).wp N T B else (b l S).wp N T B) : (sIf t a b l S).wp N T B := by
  refine wp_sr (R.wp_mono h fun x S q => ?_)
  split
  · rename_i c; rw [if_pos c] at q; exact q
  · rename_i c; rw [if_neg c] at q; exact q
theorem wp_ev {i : Nat} {g : G} {l : Loc} {S : Sto} {Q : G → Sto → Prop} (e : l[i]? = some (some g)) (h : Q g S) : (eV i l S).wp Q := by
  unfold eV
  rw [e]
  exact h
theorem wp_cons {a : Ev} {r : As} {l : Loc} {S : Sto} {Q : List G → Sto → Prop} (h : (a l S).wp fun x S => (r l S).wp fun xs S => Q (x :: xs) S) : (aCons a r l S).wp Q := wp_rb (R.wp_mono h fun _ _ h => wp_rb (R.wp_mono h fun _ _ q => q))
theorem wp_cl {call : Calls} {k : FK} {a : As} {l : Loc} {S : Sto} {Q : G → Sto → Prop} (h : (a l S).wp fun xs S => (call k xs S).wp Q) : (eCl call k a l S).wp Q := wp_rb h
theorem wp_A {f : List G → Sto → Option G} {a : As} {l : Loc} {S : Sto} {Q : G → Sto → Prop} (h : (a l S).wp fun xs S => ∃ y, f xs S = some y ∧ Q y S) : (eA f a l S).wp Q := by
  refine wp_rb (R.wp_mono h fun x S ⟨y, e, q⟩ => ?_)
  rw [e, ro_ok]
  exact q
theorem wp_tg {t : Tg} {e : Ev} {l : Loc} {S : Sto} {N : Loc → Sto → Prop} {T : G → Sto → Prop} {B : Loc → Sto → Prop} (h : (e l S).wp fun g S => ∃ l', tgSet t g l = some l' ∧ N l' S) : (sTg t e l S).wp N T B := by
  refine wp_sr (R.wp_mono h fun x S ⟨l', e, q⟩ => ?_)
  rw [e]
  exact q
theorem wp_call {call : Calls} {k : FK} {xs : List G} {S S1 : Sto} {g : G} {Q : G → Sto → Prop} (h : call k xs S = .ok g S1) (q : Q g S1) : (call k xs S).wp Q := by
  rw [h]; exact q
end GL

end

section
set_option Elab.async false
set_option linter.all false
set_option maxRecDepth 100000
set_option maxHeartbeats 4000000
/-! GL: sets of strs that are made from a list or a tuple and read at once: sorted(set(x)), len(set(x)); sorted of a tuple of strs. -/
namespace GL
open PySem PySem.Spec PyProof.Rows L2 PySem.Froz

/-- at a lies a set of the strs l -/
structure SetS (P : Program) (w : World) (h : Heap) (a : Addr) (l : List Str) : Prop where
  ex : ∃ D : SD, h.get? a = some (sObj "set" D) ∧ TxOk P w D l ∧ l.Nodup ∧ Ris D.2.2.place.toList ∧ (w.params.followText "set-order" = true ∨ D.2.2.led = true)
theorem SetS.at {P : Program} {w : World} {h h' : Heap} {a : Addr} {l : List Str} (R : SetS P w h a l) (k : ∀ o, h.get? a = some o → h'.get? a = some o) : SetS P w h' a l := by
  obtain ⟨D, h1, r⟩ := R.ex
  exact ⟨D, k _ h1, r⟩
theorem tailTx_ris {ep : Nat} {es : Array (Int × Value)} {t : SetTable} {wd : Bool} (h : Ris t.place.toList) : Ris (tailTx ep es t wd).2.2.place.toList := by
  unfold tailTx
  split
  · exact relayAll_ris _ _ _
  · exact h
theorem tailTx_led {ep : Nat} {es : Array (Int × Value)} {t : SetTable} {wd : Bool} : (tailTx ep es t wd).2.2.led = t.led := by
  unfold tailTx
  split
  · exact relayAll_led _ _ _
  · rfl
theorem addTx_ris {hh : Int} {v : Value} {D : SD} (r : Ris D.2.2.place.toList) : Ris (addTx hh v D).2.2.place.toList := by
  have h1 := layNew_ris D.2.2 D.1 hh v r
  unfold addTx
  refine tailTx_ris ?_
  split
  · exact h1
  · exact h1
theorem addTx_led {hh : Int} {v : Value} {D : SD} : (addTx hh v D).2.2.led = D.2.2.led := by
  have h1 := layNew_led D.2.2 D.1 hh v
  unfold addTx
  rw [tailTx_led]
  split
  · exact h1
  · exact h1
/-- x behind l, if it is new -/
def addNew (l : List Str) (x : Str) : List Str := if x ∈ l then l else x :: l
def distS (l : List Str) : List Str := l.foldl addNew []
theorem addNew_len (l : List Str) (x : Str) : (addNew l x).length ≤ l.length + 1 := by
  unfold addNew
  split
  · omega
  · simp
theorem foldl_len (l : List Str) : ∀ m : List Str, (l.foldl addNew m).length ≤ m.length + l.length := by
  induction l with
  | nil => intro m; simp
  | cons x l ih =>
    intro m
    have h1 := ih (addNew m x)
    have h2 := addNew_len m x
    simp only [List.foldl_cons, List.length_cons]
    omega
theorem foldl_nodup (l : List Str) : ∀ m : List Str, m.Nodup → (l.foldl addNew m).Nodup := by
  induction l with
  | nil => intro m h; exact h
  | cons x l ih =>
    intro m h
    refine ih _ ?_
    unfold addNew
    split
    · exact h
    · rename_i c
      exact List.nodup_cons.mpr ⟨c, h⟩
theorem foldl_mem (l : List Str) : ∀ (m : List Str) (y : Str), y ∈ l.foldl addNew m ↔ y ∈ m ∨ y ∈ l := by
  induction l with
  | nil => intro m y; simp
  | cons x l ih =>
    intro m y
    rw [List.foldl_cons, ih]
    unfold addNew
    split
    · rename_i c
      constructor
      · rintro (h | h)
        · exact .inl h
        · exact .inr (List.mem_cons_of_mem _ h)
      · rintro (h | h)
        · exact .inl h
        · rcases List.mem_cons.mp h with rfl | h
          · exact .inl c
          · exact .inr h
    · constructor
      · rintro (h | h)
        · rcases List.mem_cons.mp h with rfl | h
          · exact .inr List.mem_cons_self
          · exact .inl h
        · exact .inr (List.mem_cons_of_mem _ h)
      · rintro (h | h)
        · exact .inl (List.mem_cons_of_mem _ h)
        · rcases List.mem_cons.mp h with rfl | h
          · exact .inl List.mem_cons_self
          · exact .inr h
theorem distS_nodup (l : List Str) : (distS l).Nodup := foldl_nodup l [] List.nodup_nil
theorem distS_mem {l : List Str} {y : Str} : y ∈ distS l ↔ y ∈ l := by
  unfold distS
  rw [foldl_mem]
  simp
theorem distS_len (l : List Str) : (distS l).length ≤ l.length := by
  have := foldl_len l []
  rw [List.length_nil, Nat.zero_add] at this
  exact this
section
variable {P : Program} {w : World} {A : Around} {E : Value → Shared → Prop} {s : Shared}
theorem old_x {a : Addr} {T : String} {D : SD} {l : List Str} {k : Str} {u : Tok} {Q : Bool → Shared → Prop} (ho : s.heap.get? a = some (sObj T D)) (F : TxOk P w D l) (hk : k ∈ l) (hb : l.length < scanBound)
    (h : Q false s) : wpAny (model P w) A (setAddHashed a (.str k u) (hashStr w k)) Q E s := by
  obtain ⟨es, ep, t⟩ := D
  have hd : (sObj T (es, ep, t)).data = .set es ep t := rfl
  have hf : t.fits es.size = true := F.fit
  have hel : ElemsOf (strKind P w) es.toList := F.el
  have hsz : es.size = l.length := F.sz
  have hb0 : es.size < scanBound := by omega
  have hkey : (strKind P w).is k (.str k u) = true := is_str k u
  obtain ⟨e, he, hp⟩ := (F.mem k).mp hk
  unfold setAddHashed setAddHashedIn
  refine wpAny_holding (wpAny_bind (wpAny_setState_of ho hd hf ?_))
  dsimp only
  rw [byScan_of rfl hb0 hel]
  simp only [↓reduceIte]
  unfold setAddByScan
  refine wpAny_bind ?_
  refine wpAny_bind (wpAny_rule ?_)
  refine wpAny_bind (wpAny_setScan_of (knd := strKind P w) (k := k) hkey ho hd hf hel ?_)
  cases hr : List.findIdx? (fun e => (strKind P w).is k e.2) es.toList with
  | none =>
    rw [List.findIdx?_eq_none_iff] at hr
    have := hr e he
    rw [hp] at this
    cases this
  | some j => first
    | exact wpAny_pure (wpAny_pure h)
    | (dsimp only; exact wpAny_pure (wpAny_pure h))
theorem setS_add {a : Addr} {l : List Str} {k : Str} {u : Tok} {Q : Bool → Shared → Prop} (R : SetS P w s.heap a l) (hb : l.length + 1 < scanBound)
    (h : ∀ b h', Heap.SameBut a s.heap h' → SetS P w h' a (addNew l k) → Q b { s with heap := h' }) : wpAny (model P w) A (setAddHashed a (.str k u) (hashStr w k)) Q E s := by
  obtain ⟨D, ho, F, nd, r, ld⟩ := R.ex
  by_cases c : k ∈ l
  · refine old_x ho F c (by omega) ?_
    refine h false s.heap (Heap.SameBut.refl _ _) ?_
    unfold addNew
    rw [if_pos c]
    exact R
  · refine add_x ho F c hb ?_
    refine h true _ (Heap.SameBut.update _ _ _) ?_
    unfold addNew
    rw [if_neg c]
    exact ⟨_, get_upd _ ho rfl, add_ok u F, List.nodup_cons.mpr ⟨c, nd⟩, addTx_ris r, by rw [addTx_led]; exact ld⟩
theorem update_strs {I : Addr} {fp wr : List Addr} {G : Array GenState → Array GenState → Prop} {n : Nat} {Pv : Nat → Value → Prop} {St : Nat → Shared → Prop} {R : Result → Shared → Prop}
    (W : WalksS P w A.in1 I fp wr G n Pv St) (S : Addr) (hSf : S ∉ fp) (xs : List Str) (hn : n = xs.length) (hb : xs.length + 1 < scanBound) (hval : ∀ i v, Pv i v → ∃ k t, xs[i]? = some k ∧ v = .str k t) :
    ∀ (k i : Nat) (s : Shared), n - i = k → i ≤ n → St i s → SetS P w s.heap S ((xs.take i).foldl addNew []) →
      (∀ s', Moved (S :: wr) G s s' → SetS P w s'.heap S (distS xs) → R (.ok (.ret .none)) s') →
      codeAny (model P w) A (.builtin "set.update.loop" ⟨[.ref S, .ref I], []⟩) R s := by
  have hSw : S ∉ wr := fun h => hSf (W.sub _ h)
  have hsub : ∀ b ∈ wr, b ∈ S :: wr := fun b hb => List.mem_cons_of_mem _ hb
  intro k
  induction k with
  | zero =>
    intro i s hk' hi hst hS hR
    have hin : i = n := by omega
    subst hin
    refine codeAny_builtin PyProof.Rows.F.entry_set_update_loop ?_
    rw [Around.under_plainId PyProof.Rows.F.plain_set_update_loop _]
    show wpAny _ A.in1 (pyNext (.ref I) >>= _) _ _ s
    refine wpAny_bind (W.done s _ _ hst fun s' hm => ?_)
    show wpAny _ A.in1 (ret Value.none) _ _ s'
    rw [List.take_of_length_le (by omega)] at hS
    exact wpAny_pure (hR s' (hm.mono hsub) (hS.at fun o e => hm.heap S o hSw e))
  | succ k ih =>
    intro i s hk' hi hst hS hR
    have hlt : i < n := by omega
    refine codeAny_builtin PyProof.Rows.F.entry_set_update_loop ?_
    rw [Around.under_plainId PyProof.Rows.F.plain_set_update_loop _]
    show wpAny _ A.in1 (pyNext (.ref I) >>= _) _ _ s
    refine wpAny_bind (W.item i s _ _ hlt hst fun v s' hP hst' hm => ?_)
    obtain ⟨z, t, hz, rfl⟩ := hval i v hP
    have hS' := hS.at fun o e => hm.heap S o hSw e
    show wpAny _ A.in1 (holding [Value.str z t] (setAdd S (.str z t)) >>= _) _ _ s'
    refine wpAny_bind (wpAny_holding ?_)
    unfold setAdd
    refine wpAny_holding ?_
    refine wpAny_bind ((strKind P w).pyHash (k := z) (is_str z t) ?_)
    have hl : ((xs.take i).foldl addNew []).length + 1 < scanBound := by
      have h1 := foldl_len (xs.take i) []
      have h2 : (xs.take i).length ≤ i := List.length_take_le _ _
      simp only [List.length_nil] at h1
      omega
    refine setS_add (s := { s' with toks := s'.toks + 1 }) hS' hl fun b h' hsb hS2 => ?_
    have hS3 : SetS P w h' S ((xs.take (i + 1)).foldl addNew []) := by
      rw [List.take_add_one, hz, List.foldl_append]
      exact hS2
    refine wpAny_pure ⟨plainId_quiet PyProof.Rows.F.plain_set_update_loop _, ih (i + 1) _ (by omega) hlt (W.frame _ s' _ _ hst' (Nat.le_succ _) fun b hb o e => ?_) hS3 fun s'' hm'' hS'' => ?_⟩
    · rw [hsb.2 b (fun h : b = S => hSf (by rw [← h]; exact hb))]; exact e
    · refine hR s'' (Moved.trans W.gtrans ((hm.mono hsub).then_heap (Nat.le_succ _) fun b o hb e => ?_) hm'') hS''
      rw [hsb.2 b (fun h : b = S => hb (by rw [h]; exact List.mem_cons_self))]; exact e
abbrev freshS (w : World) : Obj := { cls := .type "set", dict := none, data := .set #[] 0 (.fresh 0 0 (!w.params.followText "set-order")) }
theorem setS_fresh {h : Heap} {a : Addr} (e : h.get? a = some (freshS w)) : SetS P w h a [] := by
  refine ⟨(#[], 0, .fresh 0 0 (!w.params.followText "set-order")), e, TxOk.nil rfl, List.nodup_nil, List.Pairwise.nil, ?_⟩
  show _ ∨ (!w.params.followText "set-order") = true
  cases w.params.followText "set-order"
  · exact .inr rfl
  · exact .inl rfl
set_option maxRecDepth 100000 in
set_option maxHeartbeats 3200000 in
/-- set(x), x a list of strs -/
theorem set_of_list {l : Addr} {items : Array Value} (xs : List Str) {Q : Value → Shared → Prop} (hh : A.handled = none) (hl : s.heap.IsList l items) (hit : StrsAre items.toList xs) (hb : xs.length + 1 < scanBound)
    (h : ∀ (h' : Heap) (tk : Nat), SetS P w h' s.heap.objs.size (distS xs) → (∀ b o, s.heap.get? b = some o → h'.get? b = some o) → Q (.ref s.heap.objs.size) { s with heap := h', toks := tk }) :
    wpAny (model P w) A (call (.type "set") [.ref l]) Q E s := by
  have hisz : items.size = xs.length := by rw [← StrsAre.len_eq hit, Array.length_toList]
  obtain ⟨c, tl, hmro⟩ := PySem.F.called_set.mro
  have hmade := PySem.F.called_set.made
  have hsub := PySem.F.called_set.sub
  refine wpAny_call (codeAny_of_tree ?_)
  show wpAny _ _ (callAny (.type "set") _) _ _ _
  refine wpAny_pure ⟨Code.quiet_builtin _ (by decide +kernel), codeAny_builtin PySem.F.entry_type_call ?_⟩
  rw [Around.under_plain (weight_type_call_type "set" [.ref l] []) rfl]
  have h1 := PySem.F.called_set.notType
  have h2 := PySem.F.called_set.canCreate
  have hct := PySem.F.typeCall_set_1 (.ref l)
  repeat (any_goals (first | assumption | wp_step))
  refine codeAny_mono (code_set_led1 (.ref l) (E := E) (Q₁ := fun obj s₁ => obj = .ref s.heap.objs.size ∧ s₁ = { s with heap := s.heap.push (freshS w) }) ⟨rfl, rfl⟩) fun r s₁ hr => ?_
  cases r with
  | error e => exact hr
  | ok fl =>
    cases fl with
    | ret obj =>
      obtain ⟨rfl, rfl⟩ := hr
      have hS : (s.heap.push (freshS w)).get? s.heap.objs.size = some (freshS w) := Heap.get?_push_size _ rfl
      have hT : Shared.TypeIs { s with heap := s.heap.push (freshS w) } (.ref s.heap.objs.size) "set" := ⟨_, hS, rfl⟩
      have hli := PySem.F.called_set.init.lookup
      have hbi := PySem.F.called_set.init.bind (.ref s.heap.objs.size)
      repeat (any_goals (first | assumption | wp_step))
      refine codeAny_mono (codeAny_call_builtin (R := wants (fun r s₂ => r = .none ∧ ∃ h' tk, s₂ = { s with heap := h', toks := tk } ∧ SetS P w h' s.heap.objs.size (distS xs) ∧
          (∀ b o, s.heap.get? b = some o → h'.get? b = some o)) E) PySem.F.called_set.init.plain PySem.F.entry_set_init (check_set_init_1 hT ?_)) fun r₂ s₂ hr₂ => ?_
      · obtain ⟨ol, hol, hcl, nl, hdl⟩ := hl
        obtain ⟨ocls, odict, odata, oslots⟩ := ol
        simp only at hcl hdl
        subst hcl; subst hdl
        have hol' : (s.heap.push (freshS w)).get? l = some { cls := .type "list", dict := odict, data := .seq items nl, slots := oslots } := Heap.get?_push_of_some _ hol
        have hsls := PySem.F.sub_list_set
        have hslf := PySem.F.sub_list_frozenset
        have hne : (Value.type "list" == Value.type "dict") = false := by decide
        have hl1 : (s.heap.push (freshS w)).IsList l items := ⟨_, hol', rfl, nl, rfl⟩
        unfold Builtin.«set.__init__» noKeywords Builtin.Frozenset.updateFrom
        generalize hPI : pyIter = PI
        wp_walk
        subst hPI
        refine wpAny_pyIter_list hl1 ?_
        refine wpAny_bind (wpAny_runValue ?_)
        have hlS : l < s.heap.objs.size := Heap.lt_size hol
        have hh3 : A.in1.in1.in1.handled = none := by simp [hh]
        have hneI : l ≠ (s.heap.push (freshS w)).objs.size := by
          rw [Heap.size_push]; exact Nat.ne_of_lt (Nat.lt_succ_of_lt hlS)
        have hSf : s.heap.objs.size ∉ [(s.heap.push (freshS w)).objs.size, l] := by
          rw [Heap.size_push]; simp only [List.mem_cons, List.mem_singleton, List.not_mem_nil, or_false, not_or]
          exact ⟨Nat.ne_of_lt (Nat.lt_succ_self _), Nat.ne_of_gt hlS⟩
        have hval : ∀ (i : Nat) (v : Value), items[i]? = some v → ∃ k t, xs[i]? = some k ∧ v = .str k t := fun i v hv => by
          have hi : i < xs.length := by rw [← hisz]; exact (Array.getElem?_eq_some_iff.mp hv).1
          obtain ⟨t, e⟩ := SS.strs_at hit i v (by rw [Array.getElem?_toList]; exact hv)
          refine ⟨xs[i], t, List.getElem?_eq_getElem hi, ?_⟩
          rw [e, List.getD_eq_getElem?_getD, List.getElem?_eq_getElem hi] <;> rfl
        refine update_strs ((Walks.list hh3 _ l hneI items).toS) s.heap.objs.size
          hSf xs hisz hb hval (items.size - 0) 0 _ (by omega) (Nat.zero_le _)
          ⟨⟨_, Heap.get?_push_size _ rfl, rfl, rfl⟩, (hl1.push _)⟩ ?hS0 ?hR
        case hS0 => exact setS_fresh (Heap.get?_push_of_some _ hS)
        case hR =>
          intro s' hm hS'
          obtain ⟨h', g2, d', tk', os'⟩ := s'
          have eg : g2 = s.gens := hm.gens
          have ed : d' = s.drawn := hm.drawn
          have eo : os' = s.os := hm.os
          subst eg; subst ed; subst eo
          show wpAny _ _ _ _ _ _
          refine wpAny_pure ?_
          show wpAny _ _ (ret Value.none) _ _ _
          refine wpAny_pure ⟨rfl, h', tk', rfl, hS', fun b o e => ?_⟩
          have hb' := Heap.lt_size e
          refine hm.heap b o ?_ (Heap.get?_push_of_some _ (Heap.get?_push_of_some _ e))
          simp only [List.mem_cons, List.mem_singleton, List.not_mem_nil, or_false, not_or]
          exact ⟨Nat.ne_of_lt hb', by rw [Heap.size_push]; exact Nat.ne_of_lt (Nat.lt_succ_of_lt hb')⟩
      · cases r₂ with
        | error e => exact hr₂
        | ok fl₂ =>
          cases fl₂ with
          | ret r =>
            obtain ⟨rfl, h', tk, rfl, hS', hk'⟩ := hr₂
            repeat (any_goals (first | assumption | wp_step))
            exact h _ _ hS' hk'
          | _ => exact hr₂.elim
    | _ => exact hr.elim
set_option maxRecDepth 100000 in
set_option maxHeartbeats 3200000 in
/-- set(x), x a tuple of strs -/
theorem set_of_tuple {l : Addr} {items : Array Value} (xs : List Str) {Q : Value → Shared → Prop} (hh : A.handled = none) (hl : s.heap.IsTuple l items) (hit : StrsAre items.toList xs) (hb : xs.length + 1 < scanBound)
    (h : ∀ (h' : Heap) (tk : Nat), SetS P w h' s.heap.objs.size (distS xs) → (∀ b o, s.heap.get? b = some o → h'.get? b = some o) → Q (.ref s.heap.objs.size) { s with heap := h', toks := tk }) :
    wpAny (model P w) A (call (.type "set") [.ref l]) Q E s := by
  have hisz : items.size = xs.length := by rw [← StrsAre.len_eq hit, Array.length_toList]
  obtain ⟨c, tl, hmro⟩ := PySem.F.called_set.mro
  have hmade := PySem.F.called_set.made
  have hsub := PySem.F.called_set.sub
  refine wpAny_call (codeAny_of_tree ?_)
  show wpAny _ _ (callAny (.type "set") _) _ _ _
  refine wpAny_pure ⟨Code.quiet_builtin _ (by decide +kernel), codeAny_builtin PySem.F.entry_type_call ?_⟩
  rw [Around.under_plain (weight_type_call_type "set" [.ref l] []) rfl]
  have h1 := PySem.F.called_set.notType
  have h2 := PySem.F.called_set.canCreate
  have hct := PySem.F.typeCall_set_1 (.ref l)
  repeat (any_goals (first | assumption | wp_step))
  refine codeAny_mono (code_set_led1 (.ref l) (E := E) (Q₁ := fun obj s₁ => obj = .ref s.heap.objs.size ∧ s₁ = { s with heap := s.heap.push (freshS w) }) ⟨rfl, rfl⟩) fun r s₁ hr => ?_
  cases r with
  | error e => exact hr
  | ok fl =>
    cases fl with
    | ret obj =>
      obtain ⟨rfl, rfl⟩ := hr
      have hS : (s.heap.push (freshS w)).get? s.heap.objs.size = some (freshS w) := Heap.get?_push_size _ rfl
      have hT : Shared.TypeIs { s with heap := s.heap.push (freshS w) } (.ref s.heap.objs.size) "set" := ⟨_, hS, rfl⟩
      have hli := PySem.F.called_set.init.lookup
      have hbi := PySem.F.called_set.init.bind (.ref s.heap.objs.size)
      repeat (any_goals (first | assumption | wp_step))
      refine codeAny_mono (codeAny_call_builtin (R := wants (fun r s₂ => r = .none ∧ ∃ h' tk, s₂ = { s with heap := h', toks := tk } ∧ SetS P w h' s.heap.objs.size (distS xs) ∧
          (∀ b o, s.heap.get? b = some o → h'.get? b = some o)) E) PySem.F.called_set.init.plain PySem.F.entry_set_init (check_set_init_1 hT ?_)) fun r₂ s₂ hr₂ => ?_
      · obtain ⟨ol, hol, hcl, nl, hdl⟩ := hl
        obtain ⟨ocls, odict, odata, oslots⟩ := ol
        simp only at hcl hdl
        subst hcl; subst hdl
        have hol' : (s.heap.push (freshS w)).get? l = some { cls := .type "tuple", dict := odict, data := .seq items nl, slots := oslots } := Heap.get?_push_of_some _ hol
        have hsls := PySem.F.sub_tuple_set
        have hslf := PySem.F.sub_tuple_frozenset
        have hne : (Value.type "tuple" == Value.type "dict") = false := by decide
        have hl1 : (s.heap.push (freshS w)).IsTuple l items := ⟨_, hol', rfl, nl, rfl⟩
        unfold Builtin.«set.__init__» noKeywords Builtin.Frozenset.updateFrom
        generalize hPI : pyIter = PI
        wp_walk
        subst hPI
        refine wpAny_pyIter_tuple hl1 ?_
        refine wpAny_bind (wpAny_runValue ?_)
        have hlS : l < s.heap.objs.size := Heap.lt_size hol
        have hh3 : A.in1.in1.in1.handled = none := by simp [hh]
        have hneI : l ≠ (s.heap.push (freshS w)).objs.size := by
          rw [Heap.size_push]; exact Nat.ne_of_lt (Nat.lt_succ_of_lt hlS)
        have hSf : s.heap.objs.size ∉ [(s.heap.push (freshS w)).objs.size, l] := by
          rw [Heap.size_push]; simp only [List.mem_cons, List.mem_singleton, List.not_mem_nil, or_false, not_or]
          exact ⟨Nat.ne_of_lt (Nat.lt_succ_self _), Nat.ne_of_gt hlS⟩
        have hval : ∀ (i : Nat) (v : Value), items[i]? = some v → ∃ k t, xs[i]? = some k ∧ v = .str k t := fun i v hv => by
          have hi : i < xs.length := by rw [← hisz]; exact (Array.getElem?_eq_some_iff.mp hv).1
          obtain ⟨t, e⟩ := SS.strs_at hit i v (by rw [Array.getElem?_toList]; exact hv)
          refine ⟨xs[i], t, List.getElem?_eq_getElem hi, ?_⟩
          rw [e, List.getD_eq_getElem?_getD, List.getElem?_eq_getElem hi] <;> rfl
        refine update_strs ((Walks.tuple hh3 _ l hneI items).toS) s.heap.objs.size
          hSf xs hisz hb hval (items.size - 0) 0 _ (by omega) (Nat.zero_le _)
          ⟨⟨_, Heap.get?_push_size _ rfl, rfl, rfl⟩, (hl1.push _)⟩ ?hS0 ?hR
        case hS0 => exact setS_fresh (Heap.get?_push_of_some _ hS)
        case hR =>
          intro s' hm hS'
          obtain ⟨h', g2, d', tk', os'⟩ := s'
          have eg : g2 = s.gens := hm.gens
          have ed : d' = s.drawn := hm.drawn
          have eo : os' = s.os := hm.os
          subst eg; subst ed; subst eo
          show wpAny _ _ _ _ _ _
          refine wpAny_pure ?_
          show wpAny _ _ (ret Value.none) _ _ _
          refine wpAny_pure ⟨rfl, h', tk', rfl, hS', fun b o e => ?_⟩
          have hb' := Heap.lt_size e
          refine hm.heap b o ?_ (Heap.get?_push_of_some _ (Heap.get?_push_of_some _ e))
          simp only [List.mem_cons, List.mem_singleton, List.not_mem_nil, or_false, not_or]
          exact ⟨Nat.ne_of_lt hb', by rw [Heap.size_push]; exact Nat.ne_of_lt (Nat.lt_succ_of_lt hb')⟩
      · cases r₂ with
        | error e => exact hr₂
        | ok fl₂ =>
          cases fl₂ with
          | ret r =>
            obtain ⟨rfl, h', tk, rfl, hS', hk'⟩ := hr₂
            repeat (any_goals (first | assumption | wp_step))
            exact h _ _ hS' hk'
          | _ => exact hr₂.elim
    | _ => exact hr.elim
end
end GL


end

section
set_option Elab.async false
set_option linter.all false
set_option maxRecDepth 100000
set_option maxHeartbeats 4000000
/-! GL: sorted, of ints and of strs; of a set of strs; the size of a set; < of tuples of strs. -/
namespace GL
open PySem PySem.Spec PyProof.Rows L2 PySem.Froz

/-! ### the plain order -/
def insB {a : Type} (le : a → a → Bool) (x : a) : List a → List a
  | [] => [x]
  | y :: r => if le x y = true then x :: y :: r else y :: insB le x r
def isort {a : Type} (le : a → a → Bool) (l : List a) : List a := l.foldr (insB le) []
structure Tot {a : Type} (le : a → a → Bool) : Prop where
  tot : ∀ x y, le x y = true ∨ le y x = true
  tr : ∀ x y z, le x y = true → le y z = true → le x z = true
  anti : ∀ x y, le x y = true → le y x = true → x = y
section
variable {a : Type} {le : a → a → Bool}
theorem insB_perm (x : a) : ∀ l, (insB le x l).Perm (x :: l)
  | [] => .refl _
  | y :: r => by
    show (if le x y = true then x :: y :: r else y :: insB le x r).Perm _
    split
    · exact .refl _
    · exact ((insB_perm x r).cons y).trans (.swap x y r)
theorem isort_perm : ∀ l : List a, (isort le l).Perm l
  | [] => .refl _
  | x :: r => (insB_perm x _).trans ((isort_perm r).cons x)
theorem insB_pw (t : Tot le) (x : a) : ∀ l : List a, l.Pairwise (fun p q => le p q = true) → (insB le x l).Pairwise (fun p q => le p q = true)
  | [], _ => show [x].Pairwise _ from List.pairwise_singleton _ _
  | y :: r, h => by
    obtain ⟨h1, h2⟩ := List.pairwise_cons.mp h
    show (if le x y = true then x :: y :: r else y :: insB le x r).Pairwise _
    split
    · rename_i c
      refine List.pairwise_cons.mpr ⟨fun z hz => ?_, h⟩
      rcases List.mem_cons.mp hz with rfl | hz
      · exact c
      · exact t.tr _ _ _ c (h1 z hz)
    · rename_i c
      have c' : le y x = true := (t.tot y x).resolve_right fun q => c q
      refine List.pairwise_cons.mpr ⟨fun z hz => ?_, insB_pw t x r h2⟩
      rcases List.mem_cons.mp ((insB_perm x r).mem_iff.mp hz) with rfl | hz
      · exact c'
      · exact h1 z hz
theorem isort_pw (t : Tot le) : ∀ l : List a, (isort le l).Pairwise (fun p q => le p q = true)
  | [] => List.Pairwise.nil
  | x :: r => insB_pw t x _ (isort_pw t r)
theorem isort_eq (t : Tot le) {l m : List a} (h : m.Perm l) (hp : m.Pairwise (fun p q => le p q = true)) : m = isort le l :=
  List.Perm.eq_of_pairwise (fun x y _ _ h1 h2 => t.anti x y h1 h2) hp (isort_pw t l) (h.trans (isort_perm l).symm)
end
def leI (x y : Int) : Bool := decide (x ≤ y)
theorem tot_leI : Tot leI := by
  unfold leI
  constructor
  · intro x y
    simp only [decide_eq_true_eq]
    omega
  · intro x y z
    simp only [decide_eq_true_eq]
    omega
  · intro x y
    simp only [decide_eq_true_eq]
    omega
/-- x < y of strs -/
def ltS (x y : Str) : Bool := decide (x.cps.toList < y.cps.toList)
def leS (x y : Str) : Bool := !ltS y x
theorem ltS_irrefl (x : Str) : ltS x x = false := decide_eq_false (List.lt_irrefl _)
theorem str_ext {x y : Str} (h : x.cps.toList = y.cps.toList) : x = y := by
  cases x; cases y
  simp only at h
  rw [Array.toList_inj.mp h]
theorem ltS_tri (x y : Str) : ltS x y = true ∨ x = y ∨ ltS y x = true := by
  unfold ltS
  simp only [decide_eq_true_eq]
  rcases List.le_total x.cps.toList y.cps.toList with h | h
  · rcases List.le_iff_lt_or_eq.mp h with h | h
    · exact .inl h
    · exact .inr (.inl (str_ext h))
  · rcases List.le_iff_lt_or_eq.mp h with h | h
    · exact .inr (.inr h)
    · exact .inr (.inl (str_ext h.symm))
theorem ltS_trans {x y z : Str} (h1 : ltS x y = true) (h2 : ltS y z = true) : ltS x z = true := by
  unfold ltS at h1 h2 ⊢
  rw [decide_eq_true_eq] at h1 h2 ⊢
  exact List.lt_trans h1 h2
theorem ltS_asym {x y : Str} (h : ltS x y = true) : ltS y x = false := by
  cases q : ltS y x with
  | false => rfl
  | true =>
    have := ltS_trans h q
    rw [ltS_irrefl] at this
    cases this
theorem tot_leS : Tot leS := by
  unfold leS
  constructor
  · intro x y
    cases h : ltS y x with
    | false => exact .inl rfl
    | true => rw [ltS_asym h]; exact .inr rfl
  · intro x y z h1 h2
    cases h : ltS z x with
    | false => rfl
    | true =>
      rcases ltS_tri x y with q | q | q
      · rw [ltS_trans h q] at h2; cases h2
      · subst q; rw [h] at h2; cases h2
      · rw [q] at h1; cases h1
  · intro x y h1 h2
    rcases ltS_tri x y with q | q | q
    · rw [q] at h2; cases h2
    · exact q
    · rw [q] at h1; cases h1
theorem ltCps_ltS (x y : Str) : ltCps x.cps.toList y.cps.toList = ltS x y := ltCps_eq _ _
theorem rising_pw : ∀ (x : Str) (l : List Str), risingS x l = true → (x :: l).Pairwise (fun p q => leS p q = true)
  | x, [], _ => List.pairwise_singleton _ _
  | x, y :: r, h => by
    have h : (!ltCps y.cps.toList x.cps.toList && risingS y r) = true := h
    rw [Bool.and_eq_true] at h
    have h1 : leS x y = true := by
      unfold leS
      rw [← ltCps_ltS]
      exact h.1
    have h2 := rising_pw y r h.2
    refine List.pairwise_cons.mpr ⟨fun z hz => ?_, h2⟩
    rcases List.mem_cons.mp hz with rfl | hz
    · exact h1
    · exact tot_leS.tr _ _ _ h1 ((List.pairwise_cons.mp h2).1 z hz)
theorem sortedS_pw : ∀ {l : List Str}, sortedS l = true → l.Pairwise (fun p q => leS p q = true)
  | [], _ => List.Pairwise.nil
  | x :: r, h => rising_pw x r h
def sortI (l : List Int) : List Int := isort leI l
def sortStr (l : List Str) : List Str := isort leS l
theorem sortI_of {l m : List Int} (h : m.Perm l) (hp : m.Pairwise (· ≤ ·)) : m = sortI l := isort_eq tot_leI h (hp.imp fun q => decide_eq_true q)
theorem sortStr_of {l m : List Str} (h : m.Perm l) (hp : sortedS m = true) : m = sortStr l := isort_eq tot_leS h (sortedS_pw hp)
theorem sortStr_len (l : List Str) : (sortStr l).length = l.length := (isort_perm l).length_eq
theorem sortI_len (l : List Int) : (sortI l).length = l.length := (isort_perm l).length_eq

/-! ### the runs -/
section
variable {prog : Program} {w : World} {A : Around} {E : Value → Shared → Prop} {s : Shared}
theorem collect_tuple {l : Addr} {vs : List Value} {Q : List Value → Shared → Prop} (hl : s.heap.IsTuple l vs.toArray)
    (h : Q vs { s with heap := (s.heap.push (seqObj "list" #[] 0)).update s.heap.objs.size (Obj.mapSeq (· ++ vs.toArray)) }) (hsz : vs.length ≤ sizeLine) :
    wpAny (model prog w) A (collect (.ref l)) Q E s := by
  obtain ⟨o, ho, hc, n, hd⟩ := id hl
  unfold collect
  refine wpAny_bind (wpAny_runValue (codeAny_builtin entry_proto_collect' ?_))
  show wpAny _ _ (do again (.builtin "list.__iadd__" ⟨[← newList [], .ref l], []⟩)) _ _ s
  refine wpAny_bind (wpAny_newList (wpAny_pure ⟨Code.quiet_builtin _ (by decide +kernel), codeAny_builtin entry_list_iadd' ?_⟩))
  show wpAny _ _ (Builtin.List.listExtendWith (.ref s.heap.objs.size) (.ref l) (.ref s.heap.objs.size)) _ _ { s with heap := s.heap.push (seqObj "list" #[] 0) }
  unfold Builtin.List.listExtendWith
  have ho' : (s.heap.push (seqObj "list" #[] 0)).get? l = some o := Heap.get?_push_of_some _ ho
  refine wpAny_bind (wpAny_typeOf (T := "tuple") ⟨o, ho', hc⟩ ?_)
  have ht : (Value.type "tuple" == Value.type "tuple") = true := by rfl
  rw [if_pos (by rw [ht]; simp)]
  refine wpAny_bind (listItems_at ho' hd ?_)
  refine wpAny_bind (listItems_at (xs := #[]) (n := 0) (Heap.get?_push_size _ rfl) rfl ?_)
  rw [if_neg (by simp)]
  refine wpAny_bind (listUpdate_at (xs := #[]) (n := 0) (Heap.get?_push_size _ rfl) rfl ?_ (Nat.zero_le _) (by show (#[] ++ vs.toArray).size ≤ sizeLine + 1; simp only [Array.size_append, List.size_toArray, List.length_nil]; omega))
  refine wpAny_pure ?_
  show wpAny (model prog w) A (do
      let o ← load s.heap.objs.size
      match o.data with
      | .seq xs _ => pure xs.toList
      | _ => unsupported "internal:collect") Q E { s with heap := (s.heap.push (seqObj "list" #[] 0)).update s.heap.objs.size (Obj.mapSeq (· ++ vs.toArray)) }
  refine wpAny_bind (wpAny_load (get?_update_seq (Heap.get?_push_size _ rfl) _) ?_)
  show wpAny _ _ (pure ((#[] : Array Value) ++ vs.toArray).toList) Q E _
  rw [show ((#[] : Array Value) ++ vs.toArray).toList = vs by simp]
  exact wpAny_pure h
theorem sorted_tupS {l : Addr} {vs : List Value} {ss : List Str} {Q : Value → Shared → Prop} (hl : s.heap.IsTuple l vs.toArray) (hS : StrsAre vs ss) (hL : vs.length ≤ sizeLine)
    (h : ∀ (out : Array Value) (ss' : List Str), StrsAre out.toList ss' → ss'.Perm ss → sortedS ss' = true → Q (.ref (s.heap.objs.size + 1)) { s with heap := sortedAll s.heap vs out }) :
    wpAny (model prog w) A (call (.builtin "sorted") [.ref l]) Q E s := by
  refine Calls.call_function_entry kind_sorted plain_sorted entry_sorted (args_sorted1 _) ?_
  unfold Builtin.«sorted»
  refine wpAny_bind (m := checkCount "sorted" 1 1 _) (wpAny_pure ?_)
  refine wpAny_bind (collect_tuple hl ?_ hL)
  refine wpAny_bind (wpAny_newList ?_)
  have hsz : ((s.heap.push (seqObj "list" #[] 0)).update s.heap.objs.size (Obj.mapSeq (· ++ vs.toArray))).objs.size = s.heap.objs.size + 1 := by
    rw [Heap.size_update, size_push']
  have hoL : (((s.heap.push (seqObj "list" #[] 0)).update s.heap.objs.size (Obj.mapSeq (· ++ vs.toArray))).push (seqObj "list" vs.toArray 0)).get? (s.heap.objs.size + 1) = some (seqObj "list" vs.toArray 0) := by
    rw [← hsz]; exact Heap.get?_push_size _ rfl
  show wpAny _ _ _ _ _ { s with heap := ((s.heap.push (seqObj "list" #[] 0)).update s.heap.objs.size (Obj.mapSeq (· ++ vs.toArray))).push (seqObj "list" vs.toArray 0) }
  rw [hsz]
  refine wpAny_bind (wpAny_holding (wpAny_call_entry slot_list_sort ⟨_, hoL, rfl⟩ entry_list_sort (list_sort_treeKAny strKind_oneLt hoL hS.keysOf (fun v₁ v₂ rest e => keyKind_strs (by rw [← e]; exact hS)) hL fun st' hp hs => ⟨_, rfl, ?_⟩) (args_list_sort _)))
  obtain ⟨ss', h1, h2, h3⟩ := sorted_out_str hS hp hs
  exact wpAny_pure ⟨_, rfl, h _ ss' h1 h2 h3⟩
theorem strs_of : ∀ (l : List Value), (∀ v ∈ l, ∃ k tk, v = Value.str k tk) → StrsAre l (l.map strOf)
  | [], _ => .nil
  | v :: l, h => by
    obtain ⟨k, tk, rfl⟩ := h v List.mem_cons_self
    exact .cons k tk (strs_of l fun u hu => h u (List.mem_cons_of_mem _ hu))
theorem shape_str {P : Program} {k : Str} {v : Value} (h : (strKind P w).is k v = true) : ∃ tk, v = .str k tk := by
  have h : Value.isStrOf k v = true := h
  cases v with
  | str k' tk =>
    simp only [Value.isStrOf, beq_iff_eq] at h
    exact ⟨tk, by rw [h]⟩
  | _ => simp [Value.isStrOf] at h
theorem perm_of_sub : ∀ {l m : List Str}, l.Nodup → (∀ x ∈ l, x ∈ m) → m.length ≤ l.length → m.Perm l
  | [], m, _, _, h => by
    have : m = [] := List.eq_nil_of_length_eq_zero (by simpa using h)
    rw [this]
  | x :: r, m, nd, sub, h => by
    obtain ⟨h1, h2⟩ := List.nodup_cons.mp nd
    obtain ⟨p, q, rfl⟩ := List.append_of_mem (sub x List.mem_cons_self)
    have ih := perm_of_sub (l := r) (m := p ++ q) h2 (fun y hy => by
      have := sub y (List.mem_cons_of_mem _ hy)
      rcases List.mem_append.mp this with z | z
      · exact List.mem_append_left _ z
      · rcases List.mem_cons.mp z with rfl | z
        · exact absurd hy h1
        · exact List.mem_append_right _ z) (by
      simp only [List.length_append, List.length_cons] at h ⊢
      omega)
    exact List.perm_middle.trans (ih.cons x)
/-- the texts of a set's entries -/
theorem tx_perm {P : Program} {D : SD} {l : List Str} (F : TxOk P w D l) (nd : l.Nodup) : ((D.1.toList.map (·.2)).map strOf).Perm l ∧ ∀ v ∈ D.1.toList.map (·.2), ∃ k tk, v = Value.str k tk := by
  have shape : ∀ e ∈ D.1.toList, ∃ k tk, e.2 = Value.str k tk := fun e he => by
    obtain ⟨⟨k, hk, _⟩, _⟩ := F.el e he
    obtain ⟨tk, h⟩ := shape_str hk
    exact ⟨k, tk, h⟩
  have isk : ∀ e ∈ D.1.toList, (strKind P w).is (strOf e.2) e.2 = true := fun e he => by
    obtain ⟨k, tk, h⟩ := shape e he
    rw [h]
    exact is_str k tk
  have mem : ∀ k, k ∈ (D.1.toList.map (·.2)).map strOf ↔ k ∈ l := fun k => by
    rw [F.mem k, List.map_map, List.mem_map]
    constructor
    · rintro ⟨e, he, rfl⟩
      exact ⟨e, he, isk e he⟩
    · rintro ⟨e, he, hk⟩
      obtain ⟨tk, h⟩ := shape_str hk
      exact ⟨e, he, by show strOf e.2 = k; rw [h]; rfl⟩
  have len : ((D.1.toList.map (·.2)).map strOf).length = l.length := by
    rw [List.length_map, List.length_map, Array.length_toList]
    exact F.sz
  refine ⟨?_, fun v hv => ?_⟩
  · exact perm_of_sub nd (fun k hk => (mem k).mpr hk) (Nat.le_of_eq len)
  · obtain ⟨e, he, rfl⟩ := List.mem_map.mp hv
    exact shape e he
end
section
variable {r : RP} {m : List Addr} {H : Hp}
theorem repStrs : ∀ xs : List Str, RepVs r m H (xs.map .str) (xs.map V.str)
  | [] => .nil
  | x :: l => .cons (.str x) (repStrs l)
theorem repInts : ∀ xs : List Int, RepVs r m H (xs.map .int) (xs.map V.int)
  | [] => .nil
  | x :: l => .cons (.int x) (repInts l)
end
end GL

end

section
set_option Elab.async false
set_option linter.all false
set_option maxRecDepth 100000
set_option maxHeartbeats 4000000
/-! GL: sorted and sets, the rules. -/
namespace GL
open PySem PySem.Spec PyProof.Rows L2 PySem.Froz

section
variable {P : Program} {w : World} {A : Around} {E : Value → Shared → Prop} {s : Shared}
theorem sorted_setS {a : Addr} {l : List Str} {Q : Value → Shared → Prop} (R : SetS P w s.heap a l) (hh : A.handled = none) (hb : l.length < scanBound)
    (hQ : ∀ s' p (out : Array Value) (c : Nat), (∀ b o, s.heap.get? b = some o → s'.heap.get? b = some o) → s'.gens = s.gens → s'.os = s.os → s.heap.objs.size ≤ p →
      s'.heap.get? p = some (seqObj "list" out c) → StrsAre out.toList (sortStr l) → Q (.ref p) s') :
    wpAny (model P w) A (call (.builtin "sorted") [.ref a]) Q E s := by
  obtain ⟨⟨es, ep, t⟩, ho, F, nd, hr, hl⟩ := R.ex
  have hsz : es.size = l.length := F.sz
  have hf : t.fits es.size = true := F.fit
  obtain ⟨pl, sh⟩ := tx_perm F nd
  refine Calls.call_function_entry kind_sorted plain_sorted entry_sorted (args_sorted1 _) ?_
  unfold Builtin.«sorted»
  refine wpAny_bind (m := checkCount "sorted" 1 1 _) (wpAny_pure ?_)
  refine wpAny_bind (collect_set (A := A.in1) hh ⟨_, ho, rfl, rfl⟩ hf (by show es.size < scanBound; omega) hr hl fun s1 vs k1 hz g1 o1 pm => ?_)
  have pm : vs.Perm (es.toList.map (·.2)) := pm
  have hvl : vs.length = l.length := by rw [pm.length_eq, List.length_map, Array.length_toList]; exact hsz
  have hS : StrsAre vs (vs.map strOf) := strs_of vs fun v hv => sh v (pm.mem_iff.mp hv)
  have pk : (vs.map strOf).Perm l := (pm.map strOf).trans pl
  have hsl : vs.length ≤ sizeLine := by rw [hvl]; exact fits_of_scanBound hb
  refine wpAny_bind (wpAny_newList ?_ hsl)
  have hoL : (s1.heap.push (seqObj "list" vs.toArray 0)).get? s1.heap.objs.size = some (seqObj "list" vs.toArray 0) := Heap.get?_push_size _ rfl
  refine wpAny_bind (wpAny_holding (wpAny_call_entry slot_list_sort ⟨_, hoL, rfl⟩ entry_list_sort (list_sort_treeKAny strKind_oneLt hoL hS.keysOf (fun v₁ v₂ rest e => keyKind_strs (by rw [← e]; exact hS)) hsl fun st' hp hs => ⟨_, rfl, ?_⟩) (args_list_sort _)))
  obtain ⟨ss', h1, h2, h3⟩ := sorted_out_str hS hp hs
  have e := sortStr_of (h2.trans pk) h3
  subst e
  obtain ⟨c, hc⟩ := sortedHeap_at (vs := vs) (out := (arrOf st').map (·.2)) hoL
  refine wpAny_pure ⟨_, rfl, hQ _ s1.heap.objs.size _ c (fun b u e => ?_) g1 o1 hz hc h1⟩
  have q := k1 b u e
  have hlt := Heap.lt_size q
  show (sortedHeap (s1.heap.push (seqObj "list" vs.toArray 0)) s1.heap.objs.size vs _).get? b = some u
  rw [sortedHeap_old (Nat.ne_of_lt hlt) (by rw [size_push']; exact Nat.lt_succ_of_lt hlt)]
  exact Heap.get?_push_of_some _ q
end
section
variable {X : Cx} {a : Expr} {ta : TE} {p p2 q pos : Pos}
def tSortSet (K : PySem.W.Frag) (ta : TE) : TE := fun σ H Q => ta σ H fun x H1 => ∃ l, ∃ xs : List Str, x = .ref l ∧ (SqL K H1 l (xs.map V.str) ∨ SqT K H1 l (xs.map V.str)) ∧ xs.length + 1 < scanBound ∧
  ∀ b, H1 b = none → Q (.ref b) (upd H1 b (.lst ((sortStr (distS xs)).map V.str)))
def tLenSetS (K : PySem.W.Frag) (ta : TE) : TE := fun σ H Q => ta σ H fun x H1 => ∃ l, ∃ xs : List Str, x = .ref l ∧ (SqL K H1 l (xs.map V.str) ∨ SqT K H1 l (xs.map V.str)) ∧ xs.length + 1 < scanBound ∧ Q (.int (distS xs).length) H1
theorem run_set {pins : List (Addr × Obj)} {σ : L2.St} {H1 : Hp} {s1 : Shared} {l : Addr} {xs : List Str} {Q : Value → Shared → Prop} (hc : X.calm = true) (I1 : Inv X pins σ H1 s1) (hq : SqL X.K H1 l (xs.map V.str) ∨ SqT X.K H1 l (xs.map V.str)) (hb : xs.length + 1 < scanBound)
    (h : ∀ (h' : Heap) (tk : Nat), SetS X.prog X.w h' s1.heap.objs.size (distS xs) → (∀ b o, s1.heap.get? b = some o → h'.get? b = some o) → Q (.ref s1.heap.objs.size) { s1 with heap := h', toks := tk }) :
    wpAny (model X.prog X.w) X.A (call (.type "set") [.ref l]) Q X.xe s1 := by
  rcases hq with hq | hq
  · obtain ⟨its, r, pl, hz⟩ := I1.list hq
    exact set_of_list xs (I1.ok.hd hc) pl.isList (by simpa using r.strs) hb h
  · obtain ⟨its, r, pl, hz⟩ := I1.tuple hq
    exact set_of_tuple xs (I1.ok.hd hc) pl (by simpa using r.strs) hb h
theorem pe_sortSet (hc : X.calm = true) (hg : Gl X "sorted") (hm : X.mg "sorted" = none) (hg2 : Gl X "set") (hm2 : X.mg "set" = none) (ha : PE X a ta)
    (na : starEach [a] X.env = (false, eval a X.env) :: starEach [] X.env) : PE X (.Call (.Name "sorted" p) [.Call (.Name "set" p2) [a] [] q] [] pos) (tSortSet X.K ta) := by
  refine ⟨fun pins s σ H Q I h => ?_⟩
  refine Call_ (ld_blt I hg hm boot_sorted ?_)
  refine PyProof.Rows.callWith_builtin1 (PyProof.Rows.args_cons ?_ rfl) rfl rfl
  refine Call_ (ld_blt I hg2 hm2 boot_set ?_)
  refine PyProof.Rows.callWith_type1 (PyProof.Rows.args_cons (thn (ha.run pins s σ H _ I h) fun v s1 ⟨x, H1, I1, r1, q1⟩ => PyProof.Rows.args_nil ?_) na) na rfl
  obtain ⟨l, xs, rfl, hq, h1, q1⟩ := q1
  cases r1
  refine run_set hc I1 hq h1 fun h' tk hS hk => PyProof.Rows.args_nil ?_
  have I2 : Inv X pins σ H1 { s1 with heap := h', toks := tk } := I1.kept fun b o e => hk b o e
  have hl := distS_len xs
  refine sorted_setS (s := { s1 with heap := h', toks := tk }) hS (I2.ok.hd hc) (by omega) fun s' pp out c k g o hp hg hi => ?_
  have hlen : ((sortStr (distS xs)).map V.str).length ≤ sizeLine := by
    rw [List.length_map, sortStr_len]
    exact fits_of_scanBound (by omega)
  have hn : H1 pp = none := I2.hok.fresh hp
  generalize hs2 : ({ s1 with heap := h', toks := tk } : Shared) = s2 at k g o hp I2
  have J : Inv X pins σ (upd H1 pp (.lst ((sortStr (distS xs)).map V.str))) { s2 with heap := s'.heap, gens := s'.gens, drawn := s'.drawn, toks := s'.toks } :=
    I2.call (ch := []) (Un.laid k hp hn) (I2.hok.laid k hp ⟨hlen, out.toList, c, vals_of_strs hi, hg⟩) (by rw [g]; exact I2.bare) (fun _ z => nomatch z)
  have e : s' = { s2 with heap := s'.heap, gens := s'.gens, drawn := s'.drawn, toks := s'.toks } := by
    cases s'
    cases s2
    cases o
    rfl
  rw [e]
  exact ⟨.ref pp, _, J, rfl, q1 pp hn⟩
theorem pe_lenSetS (hc : X.calm = true) (hg : Gl X "len") (hm : X.mg "len" = none) (hg2 : Gl X "set") (hm2 : X.mg "set" = none) (ha : PE X a ta)
    (na : starEach [a] X.env = (false, eval a X.env) :: starEach [] X.env) : PE X (.Call (.Name "len" p) [.Call (.Name "set" p2) [a] [] q] [] pos) (tLenSetS X.K ta) := by
  refine ⟨fun pins s σ H Q I h => ?_⟩
  refine Call_ (ld_blt I hg hm boot_len ?_)
  refine PyProof.Rows.callWith_builtin1 (PyProof.Rows.args_cons ?_ rfl) rfl rfl
  refine Call_ (ld_blt I hg2 hm2 boot_set ?_)
  refine PyProof.Rows.callWith_type1 (PyProof.Rows.args_cons (thn (ha.run pins s σ H _ I h) fun v s1 ⟨x, H1, I1, r1, q1⟩ => PyProof.Rows.args_nil ?_) na) na rfl
  obtain ⟨l, xs, rfl, hq, h1, q1⟩ := q1
  cases r1
  refine run_set hc I1 hq h1 fun h' tk hS hk => PyProof.Rows.args_nil ?_
  have I2 : Inv X pins σ H1 { s1 with heap := h', toks := tk } := I1.kept fun b o e => hk b o e
  have hl := distS_len xs
  obtain ⟨⟨es, ep, t⟩, ho, F, nd, hr, hld⟩ := hS.ex
  have hsz : es.size = (distS xs).length := F.sz
  refine call_len_set ho ⟨rfl, rfl, rfl⟩ rfl F.fit (by show (es.size : Int) < 2 ^ 63; rw [hsz]; unfold scanBound at h1; omega) ⟨.int (distS xs).length, H1, I2.tok _, ⟨_, by show Value.int (es.size : Int) _ = _; rw [hsz]⟩, q1⟩
/-! ### sorted of lists and tuples -/
def rSortedSA (K : PySem.W.Frag) : List V → Hp → VK → Prop := fun vs H Q => ∃ (a : Addr) (xs : List Str), vs = [V.ref a] ∧ (SqL K H a (xs.map V.str) ∨ SqT K H a (xs.map V.str)) ∧
  ∀ (p : Addr), H p = none → Q (.ref p) (upd H p (.lst ((sortStr xs).map V.str)))
theorem cr_sortedSA : CallR X (.builtin "sorted") (rSortedSA X.K) := by
  intro pins s σ H vs us Q I r h
  obtain ⟨a, xs, rfl, hs, q⟩ := h
  rw [Vals.ref1 r]
  have fin : ∀ (its : List Value) (out : Array Value) (ys : List Str), xs.length ≤ sizeLine → StrsAre out.toList ys → ys.Perm xs → sortedS ys = true →
      EP X pins σ Q (.ref (s.heap.objs.size + 1)) { s with heap := sortedAll s.heap its out } := fun its out ys hz h1 h2 h3 => by
    have e := sortStr_of h2 h3
    subst e
    obtain ⟨ep, he'⟩ := PyProof.Rows.sortedAll_at s.heap its out
    exact ⟨.ref _, upd H (s.heap.objs.size + 1) (.lst ((sortStr xs).map V.str)), I.laid (t' := s.toks) (fun _ _ => PyProof.Rows.sortedAll_old) (Nat.le_succ _) ⟨by rw [List.length_map, sortStr_len]; exact hz, out.toList, ep, vals_of_strs h1, he'⟩, rfl, q _ (I.hok.fresh (Nat.le_succ _))⟩
  rcases hs with hs | hs
  · obtain ⟨its, rv, hl, hz⟩ := I.list hs
    rw [List.length_map] at hz
    have hz2 := rv.length
    rw [List.length_map] at hz2
    exact sorted_strsAny hl.isList rv.strs (by rw [← hz2]; exact hz) fun out ys h1 h2 h3 => fin its out ys hz h1 h2 h3
  · obtain ⟨its, rv, hl, hz⟩ := I.tuple hs
    rw [List.length_map] at hz
    have hz2 := rv.length
    rw [List.length_map] at hz2
    exact sorted_tupS hl rv.strs (by rw [← hz2]; exact hz) fun out ys h1 h2 h3 => fin its out ys hz h1 h2 h3
end
/-! ### plain -/
def gSortL (l : List G) : Option G := match intsG l with
  | some ns => some (.tl ((sortI ns).map .int))
  | none => (strsG l).map fun xs => .tl ((sortStr xs).map .str)
def gSorted (xs : List G) (S : Sto) : Option G := match xs with
  | [.tup l] => (strsG l).map fun xs => .tl ((sortStr xs).map .str)
  | [x] => (seqG S x).bind gSortL
  | _ => none
def gSortSet (x : G) (S : Sto) : Option G := (seqG S x).bind fun l => (strsG l).bind fun xs => if xs.length < 4000 then some (.tl ((sortStr (distS xs)).map .str)) else none
def gLenSet (x : G) (S : Sto) : Option G := (seqG S x).bind fun l => (strsG l).bind fun xs => if xs.length < 4000 then some (.int (distS xs).length) else none
section
variable {r : RP} {T : List (Addr × Str)} {X : Cx} {m : List Addr} {H : Hp} {S : Sto} {W : WX} {a : Expr} {fa : Ev} {pos p p2 q : Pos}
theorem cr_gSorted (hK : X.K = r.K) : CallR X (.builtin "sorted") (rPA r T gSorted) := CallR_imp (cr_sortedI.or cr_sortedSA) fun xs H Q ⟨m, S, gs, g, hR, h, e, k⟩ => by
  unfold gSorted at e
  split at e
  · rename_i l
    obtain ⟨v, rfl, h1⟩ := len1 h
    cases e1 : strsG l with
    | none => rw [e1] at e; cases e
    | some ss =>
      rw [e1] at e
      cases e
      cases h1 with
      | tup qq z t =>
        have ev := strs_rep t e1
        subst ev
        rw [List.length_map] at z
        refine .inr ⟨_, ss, rfl, .inr (by rw [hK]; exact TupSq qq), fun l hl => k _ _ (Ext.new hl _) (hR.fresh hl _) (hR.newTl hl (by rw [List.length_map, sortStr_len]; exact z) (repStrs _))⟩
  · rename_i g1 nt
    obtain ⟨v, rfl, h1⟩ := len1 h
    cases e1 : seqG S g1 with
    | none => rw [e1] at e; cases e
    | some l =>
      rw [e1] at e
      have e : gSortL l = some g := e
      obtain ⟨p, vs, rfl, z, t, q⟩ := seqL_rep hR h1 nt e1
      unfold gSortL at e
      split at e
      · rename_i ns e2
        cases e
        have ev := ints_rep t e2
        subst ev
        rw [List.length_map] at z
        refine .inl ⟨_, ns, rfl, by rw [hK]; exact q, fun ns' l h2 h3 hl => ?_⟩
        rw [sortI_of h2 h3]
        exact k _ _ (Ext.new hl _) (hR.fresh hl _) (hR.newTl hl (by rw [List.length_map, sortI_len]; exact z) (repInts _))
      · cases e2 : strsG l with
        | none => rw [e2] at e; cases e
        | some ss =>
          rw [e2] at e
          cases e
          have ev := strs_rep t e2
          subst ev
          rw [List.length_map] at z
          exact .inr ⟨_, ss, rfl, .inl (by rw [hK]; exact q), fun l hl => k _ _ (Ext.new hl _) (hR.fresh hl _) (hR.newTl hl (by rw [List.length_map, sortStr_len]; exact z) (repStrs _))⟩
  · cases e
theorem g_sortSet (hK : X.K = r.K) (hc : X.calm = true) (hg : Gl X "sorted") (hm : X.mg "sorted" = none) (hg2 : Gl X "set") (hm2 : X.mg "set" = none) (ha : PE X a (tF r T W fa))
    (na : starEach [a] X.env = (false, eval a X.env) :: starEach [] X.env) : PE X (.Call (.Name "sorted" p) [.Call (.Name "set" p2) [a] [] q] [] pos) (tF r T W (e1 gSortSet fa)) :=
  PE_imp (pe_sortSet hc hg hm hg2 hm2 ha na) fun s H Q ⟨m, S, l, hR, hL, q⟩ => mono_tF (stE hR hL q) fun x H1 ⟨m1, S1, g, e, hR1, hL1, h1, q1⟩ => by
    obtain ⟨m2, S2, g1, g2, hR2, h2, e2, k⟩ := fin1 hR1 h1 q1
    unfold gSortSet at e2
    cases c1 : seqG S2 g1 with
    | none => rw [c1] at e2; cases e2
    | some l2 =>
      rw [c1] at e2
      obtain ⟨pp, vs, rfl, z, t, sq⟩ := seq_rep hR2 h2 c1
      cases c2 : strsG l2 with
      | none =>
        have e2 : (strsG l2).bind _ = some g2 := e2
        rw [c2] at e2; cases e2
      | some ss =>
        have e2 : (strsG l2).bind (fun xs => if xs.length < 4000 then some (G.tl ((sortStr (distS xs)).map .str)) else none) = some g2 := e2
        rw [c2] at e2
        have e2 : (if ss.length < 4000 then some (G.tl ((sortStr (distS ss)).map .str)) else none) = some g2 := e2
        split at e2
        · rename_i c3
          cases e2
          have ev := strs_rep t c2
          subst ev
          rw [List.length_map] at z
          have hl := distS_len ss
          refine ⟨pp, ss, rfl, by rw [hK]; exact sq, by unfold scanBound; omega, fun b hb => k _ _ (Ext.new hb _) (hR2.fresh hb _) (hR2.newTl hb (by rw [List.length_map, sortStr_len]; omega) (repStrs _))⟩
        · cases e2
theorem g_lenSet (hK : X.K = r.K) (hc : X.calm = true) (hg : Gl X "len") (hm : X.mg "len" = none) (hg2 : Gl X "set") (hm2 : X.mg "set" = none) (ha : PE X a (tF r T W fa))
    (na : starEach [a] X.env = (false, eval a X.env) :: starEach [] X.env) : PE X (.Call (.Name "len" p) [.Call (.Name "set" p2) [a] [] q] [] pos) (tF r T W (e1 gLenSet fa)) :=
  PE_imp (pe_lenSetS hc hg hm hg2 hm2 ha na) fun s H Q ⟨m, S, l, hR, hL, q⟩ => mono_tF (stE hR hL q) fun x H1 ⟨m1, S1, g, e, hR1, hL1, h1, q1⟩ => by
    obtain ⟨m2, S2, g1, g2, hR2, h2, e2, k⟩ := fin1 hR1 h1 q1
    unfold gLenSet at e2
    cases c1 : seqG S2 g1 with
    | none => rw [c1] at e2; cases e2
    | some l2 =>
      rw [c1] at e2
      obtain ⟨pp, vs, rfl, z, t, sq⟩ := seq_rep hR2 h2 c1
      cases c2 : strsG l2 with
      | none =>
        have e2 : (strsG l2).bind _ = some g2 := e2
        rw [c2] at e2; cases e2
      | some ss =>
        have e2 : (strsG l2).bind (fun xs => if xs.length < 4000 then some (G.int (distS xs).length) else none) = some g2 := e2
        rw [c2] at e2
        have e2 : (if ss.length < 4000 then some (G.int (distS ss).length) else none) = some g2 := e2
        split at e2
        · rename_i c3
          cases e2
          have ev := strs_rep t c2
          subst ev
          exact ⟨pp, ss, rfl, by rw [hK]; exact sq, by unfold scanBound; omega, k _ _ (.refl _ _) hR2 (.int _)⟩
        · cases e2
end
end GL

end

section
set_option Elab.async false
set_option linter.all false
set_option maxRecDepth 100000
set_option maxHeartbeats 4000000
/-! GL: methods of lists and strs that change nothing. -/
namespace GL
open PySem PySem.Spec PyProof.Rows L2

/-- is x a list (a str)? -/
def isLG (x : G) (S : Sto) : Bool := match x with
  | .tup _ => false
  | x => (seqG S x).isSome
def isSG (x : G) (_ : Sto) : Bool := match x with
  | .str _ => true
  | _ => false
def eMq (ty : G → Sto → Bool) (f : G → List G → Sto → Option G) (o : Ev) (a : As) : Ev := fun l S => rb (o l S) fun x S => if ty x S = true then rb (a l S) fun xs S => ro (f x xs S) S else .bad
def TyOk (r : RP) (T : List (Addr × Str)) (ty : G → Sto → Bool) (n : String) : Prop := ∀ m S H g v, Rep r T m S H → RepV r m H g v → ty g S = true → tyV r.K n v H
section
variable {r : RP} {T : List (Addr × Str)} {X : Cx} {m : List Addr} {H : Hp} {S : Sto} {W : WX} {o e : Expr} {fo fe : Ev} {fs : As} {pos apos cpos : Pos} {es : List Expr} {name : Str} {n id : String} {ty : G → Sto → Bool}
theorem ty_list : TyOk r T isLG "list" := fun m S H g v hR h e => by
  unfold isLG at e
  split at e
  · cases e
  · rename_i nt
    obtain ⟨l, e2⟩ := Option.isSome_iff_exists.mp e
    obtain ⟨p, vs, rfl, z, t, q⟩ := seqL_rep hR h nt e2
    exact .inl ⟨rfl, vs, q⟩
theorem ty_str : TyOk r T isSG "str" := fun m S H g v hR h e => by
  unfold isSG at e
  split at e
  · cases h; rfl
  · cases e
theorem g_mq {f : G → List G → Sto → Option G} (hK : X.K = r.K) (ht : TyOk r T ty n) (pa : PlainAttrs n) (slot : Slot n name id) (hty : typeOf (.builtin id) = pure (.type "method_descriptor")) (hm : MtR X id (rPM r T f)) (ho : PE X o (tF r T W fo)) (ha : PA X (e :: es) (tFA r T W fs))
    (hbase : attributeBase o name X.env (eval o X.env) = eval o X.env)
    (hfew : ((backTo cpos (starEach (e :: es) X.env)).all (fun x => !x.1) && (backToKw cpos (keywordEach [] X.env)).all (fun x => x.1.isSome)
      && decide ((e :: es).length + ([] : List Keyword).length + (if ([] : List Keyword).isEmpty then 0 else 1) < 30)) = true)
    (hline : (apos.endLine == cpos.line) = true) (hs : starEach (e :: es) X.env = (false, eval e X.env) :: starEach es X.env) (hplain : (backTo cpos (starEach es X.env)).any (·.1) = false) :
    PE X (.Call (.Attribute o name apos) (e :: es) [] cpos) (tF r T W (eMq ty f fo fs)) :=
  PE_imp (pe_bm pa slot hty hm ho ha hbase hfew hline hs hplain) fun s H Q ⟨m, S, l, hR, hL, q⟩ => mono_tF (stE hR hL q) fun x H1 ⟨m1, S1, g, e, hR1, hL1, h1, q1⟩ => by
    dsimp only at q1
    split at q1
    · rename_i c
      rw [hK]
      exact ⟨ht m1 S1 H1 g x hR1 h1 c, mono_tFA (stA hR1 hL1 q1) fun xs H2 ⟨m2, S2, gs, e3, hR2, hL2, h2, q3⟩ => finM hR2 (h1.ext e3) h2 q3⟩
    · exact False.elim q1
theorem g_mq0 {f : G → List G → Sto → Option G} (hK : X.K = r.K) (ht : TyOk r T ty n) (pa : PlainAttrs n) (slot : Slot n name id) (hty : typeOf (.builtin id) = pure (.type "method_descriptor")) (hm : MtR X id (rPM r T f)) (ho : PE X o (tF r T W fo))
    (hbase : attributeBase o name X.env (eval o X.env) = eval o X.env) (hline : (apos.endLine == cpos.line) = true) : PE X (.Call (.Attribute o name apos) [] [] cpos) (tF r T W (eMq ty f fo aNil)) :=
  PE_imp (pe_bm0 pa slot hty hm ho hbase hline) fun s H Q ⟨m, S, l, hR, hL, q⟩ => mono_tF (stE hR hL q) fun x H1 ⟨m1, S1, g, e, hR1, hL1, h1, q1⟩ => by
    dsimp only at q1
    split at q1
    · rename_i c
      rw [hK]
      exact ⟨ht m1 S1 H1 g x hR1 h1 c, finM hR1 h1 .nil q1⟩
    · exact False.elim q1
/-! ### lists -/
/-- how often a flat thing stands in a list of flat things -/
def gCount (x : G) (xs : List G) (S : Sto) : Option G := match x, xs with
  | .tup _, _ => none
  | x, [y] => (seqG S x).bind fun l => if flatG y && l.all flatG then some (.int (l.countP fun z => eqF z y)) else none
  | _, _ => none
def findE (y : G) : Nat → List G → Option Nat
  | _, [] => none
  | k, z :: r => if eqF z y = true then some k else findE y (k + 1) r
def gIndexL (x : G) (xs : List G) (S : Sto) : Option G := match x, xs with
  | .tup _, _ => none
  | x, [y] => (seqG S x).bind fun l => if flatG y && l.all flatG then (findE y 0 l).map fun j => .int j else none
  | _, _ => none
def rCntF (K : PySem.W.Frag) : V → List V → Hp → VK → Prop := fun x xs H Q => ∃ (p : Addr) (ys : List V) (y : V), x = .ref p ∧ xs = [y] ∧ SqL K H p ys ∧ flatV y = true ∧ ys.all flatV = true ∧ Q (.int ((ys.countP fun z => eqV z y) : Nat)) H
theorem count_eqU {y : V} : ∀ {ys : List V} {us : List Value}, Vals ys us → ys.all flatV = true → us.countP (eqU y) = ys.countP fun z => eqV z y
  | [], [], .nil, _ => rfl
  | z :: ys, u :: us, .cons r t, f => by
    rw [List.all_cons, Bool.and_eq_true] at f
    rw [List.countP_cons, List.countP_cons, count_eqU t f.2, eqU_of r f.1]
theorem mt_countF : MtR X "list.count" (rCntF X.K) := by
  intro pins s σ H x xs v us Q I rx rxs h
  obtain ⟨p, ys, y, rfl, rfl, hs, fy, fys, q⟩ := h
  cases rx
  obtain ⟨u, rfl, ru⟩ := rxs.one
  obtain ⟨its, rv, ⟨⟨cls, dd, data, sl⟩, n, ho, hc, hdn, hd⟩, hlen⟩ := I.list hs
  simp only at hc hd
  subst hc hd
  refine call_meets PySem.F.slot_list_count ⟨_, ho, rfl⟩ PySem.F.entry_list_count (PySem.F.args_list_count_2 _ _)
    (SeqAt.list_countAt p its.toArray n dd sl u (eqU y)) ⟨ho, fun w hw => mem_eqAt ru fy rv fys w (by simpa using hw), ?_⟩
  refine ⟨.int ((ys.countP fun z => eqV z y) : Nat), H, I.tok _, ⟨s.toks, ?_⟩, q⟩
  have ec := count_eqU (y := y) rv fys
  show Value.int ((its.toArray.toList.countP (eqU y) : Nat) : Int) s.toks = _
  rw [← ec]
theorem cnt_rep {x : G} {v : V} (h : RepV r m H x v) (f : flatG x = true) : ∀ {l : List G} {vs : List V}, RepVs r m H l vs → l.all flatG = true → (l.countP fun z => eqF z x) = vs.countP fun z => eqV z v
  | _, _, .nil, _ => rfl
  | _, _, .cons a t, f2 => by
    rw [List.all_cons, Bool.and_eq_true] at f2
    rw [List.countP_cons, List.countP_cons, cnt_rep h f t f2.2, eqF_rep a h f2.1 f]
theorem findE_spec {y : G} {v : V} (h : RepV r m H y v) (f : flatG y = true) : ∀ {l : List G} {vs : List V} (k j : Nat), RepVs r m H l vs → l.all flatG = true → findE y k l = some j → ∃ i, j = k + i ∧ ∃ z, vs[i]? = some z ∧ eqV z v = true ∧ ∀ (a : Nat) (z' : V), a < i → vs[a]? = some z' → eqV z' v = false
  | [], _, k, j, _, _, e => by cases e
  | g :: l, _, k, j, .cons (v := w) a t, f2, e => by
    rw [List.all_cons, Bool.and_eq_true] at f2
    have e : (if eqF g y = true then some k else findE y (k + 1) l) = some j := e
    split at e
    · rename_i c
      cases e
      rw [eqF_rep a h f2.1 f] at c
      exact ⟨0, rfl, w, rfl, c, fun a z' ha => absurd ha (Nat.not_lt_zero _)⟩
    · rename_i c
      rw [eqF_rep a h f2.1 f] at c
      obtain ⟨i, e1, z, e2, e3, e4⟩ := findE_spec h f (k + 1) j t f2.2 e
      refine ⟨i + 1, by omega, z, e2, e3, fun b z' hb hz => ?_⟩
      cases b with
      | zero =>
        cases hz
        cases q : eqV w v with
        | false => rfl
        | true => exact absurd q c
      | succ b => exact e4 b z' (by omega) hz
theorem mt_gCount (hK : X.K = r.K) : MtR X "list.count" (rPM r T gCount) := MtR_imp mt_countF fun x xs H Q ⟨m, S, g1, gs, g, hR, h1, h2, e, k⟩ => by
  unfold gCount at e
  split at e
  · cases e
  · rename_i x' y nt
    obtain ⟨v, rfl, hy⟩ := len1 h2
    cases e1 : seqG S g1 with
    | none => rw [e1] at e; cases e
    | some l =>
      rw [e1] at e
      have e : (if flatG y && l.all flatG then some (G.int (l.countP fun z => eqF z y)) else none) = some g := e
      split at e
      · rename_i c
        rw [Bool.and_eq_true] at c
        cases e
        obtain ⟨p, vs, rfl, z, t, q⟩ := seqL_rep hR h1 (fun l h => nt l h) e1
        refine ⟨p, vs, v, rfl, rfl, by rw [hK]; exact q, flat_rep hy c.1, flats_rep t c.2, ?_⟩
        rw [← cnt_rep hy c.1 t c.2]
        exact k H _ (.refl _ _) hR (.int _)
      · cases e
  · cases e
theorem mt_gIndexL (hK : X.K = r.K) : MtR X "list.index" (rPM r T gIndexL) := MtR_imp mt_index fun x xs H Q ⟨m, S, g1, gs, g, hR, h1, h2, e, k⟩ => by
  unfold gIndexL at e
  split at e
  · cases e
  · rename_i x' y nt
    obtain ⟨v, rfl, hy⟩ := len1 h2
    cases e1 : seqG S g1 with
    | none => rw [e1] at e; cases e
    | some l =>
      rw [e1] at e
      have e : (if flatG y && l.all flatG then (findE y 0 l).map (fun j => G.int j) else none) = some g := e
      split at e
      · rename_i c
        rw [Bool.and_eq_true] at c
        obtain ⟨p, vs, rfl, z, t, q⟩ := seqL_rep hR h1 (fun l h => nt l h) e1
        cases e2 : findE y 0 l with
        | none => rw [e2] at e; cases e
        | some j =>
          rw [e2] at e
          cases e
          obtain ⟨i, e3, z, e4, e5, e6⟩ := findE_spec hy c.1 0 j t c.2 e2
          have e7 : j = i := by omega
          subst e7
          exact ⟨p, vs, v, j, z, rfl, rfl, by rw [hK]; exact q, flat_rep hy c.1, flats_rep t c.2, e4, e5, e6, k H _ (.refl _ _) hR (.int _)⟩
      · cases e
  · cases e
/-! ### strs -/
def gSplit (x : G) (xs : List G) (_ : Sto) : Option G := match x, xs with
  | .str a, [.str b] => if (b.length == 0) = false ∧ a.length + 2 ≤ sizeLine then some (.tl ((Txt.split a b).map .str)) else none
  | _, _ => none
def gJoin (x : G) (xs : List G) (S : Sto) : Option G := match x, xs with
  | .str a, [y] => (seqG S y).bind fun l => (strsG l).bind fun ys => if (ys.map (·.length)).sum + ys.length * a.length ≤ 16777216 then some (.str (Txt.join a ys)) else none
  | _, _ => none
def gUpper (x : G) (xs : List G) (_ : Sto) : Option G := match x, xs with
  | .str a, [] => if a.length ≤ 5592405 then some (.str (Txt.upper a)) else none
  | _, _ => none
theorem mt_gSplit : MtR X "str.split" (rPM r T gSplit) := MtR_imp mt_split fun x xs H Q ⟨m, S, g1, gs, g, hR, h1, h2, e, k⟩ => by
  unfold gSplit at e
  split at e
  · rename_i a b
    obtain ⟨v, rfl, hy⟩ := len1 h2
    cases h1; cases hy
    split at e
    · rename_i c
      cases e
      refine ⟨a, b, rfl, rfl, c.1, c.2, fun p hp => k _ _ (Ext.new hp _) (hR.fresh hp _) (hR.newTl hp ?_ (repStrs _))⟩
      rw [List.length_map]
      exact Nat.le_trans (PyProof.Rows.split_le a b) c.2
    · cases e
  · cases e
theorem mt_gJoin (hK : X.K = r.K) : MtR X "str.join" (rPM r T gJoin) := MtR_imp mt_join fun x xs H Q ⟨m, S, g1, gs, g, hR, h1, h2, e, k⟩ => by
  unfold gJoin at e
  split at e
  · rename_i a y
    obtain ⟨v, rfl, hy⟩ := len1 h2
    cases h1
    cases e1 : seqG S y with
    | none => rw [e1] at e; cases e
    | some l =>
      rw [e1] at e
      have e : ((strsG l).bind fun ys => if (ys.map (·.length)).sum + ys.length * a.length ≤ 16777216 then some (G.str (Txt.join a ys)) else none) = some g := e
      cases e2 : strsG l with
      | none => rw [e2] at e; cases e
      | some ys =>
        rw [e2] at e
        have e : (if (ys.map (·.length)).sum + ys.length * a.length ≤ 16777216 then some (G.str (Txt.join a ys)) else none) = some g := e
        split at e
        · rename_i c
          cases e
          obtain ⟨p, vs, rfl, z, t, q⟩ := seq_rep hR hy e1
          have ev := strs_rep t e2
          subst ev
          exact ⟨a, p, ys, rfl, rfl, by rw [hK]; exact q, c, k H _ (.refl _ _) hR (.str _)⟩
        · cases e
  · cases e
theorem mt_gUpper : MtR X "str.upper" (rPM r T gUpper) := MtR_imp mt_upper fun x xs H Q ⟨m, S, g1, gs, g, hR, h1, h2, e, k⟩ => by
  unfold gUpper at e
  split at e
  · rename_i a
    cases h2
    cases h1
    split at e
    · rename_i c
      cases e
      exact ⟨a, rfl, rfl, c, k H _ (.refl _ _) hR (.str _)⟩
    · cases e
  · cases e
end
end GL

end

section
set_option Elab.async false
set_option linter.all false
set_option maxRecDepth 100000
set_option maxHeartbeats 4000000
/-! GL: repr, str, dict displays, three stores at once. -/
namespace GL
open PySem PySem.Spec PyProof.Rows L2

/-! ### repr -/
def gShown (S : Sto) (x : G) : Option Str := if gOk 60 (gRes S x) = true ∧ (gD (gRes S x)).showable = true ∧ (gD (gRes S x)).shown.length ≤ sizeLine then some (gD (gRes S x)).shown else none
def gRepr (xs : List G) (S : Sto) : Option G := match xs with
  | [x] => (gShown S x).map .str
  | _ => none
/-- repr of deep data -/
def rReprD (K : PySem.W.Frag) : List V → Hp → VK → Prop := fun xs H Q => ∃ v d, xs = [v] ∧ Dp K H v d ∧ d.showable = true ∧ d.hasDict = false ∧ d.depth ≤ 60 ∧ d.shown.length ≤ sizeLine ∧ Q (.str d.shown) H
section
variable {X : Cx}
theorem call_reprD (hu : X.A.units + 64 < cLine) (hg : X.A.guards = some []) : CallR X (.builtin "repr") (rReprD X.K) := by
  intro pins s σ H xs us Q I r h
  obtain ⟨v, d, rfl, hd, hs, hn, hdp, hz, q⟩ := h
  cases r with
  | cons rv rt =>
    cases rt
    cases hd with
    | non =>
      cases rv
      exact PySem.P.repr_of_none ⟨.str _, H, I.tok _, ⟨_, rfl⟩, q⟩
    | bl b =>
      cases rv
      exact PySem.P.repr_of_bool ⟨.str _, H, I.tok _, ⟨_, by cases b <;> rfl⟩, q⟩
    | int i =>
      obtain ⟨t, rfl⟩ := rv
      exact PySem.P.repr_of_int (of_decide_eq_true hs) ⟨.str _, H, I.tok _, ⟨_, rfl⟩, q⟩
    | str x =>
      obtain ⟨t, rfl⟩ := rv
      exact PySem.P.repr_of_str ⟨.str _, H, I.tok _, ⟨_, rfl⟩, q⟩ hz
    | lst h t =>
      cases rv
      obtain ⟨as, rr⟩ := Dp.reads I _ _ _ (.lst h t) rfl
      exact repr_of_reads' rr hs (PyData.noDict_hsm hn) hg (by omega) (fun _ _ e => e) (fun h' u tk hk => ⟨.str _, H, I.kept hk, ⟨_, rfl⟩, q⟩) hz
    | tup h t =>
      cases rv
      obtain ⟨as, rr⟩ := Dp.reads I _ _ _ (.tup h t) rfl
      exact repr_of_reads' rr hs (PyData.noDict_hsm hn) hg (by omega) (fun _ _ e => e) (fun h' u tk hk => ⟨.str _, H, I.kept hk, ⟨_, rfl⟩, q⟩) hz
end
section
variable {r : RP} {T : List (Addr × Str)} {X : Cx} {m : List Addr} {H : Hp} {S : Sto} {W : WX}
theorem cr_gRepr (hK : X.K = r.K) (hu : X.A.units + 64 < cLine) (hg : X.A.guards = some []) : CallR X (.builtin "repr") (rPA r T gRepr) := CallR_imp (call_reprD hu hg) fun xs H Q ⟨m, S, gs, g, hR, h, e, k⟩ => by
  unfold gRepr at e
  split at e
  · rename_i x
    obtain ⟨v, rfl, h1⟩ := len1 h
    unfold gShown at e
    split at e
    · rename_i c
      cases e
      have hl := ok_lay c.1
      exact ⟨v, _, rfl, by rw [hK]; exact dp_res hR h1 c.1, c.2.1, PyData.hasDict_of_canLay _ hl.1, hl.2, c.2.2, k H _ (.refl _ _) hR (.str _)⟩
    · cases e
  · cases e
/-! ### str -/
def gStr (xs : List G) (_ : Sto) : Option G := match xs with
  | [.int i] => if i.natAbs.log2 < 1920 then some (.str (toString i)) else none
  | [.str z] => some (.str z)
  | _ => none
theorem cr_gStr : CallR X (.type "str") (rPA r T gStr) := CallR_imp (call_str_int.or SkE.call_str_str) fun xs H Q ⟨m, S, gs, g, hR, h, e, k⟩ => by
  unfold gStr at e
  split at e
  · rename_i i
    obtain ⟨v, rfl, h1⟩ := len1 h
    cases h1
    split at e
    · rename_i c
      cases e
      exact .inl ⟨i, rfl, c, k H _ (.refl _ _) hR (.str _)⟩
    · cases e
  · obtain ⟨v, rfl, h1⟩ := len1 h
    cases h1
    cases e
    exact .inr ⟨_, rfl, k H _ (.refl _ _) hR (.str _)⟩
  · cases e
end
/-! ### three stores -/
def sPar3 (i j k : Nat) (a : As) : StM := fun l S => sr l (a l S) fun xs S => match xs with
  | [x, y, z] => .nx (((l.set i (some x)).set j (some y)).set k (some z)) S
  | _ => .bad
section
variable {r : RP} {T : List (Addr × Str)} {X : Cx} {m : List Addr} {H : Hp} {S : Sto} {W : WX} {a b c : Expr} {fs : As} {pos : Pos}
theorem g_par3 {i j k : Nat} {x y z : Str} {px py pz pt : Pos} {kt k2 pt2} (hc : X.calm = true) (hN : X.N.Nodup) (hi : X.N[i]? = some x) (hj : X.N[j]? = some y) (hk : X.N[k]? = some z) (hij : i ≠ j) (hik : i ≠ k) (hjk : j ≠ k)
    (hx : X.env.scope.names.lookup x = some .local) (hy : X.env.scope.names.lookup y = some .local) (hz : X.env.scope.names.lookup z = some .local) (ha : PA X [a, b, c] (tFA r T W fs))
    (hw : swappedStores [.Tuple [.Name x px, .Name y py, .Name z pz] kt pt] (.Tuple [a, b, c] k2 pt2) X.env = pure (some [x, y, z]))
    (hs : swapsWithSole [.Tuple [.Name x px, .Name y py, .Name z pz] kt pt] (.Tuple [a, b, c] k2 pt2) pos.line X.env = pure false) :
    PS X (.Assign [.Tuple [.Name x px, .Name y py, .Name z pz] kt pt] (.Tuple [a, b, c] k2 pt2) pos) (tSF r T W (sPar3 i j k fs)) :=
  PS_imp (ps_par3 hc hN hi hj hk hij hik hjk hx hy hz ha hw hs) fun D s H ⟨m, S, l, hR, hL, q⟩ => mono_tFA (stSA hR hL q) fun vs H1 ⟨m1, S1, xs, e, hR1, hL1, h1, q1⟩ => by
    split at q1
    · rename_i g1 g2 g3
      cases h1 with
      | cons a1 t1 =>
        cases t1 with
        | cons a2 t2 =>
          cases t2 with
          | cons a3 t3 =>
            cases t3
            exact ⟨_, _, _, rfl, q1 m1 H1 _ (.refl _ _) hR1 (((hL1.set i a1).set j a2).set k a3)⟩
    · exact False.elim q1
/-! ### a dict display that nobody changes -/
/-- {}, as a thing that stays -/
def eTd0 : Ev := fun _ S => .ok (.td []) S
theorem g_td0 : PE X (.Dict [] [] pos) (tF r T W eTd0) := PE_imp pe_dnewK fun s H Q ⟨m, S, l, hR, hL, q⟩ => fun p hp => q m _ _ (Ext.new hp _) (hR.fresh hp _) (.td (hR.notIn hp) upd_same .nil)
/-- {'k': i}, of one pair -/
def eTd1 (k : Str) (i : Int) : Ev := fun _ S => .ok (.td [(.str k, .int i)]) S
theorem g_td1 {k : Str} {i : Int} {j1 j2 : Nat} {p1 p2 : Pos} : PE X (.Dict [some (.Constant (.str k) j1 p1)] [.Constant (.int i) j2 p2] pos) (tF r T W (eTd1 k i)) :=
  PE_imp (pe_disp (pps_cons pe_str pe_int pps_nil) rfl rfl (by simp) (show 1 ≤ 15 by decide)) fun s H Q ⟨m, S, l, hR, hL, q⟩ => fun p hp => by
    refine ⟨upd_same, [(.inr k, .int i)], rfl, (show 1 ≤ 15 by decide), ?_⟩
    have e : upd (upd H p (.dK [])) p (.dK (mergeK [] [(Sum.inr k, V.int i)])) = upd H p (.dK [(Sum.inr k, V.int i)]) := by
      funext b
      by_cases hb : b = p
      · rw [hb, upd_same, upd_same]; rfl
      · rw [upd_ne hb, upd_ne hb, upd_ne hb]
    rw [e]
    exact q m _ _ (Ext.new hp _) (hR.fresh hp _) (.td (hR.notIn hp) upd_same (.cons (k := .inr k) (.int i) .nil))
end
end GL

end

section
set_option Elab.async false
set_option linter.all false
set_option maxRecDepth 100000
set_option maxHeartbeats 8000000
/-! GL: what the head tells of own exceptions. -/
namespace GL
open PySem PySem.Spec PyProof.Rows L2 LamX

/-! ### a Hook whose part of the heap has more roots -/
def obsZ (xs : List Addr) (n : Nat) (fa : List He.Fa) (fn : List He.DefD) (ts : List He.Tab) (tf : List He.Defn) (ex : PySem.W.Frag → Bool) (g : Addr → Option Obj) : He.AlX :=
  (He.obsT fa fn ts (He.frT g (xs ++ He.asD g n)), ex (He.frT g (xs ++ He.asD g n)) && He.tabsB g tf (He.frT g (xs ++ He.asD g n)))
theorem saysZ_of {xs : List Addr} {n : Nat} {fa : List He.Fa} {fn : List He.DefD} {ts : List He.Tab} {tf : List He.Defn} {ex : PySem.W.Frag → Bool} {w : World} {h : Heap} (e : obsZ xs n fa fn ts tf ex h.get? = He.valX fn ts w) : He.SaysX fa fn ts tf ex w h (He.frT h.get? (xs ++ He.asD h.get? n)) := by
  generalize hK : He.frT h.get? (xs ++ He.asD h.get? n) = K
  have hnone : ∀ {a : Addr} {o : Obj}, h.get? a = some o → He.emptyTab o = true → K.lookup a = none := fun q z => by rw [← hK]; exact He.frT_none q z
  have e1 : He.obsT fa fn ts K = He.valT fn ts w := by rw [← hK]; exact congrArg (fun z : He.AlX => z.1) e
  have e2 : (ex K && He.tabsB h.get? tf K) = true := by rw [← hK]; exact congrArg (fun z : He.AlX => z.2) e
  obtain ⟨h1, h2⟩ := He.ba e2
  have key : ∀ p ∈ tf, PySem.W.codeHdIn K (He.cT K p).1 (He.cT K p).2 = true ∧ ∃ o, h.get? (He.cT K p).2 = some o ∧ He.emptyTab o = true := fun p hp => by
    obtain ⟨h3, h4⟩ := He.ba (List.all_eq_true.mp h2 p hp)
    refine ⟨h3, ?_⟩
    cases q : h.get? (He.cT K p).2 with
    | none => rw [q] at h4; cases h4
    | some o => rw [q] at h4; exact ⟨o, rfl, h4⟩
  exact ⟨e1, h1, fun p hp => (key p hp).1, fun p hp => by
    obtain ⟨_, o, q, z⟩ := key p hp
    exact hnone q z, fun p hp => by
    obtain ⟨_, o, q, z⟩ := key p hp
    rw [q, He.emptyTab_eq z]⟩
def hookZ (xs : List Addr) (n : Nat) (fa : List He.Fa) (fn : List He.DefD) (ts : List He.Tab) (tf : List He.Defn) (ex : PySem.W.Frag → Bool) : PySem.W.Hook where
  α := He.AlX
  obs := fun s => obsZ xs n fa fn ts tf ex s.heap.get?
  val := fun w => He.valX fn ts w
  says := fun w h => ∃ K : PySem.W.Frag, K.In h ∧ He.SaysX fa fn ts tf ex w h K
  of := fun _ _ e => ⟨_, He.frT_in, saysZ_of e⟩
  keeps := fun _ _ _ ⟨K, hK, c⟩ k => ⟨K, PySem.W.Frag.In.keeps hK k, ⟨c.t, c.more, c.hd, c.out, fun p hp => k _ _ (c.empty p hp)⟩⟩
theorem obsZ_eq {xs : List Addr} {n : Nat} {fa : List He.Fa} {fn : List He.DefD} {ts : List He.Tab} {tf : List He.Defn} {ex : PySem.W.Frag → Bool} {g : Addr → Option Obj} {s : Shared} (h : ∀ a, g a = s.heap.get? a) : obsZ xs n fa fn ts tf ex g = (hookZ xs n fa fn ts tf ex).obs s := by
  have e : g = s.heap.get? := funext h
  rw [e] <;> rfl

/-! ### Bools of an own exception class -/
def cellB (K : PySem.W.Frag) (cc C : Addr) : Bool := match K.lookup cc with
  | some ⟨_, _, .cell (some (.ref D)), _⟩ => D == C
  | _ => false
theorem cellB_ok {K : PySem.W.Frag} {cc C : Addr} (h : cellB K cc C = true) : ∃ c0 d0 sl, K.lookup cc = some ⟨c0, d0, .cell (some (.ref C)), sl⟩ := by
  unfold cellB at h
  split at h
  · rename_i c0 d0 D sl e
    rw [beq_iff_eq] at h
    subst h
    exact ⟨c0, d0, sl, e⟩
  · cases h
def fileB (P : Program) (K : PySem.W.Frag) (cda : Addr) : Bool := match K.lookup cda with
  | some ⟨_, _, .fields vs, _⟩ => (match (vs[2]? : Option Value) with
    | some (Value.str file _) => (P.main.file : Str) == file
    | _ => false)
  | _ => false
theorem fileB_ok {P : Program} {K : PySem.W.Frag} {cda : Addr} (h : fileB P K cda = true) : ∃ c0 d0 vs sl file tf, K.lookup cda = some ⟨c0, d0, .fields vs, sl⟩ ∧ vs[2]? = some (.str file tf) ∧ ((P.main.file : Str) == file) = true := by
  unfold fileB at h
  split at h
  · rename_i c0 d0 vs sl e
    split at h
    · rename_i file tf e2
      exact ⟨c0, d0, vs, sl, file, tf, e, e2, h⟩
    · cases h
  · cases h
def excCB (K : PySem.W.Frag) (C : Addr) : Bool := match K.lookup C with
  | some ⟨.type "type", _, .cls cd, sl⟩ => (match cd.mro, sl.toList with
    | .ref C' :: bm, [_, _, _, _, some (.builtin n), _] => C' == C && (n == "ValueError.__new__" && (!cd.hasDel && (cd.hasDict && PySem.HandSPX.refsVE bm)))
    | _, _ => false)
  | _ => false
theorem excCB_ok {K : PySem.W.Frag} {C : Addr} (q : excCB K C = true) : ∃ nm q N bs bm sn sub ab col dd k0 k1 k2 k3 k5, K.lookup C = some (excClassObj nm q C N bs bm true sn sub ab col dd k0 k1 k2 k3 k5 "ValueError.__new__") ∧ PySem.HandSPX.refsVE bm = true := by
  unfold excCB at q
  split at q
  · rename_i dd cd sl ho
    split at q
    · rename_i C' bm k0 k1 k2 k3 n k5 hm hs
      simp only [Bool.and_eq_true, beq_iff_eq, Bool.not_eq_true'] at q
      obtain ⟨rfl, rfl, hdel, hdct, hok⟩ := q
      obtain ⟨nm, bs, mro, ns, qn, hd, sn, sub, ab, col, del⟩ := cd
      dsimp only at hm hdel hdct
      subst hm hdel hdct
      have hsl : sl = #[k0, k1, k2, k3, some (.builtin "ValueError.__new__"), k5] := by
        apply Array.ext'
        exact hs
      subst hsl
      exact ⟨nm, qn, ns, bs, bm, sn, sub, ab, col, dd, k0, k1, k2, k3, k5, ho, hok⟩
    · cases q
  · cases q
/-- the stores of an __init__, their targets -/
def storesOf (N : List Str) (sc : Scope) (self : Str) : List Stmt → Option (List (Str × Nat))
  | [] => some []
  | .Assign [.Attribute (.Name y _) f _] (.Name x _) _ :: r => if y = self ∧ sc.names.lookup x = some .local ∧ (x == ("__debug__" : Str)) = false ∧ (x == ("__classdict__" : Str)) = false ∧ N[N.idxOf x]? = some x then (storesOf N sc self r).map fun l => (f, N.idxOf x) :: l else none
  | _ => none
theorem storesOf_ok {N : List Str} {sc : Scope} {self : Str} : ∀ {sts : List Stmt} {l : List (Str × Nat)}, storesOf N sc self sts = some l → StoreAt N sc self sts l := by
  intro sts
  induction sts with
  | nil =>
    intro l h
    cases h
    trivial
  | cons st r ih =>
    intro l h
    unfold storesOf at h
    split at h
    · rename_i e; cases e
    · rename_i y p1 f p2 x p3 p4 r' e
      cases e
      split at h
      · rename_i c
        cases q : storesOf N sc self r with
        | none => rw [q] at h; cases h
        | some l' =>
          rw [q] at h
          cases h
          exact ⟨c.1, rfl, c.2.2.2.2, c.2.1, c.2.2.1, c.2.2.2.1, ih q⟩
      · cases h
    · cases h

structure XiD where
  cc : Addr
  cda : Addr
  qual : Str
  args : List Arg
  sts : List Stmt
  scope : Scope
  p0 : Pos
  p1 : Pos
  p2 : Pos
  p3 : Pos
  p4 : Pos
  p5 : Pos
  msg : Str
  j : Nat
  oc : Value
  od : Option Addr
  doc : Value
  pm : Value
  ct : Value
  osl : Array (Option Value)
abbrev XiD.fd (d : XiD) : FuncData := PySem.W.fnX "__init__" d.qual ⟨[], d.args, none, [], [], none, []⟩ (.Expr (.Call (.Attribute (.Call (.Name "super" d.p0) [] [] d.p1) "__init__" d.p2) [.Constant (.str d.msg) d.j d.p3] [] d.p4) d.p5 :: d.sts) d.scope [("__class__", d.cc)] .none .none d.doc d.pm none (.ref d.cda) d.ct
def bodyP : List Stmt → Option ((List Stmt) × (Pos × Pos × Pos × Pos × Pos × Pos) × Str × Nat)
  | .Expr (.Call (.Attribute (.Call (.Name su p0) [] [] p1) ini p2) [.Constant (.str msg) j p3] [] p4) p5 :: sts => if su = "super" ∧ ini = "__init__" then some (sts, (p0, p1, p2, p3, p4, p5), msg, j) else none
  | _ => none
theorem bodyP_ok {l sts : List Stmt} {p0 p1 p2 p3 p4 p5 : Pos} {msg : Str} {j : Nat} (h : bodyP l = some (sts, (p0, p1, p2, p3, p4, p5), msg, j)) :
    l = .Expr (.Call (.Attribute (.Call (.Name "super" p0) [] [] p1) "__init__" p2) [.Constant (.str msg) j p3] [] p4) p5 :: sts := by
  unfold bodyP at h
  split at h
  · split at h
    · rename_i c
      obtain ⟨rfl, rfl⟩ := c
      cases h
      rfl
    · cases h
  · cases h
def argsP : Arguments → Option (List Arg)
  | ⟨[], args, none, [], [], none, []⟩ => some args
  | _ => none
theorem argsP_ok {a : Arguments} {l : List Arg} (h : argsP a = some l) : a = ⟨[], l, none, [], [], none, []⟩ := by
  unfold argsP at h
  split at h
  · cases h; rfl
  · cases h
def closP : List (Str × Addr) → Option Addr
  | [(n, a)] => if n = "__class__" then some a else none
  | _ => none
theorem closP_ok {l : List (Str × Addr)} {a : Addr} (h : closP l = some a) : l = [(("__class__" : Str), a)] := by
  unfold closP at h
  split at h
  · split at h
    · rename_i c
      subst c
      cases h
      rfl
    · cases h
  · cases h
def restP (fd : FuncData) : Option Addr := match fd with
  | ⟨nm, _, _, _, _, gl, _, .none, .none, _, _, none, .ref cda, _, bn⟩ => if nm = "__init__" ∧ gl = mainGlobals ∧ bn = builtinsNs then some cda else none
  | _ => none
def xiOf (K : PySem.W.Frag) (fI : Addr) : Option XiD := match K.lookup fI with
  | some ⟨oc, od, .func fd, osl⟩ => (match restP fd, argsP fd.params, (match fd.body with
      | .stmts l => bodyP l
      | _ => none), closP fd.closure with
    | some cda, some args, some (sts, (p0, p1, p2, p3, p4, p5), msg, j), some cc => some ⟨cc, cda, fd.qualname, args, sts, fd.scope, p0, p1, p2, p3, p4, p5, msg, j, oc, od, fd.doc, fd.pyModule, fd.closureTuple, osl⟩
    | _, _, _, _ => none)
  | _ => none
theorem xiOf_ok {K : PySem.W.Frag} {fI : Addr} {d : XiD} (h : xiOf K fI = some d) : K.lookup fI = some ⟨d.oc, d.od, .func d.fd, d.osl⟩ := by
  unfold xiOf at h
  split at h
  · rename_i oc od fd osl e
    split at h
    · rename_i cda args sts p0 p1 p2 p3 p4 p5 msg j cc h1 h2 h3 h4
      cases h
      unfold restP at h1
      split at h1
      · rename_i nm q2 ps2 b2 sc2 gl cl2 doc2 pm2 cda2 ct2 bn
        split at h1
        · rename_i c
          obtain ⟨rfl, rfl, rfl⟩ := c
          cases h1
          dsimp only at h2 h3 h4 e ⊢
          have e2 := argsP_ok h2
          have e4 := closP_ok h4
          subst e2 e4
          cases b2 with
          | stmts l =>
            have e3 := bodyP_ok h3
            subst e3
            exact e
          | _ => cases h3
        · cases h1
      · cases h1
    · cases h
  · cases h
/-- all that XcO asks -/
def xcB (P : Program) (K : PySem.W.Frag) (C : Addr) (ps fns : List Str) : Bool := match xiOf K (He.ma K C "__init__") with
  | none => false
  | some d => (excCB K C && (He.eqO (PySem.W.findIn K (.ref C) "__setattr__") (some (some (.builtin "object.__setattr__"))) && (decide (PySem.W.subIn K (.ref C) (.type "BaseException") = some true) && (decide (PySem.W.typeIn K (.ref C) = some (.type "type")) && (PySem.W.keepIn K (.ref C) &&
      ((PySem.W.clsIn K C).isSome && (He.eqO (PySem.W.findIn K (.ref C) "__init__") (some (some (.ref (He.ma K C "__init__")))) && (decide (PySem.W.typeIn K (.ref (He.ma K C "__init__")) = some (.type "function")) && (PySem.W.codeIn K (.ref d.cda) d.qual &&
      (cellB K d.cc C && (fileB P K d.cda && (He.eqO (PySem.W.ks_superIn K C C "__init__") (some (some (.builtin "ValueError.__init__"))) && (decide (PySem.W.subIn K (.ref C) (.type "ValueError") = some true) && (He.eqO (PySem.W.nsIn K cStatics "thirdparty.any") (some none) && decide (PySem.W.mroIn K C (.ref C) = some true))))))))))))))) &&
    (decide (d.args.map (·.arg) = ps) && (match ps with
      | [] => false
      | self :: _ => NdefX.nscB (ps ++ [("__class__" : Str)]) ps ["__class__"] d.scope && (decide (d.scope.names.lookup ("super" : Str) = some .globalImplicit) && (decide (d.scope.names.lookup ("__class__" : Str) = some .free) && (decide (d.scope.names.lookup self = some .local) &&
        (!(self == ("__debug__" : Str)) && (!(self == ("__classdict__" : Str)) && (!(P.main.scope.names.lookup ("super" : Str)).isSome && ((d.p2.endLine == d.p4.line) && (decide (storesOf (ps ++ [("__class__" : Str)]) d.scope self d.sts = some (fns.zip ((List.range fns.length).map (· + 1)))) &&
        (decide (ps.length = fns.length + 1) && (decide (fns.length ≤ 800) && fns.all fun f => He.eqO (PySem.W.findIn K (.ref C) f) (some none)))))))))))))
theorem xcB_ok {P : Program} {K : PySem.W.Frag} {C : Addr} {ps fns : List Str} (h : xcB P K C ps fns = true) : ∃ fI fd, XcO P K C fI fd ps fns := by
  unfold xcB at h
  split at h
  · cases h
  · rename_i d hd
    have lk := xiOf_ok hd
    obtain ⟨h, g⟩ := He.ba h
    obtain ⟨a1, h⟩ := He.ba h
    obtain ⟨a2, h⟩ := He.ba h
    obtain ⟨a3, h⟩ := He.ba h
    obtain ⟨a4, h⟩ := He.ba h
    obtain ⟨a5, h⟩ := He.ba h
    obtain ⟨a6, h⟩ := He.ba h
    obtain ⟨a7, h⟩ := He.ba h
    obtain ⟨a8, h⟩ := He.ba h
    obtain ⟨a9, h⟩ := He.ba h
    obtain ⟨a10, h⟩ := He.ba h
    obtain ⟨a11, h⟩ := He.ba h
    obtain ⟨a12, h⟩ := He.ba h
    obtain ⟨a13, h⟩ := He.ba h
    obtain ⟨a14, a15⟩ := He.ba h
    obtain ⟨b0, g⟩ := He.ba g
    cases ps with
    | nil => cases g
    | cons self ps =>
      obtain ⟨b1, g⟩ := He.ba g
      obtain ⟨b2, g⟩ := He.ba g
      obtain ⟨b3, g⟩ := He.ba g
      obtain ⟨b4, g⟩ := He.ba g
      obtain ⟨b5, g⟩ := He.ba g
      obtain ⟨b6, g⟩ := He.ba g
      obtain ⟨b7, g⟩ := He.ba g
      obtain ⟨b8, g⟩ := He.ba g
      obtain ⟨b9, g⟩ := He.ba g
      obtain ⟨b10, g⟩ := He.ba g
      obtain ⟨b11, b12⟩ := He.ba g
      have hargs := of_decide_eq_true b0
      have hl := of_decide_eq_true b10
      have hz : (fns.zip ((List.range fns.length).map (· + 1))).length = fns.length := by simp
      obtain ⟨ar, hhead, harg⟩ : ∃ ar, d.args.head? = some ar ∧ ar.arg = self := by
        cases hda : d.args with
        | nil => rw [hda] at hargs; cases hargs
        | cons ar r =>
          rw [hda] at hargs
          injection hargs with z1 z2
          exact ⟨ar, rfl, z1⟩
      refine ⟨He.ma K C "__init__", d.fd, d.cc, d.cda, d.qual, _, d.args, d.sts, d.scope, self, ar, fns.zip ((List.range fns.length).map (· + 1)), d.p0, d.p1, d.p2, d.p3, d.p4, d.p5, d.msg, d.j, d.oc, d.od, d.doc, d.pm, d.ct, d.osl,
        ⟨⟨excCB_ok a1, He.eqO_ok a2, of_decide_eq_true a3, of_decide_eq_true a4, a5⟩, a6, He.eqO_ok a7, of_decide_eq_true a8, ⟨d.oc, d.od, d.doc, d.pm, d.ct, d.osl, lk⟩, a9, cellB_ok a10, fileB_ok a11, He.eqO_ok a12, of_decide_eq_true a13, He.eqO_ok a14, of_decide_eq_true a15⟩, rfl, lk, rfl, hargs,
        by simp, rfl, NdefX.nscope_by b1, by simpa using hhead, harg, of_decide_eq_true b2, of_decide_eq_true b3, of_decide_eq_true b4, by simpa using b5, by simpa using b6, by simpa using b7, b8, storesOf_ok (of_decide_eq_true b9), ?_, ?_, ?_, ?_, ?_⟩
      · rw [List.map_fst_zip]; simp
      · rw [hz, List.map_snd_zip]; simp
      · rw [hz]; exact hl
      · rw [hz]; exact of_decide_eq_true b11
      · intro p hp
        exact He.eqO_ok (List.all_eq_true.mp b12 p.1 (List.of_mem_zip hp).1)
/-! ### the table of exceptions -/
def xclsB (K : PySem.W.Frag) (C : Addr) : Bool := xfB K C && (He.eqO (PySem.W.findIn K (.ref C) "__class__") (some (some (.builtin "object.__class__"))) && (He.eqO (PySem.W.specialIn K (.builtin "object.__class__") "__get__") (some (some (.builtin "getset_descriptor.__get__"))) &&
  (decide (PySem.W.takesIn K (.builtin "object.__class__") = some true) && (decide (PySem.W.mroIn K C (.type "object") = some true) && decide (PySem.W.kitOne K (.ref C) (.type "ValueError") = some true)))))
def xtabB (K : PySem.W.Frag) (t : XTab) : Bool := (t.cls.all fun c => xclsB K (He.ga K c)) && ((t.cls.all fun c => t.cls.all fun d => decide (PySem.W.kitOne K (.ref (He.ga K c)) (.ref (He.ga K d)) = some (t.is c d))) &&
  ((t.cls.all fun c => decide (PySem.W.exmOne K (.ref (He.ga K c)) (.ref (He.ga K t.top)) = some (t.is c t.top))) && t.fld.all fun p => xfB K (He.ga K p.1) && He.eqO (PySem.W.findIn K (.ref (He.ga K p.1)) p.2) (some none)))
theorem xtabB_ok {K : PySem.W.Frag} {mg : Str → Option Value} {t : XTab} (h : xtabB K t = true) (hg : ∀ c ∈ t.cls, mg c = some (.ref (He.ga K c))) (ht : mg t.top = some (.ref (He.ga K t.top))) (hf : ∀ p ∈ t.fld, mg p.1 = some (.ref (He.ga K p.1))) : XTabOk K mg t := by
  obtain ⟨h1, h⟩ := He.ba h
  obtain ⟨h2, h⟩ := He.ba h
  obtain ⟨h3, h4⟩ := He.ba h
  refine ⟨fun c hc => ?_, fun c hc d hd C D e1 e2 => ?_, fun c hc C D e1 e2 => ?_, fun c f hm => ?_⟩
  · obtain ⟨a1, a⟩ := He.ba (List.all_eq_true.mp h1 c hc)
    obtain ⟨a2, a⟩ := He.ba a
    obtain ⟨a3, a⟩ := He.ba a
    obtain ⟨a4, a⟩ := He.ba a
    obtain ⟨a5, a6⟩ := He.ba a
    have z := xfB_ok a1
    exact ⟨_, hg c hc, ⟨z.ga, z.gg, z.exC, z.hdC, He.eqO_ok a2, He.eqO_ok a3, of_decide_eq_true a4, of_decide_eq_true a5⟩, of_decide_eq_true a6⟩
  · rw [hg c hc] at e1
    rw [hg d hd] at e2
    cases e1; cases e2
    exact of_decide_eq_true (List.all_eq_true.mp (List.all_eq_true.mp h2 c hc) d hd)
  · rw [hg c hc] at e1
    rw [ht] at e2
    cases e1; cases e2
    exact of_decide_eq_true (List.all_eq_true.mp h3 c hc)
  · obtain ⟨a1, a2⟩ := He.ba (List.all_eq_true.mp h4 (c, f) hm)
    exact ⟨_, hf (c, f) hm, xfB_ok a1, He.eqO_ok a2⟩
end GL

end

section
set_option Elab.async false
set_option linter.all false
set_option maxRecDepth 100000
set_option maxHeartbeats 4000000
/-! GWe: what a run does where it may raise: a place for the exceptions beside those for the values. -/
namespace GL
open PySem
abbrev ExP := Str → List (Str × G) → Sto → Prop
def R.wpe {a : Type} (r : R a) (Q : a → Sto → Prop) (E : ExP) : Prop := match r with
  | .ok x S => Q x S
  | .exc c fs S => E c fs S
  | .bad => False
def SR.wpe (r : SR) (N : Loc → Sto → Prop) (T : G → Sto → Prop) (B : Loc → Sto → Prop) (E : ExP) : Prop := match r with
  | .nx l S => N l S
  | .rt g S => T g S
  | .bk l S => B l S
  | .exc c fs _ S => E c fs S
  | _ => False
section
variable {a b : Type} {l : Loc} {S : Sto} {N N' : Loc → Sto → Prop} {T T' : G → Sto → Prop} {B B' : Loc → Sto → Prop} {E E' : ExP}
theorem R.wpe_ok {x : a} {Q : a → Sto → Prop} : (R.ok x S).wpe Q E = Q x S := rfl
theorem R.wpe_exc {c : Str} {fs : List (Str × G)} {Q : a → Sto → Prop} : (R.exc c fs S : R a).wpe Q E = E c fs S := rfl
theorem SR.wpe_nx : (SR.nx l S).wpe N T B E = N l S := rfl
theorem SR.wpe_rt {g : G} : (SR.rt g S).wpe N T B E = T g S := rfl
theorem SR.wpe_bk : (SR.bk l S).wpe N T B E = B l S := rfl
theorem SR.wpe_exc {c : Str} {fs : List (Str × G)} : (SR.exc c fs l S).wpe N T B E = E c fs S := rfl
theorem R.wpe_of {r : R a} {Q : a → Sto → Prop} (h : r.wp Q) : r.wpe Q E := by
  cases r with
  | ok x S => exact h
  | exc _ _ _ => exact h.elim
  | bad => exact h
theorem SR.wpe_of {r : SR} (h : r.wp N T B) : r.wpe N T B E := by
  cases r with
  | nx l S => exact h
  | rt g S => exact h
  | bk l S => exact h
  | ct l S => exact h
  | exc _ _ _ _ => exact h.elim
  | bad => exact h
theorem R.wpe_mono {r : R a} {Q Q' : a → Sto → Prop} (h : r.wpe Q E) (i : ∀ x S, Q x S → Q' x S) (j : ∀ c fs S, E c fs S → E' c fs S) : r.wpe Q' E' := by
  cases r with
  | ok x S => exact i _ _ h
  | exc _ _ _ => exact j _ _ _ h
  | bad => exact h
theorem SR.wpe_mono {r : SR} (h : r.wpe N T B E) (n : ∀ l S, N l S → N' l S) (t : ∀ g S, T g S → T' g S) (k : ∀ l S, B l S → B' l S) (j : ∀ c fs S, E c fs S → E' c fs S) : r.wpe N' T' B' E' := by
  cases r with
  | nx l S => exact n _ _ h
  | rt g S => exact t _ _ h
  | bk l S => exact k _ _ h
  | ct l S => exact h
  | exc _ _ _ _ => exact j _ _ _ h
  | bad => exact h
theorem R.wpe_iff {Q : a → Sto → Prop} {r : R a} : r.wpe Q E ↔ (∃ x S, r = .ok x S ∧ Q x S) ∨ ∃ c fs S, r = .exc c fs S ∧ E c fs S := by
  cases r with
  | ok x S => exact ⟨fun h => .inl ⟨x, S, rfl, h⟩, fun h => by rcases h with ⟨_, _, e, h⟩ | ⟨_, _, _, e, _⟩ <;> cases e; exact h⟩
  | exc c fs S => exact ⟨fun h => .inr ⟨c, fs, S, rfl, h⟩, fun h => by rcases h with ⟨_, _, e, _⟩ | ⟨_, _, _, e, h⟩ <;> cases e; exact h⟩
  | bad => exact ⟨False.elim, fun h => by rcases h with ⟨_, _, e, _⟩ | ⟨_, _, _, e, _⟩ <;> cases e⟩
theorem wpe_rb {r : R a} {k : a → Sto → R b} {Q : b → Sto → Prop} (h : r.wpe (fun x S => (k x S).wpe Q E) E) : (rb r k).wpe Q E := by
  cases r with
  | ok x S => exact h
  | exc _ _ _ => exact h
  | bad => exact h
theorem wpe_sr {r : R a} {k : a → Sto → SR} (h : r.wpe (fun x S => (k x S).wpe N T B E) E) : (sr l r k).wpe N T B E := by
  cases r with
  | ok x S => exact h
  | exc _ _ _ => exact h
  | bad => exact h
theorem wpe_seq {p q : StM} (h : (p l S).wpe (fun l S => (q l S).wpe N T B E) T B E) : (sSeq p q l S).wpe N T B E := by
  unfold sSeq
  cases e : p l S with
  | nx l1 S1 => rw [e] at h; exact h
  | rt g S1 => rw [e] at h; exact h
  | bk l1 S1 => rw [e] at h; exact h
  | ct l1 S1 => rw [e] at h; exact h.elim
  | exc _ _ _ _ => rw [e] at h; exact h
  | bad => rw [e] at h; exact h
theorem wpe_body {r : SR} {Q : G → Sto → Prop} (h : r.wpe (fun _ S => Q .non S) Q (fun _ _ => False) E) : (bodyR r).wpe Q E := by
  cases r with
  | nx l S => exact h
  | rt g S => exact h
  | bk l S => exact h.elim
  | ct l S => exact h.elim
  | exc _ _ _ _ => exact h
  | bad => exact h
theorem wpe_turn {g : Tg} {body k : StM} {x : G} {l0 : Loc} (e : tgSet g x l = some l0) (h : (body l0 S).wpe (fun l S => (k l S).wpe N T B E) T N E) : (fTurn g body x k l S).wpe N T B E := by
  unfold fTurn
  rw [e]
  dsimp only
  cases q : body l0 S with
  | nx l1 S1 => rw [q] at h; exact h
  | rt g S1 => rw [q] at h; exact h
  | bk l1 S1 => rw [q] at h; exact h
  | ct l1 S1 => rw [q] at h; exact h.elim
  | exc _ _ _ _ => rw [q] at h; exact h
  | bad => rw [q] at h; exact h
theorem wpe_fGo {g : Tg} {body : StM} {I : Nat → Loc → Sto → Prop} : ∀ (xs : List G) (j : Nat) (l : Loc) (S : Sto),
    (∀ k x l S, xs[k]? = some x → I (j + k) l S → ∃ l0, tgSet g x l = some l0 ∧ (body l0 S).wpe (I (j + k + 1)) T N E) → I j l S → (∀ l S, I (j + xs.length) l S → N l S) → (fGo g body xs l S).wpe N T B E
  | [], j, l, S, _, h, he => he l S h
  | x :: xs, j, l, S, st, h, he => by
    obtain ⟨l0, e, q⟩ := st 0 x l S rfl h
    refine wpe_turn e (SR.wpe_mono q (fun l S hi => wpe_fGo xs (j + 1) l S (fun k x l S q hi => ?_) hi fun l S hi => he l S ?_) (fun _ _ h => h) (fun _ _ h => h) fun _ _ _ h => h)
    · have := st (k + 1) x l S q (by rw [show j + (k + 1) = j + 1 + k by omega]; exact hi)
      rw [show j + (k + 1) = j + 1 + k by omega] at this
      exact this
    · rw [List.length_cons, show j + (xs.length + 1) = j + 1 + xs.length by omega]
      exact hi
theorem wpe_for {it : Loc → Sto → R It} {g : Tg} {body : StM} {xs : List G} (h : it l S = .ok (.fix xs) S) (I : Nat → Loc → Sto → Prop)
    (st : ∀ k x l S, xs[k]? = some x → I k l S → ∃ l0, tgSet g x l = some l0 ∧ (body l0 S).wpe (I (k + 1)) T N E) (h0 : I 0 l S) (he : ∀ l S, I xs.length l S → N l S) : (sFor it g body l S).wpe N T B E := by
  unfold sFor
  rw [h]
  refine wpe_fGo (I := I) xs 0 l S (fun k x l S q hi => ?_) h0 fun l S hi => he l S ?_
  · rw [Nat.zero_add] at hi ⊢
    exact st k x l S q hi
  · rw [Nat.zero_add] at hi
    exact hi
theorem wpe_set {e : Ev} {i : Nat} (h : (e l S).wpe (fun g S => N (l.set i (some g)) S) E) : (sSet i e l S).wpe N T B E := wpe_sr h
theorem wpe_ret {e : Ev} (h : (e l S).wpe T E) : (sRet e l S).wpe N T B E := wpe_sr h
theorem wpe_drop {e : Ev} (h : (e l S).wpe (fun _ S => N l S) E) : (sDrop e l S).wpe N T B E := wpe_sr h
theorem wpe_if {t : Te} {p q : StM} (h : (t l S).wpe (fun x S => if x = true then (p l S).wpe N T B E else (q l S).wpe N T B E) E) : (sIf t p q l S).wpe N T B E := by
  refine wpe_sr (R.wpe_mono h (fun x S h => ?_) fun _ _ _ h => h)
  cases x
  · exact h
  · exact h
end
end GL

end

section
set_option Elab.async false
set_option linter.all false
set_option maxRecDepth 100000
set_option maxHeartbeats 0
/-! The walk of the law, printed by gen.py. -/
namespace Lk02
open PySem PySem.Spec PyProof.Rows L2 LamX GL
noncomputable section
abbrev prog : Program := PySem.Challenge.pw_polderkeep_k02_whole_lines_of_rules

abbrev st_is_whole : Stmt := topS prog 1
abbrev st_is_within : Stmt := topS prog 2
abbrev st_is_row : Stmt := topS prog 3
abbrev st_first_wrong : Stmt := topS prog 4
abbrev st_place_told : Stmt := topS prog 5
abbrev st_is_pair : Stmt := topS prog 32
abbrev st_wrong_place : Stmt := topS prog 33
abbrev st_require_rule : Stmt := topS prog 34
abbrev st_rule_line : Stmt := topS prog 35
abbrev st_pair_in : Stmt := topS prog 36
abbrev st_read_rule : Stmt := topS prog 37
abbrev st__law_taken : Stmt := topS prog 39
abbrev st__law_pick : Stmt := topS prog 40
abbrev st__law_alike : Stmt := topS prog 41
abbrev st__law_same : Stmt := topS prog 42
abbrev st__law_odd : Stmt := topS prog 43
abbrev st__law_refusal : Stmt := topS prog 44
abbrev st__law_told : Stmt := topS prog 45
abbrev st__law_rule : Stmt := topS prog 46
abbrev st__law_read : Stmt := topS prog 47
abbrev st_law : Stmt := topS prog 48
def fldT : FTab := []
def isaT : GL.Tab := ⟨[], []⟩
def fnsT : List Str := ["is_pair"]
def xT : XTab := ⟨"PolderError", ["BadKeep", "BadNumber", "UnknownPolder", "UnknownArea", "BadRule", "BadCourse", "BadDikes", "BadAreas", "BadRain", "BadPrices", "TooMany", "BadText", "BadLine", "NotKept", "BadClaim", "NothingDone"], [("BadKeep", "PolderError"), ("BadNumber", "PolderError"), ("UnknownPolder", "PolderError"), ("UnknownArea", "PolderError"), ("BadRule", "PolderError"), ("BadCourse", "PolderError"), ("BadDikes", "PolderError"), ("BadAreas", "PolderError"), ("BadRain", "PolderError"), ("BadPrices", "PolderError"), ("TooMany", "PolderError"), ("BadText", "PolderError"), ("BadLine", "PolderError"), ("NotKept", "PolderError"), ("BadClaim", "PolderError"), ("NothingDone", "PolderError")], [("BadKeep", "part"), ("BadKeep", "place"), ("BadNumber", "value"), ("UnknownPolder", "name"), ("UnknownArea", "name"), ("BadRule", "place"), ("BadCourse", "place"), ("BadDikes", "place"), ("BadAreas", "place"), ("BadRain", "place"), ("BadPrices", "place"), ("TooMany", "limit"), ("BadText", "line"), ("BadLine", "line")]⟩
def sh_is_whole (call : Calls) : StM :=
  (sRet (eAnd (eA (gIsi isaT) (aCons (eV 0) (aCons (eC (.ty "int")) aNil))) (eNot (tV (eA (gIsi isaT) (aCons (eV 0) (aCons (eC (.ty "bool")) aNil)))))))
def sh_is_within (call : Calls) : StM :=
  (sRet (eAnd (eCl call (.fn "is_whole") (aCons (eV 0) aNil)) (eCh gLe gLe (eV 1) (eV 0) (eV 2))))
def sh_is_row (call : Calls) : StM :=
  (sRet (eAnd (eA (gIsi isaT) (aCons (eV 0) (aCons (eC (.ty "tuple")) aNil))) (e2 gEq (eA gLen (aCons (eV 0) aNil)) (eV 1))))
def sh_first_wrong (call : Calls) : StM :=
  (sSeq (sIf (tOr (tNot (tV (eA (gIsi isaT) (aCons (eV 0) (aCons (eC (.ty "tuple")) aNil))))) (tNot (tV (eCh gLe gLe (eV 1) (eA gLen (aCons (eV 0) aNil)) (eV 2)))))
  (sRet (e1 gNeg (eC (.int 1))))
  sNx)
  (sSeq (sFor (itEn (aCons (eV 0) aNil)) (.tp [4, 5])
  (sIf (tNot (tV (eClL fnsT call 3 (aCons (eV 5) (aCons (eSl (eV 0) none (some (eV 4))) aNil)))))
  (sRet (eV 4))
  sNx))
  (sRet (eC .non))))
def sh_place_told (call : Calls) : StM :=
  (sRet (eIf (tV (e2 gEq (eV 0) (e1 gNeg (eC (.int 1))))) (eC .non) (eV 0)))
def sh_is_pair (call : Calls) : StM :=
  (sSeq (sIf (tOr (tNot (tV (eCl call (.fn "is_row") (aCons (eV 0) (aCons (eC (.int 2)) aNil))))) (tOr (tNot (tV (eCl call (.fn "is_within") (aCons (e2 gIx (eV 0) (eC (.int 0))) (aCons (eC (.int 1)) (aCons (eC (.int 9)) aNil)))))) (tNot (tV (eCl call (.fn "is_within") (aCons (e2 gIx (eV 0) (eC (.int 1))) (aCons (eC (.int 0)) (aCons (eC (.int 9)) aNil))))))))
  (sRet (eC (.bl false)))
  sNx)
  (sRet (eOr (e2 gEq (eA gLen (aCons (eV 1) aNil)) (eC (.int 0))) (e2 gLt (e2 gIx (e2 gIx (eV 1) (e1 gNeg (eC (.int 1)))) (eC (.int 0))) (e2 gIx (eV 0) (eC (.int 0)))))))
def sh_wrong_place (call : Calls) : StM :=
  (sRet (eCl call (.fn "first_wrong") (aCons (eV 0) (aCons (eC (.int 0)) (aCons (eC (.int 5)) (aCons (eC (.gl "is_pair")) aNil))))))
def sh_require_rule (call : Calls) : StM :=
  (sSeq (sSet 1 (eCl call (.fn "wrong_place") (aCons (eV 0) aNil)))
  (sIf (tV (e2 gIsNot (eV 1) (eC .non)))
  (sRaise "BadRule" ["place"] (aCons (eCl call (.fn "place_told") (aCons (eV 1) aNil)) aNil))
  sNx))
def sh_rule_line (call : Calls) : StM :=
  (sSeq (sDrop (eCl call (.fn "require_rule") (aCons (eV 0) aNil)))
  (sSeq (sSet 1 (eLc (itV (eV 0)) [2, 3] (.tp [2, 3]) tYes (e2 gAddA (e2 gAddA (eA gStr (aCons (eV 2) aNil)) (eC (.str ":"))) (eA gStr (aCons (eV 3) aNil)))))
  (sRet (eIf (tV (e2 gNe (eV 1) (eA gLst aNil))) (eMq isSG gJoin (eC (.str " ")) (aCons (eV 1) aNil)) (eC (.str "-"))))))
def sh_pair_in (call : Calls) : StM :=
  (sSeq (sSet 1 (eMq isSG gSplit (eV 0) (aCons (eC (.str ":")) aNil)))
  (sSeq (sIf (tOr (tV (e2 gNe (eA gLen (aCons (eV 1) aNil)) (eC (.int 2)))) (tNot (tV (eA gAll (aCons (eLc (itV (eV 1)) [2] (.nm 2) tYes (eAnd (e2 gEq (eA gLen (aCons (eV 2) aNil)) (eC (.int 1))) (e2 gIn (eV 2) (eC (.str "0123456789"))))) aNil)))))
  (sRet (eC .non))
  sNx)
  (sRet (eA gTup (aCons (eA gInt (aCons (e2 gIx (eV 1) (eC (.int 0))) aNil)) (aCons (eA gInt (aCons (e2 gIx (eV 1) (eC (.int 1))) aNil)) aNil))))))
def sh_read_rule (call : Calls) : StM :=
  (sSeq (sIf (tOr (tNot (tV (eA (gIsi isaT) (aCons (eV 0) (aCons (eC (.ty "str")) aNil))))) (tV (e2 gGt (eA gLen (aCons (eV 0) aNil)) (eC (.int 40)))))
  (sRaise "BadRule" ["place"] (aCons (eC .non) aNil))
  sNx)
  (sSeq (sIf (tV (e2 gEq (eV 0) (eC (.str "-"))))
  (sRet (eA gTup aNil))
  sNx)
  (sSeq (sSet 1 (eLstA aNil))
  (sSeq (sFor (itEn (aCons (eMq isSG gSplit (eV 0) (aCons (eC (.str " ")) aNil)) aNil)) (.tp [2, 3])
  (sSeq (sSet 4 (eCl call (.fn "pair_in") (aCons (eV 3) aNil)))
  (sSeq (sIf (tOr (tV (e2 gIs (eV 4) (eC .non))) (tOr (tNot (tV (eCl call (.fn "is_pair") (aCons (eV 4) (aCons (eV 1) aNil))))) (tV (e2 gEq (eV 2) (eC (.int 5))))))
  (sRaise "BadRule" ["place"] (aCons (eV 2) aNil))
  sNx)
  (sDrop (eML gApp (eV 1) (aCons (eV 4) aNil))))))
  (sRet (eA gTuple (aCons (eV 1) aNil)))))))
def sh__law_taken (call : Calls) : StM :=
  (sSeq (sIf (tV (e2 gGt (e2 gIx (eV 0) (eC (.int 3))) (eC (.int 0))))
  (sSeq (sSet 2 (e2 gMod (eA gInt (aCons (e2 gIx (eV 0) (eC (.int 3))) aNil)) (eV 1)))
  (sSeq (sIxS (eV 0) (eC (.int 3)) (e2 gFdv (e2 gIx (eV 0) (eC (.int 3))) (eV 1)))
  (sRet (eV 2))))
  sNx)
  (sSeq (sIxS (eV 0) (eC (.int 1)) (e2 gAddA (e2 gIx (eV 0) (eC (.int 1))) (eC (.int 1))))
  (sSeq (sIf (tV (e2 gGt (e2 gIx (eV 0) (eC (.int 1))) (eA gLen (aCons (e2 gIx (eV 0) (eC (.int 0))) aNil))))
  (sSeq (sIxS (eV 0) (eC (.int 2)) (e2 gMod (eA gInt (aCons (e2 gAddA (e2 gMulA (e2 gIx (eV 0) (eC (.int 2))) (eC (.int 48271))) (eC (.int 11))) aNil)) (eC (.int 2147483647))))
  (sRet (e2 gMod (eA gInt (aCons (e2 gFdv (e2 gIx (eV 0) (eC (.int 2))) (eC (.int 7))) aNil)) (eV 1))))
  sNx)
  (sSeq (sSet 3 (e2 gIx (e2 gIx (eV 0) (eC (.int 0))) (e2 gSub (e2 gIx (eV 0) (eC (.int 1))) (eC (.int 1)))))
  (sSeq (sIxS (eV 0) (eC (.int 2)) (e2 gMod (eA gInt (aCons (e2 gAddA (e2 gAddA (e2 gMulA (e2 gIx (eV 0) (eC (.int 2))) (eC (.int 48271))) (eV 3)) (eC (.int 11))) aNil)) (eC (.int 2147483647))))
  (sSeq (sIf (tV (e2 gGe (eV 3) (e2 gPow (eC (.int 10)) (eC (.int 18)))))
  (sSeq (sIxS (eV 0) (eC (.int 3)) (e2 gFdv (eV 3) (eV 1)))
  (sRet (e2 gMod (eA gInt (aCons (eV 3) aNil)) (eV 1))))
  sNx)
  (sRet (e2 gMod (eA gInt (aCons (e2 gAddA (e2 gMulA (e2 gMod (eA gInt (aCons (eV 3) aNil)) (eC (.int 1000003))) (eC (.int 31))) (e2 gFdv (e2 gIx (eV 0) (eC (.int 2))) (eC (.int 11)))) aNil)) (eV 1)))))))))
def sh__law_pick (call : Calls) : StM :=
  (sRet (e2 gIx (eV 1) (eCl call (.fn "_law_taken") (aCons (eV 0) (aCons (eA gLen (aCons (eV 1) aNil)) aNil)))))
def sh__law_alike (call : Calls) : StM :=
  (sSeq (sIf (tV (eA (gIsi isaT) (aCons (eV 1) (aCons (eA gTup (aCons (eC (.ty "tuple")) (aCons (eC (.ty "list")) aNil))) aNil))))
  (sSeq (sIf (tOr (tNot (tV (eA (gIsi isaT) (aCons (eV 0) (aCons (eA gTup (aCons (eC (.ty "tuple")) (aCons (eC (.ty "list")) aNil))) aNil))))) (tV (e2 gNe (eA (gIsi isaT) (aCons (eV 0) (aCons (eC (.ty "list")) aNil))) (eA (gIsi isaT) (aCons (eV 1) (aCons (eC (.ty "list")) aNil))))))
  (sRet (eC (.bl false)))
  sNx)
  (sSeq (sIf (tV (e2 gNe (eA gLen (aCons (eV 0) aNil)) (eA gLen (aCons (eV 1) aNil))))
  (sRet (eC (.bl false)))
  sNx)
  (sRet (e2 gEq (eLc (itR1 (aCons (eA gLen (aCons (eV 1) aNil)) aNil)) [2] (.nm 2) (tNot (tV (eCl call (.fn "_law_alike") (aCons (e2 gIx (eV 0) (eV 2)) (aCons (e2 gIx (eV 1) (eV 2)) aNil))))) (eV 2)) (eA gLst aNil)))))
  sNx)
  (sSeq (sIf (tOr (tV (e2 gIs (eV 1) (eC .non))) (tV (eA (gIsi isaT) (aCons (eV 1) (aCons (eC (.ty "str")) aNil)))))
  (sRet (eAnd (e2 gEq (eV 0) (eV 1)) (e2 gEq (eA (gIsi isaT) (aCons (eV 0) (aCons (eC (.ty "str")) aNil))) (eA (gIsi isaT) (aCons (eV 1) (aCons (eC (.ty "str")) aNil))))))
  sNx)
  (sRet (eAnd (eA (gIsi isaT) (aCons (eV 0) (aCons (eC (.ty "int")) aNil))) (eAnd (e2 gEq (eA (gIsi isaT) (aCons (eV 0) (aCons (eC (.ty "bool")) aNil))) (eA (gIsi isaT) (aCons (eV 1) (aCons (eC (.ty "bool")) aNil)))) (e2 gEq (eV 0) (eV 1)))))))
def sh__law_same (call : Calls) : StM :=
  (sRet (e2 gEq (eA gRepr (aCons (eV 0) aNil)) (eA gRepr (aCons (eV 1) aNil))))
def sh__law_odd (call : Calls) : StM :=
  (sSeq (sSet 1 (eA gLst (aCons (eC .non) (aCons (eC (.bl true)) (aCons (eC (.bl false)) (aCons (e1 gNeg (eC (.int 1))) (aCons (e2 gPow (eC (.int 10)) (eC (.int 30))) (aCons (eC (.str "")) (aCons (eC (.str "A")) (aCons (eC (.str "a1")) (aCons (eC (.str "abcdefghi")) (aCons (eA gLst aNil) (aCons (eA gLst (aCons (eC (.int 1)) aNil)) (aCons eTd0 (aCons (eTd1 "a" 1) (aCons (eC (.str "a b")) (aCons (eC (.int 61)) (aCons (eC (.str "-")) aNil))))))))))))))))))
  (sRet (eCl call (.fn "_law_pick") (aCons (eV 0) (aCons (eV 1) aNil)))))
def sh__law_refusal (call : Calls) : StM :=
  (sSeq (sSet 1 (eA gLst (aCons (eC (.str "BadKeep")) (aCons (eC (.str "BadNumber")) (aCons (eC (.str "UnknownPolder")) (aCons (eC (.str "UnknownArea")) (aCons (eC (.str "BadRule")) (aCons (eC (.str "BadCourse")) (aCons (eC (.str "BadDikes")) (aCons (eC (.str "BadAreas")) (aCons (eC (.str "BadRain")) (aCons (eC (.str "BadPrices")) (aCons (eC (.str "TooMany")) (aCons (eC (.str "BadText")) (aCons (eC (.str "BadLine")) (aCons (eC (.str "NotKept")) (aCons (eC (.str "BadClaim")) (aCons (eC (.str "NothingDone")) aNil))))))))))))))))))
  (sSeq (sSet 2 (eA gLst (aCons (eA (gIsiX xT) (aCons (eV 0) (aCons (eC (.gl "BadKeep")) aNil))) (aCons (eA (gIsiX xT) (aCons (eV 0) (aCons (eC (.gl "BadNumber")) aNil))) (aCons (eA (gIsiX xT) (aCons (eV 0) (aCons (eC (.gl "UnknownPolder")) aNil))) (aCons (eA (gIsiX xT) (aCons (eV 0) (aCons (eC (.gl "UnknownArea")) aNil))) (aCons (eA (gIsiX xT) (aCons (eV 0) (aCons (eC (.gl "BadRule")) aNil))) (aCons (eA (gIsiX xT) (aCons (eV 0) (aCons (eC (.gl "BadCourse")) aNil))) (aCons (eA (gIsiX xT) (aCons (eV 0) (aCons (eC (.gl "BadDikes")) aNil))) (aCons (eA (gIsiX xT) (aCons (eV 0) (aCons (eC (.gl "BadAreas")) aNil))) (aCons (eA (gIsiX xT) (aCons (eV 0) (aCons (eC (.gl "BadRain")) aNil))) (aCons (eA (gIsiX xT) (aCons (eV 0) (aCons (eC (.gl "BadPrices")) aNil))) (aCons (eA (gIsiX xT) (aCons (eV 0) (aCons (eC (.gl "TooMany")) aNil))) (aCons (eA (gIsiX xT) (aCons (eV 0) (aCons (eC (.gl "BadText")) aNil))) (aCons (eA (gIsiX xT) (aCons (eV 0) (aCons (eC (.gl "BadLine")) aNil))) (aCons (eA (gIsiX xT) (aCons (eV 0) (aCons (eC (.gl "NotKept")) aNil))) (aCons (eA (gIsiX xT) (aCons (eV 0) (aCons (eC (.gl "BadClaim")) aNil))) (aCons (eA (gIsiX xT) (aCons (eV 0) (aCons (eC (.gl "NothingDone")) aNil))) aNil))))))))))))))))))
  (sSeq (sIf (tOr (tV (e2 gNe (eMq isLG gCount (eV 2) (aCons (eC (.bl true)) aNil)) (eC (.int 1)))) (tNot (tV (eA (gIsiX xT) (aCons (eV 0) (aCons (eC (.ty "ValueError")) aNil))))))
  (sRet (eA gTup (aCons (eC (.str "other")) aNil)))
  sNx)
  (sSeq (sSet 3 (e2 gIx (eV 1) (eMq isLG gIndexL (eV 2) (aCons (eC (.bl true)) aNil))))
  (sSeq (sIf (tV (e2 gEq (eV 3) (eC (.str "BadKeep"))))
  (sRet (eA gTup (aCons (eV 3) (aCons (e1 (gFldX xT "part") (eV 0)) (aCons (e1 (gFldX xT "place") (eV 0)) aNil)))))
  sNx)
  (sSeq (sIf (tV (e2 gEq (eV 3) (eC (.str "BadNumber"))))
  (sRet (eA gTup (aCons (eV 3) (aCons (e1 (gFldX xT "value") (eV 0)) aNil))))
  sNx)
  (sSeq (sIf (tV (e2 gIn (eV 3) (eA gTup (aCons (eC (.str "UnknownPolder")) (aCons (eC (.str "UnknownArea")) aNil)))))
  (sRet (eA gTup (aCons (eV 3) (aCons (e1 (gFldX xT "name") (eV 0)) aNil))))
  sNx)
  (sSeq (sIf (tV (e2 gEq (eV 3) (eC (.str "TooMany"))))
  (sRet (eA gTup (aCons (eV 3) (aCons (e1 (gFldX xT "limit") (eV 0)) aNil))))
  sNx)
  (sSeq (sIf (tV (e2 gIn (eV 3) (eA gTup (aCons (eC (.str "BadText")) (aCons (eC (.str "BadLine")) aNil)))))
  (sRet (eA gTup (aCons (eV 3) (aCons (e1 (gFldX xT "line") (eV 0)) aNil))))
  sNx)
  (sSeq (sIf (tV (e2 gIn (eV 3) (eA gTup (aCons (eC (.str "NotKept")) (aCons (eC (.str "BadClaim")) (aCons (eC (.str "NothingDone")) aNil))))))
  (sRet (eA gTup (aCons (eV 3) aNil)))
  sNx)
  (sRet (eA gTup (aCons (eV 3) (aCons (e1 (gFldX xT "place") (eV 0)) aNil))))))))))))))
def sh__law_told (call : Calls) : StM :=
  (sTold call xT "_law_refusal" 1
  sBad)
def sh__law_rule (call : Calls) : StM :=
  (sSeq (sSet 1 (eSl (eLc (itR2 (aCons (eC (.int 1)) (aCons (eC (.int 10)) aNil))) [2] (.nm 2) (tV (e2 gEq (eCl call (.fn "_law_taken") (aCons (eV 0) (aCons (eC (.int 3)) aNil))) (eC (.int 0)))) (eV 2)) none (some (eC (.int 5)))))
  (sRet (eA gTuple (aCons (eLc (itV (eV 1)) [2] (.nm 2) tYes (eA gTup (aCons (eV 2) (aCons (eCl call (.fn "_law_taken") (aCons (eV 0) (aCons (eCl call (.fn "_law_pick") (aCons (eV 0) (aCons (eA gLst (aCons (eC (.int 3)) (aCons (eC (.int 10)) aNil))) aNil))) aNil))) aNil)))) aNil))))
def sh__law_read (call : Calls) : StM :=
  (sSeq (sIf (tOr (tNot (tV (eA (gIsi isaT) (aCons (eV 0) (aCons (eC (.ty "str")) aNil))))) (tV (e2 gGt (eA gLen (aCons (eV 0) aNil)) (eC (.int 40)))))
  (sRet (eA gTup (aCons (eC (.str "BadRule")) (aCons (eC .non) aNil))))
  sNx)
  (sSeq (sPar 1 2 (eLstA aNil) (eIf (tV (e2 gEq (eV 0) (eC (.str "-")))) (eA gLst aNil) (eMq isSG gSplit (eV 0) (aCons (eC (.str " ")) aNil))))
  (sSeq (sFor (itR1 (aCons (eA gLen (aCons (eV 2) aNil)) aNil)) (.nm 3)
  (sSeq (sSet 4 (e2 gIx (eV 2) (eV 3)))
  (sSeq (sSet 5 (eAnd (e2 gEq (eA gLen (aCons (eV 4) aNil)) (eC (.int 3))) (eAnd (e2 gEq (e2 gIx (eV 4) (eC (.int 1))) (eC (.str ":"))) (eAnd (e2 gIn (e2 gIx (eV 4) (eC (.int 0))) (eC (.str "123456789"))) (eAnd (e2 gIn (e2 gIx (eV 4) (eC (.int 2))) (eC (.str "0123456789"))) (e2 gLt (eV 3) (eC (.int 5))))))))
  (sSeq (sIf (tOr (tNot (tV (eV 5))) (tAnd (tV (e2 gNe (eV 1) (eA gLst aNil))) (tV (e2 gGe (e2 gIx (e2 gIx (eV 1) (e1 gNeg (eC (.int 1)))) (eC (.int 0))) (eA gInt (aCons (e2 gIx (eV 4) (eC (.int 0))) aNil))))))
  (sRet (eA gTup (aCons (eC (.str "BadRule")) (aCons (eV 3) aNil))))
  sNx)
  (sDrop (eML gApp (eV 1) (aCons (eA gTup (aCons (eA gInt (aCons (e2 gIx (eV 4) (eC (.int 0))) aNil)) (aCons (eA gInt (aCons (e2 gIx (eV 4) (eC (.int 2))) aNil)) aNil))) aNil)))))))
  (sRet (eA gTup (aCons (eC (.str "told")) (aCons (eA gTuple (aCons (eV 1) aNil)) aNil)))))))
def sh_law (call : Calls) : StM :=
  (sSeq (sSet 1 (eLstA (aCons (eV 0) (aCons (eC (.int 0)) (aCons (eC (.int 7021)) (aCons (eC (.int 0)) aNil))))))
  (sSeq (sFor (itR1 (aCons (eC (.int 6)) aNil)) (.nm 2)
  (sSeq (sSet 3 (eCl call (.fn "_law_rule") (aCons (eV 1) aNil)))
  (sSeq (sSet 4 (eIf (tV (e2 gNe (eV 3) (eA gTup aNil))) (eMq isSG gJoin (eC (.str " ")) (aCons (eLc (itV (eV 3)) [5, 6] (.tp [5, 6]) tYes (e2 gAddA (e2 gAddA (eA gStr (aCons (eV 5) aNil)) (eC (.str ":"))) (eA gStr (aCons (eV 6) aNil)))) aNil)) (eC (.str "-"))))
  (sSeq (sIf (tNot (tV (eCl call (.fn "_law_alike") (aCons (eA gTup (aCons (eCl call (.fn "rule_line") (aCons (eV 3) aNil)) (aCons (eCl call (.fn "read_rule") (aCons (eV 4) aNil)) aNil))) (aCons (eA gTup (aCons (eV 4) (aCons (eV 3) aNil))) aNil)))))
  (sRet (eC (.bl false)))
  sNx)
  (sSeq (sSet 7 (eMq isSG gSplit (eV 4) (aCons (eC (.str " ")) aNil)))
  (sSeq (sFor (itR1 (aCons (eC (.int 5)) aNil)) (.nm 8)
  (sSeq (sSet 9 (eCl call (.fn "_law_taken") (aCons (eV 1) (aCons (e2 gAddA (eA gLen (aCons (eV 7) aNil)) (eC (.int 1))) aNil))))
  (sSeq (sSet 10 (e2 gAddA (e2 gAddA (eSl (eV 7) none (some (eV 9))) (eA gLst (aCons (eCl call (.fn "_law_pick") (aCons (eV 1) (aCons (eA gLst (aCons (eC (.str "")) (aCons (eC (.str "-")) (aCons (eC (.str "1:1")) (aCons (eC (.str "9:9")) (aCons (eC (.str "0:1")) (aCons (eC (.str "5")) (aCons (eC (.str "5:")) (aCons (eC (.str ":5")) (aCons (eC (.str "10:1")) (aCons (eC (.str "5:10")) (aCons (eC (.str "a:1")) (aCons (eC (.str "5:5:5")) (aCons (eC (.str "5;5")) (aCons (e2 gIx (eV 7) (eC (.int 0))) aNil))))))))))))))) aNil))) aNil))) (eSl (eV 7) (some (e2 gAddA (eV 9) (eCl call (.fn "_law_taken") (aCons (eV 1) (aCons (eC (.int 2)) aNil))))) none)))
  (sSeq (sSet 11 (eMq isSG gJoin (eC (.str " ")) (aCons (eV 10) aNil)))
  (sIf (tNot (tV (eCl call (.fn "_law_same") (aCons (eCl call (.fc "_law_told") (aCons (eLamC 0 [11]) aNil)) (aCons (eCl call (.fn "_law_read") (aCons (eV 11) aNil)) aNil)))))
  (sRet (eC (.bl false)))
  sNx)))))
  (sSeq (sSet 12 (eCl call (.fn "_law_pick") (aCons (eV 1) (aCons (eA gLst (aCons (eC .non) (aCons (eC (.int 1)) (aCons (eA gLst (aCons (eC (.str "1:1")) aNil)) (aCons (e2 gMulA (eC (.str "1:1 ")) (eC (.int 12))) (aCons (eC (.str "1:1 2:2 3:3 4:4 5:5 6:6")) (aCons (eC (.str "")) (aCons (eCl call (.fn "_law_odd") (aCons (eV 1) aNil)) aNil)))))))) aNil))))
  (sIf (tNot (tV (eCl call (.fn "_law_same") (aCons (eCl call (.fc "_law_told") (aCons (eLamC 1 [12]) aNil)) (aCons (eCl call (.fn "_law_read") (aCons (eV 12) aNil)) aNil)))))
  (sRet (eC (.bl false)))
  sNx))))))))
  (sRet (eC (.bl true)))))
def sh_fc__law_told (call : Calls) (cv : G) : StM :=
  (sTold call xT "_law_refusal" 1
  (sRet (eA gTup (aCons (eC (.str "told")) (aCons (eClC cv call 0 aNil) aNil)))))
def she_lam0 (call : Calls) : Ev :=
  (eCl call (.fn "read_rule") (aCons (eV 0) aNil))
def she_lam1 (call : Calls) : Ev :=
  (eCl call (.fn "read_rule") (aCons (eV 0) aNil))
def tabL : List (FK × GL.FnD) := [
  (.fn "is_whole", ⟨1, 1, fun call _ => sh_is_whole call⟩),
  (.fn "is_within", ⟨3, 3, fun call _ => sh_is_within call⟩),
  (.fn "is_row", ⟨2, 2, fun call _ => sh_is_row call⟩),
  (.fn "first_wrong", ⟨4, 6, fun call _ => sh_first_wrong call⟩),
  (.fn "place_told", ⟨1, 1, fun call _ => sh_place_told call⟩),
  (.fn "is_pair", ⟨2, 2, fun call _ => sh_is_pair call⟩),
  (.fn "wrong_place", ⟨1, 1, fun call _ => sh_wrong_place call⟩),
  (.fn "require_rule", ⟨1, 2, fun call _ => sh_require_rule call⟩),
  (.fn "rule_line", ⟨1, 4, fun call _ => sh_rule_line call⟩),
  (.fn "pair_in", ⟨1, 3, fun call _ => sh_pair_in call⟩),
  (.fn "read_rule", ⟨1, 5, fun call _ => sh_read_rule call⟩),
  (.fn "_law_taken", ⟨2, 4, fun call _ => sh__law_taken call⟩),
  (.fn "_law_pick", ⟨2, 2, fun call _ => sh__law_pick call⟩),
  (.fn "_law_alike", ⟨2, 3, fun call _ => sh__law_alike call⟩),
  (.fn "_law_same", ⟨2, 2, fun call _ => sh__law_same call⟩),
  (.fn "_law_odd", ⟨1, 2, fun call _ => sh__law_odd call⟩),
  (.fh "_law_refusal", ⟨1, 4, fun call _ => sh__law_refusal call⟩),
  (.fn "_law_told", ⟨1, 2, fun call _ => sh__law_told call⟩),
  (.fn "_law_rule", ⟨1, 3, fun call _ => sh__law_rule call⟩),
  (.fn "_law_read", ⟨1, 6, fun call _ => sh__law_read call⟩),
  (.fn "law", ⟨1, 13, fun call _ => sh_law call⟩),
  (.fc "_law_told", ⟨1, 2, fun call gs => sh_fc__law_told call (gs.getLastD .non)⟩),
  (.la 0 1, ⟨1, 1, fun call _ => sRet (she_lam0 call)⟩),
  (.la 1 1, ⟨1, 1, fun call _ => sRet (she_lam1 call)⟩)]
def tab (k : FK) : Option GL.FnD := tabL.lookup k
theorem tab_is_whole : tab (.fn "is_whole") = some ⟨1, 1, fun call _ => sh_is_whole call⟩ := by kernel_rfl
theorem cn_is_whole (n : Nat) (gs : List G) (S : Sto) (h : gs.length = 1) : callN tab (n + 1) (.fn "is_whole") gs S = bodyR (sh_is_whole (callN tab n) (lo0 1 gs) S) := callN_eq tab_is_whole n gs S h
theorem tab_is_within : tab (.fn "is_within") = some ⟨3, 3, fun call _ => sh_is_within call⟩ := by kernel_rfl
theorem cn_is_within (n : Nat) (gs : List G) (S : Sto) (h : gs.length = 3) : callN tab (n + 1) (.fn "is_within") gs S = bodyR (sh_is_within (callN tab n) (lo0 3 gs) S) := callN_eq tab_is_within n gs S h
theorem tab_is_row : tab (.fn "is_row") = some ⟨2, 2, fun call _ => sh_is_row call⟩ := by kernel_rfl
theorem cn_is_row (n : Nat) (gs : List G) (S : Sto) (h : gs.length = 2) : callN tab (n + 1) (.fn "is_row") gs S = bodyR (sh_is_row (callN tab n) (lo0 2 gs) S) := callN_eq tab_is_row n gs S h
theorem tab_first_wrong : tab (.fn "first_wrong") = some ⟨4, 6, fun call _ => sh_first_wrong call⟩ := by kernel_rfl
theorem cn_first_wrong (n : Nat) (gs : List G) (S : Sto) (h : gs.length = 4) : callN tab (n + 1) (.fn "first_wrong") gs S = bodyR (sh_first_wrong (callN tab n) (lo0 6 gs) S) := callN_eq tab_first_wrong n gs S h
theorem tab_place_told : tab (.fn "place_told") = some ⟨1, 1, fun call _ => sh_place_told call⟩ := by kernel_rfl
theorem cn_place_told (n : Nat) (gs : List G) (S : Sto) (h : gs.length = 1) : callN tab (n + 1) (.fn "place_told") gs S = bodyR (sh_place_told (callN tab n) (lo0 1 gs) S) := callN_eq tab_place_told n gs S h
theorem tab_is_pair : tab (.fn "is_pair") = some ⟨2, 2, fun call _ => sh_is_pair call⟩ := by kernel_rfl
theorem cn_is_pair (n : Nat) (gs : List G) (S : Sto) (h : gs.length = 2) : callN tab (n + 1) (.fn "is_pair") gs S = bodyR (sh_is_pair (callN tab n) (lo0 2 gs) S) := callN_eq tab_is_pair n gs S h
theorem tab_wrong_place : tab (.fn "wrong_place") = some ⟨1, 1, fun call _ => sh_wrong_place call⟩ := by kernel_rfl
theorem cn_wrong_place (n : Nat) (gs : List G) (S : Sto) (h : gs.length = 1) : callN tab (n + 1) (.fn "wrong_place") gs S = bodyR (sh_wrong_place (callN tab n) (lo0 1 gs) S) := callN_eq tab_wrong_place n gs S h
theorem tab_require_rule : tab (.fn "require_rule") = some ⟨1, 2, fun call _ => sh_require_rule call⟩ := by kernel_rfl
theorem cn_require_rule (n : Nat) (gs : List G) (S : Sto) (h : gs.length = 1) : callN tab (n + 1) (.fn "require_rule") gs S = bodyR (sh_require_rule (callN tab n) (lo0 2 gs) S) := callN_eq tab_require_rule n gs S h
theorem tab_rule_line : tab (.fn "rule_line") = some ⟨1, 4, fun call _ => sh_rule_line call⟩ := by kernel_rfl
theorem cn_rule_line (n : Nat) (gs : List G) (S : Sto) (h : gs.length = 1) : callN tab (n + 1) (.fn "rule_line") gs S = bodyR (sh_rule_line (callN tab n) (lo0 4 gs) S) := callN_eq tab_rule_line n gs S h
theorem tab_pair_in : tab (.fn "pair_in") = some ⟨1, 3, fun call _ => sh_pair_in call⟩ := by kernel_rfl
theorem cn_pair_in (n : Nat) (gs : List G) (S : Sto) (h : gs.length = 1) : callN tab (n + 1) (.fn "pair_in") gs S = bodyR (sh_pair_in (callN tab n) (lo0 3 gs) S) := callN_eq tab_pair_in n gs S h
theorem tab_read_rule : tab (.fn "read_rule") = some ⟨1, 5, fun call _ => sh_read_rule call⟩ := by kernel_rfl
theorem cn_read_rule (n : Nat) (gs : List G) (S : Sto) (h : gs.length = 1) : callN tab (n + 1) (.fn "read_rule") gs S = bodyR (sh_read_rule (callN tab n) (lo0 5 gs) S) := callN_eq tab_read_rule n gs S h
theorem tab__law_taken : tab (.fn "_law_taken") = some ⟨2, 4, fun call _ => sh__law_taken call⟩ := by kernel_rfl
theorem cn__law_taken (n : Nat) (gs : List G) (S : Sto) (h : gs.length = 2) : callN tab (n + 1) (.fn "_law_taken") gs S = bodyR (sh__law_taken (callN tab n) (lo0 4 gs) S) := callN_eq tab__law_taken n gs S h
theorem tab__law_pick : tab (.fn "_law_pick") = some ⟨2, 2, fun call _ => sh__law_pick call⟩ := by kernel_rfl
theorem cn__law_pick (n : Nat) (gs : List G) (S : Sto) (h : gs.length = 2) : callN tab (n + 1) (.fn "_law_pick") gs S = bodyR (sh__law_pick (callN tab n) (lo0 2 gs) S) := callN_eq tab__law_pick n gs S h
theorem tab__law_alike : tab (.fn "_law_alike") = some ⟨2, 3, fun call _ => sh__law_alike call⟩ := by kernel_rfl
theorem cn__law_alike (n : Nat) (gs : List G) (S : Sto) (h : gs.length = 2) : callN tab (n + 1) (.fn "_law_alike") gs S = bodyR (sh__law_alike (callN tab n) (lo0 3 gs) S) := callN_eq tab__law_alike n gs S h
theorem tab__law_same : tab (.fn "_law_same") = some ⟨2, 2, fun call _ => sh__law_same call⟩ := by kernel_rfl
theorem cn__law_same (n : Nat) (gs : List G) (S : Sto) (h : gs.length = 2) : callN tab (n + 1) (.fn "_law_same") gs S = bodyR (sh__law_same (callN tab n) (lo0 2 gs) S) := callN_eq tab__law_same n gs S h
theorem tab__law_odd : tab (.fn "_law_odd") = some ⟨1, 2, fun call _ => sh__law_odd call⟩ := by kernel_rfl
theorem cn__law_odd (n : Nat) (gs : List G) (S : Sto) (h : gs.length = 1) : callN tab (n + 1) (.fn "_law_odd") gs S = bodyR (sh__law_odd (callN tab n) (lo0 2 gs) S) := callN_eq tab__law_odd n gs S h
theorem tab_fh__law_refusal : tab (.fh "_law_refusal") = some ⟨1, 4, fun call _ => sh__law_refusal call⟩ := by kernel_rfl
theorem cn_fh__law_refusal (n : Nat) (gs : List G) (S : Sto) (h : gs.length = 1) : callN tab (n + 1) (.fh "_law_refusal") gs S = bodyR (sh__law_refusal (callN tab n) (lo0 4 gs) S) := callN_eq tab_fh__law_refusal n gs S h
theorem tab__law_told : tab (.fn "_law_told") = some ⟨1, 2, fun call _ => sh__law_told call⟩ := by kernel_rfl
theorem cn__law_told (n : Nat) (gs : List G) (S : Sto) (h : gs.length = 1) : callN tab (n + 1) (.fn "_law_told") gs S = bodyR (sh__law_told (callN tab n) (lo0 2 gs) S) := callN_eq tab__law_told n gs S h
theorem tab__law_rule : tab (.fn "_law_rule") = some ⟨1, 3, fun call _ => sh__law_rule call⟩ := by kernel_rfl
theorem cn__law_rule (n : Nat) (gs : List G) (S : Sto) (h : gs.length = 1) : callN tab (n + 1) (.fn "_law_rule") gs S = bodyR (sh__law_rule (callN tab n) (lo0 3 gs) S) := callN_eq tab__law_rule n gs S h
theorem tab__law_read : tab (.fn "_law_read") = some ⟨1, 6, fun call _ => sh__law_read call⟩ := by kernel_rfl
theorem cn__law_read (n : Nat) (gs : List G) (S : Sto) (h : gs.length = 1) : callN tab (n + 1) (.fn "_law_read") gs S = bodyR (sh__law_read (callN tab n) (lo0 6 gs) S) := callN_eq tab__law_read n gs S h
theorem tab_law : tab (.fn "law") = some ⟨1, 13, fun call _ => sh_law call⟩ := by kernel_rfl
theorem cn_law (n : Nat) (gs : List G) (S : Sto) (h : gs.length = 1) : callN tab (n + 1) (.fn "law") gs S = bodyR (sh_law (callN tab n) (lo0 13 gs) S) := callN_eq tab_law n gs S h
theorem tab_fc__law_told : tab (.fc "_law_told") = some ⟨1, 2, fun call gs => sh_fc__law_told call (gs.getLastD .non)⟩ := by kernel_rfl
theorem cn_fc__law_told (n : Nat) (gs : List G) (S : Sto) (h : gs.length = 1) : callN tab (n + 1) (.fc "_law_told") gs S = bodyR (sh_fc__law_told (callN tab n) (gs.getLastD .non) (lo0 2 gs) S) := callN_eq tab_fc__law_told n gs S h
theorem tab_lam0 : tab (.la 0 1) = some ⟨1, 1, fun call _ => sRet (she_lam0 call)⟩ := by kernel_rfl
theorem cn_lam0 (n : Nat) (gs : List G) (S : Sto) (h : gs.length = 1) : callN tab (n + 1) (.la 0 1) gs S = bodyR (sRet (she_lam0 (callN tab n)) (lo0 1 gs) S) := callN_eq tab_lam0 n gs S h
theorem tab_lam1 : tab (.la 1 1) = some ⟨1, 1, fun call _ => sRet (she_lam1 call)⟩ := by kernel_rfl
theorem cn_lam1 (n : Nat) (gs : List G) (S : Sto) (h : gs.length = 1) : callN tab (n + 1) (.la 1 1) gs S = bodyR (sRet (she_lam1 (callN tab n)) (lo0 1 gs) S) := callN_eq tab_lam1 n gs S h
end
end Lk02

end

section
set_option Elab.async false
set_option linter.all false
set_option maxRecDepth 100000
set_option maxHeartbeats 4000000
namespace Lk02
open PySem GL PySem.Builtin PySem.Builtin.Str
variable {n : Nat} {S : Sto}
/-! basics: whole numbers, rows, the first wrong row, the law's draws -/
theorem isi_int_int (i : Int) : gIsi isaT [.int i, .ty "int"] S = some (.bl true) := rfl
theorem isi_int_bool (i : Int) : gIsi isaT [.int i, .ty "bool"] S = some (.bl false) := rfl
theorem isi_tup_tuple (l : List G) : gIsi isaT [.tup l, .ty "tuple"] S = some (.bl true) := rfl
theorem is_whole_eq (i : Int) : callN tab (n + 1) (.fn "is_whole") [.int i] S = .ok (.bl true) S := by
  rw [cn_is_whole n _ _ rfl]
  simp [nG, sSeq, sSet, sRet, sRetN, sIf, sDrop, sNx, sBrk, sPar, sTg, sr_ok, rb_ok, ro_ok, so_ok, e1, e2, eA, eCl, eV, eC, eAnd, eOr, eNot, eIf, eCh, tV, tNot, tAnd, tOr, tYes, bof_bl, aNil, aCons, tgSet, setAll, lo0, bodyR_nx, bodyR_rt, R.wp_ok, SR.wp_nx, SR.wp_rt, SR.wp_bk, gAddA, gAdd, gSub, gLe, gLt, gGt, gGe, is_non, is_int, is_tup, is_bl, isn_non, isn_int, isn_tup, isn_bl, is_o, isn_o, gNeg, gTup1, gTup2, gTup3, gTup4, gTup5, gLst0, gLst1, gLst2, gLst3, eLstA0, List.length_cons, List.length_nil, List.map_cons, List.map_nil, List.cons_append, List.nil_append, List.replicate, Nat.sub_self, Nat.reduceSub, Nat.reduceAdd, List.getElem?_cons_zero, List.getElem?_cons_succ, List.set_cons_zero, List.set_cons_succ, Option.map_some, Bool.not_true, Bool.not_false, ite_true, ite_false, if_true, if_false, Bool.false_eq_true, gEq_int, gNe_int, gEq_bl, gNe_bl, gEq_non, gNe_non, List.isEmpty_cons, List.isEmpty_nil, sh_is_whole, isi_int_int, isi_int_bool]
theorem is_within_eq (i a b : Int) : callN tab (n + 2) (.fn "is_within") [.int i, .int a, .int b] S = .ok (.bl (decide (a ≤ i ∧ i ≤ b))) S := by
  rw [cn_is_within (n + 1) _ _ rfl]
  simp [nG, sSeq, sSet, sRet, sRetN, sIf, sDrop, sNx, sBrk, sPar, sTg, sr_ok, rb_ok, ro_ok, so_ok, e1, e2, eA, eCl, eV, eC, eAnd, eOr, eNot, eIf, eCh, tV, tNot, tAnd, tOr, tYes, bof_bl, aNil, aCons, tgSet, setAll, lo0, bodyR_nx, bodyR_rt, R.wp_ok, SR.wp_nx, SR.wp_rt, SR.wp_bk, gAddA, gAdd, gSub, gLe, gLt, gGt, gGe, is_non, is_int, is_tup, is_bl, isn_non, isn_int, isn_tup, isn_bl, is_o, isn_o, gNeg, gTup1, gTup2, gTup3, gTup4, gTup5, gLst0, gLst1, gLst2, gLst3, eLstA0, List.length_cons, List.length_nil, List.map_cons, List.map_nil, List.cons_append, List.nil_append, List.replicate, Nat.sub_self, Nat.reduceSub, Nat.reduceAdd, List.getElem?_cons_zero, List.getElem?_cons_succ, List.set_cons_zero, List.set_cons_succ, Option.map_some, Bool.not_true, Bool.not_false, ite_true, ite_false, if_true, if_false, Bool.false_eq_true, gEq_int, gNe_int, gEq_bl, gNe_bl, gEq_non, gNe_non, List.isEmpty_cons, List.isEmpty_nil, sh_is_within, is_whole_eq]
  by_cases h : a ≤ i <;> simp [h, nG, sSeq, sSet, sRet, sRetN, sIf, sDrop, sNx, sBrk, sPar, sTg, sr_ok, rb_ok, ro_ok, so_ok, e1, e2, eA, eCl, eV, eC, eAnd, eOr, eNot, eIf, eCh, tV, tNot, tAnd, tOr, tYes, bof_bl, aNil, aCons, tgSet, setAll, lo0, bodyR_nx, bodyR_rt, R.wp_ok, SR.wp_nx, SR.wp_rt, SR.wp_bk, gAddA, gAdd, gSub, gLe, gLt, gGt, gGe, is_non, is_int, is_tup, is_bl, isn_non, isn_int, isn_tup, isn_bl, is_o, isn_o, gNeg, gTup1, gTup2, gTup3, gTup4, gTup5, gLst0, gLst1, gLst2, gLst3, eLstA0, List.length_cons, List.length_nil, List.map_cons, List.map_nil, List.cons_append, List.nil_append, List.replicate, Nat.sub_self, Nat.reduceSub, Nat.reduceAdd, List.getElem?_cons_zero, List.getElem?_cons_succ, List.set_cons_zero, List.set_cons_succ, Option.map_some, Bool.not_true, Bool.not_false, ite_true, ite_false, if_true, if_false, Bool.false_eq_true, gEq_int, gNe_int, gEq_bl, gNe_bl, gEq_non, gNe_non, List.isEmpty_cons, List.isEmpty_nil]
theorem is_row_eq (l : List G) (k : Int) : callN tab (n + 1) (.fn "is_row") [.tup l, .int k] S = .ok (.bl (decide ((l.length : Int) = k))) S := by
  rw [cn_is_row n _ _ rfl]
  simp [nG, sSeq, sSet, sRet, sRetN, sIf, sDrop, sNx, sBrk, sPar, sTg, sr_ok, rb_ok, ro_ok, so_ok, e1, e2, eA, eCl, eV, eC, eAnd, eOr, eNot, eIf, eCh, tV, tNot, tAnd, tOr, tYes, bof_bl, aNil, aCons, tgSet, setAll, lo0, bodyR_nx, bodyR_rt, R.wp_ok, SR.wp_nx, SR.wp_rt, SR.wp_bk, gAddA, gAdd, gSub, gLe, gLt, gGt, gGe, is_non, is_int, is_tup, is_bl, isn_non, isn_int, isn_tup, isn_bl, is_o, isn_o, gNeg, gTup1, gTup2, gTup3, gTup4, gTup5, gLst0, gLst1, gLst2, gLst3, eLstA0, List.length_cons, List.length_nil, List.map_cons, List.map_nil, List.cons_append, List.nil_append, List.replicate, Nat.sub_self, Nat.reduceSub, Nat.reduceAdd, List.getElem?_cons_zero, List.getElem?_cons_succ, List.set_cons_zero, List.set_cons_succ, Option.map_some, Bool.not_true, Bool.not_false, ite_true, ite_false, if_true, if_false, Bool.false_eq_true, gEq_int, gNe_int, gEq_bl, gNe_bl, gEq_non, gNe_non, List.isEmpty_cons, List.isEmpty_nil, sh_is_row, isi_tup_tuple, gLen, seqG, gEq]
/-- not a whole number, of the kinds that are told apart -/
theorem is_whole_bl (b : Bool) : callN tab (n + 1) (.fn "is_whole") [.bl b] S = .ok (.bl false) S := by
  rw [cn_is_whole n _ _ rfl]
  have h1 : gIsi isaT [.bl b, .ty "int"] S = some (.bl true) := rfl
  have h2 : gIsi isaT [.bl b, .ty "bool"] S = some (.bl true) := rfl
  simp [nG, sSeq, sSet, sRet, sRetN, sIf, sDrop, sNx, sBrk, sPar, sTg, sr_ok, rb_ok, ro_ok, so_ok, e1, e2, eA, eCl, eV, eC, eAnd, eOr, eNot, eIf, eCh, tV, tNot, tAnd, tOr, tYes, bof_bl, aNil, aCons, tgSet, setAll, lo0, bodyR_nx, bodyR_rt, R.wp_ok, SR.wp_nx, SR.wp_rt, SR.wp_bk, gAddA, gAdd, gSub, gLe, gLt, gGt, gGe, is_non, is_int, is_tup, is_bl, isn_non, isn_int, isn_tup, isn_bl, is_o, isn_o, gNeg, gTup1, gTup2, gTup3, gTup4, gTup5, gLst0, gLst1, gLst2, gLst3, eLstA0, List.length_cons, List.length_nil, List.map_cons, List.map_nil, List.cons_append, List.nil_append, List.replicate, Nat.sub_self, Nat.reduceSub, Nat.reduceAdd, List.getElem?_cons_zero, List.getElem?_cons_succ, List.set_cons_zero, List.set_cons_succ, Option.map_some, Bool.not_true, Bool.not_false, ite_true, ite_false, if_true, if_false, Bool.false_eq_true, gEq_int, gNe_int, gEq_bl, gNe_bl, gEq_non, gNe_non, List.isEmpty_cons, List.isEmpty_nil, sh_is_whole, h1, h2]
theorem is_whole_no {g : G} (h : gIsi isaT [g, .ty "int"] S = some (.bl false)) : callN tab (n + 1) (.fn "is_whole") [g] S = .ok (.bl false) S := by
  rw [cn_is_whole n _ _ rfl]
  simp [nG, sSeq, sSet, sRet, sRetN, sIf, sDrop, sNx, sBrk, sPar, sTg, sr_ok, rb_ok, ro_ok, so_ok, e1, e2, eA, eCl, eV, eC, eAnd, eOr, eNot, eIf, eCh, tV, tNot, tAnd, tOr, tYes, bof_bl, aNil, aCons, tgSet, setAll, lo0, bodyR_nx, bodyR_rt, R.wp_ok, SR.wp_nx, SR.wp_rt, SR.wp_bk, gAddA, gAdd, gSub, gLe, gLt, gGt, gGe, is_non, is_int, is_tup, is_bl, isn_non, isn_int, isn_tup, isn_bl, is_o, isn_o, gNeg, gTup1, gTup2, gTup3, gTup4, gTup5, gLst0, gLst1, gLst2, gLst3, eLstA0, List.length_cons, List.length_nil, List.map_cons, List.map_nil, List.cons_append, List.nil_append, List.replicate, Nat.sub_self, Nat.reduceSub, Nat.reduceAdd, List.getElem?_cons_zero, List.getElem?_cons_succ, List.set_cons_zero, List.set_cons_succ, Option.map_some, Bool.not_true, Bool.not_false, ite_true, ite_false, if_true, if_false, Bool.false_eq_true, gEq_int, gNe_int, gEq_bl, gNe_bl, gEq_non, gNe_non, List.isEmpty_cons, List.isEmpty_nil, sh_is_whole, h]
theorem is_within_no {g : G} {a b : Int} (h : callN tab (n + 1) (.fn "is_whole") [g] S = .ok (.bl false) S) : callN tab (n + 2) (.fn "is_within") [g, .int a, .int b] S = .ok (.bl false) S := by
  rw [cn_is_within (n + 1) _ _ rfl]
  simp [nG, sSeq, sSet, sRet, sRetN, sIf, sDrop, sNx, sBrk, sPar, sTg, sr_ok, rb_ok, ro_ok, so_ok, e1, e2, eA, eCl, eV, eC, eAnd, eOr, eNot, eIf, eCh, tV, tNot, tAnd, tOr, tYes, bof_bl, aNil, aCons, tgSet, setAll, lo0, bodyR_nx, bodyR_rt, R.wp_ok, SR.wp_nx, SR.wp_rt, SR.wp_bk, gAddA, gAdd, gSub, gLe, gLt, gGt, gGe, is_non, is_int, is_tup, is_bl, isn_non, isn_int, isn_tup, isn_bl, is_o, isn_o, gNeg, gTup1, gTup2, gTup3, gTup4, gTup5, gLst0, gLst1, gLst2, gLst3, eLstA0, List.length_cons, List.length_nil, List.map_cons, List.map_nil, List.cons_append, List.nil_append, List.replicate, Nat.sub_self, Nat.reduceSub, Nat.reduceAdd, List.getElem?_cons_zero, List.getElem?_cons_succ, List.set_cons_zero, List.set_cons_succ, Option.map_some, Bool.not_true, Bool.not_false, ite_true, ite_false, if_true, if_false, Bool.false_eq_true, gEq_int, gNe_int, gEq_bl, gNe_bl, gEq_non, gNe_non, List.isEmpty_cons, List.isEmpty_nil, sh_is_within, h]
theorem is_row_no {g : G} {k : Int} (h : gIsi isaT [g, .ty "tuple"] S = some (.bl false)) : callN tab (n + 1) (.fn "is_row") [g, .int k] S = .ok (.bl false) S := by
  rw [cn_is_row n _ _ rfl]
  simp [nG, sSeq, sSet, sRet, sRetN, sIf, sDrop, sNx, sBrk, sPar, sTg, sr_ok, rb_ok, ro_ok, so_ok, e1, e2, eA, eCl, eV, eC, eAnd, eOr, eNot, eIf, eCh, tV, tNot, tAnd, tOr, tYes, bof_bl, aNil, aCons, tgSet, setAll, lo0, bodyR_nx, bodyR_rt, R.wp_ok, SR.wp_nx, SR.wp_rt, SR.wp_bk, gAddA, gAdd, gSub, gLe, gLt, gGt, gGe, is_non, is_int, is_tup, is_bl, isn_non, isn_int, isn_tup, isn_bl, is_o, isn_o, gNeg, gTup1, gTup2, gTup3, gTup4, gTup5, gLst0, gLst1, gLst2, gLst3, eLstA0, List.length_cons, List.length_nil, List.map_cons, List.map_nil, List.cons_append, List.nil_append, List.replicate, Nat.sub_self, Nat.reduceSub, Nat.reduceAdd, List.getElem?_cons_zero, List.getElem?_cons_succ, List.set_cons_zero, List.set_cons_succ, Option.map_some, Bool.not_true, Bool.not_false, ite_true, ite_false, if_true, if_false, Bool.false_eq_true, gEq_int, gNe_int, gEq_bl, gNe_bl, gEq_non, gNe_non, List.isEmpty_cons, List.isEmpty_nil, sh_is_row, h]
theorem place_told_eq (i : Int) : callN tab (n + 1) (.fn "place_told") [.int i] S = .ok (if i = -1 then .non else .int i) S := by
  rw [cn_place_told n _ _ rfl]
  by_cases h : i = -1
  · subst h; simp [nG, sSeq, sSet, sRet, sRetN, sIf, sDrop, sNx, sBrk, sPar, sTg, sr_ok, rb_ok, ro_ok, so_ok, e1, e2, eA, eCl, eV, eC, eAnd, eOr, eNot, eIf, eCh, tV, tNot, tAnd, tOr, tYes, bof_bl, aNil, aCons, tgSet, setAll, lo0, bodyR_nx, bodyR_rt, R.wp_ok, SR.wp_nx, SR.wp_rt, SR.wp_bk, gAddA, gAdd, gSub, gLe, gLt, gGt, gGe, is_non, is_int, is_tup, is_bl, isn_non, isn_int, isn_tup, isn_bl, is_o, isn_o, gNeg, gTup1, gTup2, gTup3, gTup4, gTup5, gLst0, gLst1, gLst2, gLst3, eLstA0, List.length_cons, List.length_nil, List.map_cons, List.map_nil, List.cons_append, List.nil_append, List.replicate, Nat.sub_self, Nat.reduceSub, Nat.reduceAdd, List.getElem?_cons_zero, List.getElem?_cons_succ, List.set_cons_zero, List.set_cons_succ, Option.map_some, Bool.not_true, Bool.not_false, ite_true, ite_false, if_true, if_false, Bool.false_eq_true, gEq_int, gNe_int, gEq_bl, gNe_bl, gEq_non, gNe_non, List.isEmpty_cons, List.isEmpty_nil, sh_place_told]
  · simp [nG, sSeq, sSet, sRet, sRetN, sIf, sDrop, sNx, sBrk, sPar, sTg, sr_ok, rb_ok, ro_ok, so_ok, e1, e2, eA, eCl, eV, eC, eAnd, eOr, eNot, eIf, eCh, tV, tNot, tAnd, tOr, tYes, bof_bl, aNil, aCons, tgSet, setAll, lo0, bodyR_nx, bodyR_rt, R.wp_ok, SR.wp_nx, SR.wp_rt, SR.wp_bk, gAddA, gAdd, gSub, gLe, gLt, gGt, gGe, is_non, is_int, is_tup, is_bl, isn_non, isn_int, isn_tup, isn_bl, is_o, isn_o, gNeg, gTup1, gTup2, gTup3, gTup4, gTup5, gLst0, gLst1, gLst2, gLst3, eLstA0, List.length_cons, List.length_nil, List.map_cons, List.map_nil, List.cons_append, List.nil_append, List.replicate, Nat.sub_self, Nat.reduceSub, Nat.reduceAdd, List.getElem?_cons_zero, List.getElem?_cons_succ, List.set_cons_zero, List.set_cons_succ, Option.map_some, Bool.not_true, Bool.not_false, ite_true, ite_false, if_true, if_false, Bool.false_eq_true, gEq_int, gNe_int, gEq_bl, gNe_bl, gEq_non, gNe_non, List.isEmpty_cons, List.isEmpty_nil, sh_place_told, h]
/-! ### first_wrong, the judge a def -/
theorem first_wrong_no {g : G} {a b : Int} {j : G} (h : gIsi isaT [g, .ty "tuple"] S = some (.bl false)) : callN tab (n + 1) (.fn "first_wrong") [g, .int a, .int b, j] S = .ok (.int (-1)) S := by
  rw [cn_first_wrong n _ _ rfl]
  simp [nG, sSeq, sSet, sRet, sRetN, sIf, sDrop, sNx, sBrk, sPar, sTg, sr_ok, rb_ok, ro_ok, so_ok, e1, e2, eA, eCl, eV, eC, eAnd, eOr, eNot, eIf, eCh, tV, tNot, tAnd, tOr, tYes, bof_bl, aNil, aCons, tgSet, setAll, lo0, bodyR_nx, bodyR_rt, R.wp_ok, SR.wp_nx, SR.wp_rt, SR.wp_bk, gAddA, gAdd, gSub, gLe, gLt, gGt, gGe, is_non, is_int, is_tup, is_bl, isn_non, isn_int, isn_tup, isn_bl, is_o, isn_o, gNeg, gTup1, gTup2, gTup3, gTup4, gTup5, gLst0, gLst1, gLst2, gLst3, eLstA0, List.length_cons, List.length_nil, List.map_cons, List.map_nil, List.cons_append, List.nil_append, List.replicate, Nat.sub_self, Nat.reduceSub, Nat.reduceAdd, List.getElem?_cons_zero, List.getElem?_cons_succ, List.set_cons_zero, List.set_cons_succ, Option.map_some, Bool.not_true, Bool.not_false, ite_true, ite_false, if_true, if_false, Bool.false_eq_true, gEq_int, gNe_int, gEq_bl, gNe_bl, gEq_non, gNe_non, List.isEmpty_cons, List.isEmpty_nil, sh_first_wrong, h]
theorem first_wrong_len {l : List G} {a b : Int} {j : G} (h : ¬ (a ≤ l.length ∧ (l.length : Int) ≤ b)) : callN tab (n + 1) (.fn "first_wrong") [.tup l, .int a, .int b, j] S = .ok (.int (-1)) S := by
  rw [cn_first_wrong n _ _ rfl]
  by_cases h1 : a ≤ (l.length : Int)
  · have h2 : ¬ ((l.length : Int) ≤ b) := fun q => h ⟨h1, q⟩
    simp [nG, sSeq, sSet, sRet, sRetN, sIf, sDrop, sNx, sBrk, sPar, sTg, sr_ok, rb_ok, ro_ok, so_ok, e1, e2, eA, eCl, eV, eC, eAnd, eOr, eNot, eIf, eCh, tV, tNot, tAnd, tOr, tYes, bof_bl, aNil, aCons, tgSet, setAll, lo0, bodyR_nx, bodyR_rt, R.wp_ok, SR.wp_nx, SR.wp_rt, SR.wp_bk, gAddA, gAdd, gSub, gLe, gLt, gGt, gGe, is_non, is_int, is_tup, is_bl, isn_non, isn_int, isn_tup, isn_bl, is_o, isn_o, gNeg, gTup1, gTup2, gTup3, gTup4, gTup5, gLst0, gLst1, gLst2, gLst3, eLstA0, List.length_cons, List.length_nil, List.map_cons, List.map_nil, List.cons_append, List.nil_append, List.replicate, Nat.sub_self, Nat.reduceSub, Nat.reduceAdd, List.getElem?_cons_zero, List.getElem?_cons_succ, List.set_cons_zero, List.set_cons_succ, Option.map_some, Bool.not_true, Bool.not_false, ite_true, ite_false, if_true, if_false, Bool.false_eq_true, gEq_int, gNe_int, gEq_bl, gNe_bl, gEq_non, gNe_non, List.isEmpty_cons, List.isEmpty_nil, sh_first_wrong, isi_tup_tuple, gLen, seqG, h1, h2]
  · simp [nG, sSeq, sSet, sRet, sRetN, sIf, sDrop, sNx, sBrk, sPar, sTg, sr_ok, rb_ok, ro_ok, so_ok, e1, e2, eA, eCl, eV, eC, eAnd, eOr, eNot, eIf, eCh, tV, tNot, tAnd, tOr, tYes, bof_bl, aNil, aCons, tgSet, setAll, lo0, bodyR_nx, bodyR_rt, R.wp_ok, SR.wp_nx, SR.wp_rt, SR.wp_bk, gAddA, gAdd, gSub, gLe, gLt, gGt, gGe, is_non, is_int, is_tup, is_bl, isn_non, isn_int, isn_tup, isn_bl, is_o, isn_o, gNeg, gTup1, gTup2, gTup3, gTup4, gTup5, gLst0, gLst1, gLst2, gLst3, eLstA0, List.length_cons, List.length_nil, List.map_cons, List.map_nil, List.cons_append, List.nil_append, List.replicate, Nat.sub_self, Nat.reduceSub, Nat.reduceAdd, List.getElem?_cons_zero, List.getElem?_cons_succ, List.set_cons_zero, List.set_cons_succ, Option.map_some, Bool.not_true, Bool.not_false, ite_true, ite_false, if_true, if_false, Bool.false_eq_true, gEq_int, gNe_int, gEq_bl, gNe_bl, gEq_non, gNe_non, List.isEmpty_cons, List.isEmpty_nil, sh_first_wrong, isi_tup_tuple, gLen, seqG, h1]
theorem cut_take {l : List G} {k : Nat} (h : k ≤ l.length) : gSl (.tup l) none (some (k : Int)) S = some (.tup (l.take k)) := by
  show (some (G.tup (cutG l none (some (k : Int))))) = _
  unfold cutG
  rw [HT.sIx_none, HT.sIx_nat, List.drop_zero, Nat.sub_zero, Nat.min_eq_left h]
theorem numd_len : ∀ (xs : List G) (j : Nat), (numd j xs).length = xs.length
  | [], _ => rfl
  | _ :: xs, j => by simp [numd, numd_len xs]
theorem first_wrong_ok {l : List G} {J : Str} (hJ : fnsT.contains J = true) {a b : Int} (ha : a ≤ l.length) (hb : (l.length : Int) ≤ b) {k : Nat} (hk : k ≤ l.length)
    (good : ∀ i x, i < k → l[i]? = some x → callN tab n (.fn J) [x, .tup (l.take i)] S = .ok (.bl true) S)
    (bad : ∀ x, l[k]? = some x → callN tab n (.fn J) [x, .tup (l.take k)] S = .ok (.bl false) S) :
    callN tab (n + 1) (.fn "first_wrong") [.tup l, .int a, .int b, .gl J] S = .ok (if k < l.length then .int k else .non) S := by
  rw [cn_first_wrong n _ _ rfl]
  refine R_ok_of ?_
  unfold sh_first_wrong
  refine wp_seq ?_
  have hlen : gLen [.tup l] S = some (.int (l.length : Nat)) := rfl
  simp only [nG, sSet, sRet, sRetN, sIf, sDrop, sNx, sBrk, sPar, sTg, sr_ok, rb_ok, ro_ok, so_ok, e1, e2, eA, eCl, eV, eC, eAnd, eOr, eNot, eIf, eCh, tV, tNot, tAnd, tOr, tYes, bof_bl, aNil, aCons, tgSet, setAll, lo0, bodyR_nx, bodyR_rt, R.wp_ok, SR.wp_nx, SR.wp_rt, SR.wp_bk, gAddA, gAdd, gSub, gLe, gLt, gGt, gGe, is_non, is_int, is_tup, is_bl, isn_non, isn_int, isn_tup, isn_bl, is_o, isn_o, gNeg, gTup1, gTup2, gTup3, gTup4, gTup5, gLst0, gLst1, gLst2, gLst3, eLstA0, List.length_cons, List.length_nil, List.map_cons, List.map_nil, List.cons_append, List.nil_append, List.replicate, Nat.sub_self, Nat.reduceSub, Nat.reduceAdd, List.getElem?_cons_zero, List.getElem?_cons_succ, List.set_cons_zero, List.set_cons_succ, Option.map_some, Bool.not_true, Bool.not_false, ite_true, ite_false, if_true, if_false, Bool.false_eq_true, gEq_int, gNe_int, gEq_bl, gNe_bl, gEq_non, gNe_non, List.isEmpty_cons, List.isEmpty_nil, isi_tup_tuple, hlen, ha, hb, decide_true]
  refine wp_seq (wp_for (xs := numd 0 l) ?_ (fun j loc S' => j ≤ k ∧ S' = S ∧ ∃ u v, loc = [some (.tup l), some (.int a), some (.int b), some (.gl J), u, v]) ?_ ⟨Nat.zero_le _, rfl, _, _, rfl⟩ ?_)
  · simp only [nG, sSet, sRet, sRetN, sIf, sDrop, sNx, sBrk, sPar, sTg, sr_ok, rb_ok, ro_ok, so_ok, e1, e2, eA, eCl, eV, eC, eAnd, eOr, eNot, eIf, eCh, tV, tNot, tAnd, tOr, tYes, bof_bl, aNil, aCons, tgSet, setAll, lo0, bodyR_nx, bodyR_rt, R.wp_ok, SR.wp_nx, SR.wp_rt, SR.wp_bk, gAddA, gAdd, gSub, gLe, gLt, gGt, gGe, is_non, is_int, is_tup, is_bl, isn_non, isn_int, isn_tup, isn_bl, is_o, isn_o, gNeg, gTup1, gTup2, gTup3, gTup4, gTup5, gLst0, gLst1, gLst2, gLst3, eLstA0, List.length_cons, List.length_nil, List.map_cons, List.map_nil, List.cons_append, List.nil_append, List.replicate, Nat.sub_self, Nat.reduceSub, Nat.reduceAdd, List.getElem?_cons_zero, List.getElem?_cons_succ, List.set_cons_zero, List.set_cons_succ, Option.map_some, Bool.not_true, Bool.not_false, ite_true, ite_false, if_true, if_false, Bool.false_eq_true, gEq_int, gNe_int, gEq_bl, gNe_bl, gEq_non, gNe_non, List.isEmpty_cons, List.isEmpty_nil, itEn]
  · rintro j x loc S' hx ⟨hj, rfl, u, v, rfl⟩
    obtain ⟨y, hy, rfl⟩ := numd_at _ _ _ _ hx
    rw [Nat.zero_add]
    have hjl : j < l.length := (List.getElem?_eq_some_iff.mp hy).1
    refine ⟨_, rfl, ?_⟩
    have hsl : eSl (eV 0) none (some (eV 4)) [some (.tup l), some (.int a), some (.int b), some (.gl J), some (.int (j : Nat)), some y] S' = .ok (.tup (l.take j)) S' := by
      simp only [nG, sSet, sRet, sRetN, sIf, sDrop, sNx, sBrk, sPar, sTg, sr_ok, rb_ok, ro_ok, so_ok, e1, e2, eA, eCl, eV, eC, eAnd, eOr, eNot, eIf, eCh, tV, tNot, tAnd, tOr, tYes, bof_bl, aNil, aCons, tgSet, setAll, lo0, bodyR_nx, bodyR_rt, R.wp_ok, SR.wp_nx, SR.wp_rt, SR.wp_bk, gAddA, gAdd, gSub, gLe, gLt, gGt, gGe, is_non, is_int, is_tup, is_bl, isn_non, isn_int, isn_tup, isn_bl, is_o, isn_o, gNeg, gTup1, gTup2, gTup3, gTup4, gTup5, gLst0, gLst1, gLst2, gLst3, eLstA0, List.length_cons, List.length_nil, List.map_cons, List.map_nil, List.cons_append, List.nil_append, List.replicate, Nat.sub_self, Nat.reduceSub, Nat.reduceAdd, List.getElem?_cons_zero, List.getElem?_cons_succ, List.set_cons_zero, List.set_cons_succ, Option.map_some, Bool.not_true, Bool.not_false, ite_true, ite_false, if_true, if_false, Bool.false_eq_true, gEq_int, gNe_int, gEq_bl, gNe_bl, gEq_non, gNe_non, List.isEmpty_cons, List.isEmpty_nil, eSl, oE, cut_take (Nat.le_of_lt hjl)]
    have hcl : ∀ g, callN tab n (.fn J) [y, .tup (l.take j)] S' = .ok g S' → eClL fnsT (callN tab n) 3 (aCons (eV 5) (aCons (eSl (eV 0) none (some (eV 4))) aNil)) [some (.tup l), some (.int a), some (.int b), some (.gl J), some (.int (j : Nat)), some y] S' = .ok g S' := fun g hg => by
      unfold eClL
      simp only [nG, sSet, sRet, sRetN, sIf, sDrop, sNx, sBrk, sPar, sTg, sr_ok, rb_ok, ro_ok, so_ok, e1, e2, eA, eCl, eV, eC, eAnd, eOr, eNot, eIf, eCh, tV, tNot, tAnd, tOr, tYes, bof_bl, aNil, aCons, tgSet, setAll, lo0, bodyR_nx, bodyR_rt, R.wp_ok, SR.wp_nx, SR.wp_rt, SR.wp_bk, gAddA, gAdd, gSub, gLe, gLt, gGt, gGe, is_non, is_int, is_tup, is_bl, isn_non, isn_int, isn_tup, isn_bl, is_o, isn_o, gNeg, gTup1, gTup2, gTup3, gTup4, gTup5, gLst0, gLst1, gLst2, gLst3, eLstA0, List.length_cons, List.length_nil, List.map_cons, List.map_nil, List.cons_append, List.nil_append, List.replicate, Nat.sub_self, Nat.reduceSub, Nat.reduceAdd, List.getElem?_cons_zero, List.getElem?_cons_succ, List.set_cons_zero, List.set_cons_succ, Option.map_some, Bool.not_true, Bool.not_false, ite_true, ite_false, if_true, if_false, Bool.false_eq_true, gEq_int, gNe_int, gEq_bl, gNe_bl, gEq_non, gNe_non, List.isEmpty_cons, List.isEmpty_nil, hJ, hsl, hg]
    by_cases c : j = k
    · subst c
      have e := hcl _ (bad y hy)
      simp only [nG, sSet, sRet, sRetN, sIf, sDrop, sNx, sBrk, sPar, sTg, sr_ok, rb_ok, ro_ok, so_ok, e1, e2, eA, eCl, eV, eC, eAnd, eOr, eNot, eIf, eCh, tV, tNot, tAnd, tOr, tYes, bof_bl, aNil, aCons, tgSet, setAll, lo0, bodyR_nx, bodyR_rt, R.wp_ok, SR.wp_nx, SR.wp_rt, SR.wp_bk, gAddA, gAdd, gSub, gLe, gLt, gGt, gGe, is_non, is_int, is_tup, is_bl, isn_non, isn_int, isn_tup, isn_bl, is_o, isn_o, gNeg, gTup1, gTup2, gTup3, gTup4, gTup5, gLst0, gLst1, gLst2, gLst3, eLstA0, List.length_cons, List.length_nil, List.map_cons, List.map_nil, List.cons_append, List.nil_append, List.replicate, Nat.sub_self, Nat.reduceSub, Nat.reduceAdd, List.getElem?_cons_zero, List.getElem?_cons_succ, List.set_cons_zero, List.set_cons_succ, Option.map_some, Bool.not_true, Bool.not_false, ite_true, ite_false, if_true, if_false, Bool.false_eq_true, gEq_int, gNe_int, gEq_bl, gNe_bl, gEq_non, gNe_non, List.isEmpty_cons, List.isEmpty_nil, e]
      rw [if_pos hjl]
      simp
    · have e := hcl _ (good j y (by omega) hy)
      simp only [nG, sSet, sRet, sRetN, sIf, sDrop, sNx, sBrk, sPar, sTg, sr_ok, rb_ok, ro_ok, so_ok, e1, e2, eA, eCl, eV, eC, eAnd, eOr, eNot, eIf, eCh, tV, tNot, tAnd, tOr, tYes, bof_bl, aNil, aCons, tgSet, setAll, lo0, bodyR_nx, bodyR_rt, R.wp_ok, SR.wp_nx, SR.wp_rt, SR.wp_bk, gAddA, gAdd, gSub, gLe, gLt, gGt, gGe, is_non, is_int, is_tup, is_bl, isn_non, isn_int, isn_tup, isn_bl, is_o, isn_o, gNeg, gTup1, gTup2, gTup3, gTup4, gTup5, gLst0, gLst1, gLst2, gLst3, eLstA0, List.length_cons, List.length_nil, List.map_cons, List.map_nil, List.cons_append, List.nil_append, List.replicate, Nat.sub_self, Nat.reduceSub, Nat.reduceAdd, List.getElem?_cons_zero, List.getElem?_cons_succ, List.set_cons_zero, List.set_cons_succ, Option.map_some, Bool.not_true, Bool.not_false, ite_true, ite_false, if_true, if_false, Bool.false_eq_true, gEq_int, gNe_int, gEq_bl, gNe_bl, gEq_non, gNe_non, List.isEmpty_cons, List.isEmpty_nil, e]
      exact ⟨by omega, by simp⟩
  · rintro loc S' ⟨hj, rfl, u, v, rfl⟩
    rw [numd_len] at hj
    refine wp_ret ?_
    simp only [nG, sSet, sRet, sRetN, sIf, sDrop, sNx, sBrk, sPar, sTg, sr_ok, rb_ok, ro_ok, so_ok, e1, e2, eA, eCl, eV, eC, eAnd, eOr, eNot, eIf, eCh, tV, tNot, tAnd, tOr, tYes, bof_bl, aNil, aCons, tgSet, setAll, lo0, bodyR_nx, bodyR_rt, R.wp_ok, SR.wp_nx, SR.wp_rt, SR.wp_bk, gAddA, gAdd, gSub, gLe, gLt, gGt, gGe, is_non, is_int, is_tup, is_bl, isn_non, isn_int, isn_tup, isn_bl, is_o, isn_o, gNeg, gTup1, gTup2, gTup3, gTup4, gTup5, gLst0, gLst1, gLst2, gLst3, eLstA0, List.length_cons, List.length_nil, List.map_cons, List.map_nil, List.cons_append, List.nil_append, List.replicate, Nat.sub_self, Nat.reduceSub, Nat.reduceAdd, List.getElem?_cons_zero, List.getElem?_cons_succ, List.set_cons_zero, List.set_cons_succ, Option.map_some, Bool.not_true, Bool.not_false, ite_true, ite_false, if_true, if_false, Bool.false_eq_true, gEq_int, gNe_int, gEq_bl, gNe_bl, gEq_non, gNe_non, List.isEmpty_cons, List.isEmpty_nil]
    rw [if_neg (by omega)]
    simp
/-! the law's draws -/
def rowO (sc : List Int) (a : Nat) (b c : Int) : GO := .lst true [.fz (sc.map iG), .int (a : Nat), .int b, .int c]
def Row (Z S : Sto) : Prop := ∃ (sc : List Int) (a : Nat) (b c : Int), S = rowO sc a b c :: Z ∧ 0 ≤ b ∧ b < 2147483647
section
variable {Z : Sto} {sc : List Int} {a : Nat} {b c : Int}
theorem row0 : gIx (.ref 0) (.int 0) (rowO sc a b c :: Z) = some (.fz (sc.map iG)) := rfl
theorem row1 : gIx (.ref 0) (.int 1) (rowO sc a b c :: Z) = some (.int (a : Nat)) := rfl
theorem row2 : gIx (.ref 0) (.int 2) (rowO sc a b c :: Z) = some (.int b) := rfl
theorem row3 : gIx (.ref 0) (.int 3) (rowO sc a b c :: Z) = some (.int c) := rfl
theorem set1 {x : Nat} : setI (.ref 0) (.int 1) (.int ((a : Int) + 1)) (rowO sc a b c :: Z) = some (rowO sc (a + 1) b c :: Z) := rfl
theorem set2 {x : Int} : setI (.ref 0) (.int 2) (.int x) (rowO sc a b c :: Z) = some (rowO sc a x c :: Z) := rfl
theorem set3 {x : Int} : setI (.ref 0) (.int 3) (.int x) (rowO sc a b c :: Z) = some (rowO sc a b x :: Z) := rfl
theorem mod_ok {S : Sto} {i j : Int} (h : 0 < j) : gMod (.int i) (.int j) S = some (.int (i % j)) := if_pos h
theorem fdv_ok {S : Sto} {i j : Int} (h : 0 < j) (h2 : j < 1073741824) : gFdv (.int i) (.int j) S = some (.int (i / j)) := if_pos ⟨h, by rw [b30_eq]; exact h2⟩
theorem mul_b {S : Sto} {i j : Int} (h : 0 ≤ i) (h2 : i < 2147483647) : gMulA (.int i) (.int j) S = some (.int (i * j)) := by
  show (if mulOk i j = true then some (G.int (i * j)) else none) = _
  refine if_pos ?_
  unfold mulOk
  have hb := b64_eq
  simp only [Bool.or_eq_true, Bool.and_eq_true, decide_eq_true_eq]
  exact .inl ⟨by omega, by omega⟩
theorem pow_ok {S : Sto} : gPow (.int 10) (.int 18) S = some (.int (10 ^ 18)) := by
  have h1 := big_eq
  have h2 := b64_eq
  show (if (0 : Int) ≤ 18 ∧ (18 : Int) ≤ big ∧ (((10 : Int).natAbs : Nat) : Int) < b64 then some (G.int (10 ^ (18 : Int).toNat)) else none) = _
  rw [if_pos ⟨by omega, by omega, by rw [h2]; decide⟩]
  rfl
theorem len_fz {S : Sto} {l : List G} : gLen [.fz l] S = some (.int (l.length : Nat)) := rfl
theorem int_ok {S : Sto} {i : Int} : gInt [.int i] S = some (.int i) := rfl
theorem nat_of {v : Int} {many : Nat} (h : 0 < many) : ∃ x : Nat, x < many ∧ G.int (v % (many : Int)) = .int (x : Nat) := by
  have h1 := Int.emod_nonneg v (b := (many : Int)) (by omega)
  have h2 := Int.emod_lt_of_pos v (b := (many : Int)) (by omega)
  exact ⟨(v % (many : Int)).toNat, by omega, by rw [Int.toNat_of_nonneg h1]⟩
end
theorem taken_ok {Z : Sto} {many : Nat} (h : Row Z S) (h0 : 0 < many) (h1 : many ≤ 1000) :
    (callN tab (n + 1) (.fn "_law_taken") [.ref 0, .int (many : Nat)] S).wp fun g S' => (∃ x : Nat, x < many ∧ g = .int (x : Nat)) ∧ Row Z S' := by
  obtain ⟨sc, a, b, c, rfl, hb0, hb1⟩ := h
  have m1 : ∀ {S : Sto} {i : Int}, gMod (.int i) (.int (many : Int)) S = some (.int (i % many)) := mod_ok (by omega)
  have m2 : ∀ {S : Sto} {i : Int}, gMod (.int i) (.int 2147483647) S = some (.int (i % 2147483647)) := mod_ok (by omega)
  have m3 : ∀ {S : Sto} {i : Int}, gMod (.int i) (.int 1000003) S = some (.int (i % 1000003)) := mod_ok (by omega)
  have f1 : ∀ {S : Sto} {i : Int}, gFdv (.int i) (.int (many : Int)) S = some (.int (i / many)) := fdv_ok (by omega) (by omega)
  have f2 : ∀ {S : Sto} {i : Int}, gFdv (.int i) (.int 7) S = some (.int (i / 7)) := fdv_ok (by omega) (by omega)
  have f3 : ∀ {S : Sto} {i : Int}, gFdv (.int i) (.int 11) S = some (.int (i / 11)) := fdv_ok (by omega) (by omega)
  have q1 : ∀ {S : Sto}, gMulA (.int b) (.int 48271) S = some (.int (b * 48271)) := mul_b hb0 hb1
  rw [cn__law_taken n _ _ rfl]
  refine wp_body ?_
  unfold sh__law_taken
  refine wp_seq ?_
  simp only [nG, sSet, sRet, sRetN, sIf, sDrop, sNx, sBrk, sPar, sTg, sr_ok, rb_ok, ro_ok, so_ok, e1, e2, eA, eCl, eV, eC, eAnd, eOr, eNot, eIf, eCh, tV, tNot, tAnd, tOr, tYes, bof_bl, aNil, aCons, tgSet, setAll, lo0, bodyR_nx, bodyR_rt, R.wp_ok, SR.wp_nx, SR.wp_rt, SR.wp_bk, gAddA, gAdd, gSub, gLe, gLt, gGt, gGe, is_non, is_int, is_tup, is_bl, isn_non, isn_int, isn_tup, isn_bl, is_o, isn_o, gNeg, gTup1, gTup2, gTup3, gTup4, gTup5, gLst0, gLst1, gLst2, gLst3, eLstA0, List.length_cons, List.length_nil, List.map_cons, List.map_nil, List.cons_append, List.nil_append, List.replicate, Nat.sub_self, Nat.reduceSub, Nat.reduceAdd, List.getElem?_cons_zero, List.getElem?_cons_succ, List.set_cons_zero, List.set_cons_succ, Option.map_some, Bool.not_true, Bool.not_false, ite_true, ite_false, if_true, if_false, Bool.false_eq_true, gEq_int, gNe_int, gEq_bl, gNe_bl, gEq_non, gNe_non, List.isEmpty_cons, List.isEmpty_nil, row3]
  by_cases hc : 0 < c
  · simp only [hc, decide_true, nG, sSet, sRet, sRetN, sIf, sDrop, sNx, sBrk, sPar, sTg, sr_ok, rb_ok, ro_ok, so_ok, e1, e2, eA, eCl, eV, eC, eAnd, eOr, eNot, eIf, eCh, tV, tNot, tAnd, tOr, tYes, bof_bl, aNil, aCons, tgSet, setAll, lo0, bodyR_nx, bodyR_rt, R.wp_ok, SR.wp_nx, SR.wp_rt, SR.wp_bk, gAddA, gAdd, gSub, gLe, gLt, gGt, gGe, is_non, is_int, is_tup, is_bl, isn_non, isn_int, isn_tup, isn_bl, is_o, isn_o, gNeg, gTup1, gTup2, gTup3, gTup4, gTup5, gLst0, gLst1, gLst2, gLst3, eLstA0, List.length_cons, List.length_nil, List.map_cons, List.map_nil, List.cons_append, List.nil_append, List.replicate, Nat.sub_self, Nat.reduceSub, Nat.reduceAdd, List.getElem?_cons_zero, List.getElem?_cons_succ, List.set_cons_zero, List.set_cons_succ, Option.map_some, Bool.not_true, Bool.not_false, ite_true, ite_false, if_true, if_false, Bool.false_eq_true, gEq_int, gNe_int, gEq_bl, gNe_bl, gEq_non, gNe_non, List.isEmpty_cons, List.isEmpty_nil]
    refine wp_seq ?_
    simp only [nG, sSet, sRet, sRetN, sIf, sDrop, sNx, sBrk, sPar, sTg, sr_ok, rb_ok, ro_ok, so_ok, e1, e2, eA, eCl, eV, eC, eAnd, eOr, eNot, eIf, eCh, tV, tNot, tAnd, tOr, tYes, bof_bl, aNil, aCons, tgSet, setAll, lo0, bodyR_nx, bodyR_rt, R.wp_ok, SR.wp_nx, SR.wp_rt, SR.wp_bk, gAddA, gAdd, gSub, gLe, gLt, gGt, gGe, is_non, is_int, is_tup, is_bl, isn_non, isn_int, isn_tup, isn_bl, is_o, isn_o, gNeg, gTup1, gTup2, gTup3, gTup4, gTup5, gLst0, gLst1, gLst2, gLst3, eLstA0, List.length_cons, List.length_nil, List.map_cons, List.map_nil, List.cons_append, List.nil_append, List.replicate, Nat.sub_self, Nat.reduceSub, Nat.reduceAdd, List.getElem?_cons_zero, List.getElem?_cons_succ, List.set_cons_zero, List.set_cons_succ, Option.map_some, Bool.not_true, Bool.not_false, ite_true, ite_false, if_true, if_false, Bool.false_eq_true, gEq_int, gNe_int, gEq_bl, gNe_bl, gEq_non, gNe_non, List.isEmpty_cons, List.isEmpty_nil, row3, int_ok, m1]
    refine wp_seq ?_
    simp only [nG, sSet, sRet, sRetN, sIf, sDrop, sNx, sBrk, sPar, sTg, sr_ok, rb_ok, ro_ok, so_ok, e1, e2, eA, eCl, eV, eC, eAnd, eOr, eNot, eIf, eCh, tV, tNot, tAnd, tOr, tYes, bof_bl, aNil, aCons, tgSet, setAll, lo0, bodyR_nx, bodyR_rt, R.wp_ok, SR.wp_nx, SR.wp_rt, SR.wp_bk, gAddA, gAdd, gSub, gLe, gLt, gGt, gGe, is_non, is_int, is_tup, is_bl, isn_non, isn_int, isn_tup, isn_bl, is_o, isn_o, gNeg, gTup1, gTup2, gTup3, gTup4, gTup5, gLst0, gLst1, gLst2, gLst3, eLstA0, List.length_cons, List.length_nil, List.map_cons, List.map_nil, List.cons_append, List.nil_append, List.replicate, Nat.sub_self, Nat.reduceSub, Nat.reduceAdd, List.getElem?_cons_zero, List.getElem?_cons_succ, List.set_cons_zero, List.set_cons_succ, Option.map_some, Bool.not_true, Bool.not_false, ite_true, ite_false, if_true, if_false, Bool.false_eq_true, gEq_int, gNe_int, gEq_bl, gNe_bl, gEq_non, gNe_non, List.isEmpty_cons, List.isEmpty_nil, sIxS, row3, f1, set3]
    exact ⟨nat_of h0, _, _, _, _, rfl, hb0, hb1⟩
  · simp only [hc, decide_false, nG, sSet, sRet, sRetN, sIf, sDrop, sNx, sBrk, sPar, sTg, sr_ok, rb_ok, ro_ok, so_ok, e1, e2, eA, eCl, eV, eC, eAnd, eOr, eNot, eIf, eCh, tV, tNot, tAnd, tOr, tYes, bof_bl, aNil, aCons, tgSet, setAll, lo0, bodyR_nx, bodyR_rt, R.wp_ok, SR.wp_nx, SR.wp_rt, SR.wp_bk, gAddA, gAdd, gSub, gLe, gLt, gGt, gGe, is_non, is_int, is_tup, is_bl, isn_non, isn_int, isn_tup, isn_bl, is_o, isn_o, gNeg, gTup1, gTup2, gTup3, gTup4, gTup5, gLst0, gLst1, gLst2, gLst3, eLstA0, List.length_cons, List.length_nil, List.map_cons, List.map_nil, List.cons_append, List.nil_append, List.replicate, Nat.sub_self, Nat.reduceSub, Nat.reduceAdd, List.getElem?_cons_zero, List.getElem?_cons_succ, List.set_cons_zero, List.set_cons_succ, Option.map_some, Bool.not_true, Bool.not_false, ite_true, ite_false, if_true, if_false, Bool.false_eq_true, gEq_int, gNe_int, gEq_bl, gNe_bl, gEq_non, gNe_non, List.isEmpty_cons, List.isEmpty_nil]
    refine wp_seq ?_
    simp only [nG, sSet, sRet, sRetN, sIf, sDrop, sNx, sBrk, sPar, sTg, sr_ok, rb_ok, ro_ok, so_ok, e1, e2, eA, eCl, eV, eC, eAnd, eOr, eNot, eIf, eCh, tV, tNot, tAnd, tOr, tYes, bof_bl, aNil, aCons, tgSet, setAll, lo0, bodyR_nx, bodyR_rt, R.wp_ok, SR.wp_nx, SR.wp_rt, SR.wp_bk, gAddA, gAdd, gSub, gLe, gLt, gGt, gGe, is_non, is_int, is_tup, is_bl, isn_non, isn_int, isn_tup, isn_bl, is_o, isn_o, gNeg, gTup1, gTup2, gTup3, gTup4, gTup5, gLst0, gLst1, gLst2, gLst3, eLstA0, List.length_cons, List.length_nil, List.map_cons, List.map_nil, List.cons_append, List.nil_append, List.replicate, Nat.sub_self, Nat.reduceSub, Nat.reduceAdd, List.getElem?_cons_zero, List.getElem?_cons_succ, List.set_cons_zero, List.set_cons_succ, Option.map_some, Bool.not_true, Bool.not_false, ite_true, ite_false, if_true, if_false, Bool.false_eq_true, gEq_int, gNe_int, gEq_bl, gNe_bl, gEq_non, gNe_non, List.isEmpty_cons, List.isEmpty_nil, sIxS, row1, set1 (x := 0)]
    refine wp_seq ?_
    simp only [nG, sSet, sRet, sRetN, sIf, sDrop, sNx, sBrk, sPar, sTg, sr_ok, rb_ok, ro_ok, so_ok, e1, e2, eA, eCl, eV, eC, eAnd, eOr, eNot, eIf, eCh, tV, tNot, tAnd, tOr, tYes, bof_bl, aNil, aCons, tgSet, setAll, lo0, bodyR_nx, bodyR_rt, R.wp_ok, SR.wp_nx, SR.wp_rt, SR.wp_bk, gAddA, gAdd, gSub, gLe, gLt, gGt, gGe, is_non, is_int, is_tup, is_bl, isn_non, isn_int, isn_tup, isn_bl, is_o, isn_o, gNeg, gTup1, gTup2, gTup3, gTup4, gTup5, gLst0, gLst1, gLst2, gLst3, eLstA0, List.length_cons, List.length_nil, List.map_cons, List.map_nil, List.cons_append, List.nil_append, List.replicate, Nat.sub_self, Nat.reduceSub, Nat.reduceAdd, List.getElem?_cons_zero, List.getElem?_cons_succ, List.set_cons_zero, List.set_cons_succ, Option.map_some, Bool.not_true, Bool.not_false, ite_true, ite_false, if_true, if_false, Bool.false_eq_true, gEq_int, gNe_int, gEq_bl, gNe_bl, gEq_non, gNe_non, List.isEmpty_cons, List.isEmpty_nil, row1, row0, len_fz]
    by_cases hl : ((sc.map iG).length : Int) < ((a + 1 : Nat) : Int)
    · simp only [hl, decide_true, nG, sSet, sRet, sRetN, sIf, sDrop, sNx, sBrk, sPar, sTg, sr_ok, rb_ok, ro_ok, so_ok, e1, e2, eA, eCl, eV, eC, eAnd, eOr, eNot, eIf, eCh, tV, tNot, tAnd, tOr, tYes, bof_bl, aNil, aCons, tgSet, setAll, lo0, bodyR_nx, bodyR_rt, R.wp_ok, SR.wp_nx, SR.wp_rt, SR.wp_bk, gAddA, gAdd, gSub, gLe, gLt, gGt, gGe, is_non, is_int, is_tup, is_bl, isn_non, isn_int, isn_tup, isn_bl, is_o, isn_o, gNeg, gTup1, gTup2, gTup3, gTup4, gTup5, gLst0, gLst1, gLst2, gLst3, eLstA0, List.length_cons, List.length_nil, List.map_cons, List.map_nil, List.cons_append, List.nil_append, List.replicate, Nat.sub_self, Nat.reduceSub, Nat.reduceAdd, List.getElem?_cons_zero, List.getElem?_cons_succ, List.set_cons_zero, List.set_cons_succ, Option.map_some, Bool.not_true, Bool.not_false, ite_true, ite_false, if_true, if_false, Bool.false_eq_true, gEq_int, gNe_int, gEq_bl, gNe_bl, gEq_non, gNe_non, List.isEmpty_cons, List.isEmpty_nil]
      refine wp_seq ?_
      simp only [nG, sSet, sRet, sRetN, sIf, sDrop, sNx, sBrk, sPar, sTg, sr_ok, rb_ok, ro_ok, so_ok, e1, e2, eA, eCl, eV, eC, eAnd, eOr, eNot, eIf, eCh, tV, tNot, tAnd, tOr, tYes, bof_bl, aNil, aCons, tgSet, setAll, lo0, bodyR_nx, bodyR_rt, R.wp_ok, SR.wp_nx, SR.wp_rt, SR.wp_bk, gAddA, gAdd, gSub, gLe, gLt, gGt, gGe, is_non, is_int, is_tup, is_bl, isn_non, isn_int, isn_tup, isn_bl, is_o, isn_o, gNeg, gTup1, gTup2, gTup3, gTup4, gTup5, gLst0, gLst1, gLst2, gLst3, eLstA0, List.length_cons, List.length_nil, List.map_cons, List.map_nil, List.cons_append, List.nil_append, List.replicate, Nat.sub_self, Nat.reduceSub, Nat.reduceAdd, List.getElem?_cons_zero, List.getElem?_cons_succ, List.set_cons_zero, List.set_cons_succ, Option.map_some, Bool.not_true, Bool.not_false, ite_true, ite_false, if_true, if_false, Bool.false_eq_true, gEq_int, gNe_int, gEq_bl, gNe_bl, gEq_non, gNe_non, List.isEmpty_cons, List.isEmpty_nil, sIxS, row2, q1, int_ok, m2, set2]
      simp only [nG, sSet, sRet, sRetN, sIf, sDrop, sNx, sBrk, sPar, sTg, sr_ok, rb_ok, ro_ok, so_ok, e1, e2, eA, eCl, eV, eC, eAnd, eOr, eNot, eIf, eCh, tV, tNot, tAnd, tOr, tYes, bof_bl, aNil, aCons, tgSet, setAll, lo0, bodyR_nx, bodyR_rt, R.wp_ok, SR.wp_nx, SR.wp_rt, SR.wp_bk, gAddA, gAdd, gSub, gLe, gLt, gGt, gGe, is_non, is_int, is_tup, is_bl, isn_non, isn_int, isn_tup, isn_bl, is_o, isn_o, gNeg, gTup1, gTup2, gTup3, gTup4, gTup5, gLst0, gLst1, gLst2, gLst3, eLstA0, List.length_cons, List.length_nil, List.map_cons, List.map_nil, List.cons_append, List.nil_append, List.replicate, Nat.sub_self, Nat.reduceSub, Nat.reduceAdd, List.getElem?_cons_zero, List.getElem?_cons_succ, List.set_cons_zero, List.set_cons_succ, Option.map_some, Bool.not_true, Bool.not_false, ite_true, ite_false, if_true, if_false, Bool.false_eq_true, gEq_int, gNe_int, gEq_bl, gNe_bl, gEq_non, gNe_non, List.isEmpty_cons, List.isEmpty_nil, row2, f2, int_ok, m1]
      exact ⟨nat_of h0, _, _, _, _, rfl, by omega, by omega⟩
    · simp only [hl, decide_false, nG, sSet, sRet, sRetN, sIf, sDrop, sNx, sBrk, sPar, sTg, sr_ok, rb_ok, ro_ok, so_ok, e1, e2, eA, eCl, eV, eC, eAnd, eOr, eNot, eIf, eCh, tV, tNot, tAnd, tOr, tYes, bof_bl, aNil, aCons, tgSet, setAll, lo0, bodyR_nx, bodyR_rt, R.wp_ok, SR.wp_nx, SR.wp_rt, SR.wp_bk, gAddA, gAdd, gSub, gLe, gLt, gGt, gGe, is_non, is_int, is_tup, is_bl, isn_non, isn_int, isn_tup, isn_bl, is_o, isn_o, gNeg, gTup1, gTup2, gTup3, gTup4, gTup5, gLst0, gLst1, gLst2, gLst3, eLstA0, List.length_cons, List.length_nil, List.map_cons, List.map_nil, List.cons_append, List.nil_append, List.replicate, Nat.sub_self, Nat.reduceSub, Nat.reduceAdd, List.getElem?_cons_zero, List.getElem?_cons_succ, List.set_cons_zero, List.set_cons_succ, Option.map_some, Bool.not_true, Bool.not_false, ite_true, ite_false, if_true, if_false, Bool.false_eq_true, gEq_int, gNe_int, gEq_bl, gNe_bl, gEq_non, gNe_non, List.isEmpty_cons, List.isEmpty_nil]
      have hlt : a < sc.length := by simp at hl; omega
      have hcell : ∀ S, gIx (.fz (sc.map iG)) (.int (((a + 1 : Nat) : Int) - 1)) S = some (.int sc[a]) := fun S => by
        rw [show ((a + 1 : Nat) : Int) - 1 = ((a : Nat) : Int) by omega]
        show (match seqG S (.fz (sc.map iG)) with | some l => L2.atI l (a : Int) | none => none) = _
        simp only [seqG, atI_nat, List.getElem?_map, List.getElem?_eq_getElem hlt, Option.map_some]
        rfl
      refine wp_seq ?_
      simp only [nG, sSet, sRet, sRetN, sIf, sDrop, sNx, sBrk, sPar, sTg, sr_ok, rb_ok, ro_ok, so_ok, e1, e2, eA, eCl, eV, eC, eAnd, eOr, eNot, eIf, eCh, tV, tNot, tAnd, tOr, tYes, bof_bl, aNil, aCons, tgSet, setAll, lo0, bodyR_nx, bodyR_rt, R.wp_ok, SR.wp_nx, SR.wp_rt, SR.wp_bk, gAddA, gAdd, gSub, gLe, gLt, gGt, gGe, is_non, is_int, is_tup, is_bl, isn_non, isn_int, isn_tup, isn_bl, is_o, isn_o, gNeg, gTup1, gTup2, gTup3, gTup4, gTup5, gLst0, gLst1, gLst2, gLst3, eLstA0, List.length_cons, List.length_nil, List.map_cons, List.map_nil, List.cons_append, List.nil_append, List.replicate, Nat.sub_self, Nat.reduceSub, Nat.reduceAdd, List.getElem?_cons_zero, List.getElem?_cons_succ, List.set_cons_zero, List.set_cons_succ, Option.map_some, Bool.not_true, Bool.not_false, ite_true, ite_false, if_true, if_false, Bool.false_eq_true, gEq_int, gNe_int, gEq_bl, gNe_bl, gEq_non, gNe_non, List.isEmpty_cons, List.isEmpty_nil, row0, row1, hcell]
      refine wp_seq ?_
      simp only [nG, sSet, sRet, sRetN, sIf, sDrop, sNx, sBrk, sPar, sTg, sr_ok, rb_ok, ro_ok, so_ok, e1, e2, eA, eCl, eV, eC, eAnd, eOr, eNot, eIf, eCh, tV, tNot, tAnd, tOr, tYes, bof_bl, aNil, aCons, tgSet, setAll, lo0, bodyR_nx, bodyR_rt, R.wp_ok, SR.wp_nx, SR.wp_rt, SR.wp_bk, gAddA, gAdd, gSub, gLe, gLt, gGt, gGe, is_non, is_int, is_tup, is_bl, isn_non, isn_int, isn_tup, isn_bl, is_o, isn_o, gNeg, gTup1, gTup2, gTup3, gTup4, gTup5, gLst0, gLst1, gLst2, gLst3, eLstA0, List.length_cons, List.length_nil, List.map_cons, List.map_nil, List.cons_append, List.nil_append, List.replicate, Nat.sub_self, Nat.reduceSub, Nat.reduceAdd, List.getElem?_cons_zero, List.getElem?_cons_succ, List.set_cons_zero, List.set_cons_succ, Option.map_some, Bool.not_true, Bool.not_false, ite_true, ite_false, if_true, if_false, Bool.false_eq_true, gEq_int, gNe_int, gEq_bl, gNe_bl, gEq_non, gNe_non, List.isEmpty_cons, List.isEmpty_nil, sIxS, row2, q1, int_ok, m2, set2]
      refine wp_seq ?_
      simp only [nG, sSet, sRet, sRetN, sIf, sDrop, sNx, sBrk, sPar, sTg, sr_ok, rb_ok, ro_ok, so_ok, e1, e2, eA, eCl, eV, eC, eAnd, eOr, eNot, eIf, eCh, tV, tNot, tAnd, tOr, tYes, bof_bl, aNil, aCons, tgSet, setAll, lo0, bodyR_nx, bodyR_rt, R.wp_ok, SR.wp_nx, SR.wp_rt, SR.wp_bk, gAddA, gAdd, gSub, gLe, gLt, gGt, gGe, is_non, is_int, is_tup, is_bl, isn_non, isn_int, isn_tup, isn_bl, is_o, isn_o, gNeg, gTup1, gTup2, gTup3, gTup4, gTup5, gLst0, gLst1, gLst2, gLst3, eLstA0, List.length_cons, List.length_nil, List.map_cons, List.map_nil, List.cons_append, List.nil_append, List.replicate, Nat.sub_self, Nat.reduceSub, Nat.reduceAdd, List.getElem?_cons_zero, List.getElem?_cons_succ, List.set_cons_zero, List.set_cons_succ, Option.map_some, Bool.not_true, Bool.not_false, ite_true, ite_false, if_true, if_false, Bool.false_eq_true, gEq_int, gNe_int, gEq_bl, gNe_bl, gEq_non, gNe_non, List.isEmpty_cons, List.isEmpty_nil, pow_ok]
      by_cases hp : (10 : Int) ^ 18 ≤ sc[a]
      · simp only [hp, decide_true, nG, sSet, sRet, sRetN, sIf, sDrop, sNx, sBrk, sPar, sTg, sr_ok, rb_ok, ro_ok, so_ok, e1, e2, eA, eCl, eV, eC, eAnd, eOr, eNot, eIf, eCh, tV, tNot, tAnd, tOr, tYes, bof_bl, aNil, aCons, tgSet, setAll, lo0, bodyR_nx, bodyR_rt, R.wp_ok, SR.wp_nx, SR.wp_rt, SR.wp_bk, gAddA, gAdd, gSub, gLe, gLt, gGt, gGe, is_non, is_int, is_tup, is_bl, isn_non, isn_int, isn_tup, isn_bl, is_o, isn_o, gNeg, gTup1, gTup2, gTup3, gTup4, gTup5, gLst0, gLst1, gLst2, gLst3, eLstA0, List.length_cons, List.length_nil, List.map_cons, List.map_nil, List.cons_append, List.nil_append, List.replicate, Nat.sub_self, Nat.reduceSub, Nat.reduceAdd, List.getElem?_cons_zero, List.getElem?_cons_succ, List.set_cons_zero, List.set_cons_succ, Option.map_some, Bool.not_true, Bool.not_false, ite_true, ite_false, if_true, if_false, Bool.false_eq_true, gEq_int, gNe_int, gEq_bl, gNe_bl, gEq_non, gNe_non, List.isEmpty_cons, List.isEmpty_nil]
        refine wp_seq ?_
        simp only [nG, sSet, sRet, sRetN, sIf, sDrop, sNx, sBrk, sPar, sTg, sr_ok, rb_ok, ro_ok, so_ok, e1, e2, eA, eCl, eV, eC, eAnd, eOr, eNot, eIf, eCh, tV, tNot, tAnd, tOr, tYes, bof_bl, aNil, aCons, tgSet, setAll, lo0, bodyR_nx, bodyR_rt, R.wp_ok, SR.wp_nx, SR.wp_rt, SR.wp_bk, gAddA, gAdd, gSub, gLe, gLt, gGt, gGe, is_non, is_int, is_tup, is_bl, isn_non, isn_int, isn_tup, isn_bl, is_o, isn_o, gNeg, gTup1, gTup2, gTup3, gTup4, gTup5, gLst0, gLst1, gLst2, gLst3, eLstA0, List.length_cons, List.length_nil, List.map_cons, List.map_nil, List.cons_append, List.nil_append, List.replicate, Nat.sub_self, Nat.reduceSub, Nat.reduceAdd, List.getElem?_cons_zero, List.getElem?_cons_succ, List.set_cons_zero, List.set_cons_succ, Option.map_some, Bool.not_true, Bool.not_false, ite_true, ite_false, if_true, if_false, Bool.false_eq_true, gEq_int, gNe_int, gEq_bl, gNe_bl, gEq_non, gNe_non, List.isEmpty_cons, List.isEmpty_nil, sIxS, f1, set3]
        simp only [nG, sSet, sRet, sRetN, sIf, sDrop, sNx, sBrk, sPar, sTg, sr_ok, rb_ok, ro_ok, so_ok, e1, e2, eA, eCl, eV, eC, eAnd, eOr, eNot, eIf, eCh, tV, tNot, tAnd, tOr, tYes, bof_bl, aNil, aCons, tgSet, setAll, lo0, bodyR_nx, bodyR_rt, R.wp_ok, SR.wp_nx, SR.wp_rt, SR.wp_bk, gAddA, gAdd, gSub, gLe, gLt, gGt, gGe, is_non, is_int, is_tup, is_bl, isn_non, isn_int, isn_tup, isn_bl, is_o, isn_o, gNeg, gTup1, gTup2, gTup3, gTup4, gTup5, gLst0, gLst1, gLst2, gLst3, eLstA0, List.length_cons, List.length_nil, List.map_cons, List.map_nil, List.cons_append, List.nil_append, List.replicate, Nat.sub_self, Nat.reduceSub, Nat.reduceAdd, List.getElem?_cons_zero, List.getElem?_cons_succ, List.set_cons_zero, List.set_cons_succ, Option.map_some, Bool.not_true, Bool.not_false, ite_true, ite_false, if_true, if_false, Bool.false_eq_true, gEq_int, gNe_int, gEq_bl, gNe_bl, gEq_non, gNe_non, List.isEmpty_cons, List.isEmpty_nil, int_ok, m1]
        exact ⟨nat_of h0, _, _, _, _, rfl, by omega, by omega⟩
      · simp only [hp, decide_false, nG, sSet, sRet, sRetN, sIf, sDrop, sNx, sBrk, sPar, sTg, sr_ok, rb_ok, ro_ok, so_ok, e1, e2, eA, eCl, eV, eC, eAnd, eOr, eNot, eIf, eCh, tV, tNot, tAnd, tOr, tYes, bof_bl, aNil, aCons, tgSet, setAll, lo0, bodyR_nx, bodyR_rt, R.wp_ok, SR.wp_nx, SR.wp_rt, SR.wp_bk, gAddA, gAdd, gSub, gLe, gLt, gGt, gGe, is_non, is_int, is_tup, is_bl, isn_non, isn_int, isn_tup, isn_bl, is_o, isn_o, gNeg, gTup1, gTup2, gTup3, gTup4, gTup5, gLst0, gLst1, gLst2, gLst3, eLstA0, List.length_cons, List.length_nil, List.map_cons, List.map_nil, List.cons_append, List.nil_append, List.replicate, Nat.sub_self, Nat.reduceSub, Nat.reduceAdd, List.getElem?_cons_zero, List.getElem?_cons_succ, List.set_cons_zero, List.set_cons_succ, Option.map_some, Bool.not_true, Bool.not_false, ite_true, ite_false, if_true, if_false, Bool.false_eq_true, gEq_int, gNe_int, gEq_bl, gNe_bl, gEq_non, gNe_non, List.isEmpty_cons, List.isEmpty_nil]
        have q2 : ∀ {S : Sto}, gMulA (.int (sc[a] % 1000003)) (.int 31) S = some (.int (sc[a] % 1000003 * 31)) := mul_b (by omega) (by omega)
        simp only [nG, sSet, sRet, sRetN, sIf, sDrop, sNx, sBrk, sPar, sTg, sr_ok, rb_ok, ro_ok, so_ok, e1, e2, eA, eCl, eV, eC, eAnd, eOr, eNot, eIf, eCh, tV, tNot, tAnd, tOr, tYes, bof_bl, aNil, aCons, tgSet, setAll, lo0, bodyR_nx, bodyR_rt, R.wp_ok, SR.wp_nx, SR.wp_rt, SR.wp_bk, gAddA, gAdd, gSub, gLe, gLt, gGt, gGe, is_non, is_int, is_tup, is_bl, isn_non, isn_int, isn_tup, isn_bl, is_o, isn_o, gNeg, gTup1, gTup2, gTup3, gTup4, gTup5, gLst0, gLst1, gLst2, gLst3, eLstA0, List.length_cons, List.length_nil, List.map_cons, List.map_nil, List.cons_append, List.nil_append, List.replicate, Nat.sub_self, Nat.reduceSub, Nat.reduceAdd, List.getElem?_cons_zero, List.getElem?_cons_succ, List.set_cons_zero, List.set_cons_succ, Option.map_some, Bool.not_true, Bool.not_false, ite_true, ite_false, if_true, if_false, Bool.false_eq_true, gEq_int, gNe_int, gEq_bl, gNe_bl, gEq_non, gNe_non, List.isEmpty_cons, List.isEmpty_nil, int_ok, m3, q2, row2, f3, m1]
        exact ⟨nat_of h0, _, _, _, _, rfl, by omega, by omega⟩
/-- something of a list is picked -/
theorem pick_tl {Z : Sto} {xs : List G} (h : Row Z S) (h0 : 0 < xs.length) (h1 : xs.length ≤ 1000) :
    (callN tab (n + 2) (.fn "_law_pick") [.ref 0, .tl xs] S).wp fun g S' => (∃ k, k < xs.length ∧ xs[k]? = some g) ∧ Row Z S' := by
  obtain ⟨_, S1, e, ⟨k, hk, rfl⟩, hr⟩ := R.wp_iff.mp (taken_ok (n := n) h h0 h1)
  have hl : gLen [.tl xs] S = some (.int (xs.length : Nat)) := rfl
  have hi : gIx (.tl xs) (.int (k : Nat)) S1 = some xs[k] := ix_tl (List.getElem?_eq_getElem hk)
  rw [cn__law_pick (n + 1) _ _ rfl]
  refine wp_body ?_
  unfold sh__law_pick
  refine wp_ret ?_
  simp only [nG, sSet, sRet, sRetN, sIf, sDrop, sNx, sBrk, sPar, sTg, sr_ok, rb_ok, ro_ok, so_ok, e1, e2, eA, eCl, eV, eC, eAnd, eOr, eNot, eIf, eCh, tV, tNot, tAnd, tOr, tYes, bof_bl, aNil, aCons, tgSet, setAll, lo0, bodyR_nx, bodyR_rt, R.wp_ok, SR.wp_nx, SR.wp_rt, SR.wp_bk, gAddA, gAdd, gSub, gLe, gLt, gGt, gGe, is_non, is_int, is_tup, is_bl, isn_non, isn_int, isn_tup, isn_bl, is_o, isn_o, gNeg, gTup1, gTup2, gTup3, gTup4, gTup5, gLst0, gLst1, gLst2, gLst3, eLstA0, List.length_cons, List.length_nil, List.map_cons, List.map_nil, List.cons_append, List.nil_append, List.replicate, Nat.sub_self, Nat.reduceSub, Nat.reduceAdd, List.getElem?_cons_zero, List.getElem?_cons_succ, List.set_cons_zero, List.set_cons_succ, Option.map_some, Bool.not_true, Bool.not_false, ite_true, ite_false, if_true, if_false, Bool.false_eq_true, gEq_int, gNe_int, gEq_bl, gNe_bl, gEq_non, gNe_non, List.isEmpty_cons, List.isEmpty_nil, hl, e, hi]
  exact ⟨⟨k, hk, List.getElem?_eq_getElem hk⟩, hr⟩
theorem lstN {xs : List G} (h : xs.length ≤ 100000) : gLst xs S = some (.tl xs) := if_pos (sz _ h)
theorem tupN {xs : List G} (h : xs.length ≤ 100000) : gTup xs S = some (.tup xs) := if_pos (sz _ h)
/-! ### alike -/
theorem isi_tt_tup (l : List G) : gIsi isaT [.tup l, .tup [.ty "tuple", .ty "list"]] S = some (.bl true) := rfl
theorem isi_l_tup (l : List G) : gIsi isaT [.tup l, .ty "list"] S = some (.bl false) := rfl
theorem isi_tt_non : gIsi isaT [.non, .tup [.ty "tuple", .ty "list"]] S = some (.bl false) := rfl
theorem isi_tt_int (i : Int) : gIsi isaT [.int i, .tup [.ty "tuple", .ty "list"]] S = some (.bl false) := rfl
theorem isi_s_non : gIsi isaT [.non, .ty "str"] S = some (.bl false) := rfl
theorem isi_s_int (i : Int) : gIsi isaT [.int i, .ty "str"] S = some (.bl false) := rfl
theorem len_tup (l : List G) : gLen [.tup l] S = some (.int (l.length : Nat)) := rfl
theorem alike_int (i : Int) : callN tab (n + 1) (.fn "_law_alike") [.int i, .int i] S = .ok (.bl true) S := by
  rw [cn__law_alike n _ _ rfl]
  simp only [nG, sSeq, sSet, sRet, sRetN, sIf, sDrop, sNx, sBrk, sPar, sTg, sr_ok, rb_ok, ro_ok, so_ok, e1, e2, eA, eCl, eV, eC, eAnd, eOr, eNot, eIf, eCh, tV, tNot, tAnd, tOr, tYes, bof_bl, aNil, aCons, tgSet, setAll, lo0, bodyR_nx, bodyR_rt, R.wp_ok, SR.wp_nx, SR.wp_rt, SR.wp_bk, gAddA, gAdd, gSub, gLe, gLt, gGt, gGe, is_non, is_int, is_tup, is_bl, isn_non, isn_int, isn_tup, isn_bl, is_o, isn_o, gNeg, gTup1, gTup2, gTup3, gTup4, gTup5, gLst0, gLst1, gLst2, gLst3, eLstA0, List.length_cons, List.length_nil, List.map_cons, List.map_nil, List.cons_append, List.nil_append, List.replicate, Nat.sub_self, Nat.reduceSub, Nat.reduceAdd, List.getElem?_cons_zero, List.getElem?_cons_succ, List.set_cons_zero, List.set_cons_succ, Option.map_some, Bool.not_true, Bool.not_false, ite_true, ite_false, if_true, if_false, Bool.false_eq_true, gEq_int, gNe_int, gEq_bl, gNe_bl, gEq_non, gNe_non, List.isEmpty_cons, List.isEmpty_nil, sh__law_alike, isi_tt_int, isi_s_int, isi_int_int, isi_int_bool, decide_true]
theorem alike_non : callN tab (n + 1) (.fn "_law_alike") [.non, .non] S = .ok (.bl true) S := by
  rw [cn__law_alike n _ _ rfl]
  simp only [nG, sSeq, sSet, sRet, sRetN, sIf, sDrop, sNx, sBrk, sPar, sTg, sr_ok, rb_ok, ro_ok, so_ok, e1, e2, eA, eCl, eV, eC, eAnd, eOr, eNot, eIf, eCh, tV, tNot, tAnd, tOr, tYes, bof_bl, aNil, aCons, tgSet, setAll, lo0, bodyR_nx, bodyR_rt, R.wp_ok, SR.wp_nx, SR.wp_rt, SR.wp_bk, gAddA, gAdd, gSub, gLe, gLt, gGt, gGe, is_non, is_int, is_tup, is_bl, isn_non, isn_int, isn_tup, isn_bl, is_o, isn_o, gNeg, gTup1, gTup2, gTup3, gTup4, gTup5, gLst0, gLst1, gLst2, gLst3, eLstA0, List.length_cons, List.length_nil, List.map_cons, List.map_nil, List.cons_append, List.nil_append, List.replicate, Nat.sub_self, Nat.reduceSub, Nat.reduceAdd, List.getElem?_cons_zero, List.getElem?_cons_succ, List.set_cons_zero, List.set_cons_succ, Option.map_some, Bool.not_true, Bool.not_false, ite_true, ite_false, if_true, if_false, Bool.false_eq_true, gEq_int, gNe_int, gEq_bl, gNe_bl, gEq_non, gNe_non, List.isEmpty_cons, List.isEmpty_nil, sh__law_alike, isi_tt_non, isi_s_non, decide_true]
theorem alike_bl (b : Bool) : callN tab (n + 1) (.fn "_law_alike") [.bl b, .bl b] S = .ok (.bl true) S := by
  rw [cn__law_alike n _ _ rfl]
  have h1 : gIsi isaT [.bl b, .tup [.ty "tuple", .ty "list"]] S = some (.bl false) := rfl
  have h2 : gIsi isaT [.bl b, .ty "str"] S = some (.bl false) := rfl
  have h3 : gIsi isaT [.bl b, .ty "int"] S = some (.bl true) := rfl
  have h4 : gIsi isaT [.bl b, .ty "bool"] S = some (.bl true) := rfl
  have h5 : gIs (.bl b) .non S = some (.bl false) := rfl
  simp only [nG, sSeq, sSet, sRet, sRetN, sIf, sDrop, sNx, sBrk, sPar, sTg, sr_ok, rb_ok, ro_ok, so_ok, e1, e2, eA, eCl, eV, eC, eAnd, eOr, eNot, eIf, eCh, tV, tNot, tAnd, tOr, tYes, bof_bl, aNil, aCons, tgSet, setAll, lo0, bodyR_nx, bodyR_rt, R.wp_ok, SR.wp_nx, SR.wp_rt, SR.wp_bk, gAddA, gAdd, gSub, gLe, gLt, gGt, gGe, is_non, is_int, is_tup, is_bl, isn_non, isn_int, isn_tup, isn_bl, is_o, isn_o, gNeg, gTup1, gTup2, gTup3, gTup4, gTup5, gLst0, gLst1, gLst2, gLst3, eLstA0, List.length_cons, List.length_nil, List.map_cons, List.map_nil, List.cons_append, List.nil_append, List.replicate, Nat.sub_self, Nat.reduceSub, Nat.reduceAdd, List.getElem?_cons_zero, List.getElem?_cons_succ, List.set_cons_zero, List.set_cons_succ, Option.map_some, Bool.not_true, Bool.not_false, ite_true, ite_false, if_true, if_false, Bool.false_eq_true, gEq_int, gNe_int, gEq_bl, gNe_bl, gEq_non, gNe_non, List.isEmpty_cons, List.isEmpty_nil, sh__law_alike, h1, h2, h3, h4, h5, decide_true]
theorem alike_tl {l : List G} (hl : l.length ≤ 1000) (h : ∀ x ∈ l, callN tab n (.fn "_law_alike") [x, x] S = .ok (.bl true) S) : callN tab (n + 1) (.fn "_law_alike") [.tl l, .tl l] S = .ok (.bl true) S := by
  rw [cn__law_alike n _ _ rfl]
  have i1 : gIsi isaT [.tl l, .tup [.ty "tuple", .ty "list"]] S = some (.bl true) := rfl
  have i2 : gIsi isaT [.tl l, .ty "list"] S = some (.bl true) := rfl
  have i3 : gLen [.tl l] S = some (.int (l.length : Nat)) := rfl
  refine R_ok_of ?_
  unfold sh__law_alike
  refine wp_seq ?_
  simp only [nG, sSet, sRet, sRetN, sIf, sDrop, sNx, sBrk, sPar, sTg, sr_ok, rb_ok, ro_ok, so_ok, e1, e2, eA, eCl, eV, eC, eAnd, eOr, eNot, eIf, eCh, tV, tNot, tAnd, tOr, tYes, bof_bl, aNil, aCons, tgSet, setAll, lo0, bodyR_nx, bodyR_rt, R.wp_ok, SR.wp_nx, SR.wp_rt, SR.wp_bk, gAddA, gAdd, gSub, gLe, gLt, gGt, gGe, is_non, is_int, is_tup, is_bl, isn_non, isn_int, isn_tup, isn_bl, is_o, isn_o, gNeg, gTup1, gTup2, gTup3, gTup4, gTup5, gLst0, gLst1, gLst2, gLst3, eLstA0, List.length_cons, List.length_nil, List.map_cons, List.map_nil, List.cons_append, List.nil_append, List.replicate, Nat.sub_self, Nat.reduceSub, Nat.reduceAdd, List.getElem?_cons_zero, List.getElem?_cons_succ, List.set_cons_zero, List.set_cons_succ, Option.map_some, Bool.not_true, Bool.not_false, ite_true, ite_false, if_true, if_false, Bool.false_eq_true, gEq_int, gNe_int, gEq_bl, gNe_bl, gEq_non, gNe_non, List.isEmpty_cons, List.isEmpty_nil, i1]
  refine wp_seq ?_
  simp only [nG, sSet, sRet, sRetN, sIf, sDrop, sNx, sBrk, sPar, sTg, sr_ok, rb_ok, ro_ok, so_ok, e1, e2, eA, eCl, eV, eC, eAnd, eOr, eNot, eIf, eCh, tV, tNot, tAnd, tOr, tYes, bof_bl, aNil, aCons, tgSet, setAll, lo0, bodyR_nx, bodyR_rt, R.wp_ok, SR.wp_nx, SR.wp_rt, SR.wp_bk, gAddA, gAdd, gSub, gLe, gLt, gGt, gGe, is_non, is_int, is_tup, is_bl, isn_non, isn_int, isn_tup, isn_bl, is_o, isn_o, gNeg, gTup1, gTup2, gTup3, gTup4, gTup5, gLst0, gLst1, gLst2, gLst3, eLstA0, List.length_cons, List.length_nil, List.map_cons, List.map_nil, List.cons_append, List.nil_append, List.replicate, Nat.sub_self, Nat.reduceSub, Nat.reduceAdd, List.getElem?_cons_zero, List.getElem?_cons_succ, List.set_cons_zero, List.set_cons_succ, Option.map_some, Bool.not_true, Bool.not_false, ite_true, ite_false, if_true, if_false, Bool.false_eq_true, gEq_int, gNe_int, gEq_bl, gNe_bl, gEq_non, gNe_non, List.isEmpty_cons, List.isEmpty_nil, i1, i2, decide_true]
  refine wp_seq ?_
  simp only [nG, sSet, sRet, sRetN, sIf, sDrop, sNx, sBrk, sPar, sTg, sr_ok, rb_ok, ro_ok, so_ok, e1, e2, eA, eCl, eV, eC, eAnd, eOr, eNot, eIf, eCh, tV, tNot, tAnd, tOr, tYes, bof_bl, aNil, aCons, tgSet, setAll, lo0, bodyR_nx, bodyR_rt, R.wp_ok, SR.wp_nx, SR.wp_rt, SR.wp_bk, gAddA, gAdd, gSub, gLe, gLt, gGt, gGe, is_non, is_int, is_tup, is_bl, isn_non, isn_int, isn_tup, isn_bl, is_o, isn_o, gNeg, gTup1, gTup2, gTup3, gTup4, gTup5, gLst0, gLst1, gLst2, gLst3, eLstA0, List.length_cons, List.length_nil, List.map_cons, List.map_nil, List.cons_append, List.nil_append, List.replicate, Nat.sub_self, Nat.reduceSub, Nat.reduceAdd, List.getElem?_cons_zero, List.getElem?_cons_succ, List.set_cons_zero, List.set_cons_succ, Option.map_some, Bool.not_true, Bool.not_false, ite_true, ite_false, if_true, if_false, Bool.false_eq_true, gEq_int, gNe_int, gEq_bl, gNe_bl, gEq_non, gNe_non, List.isEmpty_cons, List.isEmpty_nil, i3, decide_true]
  rw [eLc_map (c := nG) (L := List.range l.length) (p := fun _ => false) (f := fun _ => .non) (itR1_nat (by simp only [nG, sSeq, sSet, sRet, sRetN, sIf, sDrop, sNx, sBrk, sPar, sTg, sr_ok, rb_ok, ro_ok, so_ok, e1, e2, eA, eCl, eV, eC, eAnd, eOr, eNot, eIf, eCh, tV, tNot, tAnd, tOr, tYes, bof_bl, aNil, aCons, tgSet, setAll, lo0, bodyR_nx, bodyR_rt, R.wp_ok, SR.wp_nx, SR.wp_rt, SR.wp_bk, gAddA, gAdd, gSub, gLe, gLt, gGt, gGe, is_non, is_int, is_tup, is_bl, isn_non, isn_int, isn_tup, isn_bl, is_o, isn_o, gNeg, gTup1, gTup2, gTup3, gTup4, gTup5, gLst0, gLst1, gLst2, gLst3, eLstA0, List.length_cons, List.length_nil, List.map_cons, List.map_nil, List.cons_append, List.nil_append, List.replicate, Nat.sub_self, Nat.reduceSub, Nat.reduceAdd, List.getElem?_cons_zero, List.getElem?_cons_succ, List.set_cons_zero, List.set_cons_succ, Option.map_some, Bool.not_true, Bool.not_false, ite_true, ite_false, if_true, if_false, Bool.false_eq_true, gEq_int, gNe_int, gEq_bl, gNe_bl, gEq_non, gNe_non, List.isEmpty_cons, List.isEmpty_nil, i3]) (by omega)) fun k hk => ⟨_, rfl, by
    have hk := List.mem_range.mp hk
    have hi : gIx (.tl l) (.int (k : Nat)) S = some l[k] := ix_tl (List.getElem?_eq_getElem hk)
    simp only [nG, sSeq, sSet, sRet, sRetN, sIf, sDrop, sNx, sBrk, sPar, sTg, sr_ok, rb_ok, ro_ok, so_ok, e1, e2, eA, eCl, eV, eC, eAnd, eOr, eNot, eIf, eCh, tV, tNot, tAnd, tOr, tYes, bof_bl, aNil, aCons, tgSet, setAll, lo0, bodyR_nx, bodyR_rt, R.wp_ok, SR.wp_nx, SR.wp_rt, SR.wp_bk, gAddA, gAdd, gSub, gLe, gLt, gGt, gGe, is_non, is_int, is_tup, is_bl, isn_non, isn_int, isn_tup, isn_bl, is_o, isn_o, gNeg, gTup1, gTup2, gTup3, gTup4, gTup5, gLst0, gLst1, gLst2, gLst3, eLstA0, List.length_cons, List.length_nil, List.map_cons, List.map_nil, List.cons_append, List.nil_append, List.replicate, Nat.sub_self, Nat.reduceSub, Nat.reduceAdd, List.getElem?_cons_zero, List.getElem?_cons_succ, List.set_cons_zero, List.set_cons_succ, Option.map_some, Bool.not_true, Bool.not_false, ite_true, ite_false, if_true, if_false, Bool.false_eq_true, gEq_int, gNe_int, gEq_bl, gNe_bl, gEq_non, gNe_non, List.isEmpty_cons, List.isEmpty_nil, wipeL, hi, h _ (List.getElem_mem hk)], fun h => by cases h⟩]
  have he : gEq (.tl []) (.tl []) S = some (.bl true) := gEq_tl S []
  rw [List.filter_eq_nil_iff.mpr (fun _ _ h => by cases h)]
  simp only [nG, sSet, sRet, sRetN, sIf, sDrop, sNx, sBrk, sPar, sTg, sr_ok, rb_ok, ro_ok, so_ok, e1, e2, eA, eCl, eV, eC, eAnd, eOr, eNot, eIf, eCh, tV, tNot, tAnd, tOr, tYes, bof_bl, aNil, aCons, tgSet, setAll, lo0, bodyR_nx, bodyR_rt, R.wp_ok, SR.wp_nx, SR.wp_rt, SR.wp_bk, gAddA, gAdd, gSub, gLe, gLt, gGt, gGe, is_non, is_int, is_tup, is_bl, isn_non, isn_int, isn_tup, isn_bl, is_o, isn_o, gNeg, gTup1, gTup2, gTup3, gTup4, gTup5, gLst0, gLst1, gLst2, gLst3, eLstA0, List.length_cons, List.length_nil, List.map_cons, List.map_nil, List.cons_append, List.nil_append, List.replicate, Nat.sub_self, Nat.reduceSub, Nat.reduceAdd, List.getElem?_cons_zero, List.getElem?_cons_succ, List.set_cons_zero, List.set_cons_succ, Option.map_some, Bool.not_true, Bool.not_false, ite_true, ite_false, if_true, if_false, Bool.false_eq_true, gEq_int, gNe_int, gEq_bl, gNe_bl, gEq_non, gNe_non, List.isEmpty_cons, List.isEmpty_nil, he]
  exact ⟨trivial, trivial⟩
theorem alike_tup {l : List G} (hl : l.length ≤ 1000) (h : ∀ x ∈ l, callN tab n (.fn "_law_alike") [x, x] S = .ok (.bl true) S) : callN tab (n + 1) (.fn "_law_alike") [.tup l, .tup l] S = .ok (.bl true) S := by
  rw [cn__law_alike n _ _ rfl]
  refine R_ok_of ?_
  unfold sh__law_alike
  refine wp_seq ?_
  simp only [nG, sSet, sRet, sRetN, sIf, sDrop, sNx, sBrk, sPar, sTg, sr_ok, rb_ok, ro_ok, so_ok, e1, e2, eA, eCl, eV, eC, eAnd, eOr, eNot, eIf, eCh, tV, tNot, tAnd, tOr, tYes, bof_bl, aNil, aCons, tgSet, setAll, lo0, bodyR_nx, bodyR_rt, R.wp_ok, SR.wp_nx, SR.wp_rt, SR.wp_bk, gAddA, gAdd, gSub, gLe, gLt, gGt, gGe, is_non, is_int, is_tup, is_bl, isn_non, isn_int, isn_tup, isn_bl, is_o, isn_o, gNeg, gTup1, gTup2, gTup3, gTup4, gTup5, gLst0, gLst1, gLst2, gLst3, eLstA0, List.length_cons, List.length_nil, List.map_cons, List.map_nil, List.cons_append, List.nil_append, List.replicate, Nat.sub_self, Nat.reduceSub, Nat.reduceAdd, List.getElem?_cons_zero, List.getElem?_cons_succ, List.set_cons_zero, List.set_cons_succ, Option.map_some, Bool.not_true, Bool.not_false, ite_true, ite_false, if_true, if_false, Bool.false_eq_true, gEq_int, gNe_int, gEq_bl, gNe_bl, gEq_non, gNe_non, List.isEmpty_cons, List.isEmpty_nil, isi_tt_tup]
  refine wp_seq ?_
  simp only [nG, sSet, sRet, sRetN, sIf, sDrop, sNx, sBrk, sPar, sTg, sr_ok, rb_ok, ro_ok, so_ok, e1, e2, eA, eCl, eV, eC, eAnd, eOr, eNot, eIf, eCh, tV, tNot, tAnd, tOr, tYes, bof_bl, aNil, aCons, tgSet, setAll, lo0, bodyR_nx, bodyR_rt, R.wp_ok, SR.wp_nx, SR.wp_rt, SR.wp_bk, gAddA, gAdd, gSub, gLe, gLt, gGt, gGe, is_non, is_int, is_tup, is_bl, isn_non, isn_int, isn_tup, isn_bl, is_o, isn_o, gNeg, gTup1, gTup2, gTup3, gTup4, gTup5, gLst0, gLst1, gLst2, gLst3, eLstA0, List.length_cons, List.length_nil, List.map_cons, List.map_nil, List.cons_append, List.nil_append, List.replicate, Nat.sub_self, Nat.reduceSub, Nat.reduceAdd, List.getElem?_cons_zero, List.getElem?_cons_succ, List.set_cons_zero, List.set_cons_succ, Option.map_some, Bool.not_true, Bool.not_false, ite_true, ite_false, if_true, if_false, Bool.false_eq_true, gEq_int, gNe_int, gEq_bl, gNe_bl, gEq_non, gNe_non, List.isEmpty_cons, List.isEmpty_nil, isi_tt_tup, isi_l_tup, decide_true]
  refine wp_seq ?_
  simp only [nG, sSet, sRet, sRetN, sIf, sDrop, sNx, sBrk, sPar, sTg, sr_ok, rb_ok, ro_ok, so_ok, e1, e2, eA, eCl, eV, eC, eAnd, eOr, eNot, eIf, eCh, tV, tNot, tAnd, tOr, tYes, bof_bl, aNil, aCons, tgSet, setAll, lo0, bodyR_nx, bodyR_rt, R.wp_ok, SR.wp_nx, SR.wp_rt, SR.wp_bk, gAddA, gAdd, gSub, gLe, gLt, gGt, gGe, is_non, is_int, is_tup, is_bl, isn_non, isn_int, isn_tup, isn_bl, is_o, isn_o, gNeg, gTup1, gTup2, gTup3, gTup4, gTup5, gLst0, gLst1, gLst2, gLst3, eLstA0, List.length_cons, List.length_nil, List.map_cons, List.map_nil, List.cons_append, List.nil_append, List.replicate, Nat.sub_self, Nat.reduceSub, Nat.reduceAdd, List.getElem?_cons_zero, List.getElem?_cons_succ, List.set_cons_zero, List.set_cons_succ, Option.map_some, Bool.not_true, Bool.not_false, ite_true, ite_false, if_true, if_false, Bool.false_eq_true, gEq_int, gNe_int, gEq_bl, gNe_bl, gEq_non, gNe_non, List.isEmpty_cons, List.isEmpty_nil, len_tup, decide_true]
  rw [eLc_map (c := nG) (L := List.range l.length) (p := fun _ => false) (f := fun _ => .non) (itR1_nat (by simp only [nG, sSeq, sSet, sRet, sRetN, sIf, sDrop, sNx, sBrk, sPar, sTg, sr_ok, rb_ok, ro_ok, so_ok, e1, e2, eA, eCl, eV, eC, eAnd, eOr, eNot, eIf, eCh, tV, tNot, tAnd, tOr, tYes, bof_bl, aNil, aCons, tgSet, setAll, lo0, bodyR_nx, bodyR_rt, R.wp_ok, SR.wp_nx, SR.wp_rt, SR.wp_bk, gAddA, gAdd, gSub, gLe, gLt, gGt, gGe, is_non, is_int, is_tup, is_bl, isn_non, isn_int, isn_tup, isn_bl, is_o, isn_o, gNeg, gTup1, gTup2, gTup3, gTup4, gTup5, gLst0, gLst1, gLst2, gLst3, eLstA0, List.length_cons, List.length_nil, List.map_cons, List.map_nil, List.cons_append, List.nil_append, List.replicate, Nat.sub_self, Nat.reduceSub, Nat.reduceAdd, List.getElem?_cons_zero, List.getElem?_cons_succ, List.set_cons_zero, List.set_cons_succ, Option.map_some, Bool.not_true, Bool.not_false, ite_true, ite_false, if_true, if_false, Bool.false_eq_true, gEq_int, gNe_int, gEq_bl, gNe_bl, gEq_non, gNe_non, List.isEmpty_cons, List.isEmpty_nil, len_tup]) (by omega)) fun k hk => ⟨_, rfl, by
    have hk := List.mem_range.mp hk
    have hi : gIx (.tup l) (.int (k : Nat)) S = some l[k] := ix_tup (List.getElem?_eq_getElem hk)
    simp only [nG, sSeq, sSet, sRet, sRetN, sIf, sDrop, sNx, sBrk, sPar, sTg, sr_ok, rb_ok, ro_ok, so_ok, e1, e2, eA, eCl, eV, eC, eAnd, eOr, eNot, eIf, eCh, tV, tNot, tAnd, tOr, tYes, bof_bl, aNil, aCons, tgSet, setAll, lo0, bodyR_nx, bodyR_rt, R.wp_ok, SR.wp_nx, SR.wp_rt, SR.wp_bk, gAddA, gAdd, gSub, gLe, gLt, gGt, gGe, is_non, is_int, is_tup, is_bl, isn_non, isn_int, isn_tup, isn_bl, is_o, isn_o, gNeg, gTup1, gTup2, gTup3, gTup4, gTup5, gLst0, gLst1, gLst2, gLst3, eLstA0, List.length_cons, List.length_nil, List.map_cons, List.map_nil, List.cons_append, List.nil_append, List.replicate, Nat.sub_self, Nat.reduceSub, Nat.reduceAdd, List.getElem?_cons_zero, List.getElem?_cons_succ, List.set_cons_zero, List.set_cons_succ, Option.map_some, Bool.not_true, Bool.not_false, ite_true, ite_false, if_true, if_false, Bool.false_eq_true, gEq_int, gNe_int, gEq_bl, gNe_bl, gEq_non, gNe_non, List.isEmpty_cons, List.isEmpty_nil, wipeL, hi, h _ (List.getElem_mem hk)], fun h => by cases h⟩]
  have he : gEq (.tl []) (.tl []) S = some (.bl true) := gEq_tl S []
  rw [List.filter_eq_nil_iff.mpr (fun _ _ h => by cases h)]
  simp only [nG, sSet, sRet, sRetN, sIf, sDrop, sNx, sBrk, sPar, sTg, sr_ok, rb_ok, ro_ok, so_ok, e1, e2, eA, eCl, eV, eC, eAnd, eOr, eNot, eIf, eCh, tV, tNot, tAnd, tOr, tYes, bof_bl, aNil, aCons, tgSet, setAll, lo0, bodyR_nx, bodyR_rt, R.wp_ok, SR.wp_nx, SR.wp_rt, SR.wp_bk, gAddA, gAdd, gSub, gLe, gLt, gGt, gGe, is_non, is_int, is_tup, is_bl, isn_non, isn_int, isn_tup, isn_bl, is_o, isn_o, gNeg, gTup1, gTup2, gTup3, gTup4, gTup5, gLst0, gLst1, gLst2, gLst3, eLstA0, List.length_cons, List.length_nil, List.map_cons, List.map_nil, List.cons_append, List.nil_append, List.replicate, Nat.sub_self, Nat.reduceSub, Nat.reduceAdd, List.getElem?_cons_zero, List.getElem?_cons_succ, List.set_cons_zero, List.set_cons_succ, Option.map_some, Bool.not_true, Bool.not_false, ite_true, ite_false, if_true, if_false, Bool.false_eq_true, gEq_int, gNe_int, gEq_bl, gNe_bl, gEq_non, gNe_non, List.isEmpty_cons, List.isEmpty_nil, he]
  exact ⟨trivial, trivial⟩
/-! the exceptions told -/
theorem told_of {ln k : Nat} {cap : List G} {c : Str} {fs : List (Str × G)} {g : G} {S1 : Sto} (h : callN tab (n + 1) (.la ln 1) cap S = .exc c fs S1) (hc : xT.cls.contains c = true) (hi : xT.is c xT.top = true)
    (hr : callN tab (n + 1) (.fh "_law_refusal") [.hx c fs] S1 = .ok g S1) (hn : noHx g = true) : callN tab (n + 2) (.fc "_law_told") [.clo ln (k + 1) cap] S = .ok g S1 := by
  rw [cn_fc__law_told (n + 1) _ _ rfl]
  unfold sh_fc__law_told
  rw [show ([G.clo ln (k + 1) cap].getLastD .non) = .clo ln (k + 1) cap from rfl, sTold_exc (c := c) (fs := fs) (l' := lo0 2 [.clo ln (k + 1) cap]) (S' := S1) (g := g) ?_ hc hi (Nat.lt_succ_self 1) hr hn]
  · rfl
  · have he : eClC (.clo ln (k + 1) cap) (callN tab (n + 1)) 0 aNil (lo0 2 [.clo ln (k + 1) cap]) S = .exc c fs S1 := by
      rw [eClC_eq rfl]
      exact h
    simp only [sRet, eA, aCons, eC, rb_ok, he, rb_exc, sr_exc]
/-- .. and nothing raised -/
theorem told_ok {ln k : Nat} {cap : List G} {g : G} {S' : Sto} (h : callN tab (n + 1) (.la ln 1) cap S = .ok g S') : callN tab (n + 2) (.fc "_law_told") [.clo ln (k + 1) cap] S = .ok (.tup [.str "told", g]) S' := by
  rw [cn_fc__law_told (n + 1) _ _ rfl]
  unfold sh_fc__law_told
  rw [show ([G.clo ln (k + 1) cap].getLastD .non) = .clo ln (k + 1) cap from rfl, sTold_rt (g := .tup [.str "told", g]) (S' := S') ?_]
  · rfl
  · have he : eClC (.clo ln (k + 1) cap) (callN tab (n + 1)) 0 aNil (lo0 2 [.clo ln (k + 1) cap]) S = .ok g S' := by
      rw [eClC_eq rfl]
      exact h
    simp only [sRet, eA, aCons, aNil, eC, rb_ok, he, gTup2, ro_ok, sr_ok]
theorem same_refl {x : G} (h : (gShown S x).isSome = true) : callN tab (n + 1) (.fn "_law_same") [x, x] S = .ok (.bl true) S := by
  obtain ⟨z, hz⟩ := Option.isSome_iff_exists.mp h
  have hr : gRepr [x] S = some (.str z) := by
    show (gShown S x).map G.str = _
    rw [hz]; rfl
  rw [cn__law_same n _ _ rfl]
  have he : gEq (.str z) (.str z) S = some (.bl true) := by
    show some (G.bl (decide (z = z))) = _
    simp
  simp only [nG, sSeq, sSet, sRet, sRetN, sIf, sDrop, sNx, sBrk, sPar, sTg, sr_ok, rb_ok, ro_ok, so_ok, e1, e2, eA, eCl, eV, eC, eAnd, eOr, eNot, eIf, eCh, tV, tNot, tAnd, tOr, tYes, bof_bl, aNil, aCons, tgSet, setAll, lo0, bodyR_nx, bodyR_rt, R.wp_ok, SR.wp_nx, SR.wp_rt, SR.wp_bk, gAddA, gAdd, gSub, gLe, gLt, gGt, gGe, is_non, is_int, is_tup, is_bl, isn_non, isn_int, isn_tup, isn_bl, is_o, isn_o, gNeg, gTup1, gTup2, gTup3, gTup4, gTup5, gLst0, gLst1, gLst2, gLst3, eLstA0, List.length_cons, List.length_nil, List.map_cons, List.map_nil, List.cons_append, List.nil_append, List.replicate, Nat.sub_self, Nat.reduceSub, Nat.reduceAdd, List.getElem?_cons_zero, List.getElem?_cons_succ, List.set_cons_zero, List.set_cons_succ, Option.map_some, Bool.not_true, Bool.not_false, ite_true, ite_false, if_true, if_false, Bool.false_eq_true, gEq_int, gNe_int, gEq_bl, gNe_bl, gEq_non, gNe_non, List.isEmpty_cons, List.isEmpty_nil, sh__law_same, hr, he]
/-- the values of all kinds -/
def oddL : List G := [.non, .bl true, .bl false, .int (-1), .int (10 ^ 30), .str "", .str "A", .str "a1", .str "abcdefghi", .tl [], .tl [.int 1], .td [], .td [(G.str "a", G.int 1)], .str "a b", .int 61, .str "-"]
theorem pow_10 {k : Nat} (hk : k ≤ 1000) : gPow (.int 10) (.int (k : Nat)) S = some (.int (10 ^ k)) := by
  have h1 := big_eq
  have h2 := b64_eq
  show (if (0 : Int) ≤ (k : Int) ∧ (k : Int) ≤ big ∧ (((10 : Int).natAbs : Nat) : Int) < b64 then some (G.int (10 ^ (k : Int).toNat)) else none) = _
  rw [if_pos ⟨by omega, by omega, by rw [h2]; decide⟩, Int.toNat_natCast]
theorem odd_ok {Z : Sto} (h : Row Z S) : (callN tab (n + 3) (.fn "_law_odd") [.ref 0] S).wp fun g S' => g ∈ oddL ∧ Row Z S' := by
  rw [cn__law_odd (n + 2) _ _ rfl]
  refine wp_body ?_
  unfold sh__law_odd
  refine wp_seq (wp_set ?_)
  have hp : gPow (.int 10) (.int 30) S = some (.int (10 ^ 30)) := pow_10 (k := 30) (by omega)
  have hl : gLst oddL S = some (.tl oddL) := lstN (by decide)
  have ho : ∀ l, (eA gLst (aCons (eC .non) (aCons (eC (.bl true)) (aCons (eC (.bl false)) (aCons (e1 gNeg (eC (.int 1))) (aCons (e2 gPow (eC (.int 10)) (eC (.int 30))) (aCons (eC (.str "")) (aCons (eC (.str "A")) (aCons (eC (.str "a1")) (aCons (eC (.str "abcdefghi")) (aCons (eA gLst aNil) (aCons (eA gLst (aCons (eC (.int 1)) aNil)) (aCons eTd0 (aCons (eTd1 "a" 1) (aCons (eC (.str "a b")) (aCons (eC (.int 61)) (aCons (eC (.str "-")) aNil))))))))))))))))) l S = .ok (.tl oddL) S := fun l => by
    simp only [eA, aCons, aNil, eC, e1, e2, eTd0, eTd1, gNeg, hp, rb_ok, ro_ok, gLst0, gLst1]
    rw [show ([G.non, .bl true, .bl false, .int (-1), .int (10 ^ 30), .str "", .str "A", .str "a1", .str "abcdefghi", .tl [], .tl [.int 1], .td [], .td [(G.str "a", G.int 1)], .str "a b", .int 61, .str "-"] : List G) = oddL from rfl, hl, ro_ok]
  rw [ho, R.wp_ok]
  obtain ⟨_, S1, e, ⟨k, hk, hg⟩, hr⟩ := R.wp_iff.mp (pick_tl (n := n) (xs := oddL) h (by decide) (by decide))
  refine wp_ret ?_
  simp only [nG, sSet, sRet, sRetN, sIf, sDrop, sNx, sBrk, sPar, sTg, sr_ok, rb_ok, ro_ok, so_ok, e1, e2, eA, eCl, eV, eC, eAnd, eOr, eNot, eIf, eCh, tV, tNot, tAnd, tOr, tYes, bof_bl, aNil, aCons, tgSet, setAll, lo0, bodyR_nx, bodyR_rt, R.wp_ok, SR.wp_nx, SR.wp_rt, SR.wp_bk, gAddA, gAdd, gSub, gLe, gLt, gGt, gGe, is_non, is_int, is_tup, is_bl, isn_non, isn_int, isn_tup, isn_bl, is_o, isn_o, gNeg, gTup1, gTup2, gTup3, gTup4, gTup5, gLst0, gLst1, gLst2, gLst3, eLstA0, List.length_cons, List.length_nil, List.map_cons, List.map_nil, List.cons_append, List.nil_append, List.replicate, Nat.sub_self, Nat.reduceSub, Nat.reduceAdd, List.getElem?_cons_zero, List.getElem?_cons_succ, List.set_cons_zero, List.set_cons_succ, Option.map_some, Bool.not_true, Bool.not_false, ite_true, ite_false, if_true, if_false, Bool.false_eq_true, gEq_int, gNe_int, gEq_bl, gNe_bl, gEq_non, gNe_non, List.isEmpty_cons, List.isEmpty_nil, e]
  exact ⟨List.mem_of_getElem? hg, hr⟩
/-! rules -/
abbrev Rule := List (Nat × Nat)
def prG (p : Nat × Nat) : G := .tup [nG p.1, nG p.2]
def ruG (r : Rule) : G := .tup (r.map prG)
structure ROk (r : Rule) : Prop where
  len : r.length ≤ 5
  lv : ∀ p ∈ r, 1 ≤ p.1 ∧ p.1 ≤ 9 ∧ p.2 ≤ 9
  inc : r.Pairwise fun p q => p.1 < q.1
theorem prG_ix0 (p : Nat × Nat) : gIx (prG p) (.int 0) S = some (nG p.1) := rfl
theorem prG_ix1 (p : Nat × Nat) : gIx (prG p) (.int 1) S = some (nG p.2) := rfl
theorem ix_tup_last {l : List G} {x : G} : gIx (.tup (l ++ [x])) (.int (-1)) S = some x := by
  show L2.atI (l ++ [x]) (-1) = some x
  exact atI_last
theorem is_pair_row {g a : G} (h : callN tab (n + 2) (.fn "is_row") [g, .int 2] S = .ok (.bl false) S) : callN tab (n + 3) (.fn "is_pair") [g, a] S = .ok (.bl false) S := by
  rw [cn_is_pair (n + 2) _ _ rfl]
  simp only [nG, sSeq, sSet, sRet, sRetN, sIf, sDrop, sNx, sBrk, sPar, sTg, sr_ok, rb_ok, ro_ok, so_ok, e1, e2, eA, eCl, eV, eC, eAnd, eOr, eNot, eIf, eCh, tV, tNot, tAnd, tOr, tYes, bof_bl, aNil, aCons, tgSet, setAll, lo0, bodyR_nx, bodyR_rt, R.wp_ok, SR.wp_nx, SR.wp_rt, SR.wp_bk, gAddA, gAdd, gSub, gLe, gLt, gGt, gGe, is_non, is_int, is_tup, is_bl, isn_non, isn_int, isn_tup, isn_bl, is_o, isn_o, gNeg, gTup1, gTup2, gTup3, gTup4, gTup5, gLst0, gLst1, gLst2, gLst3, eLstA0, List.length_cons, List.length_nil, List.map_cons, List.map_nil, List.cons_append, List.nil_append, List.replicate, Nat.sub_self, Nat.reduceSub, Nat.reduceAdd, List.getElem?_cons_zero, List.getElem?_cons_succ, List.set_cons_zero, List.set_cons_succ, Option.map_some, Bool.not_true, Bool.not_false, ite_true, ite_false, if_true, if_false, Bool.false_eq_true, gEq_int, gNe_int, gEq_bl, gNe_bl, gEq_non, gNe_non, List.isEmpty_cons, List.isEmpty_nil, sh_is_pair, h]
theorem is_pair_fst {x y a : G} (h : callN tab (n + 2) (.fn "is_within") [x, .int 1, .int 9] S = .ok (.bl false) S) : callN tab (n + 3) (.fn "is_pair") [.tup [x, y], a] S = .ok (.bl false) S := by
  rw [cn_is_pair (n + 2) _ _ rfl]
  have h1 : callN tab (n + 2) (.fn "is_row") [.tup [x, y], .int 2] S = .ok (.bl true) S := is_row_eq (n := n + 1) [x, y] 2
  have h2 : gIx (.tup [x, y]) (.int 0) S = some x := rfl
  simp only [nG, sSeq, sSet, sRet, sRetN, sIf, sDrop, sNx, sBrk, sPar, sTg, sr_ok, rb_ok, ro_ok, so_ok, e1, e2, eA, eCl, eV, eC, eAnd, eOr, eNot, eIf, eCh, tV, tNot, tAnd, tOr, tYes, bof_bl, aNil, aCons, tgSet, setAll, lo0, bodyR_nx, bodyR_rt, R.wp_ok, SR.wp_nx, SR.wp_rt, SR.wp_bk, gAddA, gAdd, gSub, gLe, gLt, gGt, gGe, is_non, is_int, is_tup, is_bl, isn_non, isn_int, isn_tup, isn_bl, is_o, isn_o, gNeg, gTup1, gTup2, gTup3, gTup4, gTup5, gLst0, gLst1, gLst2, gLst3, eLstA0, List.length_cons, List.length_nil, List.map_cons, List.map_nil, List.cons_append, List.nil_append, List.replicate, Nat.sub_self, Nat.reduceSub, Nat.reduceAdd, List.getElem?_cons_zero, List.getElem?_cons_succ, List.set_cons_zero, List.set_cons_succ, Option.map_some, Bool.not_true, Bool.not_false, ite_true, ite_false, if_true, if_false, Bool.false_eq_true, gEq_int, gNe_int, gEq_bl, gNe_bl, gEq_non, gNe_non, List.isEmpty_cons, List.isEmpty_nil, sh_is_pair, h1, h2, h]
theorem is_pair_snd {x y a : G} (h0 : callN tab (n + 2) (.fn "is_within") [x, .int 1, .int 9] S = .ok (.bl true) S) (h : callN tab (n + 2) (.fn "is_within") [y, .int 0, .int 9] S = .ok (.bl false) S) : callN tab (n + 3) (.fn "is_pair") [.tup [x, y], a] S = .ok (.bl false) S := by
  rw [cn_is_pair (n + 2) _ _ rfl]
  have h1 : callN tab (n + 2) (.fn "is_row") [.tup [x, y], .int 2] S = .ok (.bl true) S := is_row_eq (n := n + 1) [x, y] 2
  have h2 : gIx (.tup [x, y]) (.int 0) S = some x := rfl
  have h3 : gIx (.tup [x, y]) (.int 1) S = some y := rfl
  simp only [nG, sSeq, sSet, sRet, sRetN, sIf, sDrop, sNx, sBrk, sPar, sTg, sr_ok, rb_ok, ro_ok, so_ok, e1, e2, eA, eCl, eV, eC, eAnd, eOr, eNot, eIf, eCh, tV, tNot, tAnd, tOr, tYes, bof_bl, aNil, aCons, tgSet, setAll, lo0, bodyR_nx, bodyR_rt, R.wp_ok, SR.wp_nx, SR.wp_rt, SR.wp_bk, gAddA, gAdd, gSub, gLe, gLt, gGt, gGe, is_non, is_int, is_tup, is_bl, isn_non, isn_int, isn_tup, isn_bl, is_o, isn_o, gNeg, gTup1, gTup2, gTup3, gTup4, gTup5, gLst0, gLst1, gLst2, gLst3, eLstA0, List.length_cons, List.length_nil, List.map_cons, List.map_nil, List.cons_append, List.nil_append, List.replicate, Nat.sub_self, Nat.reduceSub, Nat.reduceAdd, List.getElem?_cons_zero, List.getElem?_cons_succ, List.set_cons_zero, List.set_cons_succ, Option.map_some, Bool.not_true, Bool.not_false, ite_true, ite_false, if_true, if_false, Bool.false_eq_true, gEq_int, gNe_int, gEq_bl, gNe_bl, gEq_non, gNe_non, List.isEmpty_cons, List.isEmpty_nil, sh_is_pair, h1, h2, h3, h0, h]
theorem is_pair_ok {p : Nat × Nat} {pre : Rule} (hp : 1 ≤ p.1 ∧ p.1 ≤ 9 ∧ p.2 ≤ 9) : callN tab (n + 3) (.fn "is_pair") [prG p, .tup (pre.map prG)] S = .ok (.bl (decide (∀ q, pre.getLast? = some q → q.1 < p.1))) S := by
  rw [cn_is_pair (n + 2) _ _ rfl]
  have h1 : callN tab (n + 2) (.fn "is_row") [prG p, .int 2] S = .ok (.bl true) S := is_row_eq (n := n + 1) [nG p.1, nG p.2] 2
  have h2 : callN tab (n + 2) (.fn "is_within") [nG p.1, .int 1, .int 9] S = .ok (.bl true) S := by
    have := is_within_eq (n := n) (S := S) (p.1 : Int) 1 9
    rw [decide_eq_true (by omega)] at this
    exact this
  have h3 : callN tab (n + 2) (.fn "is_within") [nG p.2, .int 0, .int 9] S = .ok (.bl true) S := by
    have := is_within_eq (n := n) (S := S) (p.2 : Int) 0 9
    rw [decide_eq_true (by omega)] at this
    exact this
  unfold nG at h2 h3
  rcases List.eq_nil_or_concat pre with rfl | ⟨pre', q, rfl⟩
  · have h4 : gLen [.tup []] S = some (.int 0) := rfl
    simp only [nG, sSeq, sSet, sRet, sRetN, sIf, sDrop, sNx, sBrk, sPar, sTg, sr_ok, rb_ok, ro_ok, so_ok, e1, e2, eA, eCl, eV, eC, eAnd, eOr, eNot, eIf, eCh, tV, tNot, tAnd, tOr, tYes, bof_bl, aNil, aCons, tgSet, setAll, lo0, bodyR_nx, bodyR_rt, R.wp_ok, SR.wp_nx, SR.wp_rt, SR.wp_bk, gAddA, gAdd, gSub, gLe, gLt, gGt, gGe, is_non, is_int, is_tup, is_bl, isn_non, isn_int, isn_tup, isn_bl, is_o, isn_o, gNeg, gTup1, gTup2, gTup3, gTup4, gTup5, gLst0, gLst1, gLst2, gLst3, eLstA0, List.length_cons, List.length_nil, List.map_cons, List.map_nil, List.cons_append, List.nil_append, List.replicate, Nat.sub_self, Nat.reduceSub, Nat.reduceAdd, List.getElem?_cons_zero, List.getElem?_cons_succ, List.set_cons_zero, List.set_cons_succ, Option.map_some, Bool.not_true, Bool.not_false, ite_true, ite_false, if_true, if_false, Bool.false_eq_true, gEq_int, gNe_int, gEq_bl, gNe_bl, gEq_non, gNe_non, List.isEmpty_cons, List.isEmpty_nil, sh_is_pair, h1, prG_ix0, prG_ix1, h2, h3, h4]
    simp [nG, sSeq, sSet, sRet, sRetN, sIf, sDrop, sNx, sBrk, sPar, sTg, sr_ok, rb_ok, ro_ok, so_ok, e1, e2, eA, eCl, eV, eC, eAnd, eOr, eNot, eIf, eCh, tV, tNot, tAnd, tOr, tYes, bof_bl, aNil, aCons, tgSet, setAll, lo0, bodyR_nx, bodyR_rt, R.wp_ok, SR.wp_nx, SR.wp_rt, SR.wp_bk, gAddA, gAdd, gSub, gLe, gLt, gGt, gGe, is_non, is_int, is_tup, is_bl, isn_non, isn_int, isn_tup, isn_bl, is_o, isn_o, gNeg, gTup1, gTup2, gTup3, gTup4, gTup5, gLst0, gLst1, gLst2, gLst3, eLstA0, List.length_cons, List.length_nil, List.map_cons, List.map_nil, List.cons_append, List.nil_append, List.replicate, Nat.sub_self, Nat.reduceSub, Nat.reduceAdd, List.getElem?_cons_zero, List.getElem?_cons_succ, List.set_cons_zero, List.set_cons_succ, Option.map_some, Bool.not_true, Bool.not_false, ite_true, ite_false, if_true, if_false, Bool.false_eq_true, gEq_int, gNe_int, gEq_bl, gNe_bl, gEq_non, gNe_non, List.isEmpty_cons, List.isEmpty_nil]
  · have h4 : gLen [.tup ((pre' ++ [q]).map prG)] S = some (.int (((pre' ++ [q]).map prG).length : Nat)) := rfl
    have h5 : gIx (.tup ((pre' ++ [q]).map prG)) (.int (-1)) S = some (prG q) := by rw [List.map_append]; exact ix_tup_last
    have h6 : ((((pre' ++ [q]).map prG).length : Nat) : Int) ≠ 0 := by simp; omega
    rw [List.concat_eq_append] at *
    simp only [nG, sSeq, sSet, sRet, sRetN, sIf, sDrop, sNx, sBrk, sPar, sTg, sr_ok, rb_ok, ro_ok, so_ok, e1, e2, eA, eCl, eV, eC, eAnd, eOr, eNot, eIf, eCh, tV, tNot, tAnd, tOr, tYes, bof_bl, aNil, aCons, tgSet, setAll, lo0, bodyR_nx, bodyR_rt, R.wp_ok, SR.wp_nx, SR.wp_rt, SR.wp_bk, gAddA, gAdd, gSub, gLe, gLt, gGt, gGe, is_non, is_int, is_tup, is_bl, isn_non, isn_int, isn_tup, isn_bl, is_o, isn_o, gNeg, gTup1, gTup2, gTup3, gTup4, gTup5, gLst0, gLst1, gLst2, gLst3, eLstA0, List.length_cons, List.length_nil, List.map_cons, List.map_nil, List.cons_append, List.nil_append, List.replicate, Nat.sub_self, Nat.reduceSub, Nat.reduceAdd, List.getElem?_cons_zero, List.getElem?_cons_succ, List.set_cons_zero, List.set_cons_succ, Option.map_some, Bool.not_true, Bool.not_false, ite_true, ite_false, if_true, if_false, Bool.false_eq_true, gEq_int, gNe_int, gEq_bl, gNe_bl, gEq_non, gNe_non, List.isEmpty_cons, List.isEmpty_nil, sh_is_pair, h1, prG_ix0, prG_ix1, h2, h3, h4, h5, h6, decide_false]
    simp
theorem fns_is_pair : fnsT.contains "is_pair" = true := by decide +kernel
theorem wrong_place_of {l : List G} {k : Nat} (hk : k ≤ l.length) (h5 : l.length ≤ 5) (good : ∀ i x, i < k → l[i]? = some x → callN tab (n + 3) (.fn "is_pair") [x, .tup (l.take i)] S = .ok (.bl true) S)
    (bad : ∀ x, l[k]? = some x → callN tab (n + 3) (.fn "is_pair") [x, .tup (l.take k)] S = .ok (.bl false) S) : callN tab (n + 5) (.fn "wrong_place") [.tup l] S = .ok (if k < l.length then .int k else .non) S := by
  rw [cn_wrong_place (n + 4) _ _ rfl]
  have h := first_wrong_ok (n := n + 3) (S := S) (l := l) (J := "is_pair") fns_is_pair (a := 0) (b := 5) (by omega) (by omega) hk good bad
  simp only [nG, sSeq, sSet, sRet, sRetN, sIf, sDrop, sNx, sBrk, sPar, sTg, sr_ok, rb_ok, ro_ok, so_ok, e1, e2, eA, eCl, eV, eC, eAnd, eOr, eNot, eIf, eCh, tV, tNot, tAnd, tOr, tYes, bof_bl, aNil, aCons, tgSet, setAll, lo0, bodyR_nx, bodyR_rt, R.wp_ok, SR.wp_nx, SR.wp_rt, SR.wp_bk, gAddA, gAdd, gSub, gLe, gLt, gGt, gGe, is_non, is_int, is_tup, is_bl, isn_non, isn_int, isn_tup, isn_bl, is_o, isn_o, gNeg, gTup1, gTup2, gTup3, gTup4, gTup5, gLst0, gLst1, gLst2, gLst3, eLstA0, List.length_cons, List.length_nil, List.map_cons, List.map_nil, List.cons_append, List.nil_append, List.replicate, Nat.sub_self, Nat.reduceSub, Nat.reduceAdd, List.getElem?_cons_zero, List.getElem?_cons_succ, List.set_cons_zero, List.set_cons_succ, Option.map_some, Bool.not_true, Bool.not_false, ite_true, ite_false, if_true, if_false, Bool.false_eq_true, gEq_int, gNe_int, gEq_bl, gNe_bl, gEq_non, gNe_non, List.isEmpty_cons, List.isEmpty_nil, sh_wrong_place, h]
theorem wrong_place_no {g : G} (h : gIsi isaT [g, .ty "tuple"] S = some (.bl false)) : callN tab (n + 2) (.fn "wrong_place") [g] S = .ok (.int (-1)) S := by
  rw [cn_wrong_place (n + 1) _ _ rfl]
  simp only [nG, sSeq, sSet, sRet, sRetN, sIf, sDrop, sNx, sBrk, sPar, sTg, sr_ok, rb_ok, ro_ok, so_ok, e1, e2, eA, eCl, eV, eC, eAnd, eOr, eNot, eIf, eCh, tV, tNot, tAnd, tOr, tYes, bof_bl, aNil, aCons, tgSet, setAll, lo0, bodyR_nx, bodyR_rt, R.wp_ok, SR.wp_nx, SR.wp_rt, SR.wp_bk, gAddA, gAdd, gSub, gLe, gLt, gGt, gGe, is_non, is_int, is_tup, is_bl, isn_non, isn_int, isn_tup, isn_bl, is_o, isn_o, gNeg, gTup1, gTup2, gTup3, gTup4, gTup5, gLst0, gLst1, gLst2, gLst3, eLstA0, List.length_cons, List.length_nil, List.map_cons, List.map_nil, List.cons_append, List.nil_append, List.replicate, Nat.sub_self, Nat.reduceSub, Nat.reduceAdd, List.getElem?_cons_zero, List.getElem?_cons_succ, List.set_cons_zero, List.set_cons_succ, Option.map_some, Bool.not_true, Bool.not_false, ite_true, ite_false, if_true, if_false, Bool.false_eq_true, gEq_int, gNe_int, gEq_bl, gNe_bl, gEq_non, gNe_non, List.isEmpty_cons, List.isEmpty_nil, sh_wrong_place, first_wrong_no h]
theorem wrong_place_long {l : List G} (h : 5 < l.length) : callN tab (n + 2) (.fn "wrong_place") [.tup l] S = .ok (.int (-1)) S := by
  rw [cn_wrong_place (n + 1) _ _ rfl]
  have := first_wrong_len (n := n) (S := S) (l := l) (a := 0) (b := 5) (j := .gl "is_pair") (by omega)
  simp only [nG, sSeq, sSet, sRet, sRetN, sIf, sDrop, sNx, sBrk, sPar, sTg, sr_ok, rb_ok, ro_ok, so_ok, e1, e2, eA, eCl, eV, eC, eAnd, eOr, eNot, eIf, eCh, tV, tNot, tAnd, tOr, tYes, bof_bl, aNil, aCons, tgSet, setAll, lo0, bodyR_nx, bodyR_rt, R.wp_ok, SR.wp_nx, SR.wp_rt, SR.wp_bk, gAddA, gAdd, gSub, gLe, gLt, gGt, gGe, is_non, is_int, is_tup, is_bl, isn_non, isn_int, isn_tup, isn_bl, is_o, isn_o, gNeg, gTup1, gTup2, gTup3, gTup4, gTup5, gLst0, gLst1, gLst2, gLst3, eLstA0, List.length_cons, List.length_nil, List.map_cons, List.map_nil, List.cons_append, List.nil_append, List.replicate, Nat.sub_self, Nat.reduceSub, Nat.reduceAdd, List.getElem?_cons_zero, List.getElem?_cons_succ, List.set_cons_zero, List.set_cons_succ, Option.map_some, Bool.not_true, Bool.not_false, ite_true, ite_false, if_true, if_false, Bool.false_eq_true, gEq_int, gNe_int, gEq_bl, gNe_bl, gEq_non, gNe_non, List.isEmpty_cons, List.isEmpty_nil, sh_wrong_place, this]
theorem getLast_take {a : Type} {l : List a} {i : Nat} {q : a} (h : (l.take i).getLast? = some q) : ∃ j, j < i ∧ l[j]? = some q := by
  rw [List.getLast?_eq_getElem?, List.getElem?_take] at h
  split at h
  · rename_i c
    exact ⟨_, c, h⟩
  · cases h
theorem pair_good {r : Rule} (ok : ROk r) {i : Nat} {x : G} {more : List G} (h : i < r.length) (hx : (r.map prG ++ more)[i]? = some x) :
    callN tab (n + 3) (.fn "is_pair") [x, .tup ((r.map prG ++ more).take i)] S = .ok (.bl true) S := by
  have hx : (r.map prG)[i]? = some x := by rw [List.getElem?_append_left (by simpa using h)] at hx; exact hx
  rw [List.getElem?_map, List.getElem?_eq_getElem h] at hx
  cases hx
  rw [List.take_append_of_le_length (by simp; omega), ← List.map_take]
  have := is_pair_ok (n := n) (S := S) (p := r[i]) (pre := r.take i) (ok.lv _ (List.getElem_mem h))
  rw [decide_eq_true] at this
  · exact this
  · intro q hq
    obtain ⟨j, hj, hjq⟩ := getLast_take hq
    have hj2 : j < r.length := by omega
    rw [List.getElem?_eq_getElem hj2] at hjq
    cases hjq
    exact List.pairwise_iff_getElem.mp ok.inc j i hj2 h hj
theorem wrong_place_ok {r : Rule} (ok : ROk r) : callN tab (n + 5) (.fn "wrong_place") [ruG r] S = .ok .non S := by
  have h := wrong_place_of (n := n) (S := S) (l := r.map prG) (k := (r.map prG).length) (Nat.le_refl _) (by simpa using ok.len) (fun i x hi hx => by
    have := pair_good (n := n) (S := S) ok (more := []) (x := x) (by simpa using hi) (by simpa using hx)
    simpa using this) (fun x hx => by
    rw [List.getElem?_eq_none (Nat.le_refl _)] at hx
    cases hx)
  rw [if_neg (Nat.lt_irrefl _)] at h
  exact h
theorem require_ok {r : Rule} (ok : ROk r) : callN tab (n + 6) (.fn "require_rule") [ruG r] S = .ok .non S := by
  rw [cn_require_rule (n + 5) _ _ rfl]
  simp only [nG, sSeq, sSet, sRet, sRetN, sIf, sDrop, sNx, sBrk, sPar, sTg, sr_ok, rb_ok, ro_ok, so_ok, e1, e2, eA, eCl, eV, eC, eAnd, eOr, eNot, eIf, eCh, tV, tNot, tAnd, tOr, tYes, bof_bl, aNil, aCons, tgSet, setAll, lo0, bodyR_nx, bodyR_rt, R.wp_ok, SR.wp_nx, SR.wp_rt, SR.wp_bk, gAddA, gAdd, gSub, gLe, gLt, gGt, gGe, is_non, is_int, is_tup, is_bl, isn_non, isn_int, isn_tup, isn_bl, is_o, isn_o, gNeg, gTup1, gTup2, gTup3, gTup4, gTup5, gLst0, gLst1, gLst2, gLst3, eLstA0, List.length_cons, List.length_nil, List.map_cons, List.map_nil, List.cons_append, List.nil_append, List.replicate, Nat.sub_self, Nat.reduceSub, Nat.reduceAdd, List.getElem?_cons_zero, List.getElem?_cons_succ, List.set_cons_zero, List.set_cons_succ, Option.map_some, Bool.not_true, Bool.not_false, ite_true, ite_false, if_true, if_false, Bool.false_eq_true, gEq_int, gNe_int, gEq_bl, gNe_bl, gEq_non, gNe_non, List.isEmpty_cons, List.isEmpty_nil, sh_require_rule, wrong_place_ok ok]
/-- a value that is no rule: where -/
structure BadR (v : G) (w : G) : Prop where
  ex : ∀ (n : Nat) (S : Sto), ∃ i : Int, callN tab (n + 5) (.fn "wrong_place") [v] S = .ok (.int i) S ∧ w = if i = -1 then .non else .int i
theorem require_bad {v w : G} (h : BadR v w) : callN tab (n + 6) (.fn "require_rule") [v] S = .exc "BadRule" [("place", w)] S := by
  obtain ⟨i, h1, rfl⟩ := h.ex n S
  rw [cn_require_rule (n + 5) _ _ rfl]
  simp only [nG, sSeq, sSet, sRet, sRetN, sIf, sDrop, sNx, sBrk, sPar, sTg, sr_ok, rb_ok, ro_ok, so_ok, e1, e2, eA, eCl, eV, eC, eAnd, eOr, eNot, eIf, eCh, tV, tNot, tAnd, tOr, tYes, bof_bl, aNil, aCons, tgSet, setAll, lo0, bodyR_nx, bodyR_rt, R.wp_ok, SR.wp_nx, SR.wp_rt, SR.wp_bk, gAddA, gAdd, gSub, gLe, gLt, gGt, gGe, is_non, is_int, is_tup, is_bl, isn_non, isn_int, isn_tup, isn_bl, is_o, isn_o, gNeg, gTup1, gTup2, gTup3, gTup4, gTup5, gLst0, gLst1, gLst2, gLst3, eLstA0, List.length_cons, List.length_nil, List.map_cons, List.map_nil, List.cons_append, List.nil_append, List.replicate, Nat.sub_self, Nat.reduceSub, Nat.reduceAdd, List.getElem?_cons_zero, List.getElem?_cons_succ, List.set_cons_zero, List.set_cons_succ, Option.map_some, Bool.not_true, Bool.not_false, ite_true, ite_false, if_true, if_false, Bool.false_eq_true, gEq_int, gNe_int, gEq_bl, gNe_bl, gEq_non, gNe_non, List.isEmpty_cons, List.isEmpty_nil, sh_require_rule, h1, place_told_eq, sRaise]
  rfl
theorem badR_no {v : G} (h : ∀ S, gIsi isaT [v, .ty "tuple"] S = some (.bl false)) : BadR v .non := ⟨fun n S => ⟨-1, wrong_place_no (n := n + 3) (h S), rfl⟩⟩
theorem badR_long {l : List G} (h : 5 < l.length) : BadR (.tup l) .non := ⟨fun n S => ⟨-1, wrong_place_long (n := n + 3) h, rfl⟩⟩
theorem badR_at {r : Rule} {x : G} {more : List G} (ok : ROk r) (h5 : r.length + 1 + more.length ≤ 5) (bad : ∀ n S, callN tab (n + 3) (.fn "is_pair") [x, .tup (r.map prG)] S = .ok (.bl false) S) : BadR (.tup (r.map prG ++ x :: more)) (.int r.length) := by
  refine ⟨fun n S => ⟨r.length, ?_, ?_⟩⟩
  · have h := wrong_place_of (n := n) (S := S) (l := r.map prG ++ x :: more) (k := r.length) (by simp) (by simp; omega) (fun i y hi hy => pair_good ok hi hy) (fun y hy => by
      rw [List.getElem?_append_right (by simp)] at hy
      simp at hy
      subst hy
      rw [List.take_append_of_le_length (by simp), List.take_of_length_le (by simp)]
      exact bad n S)
    rw [if_pos (by simp)] at h
    exact h
  · rw [if_neg (by omega)]
/-! a rule drawn -/
theorem take_snoc {a : Type} {l : List a} {i : Nat} {x : a} (h : l[i]? = some x) : l.take (i + 1) = l.take i ++ [x] := by
  rw [List.take_succ, h]; rfl
theorem ru_get {r : Rule} {j : Nat} {x : G} (h : (r.map prG)[j]? = some x) : ∃ p, r[j]? = some p ∧ x = prG p := by
  rw [List.getElem?_map] at h
  cases e : r[j]? with
  | none => rw [e] at h; cases h
  | some p => rw [e] at h; exact ⟨p, rfl, (Option.some.inj h).symm⟩
def lvs : List Nat := List.range' 1 9
theorem lvs_get {k : Nat} {x : G} (h : (lvs.map nG)[k]? = some x) : k < 9 ∧ x = nG (k + 1) := by
  rw [List.getElem?_map] at h
  cases e : lvs[k]? with
  | none => rw [e] at h; cases h
  | some y =>
    rw [e] at h
    obtain ⟨hl, he⟩ := List.getElem?_eq_some_iff.mp e
    have h9 : k < 9 := by simpa [lvs] using hl
    refine ⟨h9, ?_⟩
    have : y = k + 1 := by rw [← he]; simp [lvs]; omega
    rw [← this]
    exact (Option.some.inj h).symm
theorem lvs_fix {f : As} {l : GL.Loc} (h : f l S = .ok [.int 1, .int 10] S) : itR2 f l S = .ok (.fix (lvs.map nG)) S := by
  have hb := big_eq
  unfold itR2
  rw [h, rb_ok]
  dsimp only
  rw [if_pos (by omega)]
  rfl
/-- a rule is drawn -/
theorem rule_ok {Z : Sto} (hr : Row Z S) : (callN tab (n + 3) (.fn "_law_rule") [.ref 0] S).wp fun g S' => (∃ r, ROk r ∧ g = ruG r) ∧ Row Z S' := by
  rw [cn__law_rule (n + 2) _ _ rfl]
  refine wp_body ?_
  unfold sh__law_rule
  refine wp_seq (wp_set ?_)
  refine wp_rb (R.wp_mono (eLc_wpt (xs := lvs.map nG) (lvs_fix (by simp only [nG, sSet, sRet, sRetN, sIf, sDrop, sNx, sBrk, sPar, sTg, sr_ok, rb_ok, ro_ok, so_ok, e1, e2, eA, eCl, eV, eC, eAnd, eOr, eNot, eIf, eCh, tV, tNot, tAnd, tOr, tYes, bof_bl, aNil, aCons, tgSet, setAll, lo0, bodyR_nx, bodyR_rt, R.wp_ok, SR.wp_nx, SR.wp_rt, SR.wp_bk, gAddA, gAdd, gSub, gLe, gLt, gGt, gGe, is_non, is_int, is_tup, is_bl, isn_non, isn_int, isn_tup, isn_bl, is_o, isn_o, gNeg, gTup1, gTup2, gTup3, gTup4, gTup5, gLst0, gLst1, gLst2, gLst3, eLstA0, List.length_cons, List.length_nil, List.map_cons, List.map_nil, List.cons_append, List.nil_append, List.replicate, Nat.sub_self, Nat.reduceSub, Nat.reduceAdd, List.getElem?_cons_zero, List.getElem?_cons_succ, List.set_cons_zero, List.set_cons_succ, Option.map_some, Bool.not_true, Bool.not_false, ite_true, ite_false, if_true, if_false, Bool.false_eq_true, gEq_int, gNe_int, gEq_bl, gNe_bl, gEq_non, gNe_non, List.isEmpty_cons, List.isEmpty_nil])) (fun k acc S => Row Z S ∧ ∃ L : List Nat, acc = L.map nG ∧ L.Pairwise (· < ·) ∧ ∀ x ∈ L, 1 ≤ x ∧ x ≤ k) ?_ ⟨hr, [], rfl, .nil, fun _ h => (by cases h)⟩) ?_)
  · rintro k x acc S hx ⟨hr, L, rfl, hp, hL⟩
    obtain ⟨hk, rfl⟩ := lvs_get hx
    refine ⟨_, rfl, ?_⟩
    obtain ⟨_, S1, e, ⟨y, hy, rfl⟩, hr1⟩ := R.wp_iff.mp (taken_ok (n := n + 1) (many := 3) hr (by omega) (by omega))
    have e' : callN tab (n + 2) (.fn "_law_taken") [.ref 0, .int 3] S = .ok (.int (y : Nat)) S1 := e
    simp only [nG, sSet, sRet, sRetN, sIf, sDrop, sNx, sBrk, sPar, sTg, sr_ok, rb_ok, ro_ok, so_ok, e1, e2, eA, eCl, eV, eC, eAnd, eOr, eNot, eIf, eCh, tV, tNot, tAnd, tOr, tYes, bof_bl, aNil, aCons, tgSet, setAll, lo0, bodyR_nx, bodyR_rt, R.wp_ok, SR.wp_nx, SR.wp_rt, SR.wp_bk, gAddA, gAdd, gSub, gLe, gLt, gGt, gGe, is_non, is_int, is_tup, is_bl, isn_non, isn_int, isn_tup, isn_bl, is_o, isn_o, gNeg, gTup1, gTup2, gTup3, gTup4, gTup5, gLst0, gLst1, gLst2, gLst3, eLstA0, List.length_cons, List.length_nil, List.map_cons, List.map_nil, List.cons_append, List.nil_append, List.replicate, Nat.sub_self, Nat.reduceSub, Nat.reduceAdd, List.getElem?_cons_zero, List.getElem?_cons_succ, List.set_cons_zero, List.set_cons_succ, Option.map_some, Bool.not_true, Bool.not_false, ite_true, ite_false, if_true, if_false, Bool.false_eq_true, gEq_int, gNe_int, gEq_bl, gNe_bl, gEq_non, gNe_non, List.isEmpty_cons, List.isEmpty_nil, wipeL, e']
    by_cases c : y = 0
    · subst c
      simp only [Int.natCast_zero, decide_true, nG, sSet, sRet, sRetN, sIf, sDrop, sNx, sBrk, sPar, sTg, sr_ok, rb_ok, ro_ok, so_ok, e1, e2, eA, eCl, eV, eC, eAnd, eOr, eNot, eIf, eCh, tV, tNot, tAnd, tOr, tYes, bof_bl, aNil, aCons, tgSet, setAll, lo0, bodyR_nx, bodyR_rt, R.wp_ok, SR.wp_nx, SR.wp_rt, SR.wp_bk, gAddA, gAdd, gSub, gLe, gLt, gGt, gGe, is_non, is_int, is_tup, is_bl, isn_non, isn_int, isn_tup, isn_bl, is_o, isn_o, gNeg, gTup1, gTup2, gTup3, gTup4, gTup5, gLst0, gLst1, gLst2, gLst3, eLstA0, List.length_cons, List.length_nil, List.map_cons, List.map_nil, List.cons_append, List.nil_append, List.replicate, Nat.sub_self, Nat.reduceSub, Nat.reduceAdd, List.getElem?_cons_zero, List.getElem?_cons_succ, List.set_cons_zero, List.set_cons_succ, Option.map_some, Bool.not_true, Bool.not_false, ite_true, ite_false, if_true, if_false, Bool.false_eq_true, gEq_int, gNe_int, gEq_bl, gNe_bl, gEq_non, gNe_non, List.isEmpty_cons, List.isEmpty_nil]
      refine ⟨hr1, L ++ [k + 1], by simp [nG], ?_, fun x hx => ?_⟩
      · refine List.pairwise_append.mpr ⟨hp, List.pairwise_singleton _ _, fun a ha b hb => ?_⟩
        rw [List.mem_singleton.mp hb]
        have := (hL a ha).2
        omega
      · rcases List.mem_append.mp hx with hx | hx
        · have := hL x hx; omega
        · rw [List.mem_singleton.mp hx]; omega
    · have d : decide ((y : Int) = 0) = false := decide_eq_false (by omega)
      simp only [d, nG, sSet, sRet, sRetN, sIf, sDrop, sNx, sBrk, sPar, sTg, sr_ok, rb_ok, ro_ok, so_ok, e1, e2, eA, eCl, eV, eC, eAnd, eOr, eNot, eIf, eCh, tV, tNot, tAnd, tOr, tYes, bof_bl, aNil, aCons, tgSet, setAll, lo0, bodyR_nx, bodyR_rt, R.wp_ok, SR.wp_nx, SR.wp_rt, SR.wp_bk, gAddA, gAdd, gSub, gLe, gLt, gGt, gGe, is_non, is_int, is_tup, is_bl, isn_non, isn_int, isn_tup, isn_bl, is_o, isn_o, gNeg, gTup1, gTup2, gTup3, gTup4, gTup5, gLst0, gLst1, gLst2, gLst3, eLstA0, List.length_cons, List.length_nil, List.map_cons, List.map_nil, List.cons_append, List.nil_append, List.replicate, Nat.sub_self, Nat.reduceSub, Nat.reduceAdd, List.getElem?_cons_zero, List.getElem?_cons_succ, List.set_cons_zero, List.set_cons_succ, Option.map_some, Bool.not_true, Bool.not_false, ite_true, ite_false, if_true, if_false, Bool.false_eq_true, gEq_int, gNe_int, gEq_bl, gNe_bl, gEq_non, gNe_non, List.isEmpty_cons, List.isEmpty_nil]
      exact ⟨hr1, L, rfl, hp, fun x hx => by have := hL x hx; omega⟩
  · rintro g S1 ⟨_, rfl, hr1, L, rfl, hp, hL⟩
    have hc : gSl (.tl (L.map nG)) none (some 5) S1 = some (.tl ((L.take 5).map nG)) := by
      show some (G.tl (cutG (L.map nG) none (some ((5 : Nat) : Int)))) = _
      unfold cutG
      rw [HT.sIx_none, HT.sIx_nat, List.drop_zero, Nat.sub_zero, List.map_take]
      congr 2
      exact List.take_eq_take_iff.mpr (by omega)
    simp only [oE, nG, sSet, sRet, sRetN, sIf, sDrop, sNx, sBrk, sPar, sTg, sr_ok, rb_ok, ro_ok, so_ok, e1, e2, eA, eCl, eV, eC, eAnd, eOr, eNot, eIf, eCh, tV, tNot, tAnd, tOr, tYes, bof_bl, aNil, aCons, tgSet, setAll, lo0, bodyR_nx, bodyR_rt, R.wp_ok, SR.wp_nx, SR.wp_rt, SR.wp_bk, gAddA, gAdd, gSub, gLe, gLt, gGt, gGe, is_non, is_int, is_tup, is_bl, isn_non, isn_int, isn_tup, isn_bl, is_o, isn_o, gNeg, gTup1, gTup2, gTup3, gTup4, gTup5, gLst0, gLst1, gLst2, gLst3, eLstA0, List.length_cons, List.length_nil, List.map_cons, List.map_nil, List.cons_append, List.nil_append, List.replicate, Nat.sub_self, Nat.reduceSub, Nat.reduceAdd, List.getElem?_cons_zero, List.getElem?_cons_succ, List.set_cons_zero, List.set_cons_succ, Option.map_some, Bool.not_true, Bool.not_false, ite_true, ite_false, if_true, if_false, Bool.false_eq_true, gEq_int, gNe_int, gEq_bl, gNe_bl, gEq_non, gNe_non, List.isEmpty_cons, List.isEmpty_nil, hc]
    refine wp_ret (wp_eA1 ?_)
    have h9 : L.take 5 = L.take 5 := rfl
    generalize hM : L.take 5 = M
    have hMp : M.Pairwise (· < ·) := by rw [← hM]; exact hp.sublist (List.take_sublist _ _)
    have hMm : ∀ x ∈ M, 1 ≤ x ∧ x ≤ 9 := fun x hx => by
      have := hL x (List.mem_of_mem_take (by rw [hM]; exact hx))
      simp [lvs] at this
      exact this
    have hMl : M.length ≤ 5 := by rw [← hM, List.length_take]; omega
    refine R.wp_mono (eLc_wp (xs := M.map nG) (by simp only [nG, sSet, sRet, sRetN, sIf, sDrop, sNx, sBrk, sPar, sTg, sr_ok, rb_ok, ro_ok, so_ok, e1, e2, eA, eCl, eV, eC, eAnd, eOr, eNot, eIf, eCh, tV, tNot, tAnd, tOr, tYes, bof_bl, aNil, aCons, tgSet, setAll, lo0, bodyR_nx, bodyR_rt, R.wp_ok, SR.wp_nx, SR.wp_rt, SR.wp_bk, gAddA, gAdd, gSub, gLe, gLt, gGt, gGe, is_non, is_int, is_tup, is_bl, isn_non, isn_int, isn_tup, isn_bl, is_o, isn_o, gNeg, gTup1, gTup2, gTup3, gTup4, gTup5, gLst0, gLst1, gLst2, gLst3, eLstA0, List.length_cons, List.length_nil, List.map_cons, List.map_nil, List.cons_append, List.nil_append, List.replicate, Nat.sub_self, Nat.reduceSub, Nat.reduceAdd, List.getElem?_cons_zero, List.getElem?_cons_succ, List.set_cons_zero, List.set_cons_succ, Option.map_some, Bool.not_true, Bool.not_false, ite_true, ite_false, if_true, if_false, Bool.false_eq_true, gEq_int, gNe_int, gEq_bl, gNe_bl, gEq_non, gNe_non, List.isEmpty_cons, List.isEmpty_nil, itV]) (fun k acc S => Row Z S ∧ ∃ r : Rule, acc = r.map prG ∧ r.map (·.1) = M.take k ∧ ∀ p ∈ r, p.2 ≤ 9) ?_ ⟨hr1, [], rfl, rfl, fun _ h => (by cases h)⟩) ?_
    · rintro k x acc S2 hx ⟨hr2, r, rfl, hm, h2⟩
      rw [List.getElem?_map] at hx
      cases e0 : M[k]? with
      | none => rw [e0] at hx; cases hx
      | some lv =>
        rw [e0] at hx
        cases hx
        refine ⟨_, rfl, ?_⟩
        obtain ⟨g3, S3, e', ⟨j, hj, hg⟩, hr3⟩ := R.wp_iff.mp (pick_tl (n := n) (xs := [.int 3, .int 10]) hr2 (by simp) (by simp))
        obtain ⟨mm, hmm, rfl⟩ : ∃ mm : Nat, (0 < mm ∧ mm ≤ 10) ∧ g3 = .int (mm : Nat) := by
          match j, hg with
          | 0, hg => cases hg; exact ⟨3, by omega, rfl⟩
          | 1, hg => cases hg; exact ⟨10, by omega, rfl⟩
        obtain ⟨_, S4, e4, ⟨y, hy, rfl⟩, hr4⟩ := R.wp_iff.mp (taken_ok (n := n + 1) (many := mm) hr3 hmm.1 (by omega))
        simp only [nG, sSet, sRet, sRetN, sIf, sDrop, sNx, sBrk, sPar, sTg, sr_ok, rb_ok, ro_ok, so_ok, e1, e2, eA, eCl, eV, eC, eAnd, eOr, eNot, eIf, eCh, tV, tNot, tAnd, tOr, tYes, bof_bl, aNil, aCons, tgSet, setAll, lo0, bodyR_nx, bodyR_rt, R.wp_ok, SR.wp_nx, SR.wp_rt, SR.wp_bk, gAddA, gAdd, gSub, gLe, gLt, gGt, gGe, is_non, is_int, is_tup, is_bl, isn_non, isn_int, isn_tup, isn_bl, is_o, isn_o, gNeg, gTup1, gTup2, gTup3, gTup4, gTup5, gLst0, gLst1, gLst2, gLst3, eLstA0, List.length_cons, List.length_nil, List.map_cons, List.map_nil, List.cons_append, List.nil_append, List.replicate, Nat.sub_self, Nat.reduceSub, Nat.reduceAdd, List.getElem?_cons_zero, List.getElem?_cons_succ, List.set_cons_zero, List.set_cons_succ, Option.map_some, Bool.not_true, Bool.not_false, ite_true, ite_false, if_true, if_false, Bool.false_eq_true, gEq_int, gNe_int, gEq_bl, gNe_bl, gEq_non, gNe_non, List.isEmpty_cons, List.isEmpty_nil, wipeL, e', e4]
        refine ⟨hr4, r ++ [(lv, y)], by simp [prG, nG], ?_, fun p hp => ?_⟩
        · rw [List.map_append, hm, take_snoc e0]
          rfl
        · rcases List.mem_append.mp hp with hp | hp
          · exact h2 p hp
          · rw [List.mem_singleton.mp hp]
            show y ≤ 9
            omega
    · rintro g S2 ⟨_, rfl, hr2, r, rfl, hm, h2⟩
      rw [List.length_map, List.take_length] at hm
      refine ⟨ruG r, rfl, ⟨r, ⟨by rw [← List.length_map (f := (·.1)), hm]; exact hMl, fun p hp => ?_, ?_⟩, rfl⟩, hr2⟩
      · have : p.1 ∈ M := by rw [← hm]; exact List.mem_map_of_mem hp
        have := hMm _ this
        have := h2 p hp
        omega
      · rw [← hm] at hMp
        exact List.pairwise_map.mp hMp

end Lk02

end

section
set_option Elab.async false
set_option linter.all false
set_option maxRecDepth 100000
set_option maxHeartbeats 4000000
namespace Lk02
open PySem GL PySem.Builtin PySem.Builtin.Str
variable {n : Nat} {S : Sto}
/-! pairs in words -/
open TL in
def dig (c : Nat) : Bool := decide (48 ≤ c ∧ c ≤ 57)
def pairL : List Nat → Option (Nat × Nat)
  | [a, c, b] => if c = 58 ∧ dig a = true ∧ dig b = true then some (a - 48, b - 48) else none
  | _ => none
def pairP : List (List Nat) → Option (Nat × Nat)
  | [[a], [b]] => if dig a = true ∧ dig b = true then some (a - 48, b - 48) else none
  | _ => none
def glue58 : List (List Nat) → List Nat
  | [] => []
  | [p] => p
  | p :: q :: r => p ++ 58 :: glue58 (q :: r)
theorem pre58 (c : Nat) (r : List Nat) : TL.pre [58] (c :: r) = decide (c = 58) := by
  show ([c] == [58]) = _
  by_cases h : c = 58
  · subst h; rfl
  · rw [decide_eq_false h]
    simp [h]
theorem spl58_ne (acc L : List Nat) : ∃ q r, TL.spl [58] 0 acc L = q :: r := by
  induction L generalizing acc with
  | nil => exact ⟨acc, [], rfl⟩
  | cons c r ih =>
    by_cases h : c = 58
    · exact ⟨acc, _, TL.spl_hit (by rw [pre58, decide_eq_true h])⟩
    · rw [TL.spl_miss (by rw [pre58, decide_eq_false h])]
      exact ih _
theorem glue_spl (acc L : List Nat) : glue58 (TL.spl [58] 0 acc L) = acc ++ L := by
  induction L generalizing acc with
  | nil => rw [TL.spl_nil, List.append_nil]; rfl
  | cons c r ih =>
    by_cases h : c = 58
    · rw [TL.spl_hit (by rw [pre58, decide_eq_true h])]
      show glue58 (acc :: TL.spl [58] 0 [] r) = _
      obtain ⟨q, t, e⟩ := spl58_ne [] r
      have hi := ih []
      rw [e] at hi ⊢
      show acc ++ 58 :: glue58 (q :: t) = _
      rw [hi, h]
      rfl
    · rw [TL.spl_miss (by rw [pre58, decide_eq_false h]), ih, List.append_assoc]
      rfl
theorem pairP_spl (L : List Nat) : pairP (TL.spl [58] 0 [] L) = pairL L := by
  cases h : pairL L with
  | some p =>
    unfold pairL at h
    split at h
    · rename_i a c b
      split at h
      · rename_i h3
        obtain ⟨rfl, ha, hb⟩ := h3
        have a8 : a ≠ 58 := fun e => by rw [e] at ha; cases ha
        have b8 : b ≠ 58 := fun e => by rw [e] at hb; cases hb
        rw [TL.spl_miss (by rw [pre58, decide_eq_false a8]), TL.spl_hit (by rw [pre58]; rfl)]
        show pairP ([a] :: TL.spl [58] 0 [] [b]) = _
        rw [TL.spl_miss (by rw [pre58, decide_eq_false b8]), TL.spl_nil]
        show (if dig a = true ∧ dig b = true then some (a - 48, b - 48) else none) = _
        rw [if_pos ⟨ha, hb⟩]
        exact h
      · cases h
    · cases h
  | none =>
    have hg := glue_spl [] L
    generalize TL.spl [58] 0 [] L = P at hg ⊢
    unfold pairP
    split
    · rename_i a b
      split
      · rename_i h2
        have : L = [a, 58, b] := hg.symm
        rw [this] at h
        have : pairL [a, 58, b] = some (a - 48, b - 48) := if_pos ⟨rfl, h2.1, h2.2⟩
        rw [this] at h
        cases h
      · rfl
    · rfl
theorem in_dig (c : Nat) : gIn (.str ⟨#[c]⟩) (.str "0123456789") S = some (.bl (dig c)) := by
  show some (G.bl (!(Builtin.Str.occurrences ("0123456789" : Str) ⟨#[c]⟩ 0 ("0123456789" : Str).length 1).isEmpty)) = _
  rw [StrLaws.found_one]
  congr 2
  have e : ("0123456789" : Str).cps.toList = [48, 49, 50, 51, 52, 53, 54, 55, 56, 57] := by kernel_rfl
  rw [e]
  unfold dig
  congr 1
  simp
  omega
theorem in_dig1 (c : Nat) : gIn (.str ⟨#[c]⟩) (.str "123456789") S = some (.bl (decide (49 ≤ c ∧ c ≤ 57))) := by
  show some (G.bl (!(Builtin.Str.occurrences ("123456789" : Str) ⟨#[c]⟩ 0 ("123456789" : Str).length 1).isEmpty)) = _
  rw [StrLaws.found_one]
  congr 2
  have e : ("123456789" : Str).cps.toList = [49, 50, 51, 52, 53, 54, 55, 56, 57] := by kernel_rfl
  rw [e]
  congr 1
  simp
  omega
theorem int_dig {c : Nat} (h : dig c = true) : gInt [.str ⟨#[c]⟩] S = some (.int ((c - 48 : Nat) : Int)) := by
  have h := of_decide_eq_true h
  have : c = 48 ∨ c = 49 ∨ c = 50 ∨ c = 51 ∨ c = 52 ∨ c = 53 ∨ c = 54 ∨ c = 55 ∨ c = 56 ∨ c = 57 := by omega
  rcases this with rfl | rfl | rfl | rfl | rfl | rfl | rfl | rfl | rfl | rfl <;> kernel_rfl

end Lk02

end

section
set_option Elab.async false
set_option linter.all false
set_option maxRecDepth 100000
set_option maxHeartbeats 4000000
namespace Lk02
open PySem GL PySem.Builtin PySem.Builtin.Str
variable {n : Nat} {S : Sto}
/-! equality of tuples -/
theorem gOks_map {a : Type} {m : Nat} {f : a → G} (h : ∀ x, gOk m (f x) = true) : ∀ l : List a, gOks m (l.map f) = true
  | [] => rfl
  | x :: l => by rw [List.map_cons, gOks, h x, gOks_map h l]; rfl
theorem eqvAll_mapG {a : Type} [DecidableEq a] {f : a → G} (h : ∀ x y, PyData.eqv (gD (f x)) (gD (f y)) = decide (x = y)) : ∀ xs ys : List a, PyData.eqvAll (gDs (xs.map f)) (gDs (ys.map f)) = decide (xs = ys)
  | [], [] => by simp [gDs, PyData.eqvAll]
  | [], _ :: _ => by simp [gDs, PyData.eqvAll]
  | _ :: _, [] => by simp [gDs, PyData.eqvAll]
  | x :: xs, y :: ys => by
    rw [List.map_cons, List.map_cons, gDs, gDs, PyData.eqvAll, h x y, eqvAll_mapG h xs ys, ← Bool.decide_and]
    simp only [List.cons.injEq]
theorem gEq_tupM {a : Type} [DecidableEq a] {f : a → G} (ho : ∀ x, gOk 59 (f x) = true) (h : ∀ x y, PyData.eqv (gD (f x)) (gD (f y)) = decide (x = y)) (xs ys : List a) :
    gEq (.tup (xs.map f)) (.tup (ys.map f)) S = some (.bl (decide (xs = ys))) := by
  show (gEqD S (.tup (xs.map f)) (.tup (ys.map f))).map (fun b => G.bl b) = _
  have h1 : gOk 60 (.tup (xs.map f)) = true := by rw [gOk]; exact gOks_map ho xs
  have h2 : gOk 60 (.tup (ys.map f)) = true := by rw [gOk]; exact gOks_map ho ys
  unfold gEqD
  rw [show gRes S (.tup (xs.map f)) = .tup (xs.map f) from rfl, show gRes S (.tup (ys.map f)) = .tup (ys.map f) from rfl, if_pos ⟨h1, h2⟩, gD, gD, PyData.eqv, eqvAll_mapG h]
  rfl
theorem nat_eqb (x y : Nat) : ((x : Int) == (y : Int)) = decide (x = y) := by
  by_cases h : x = y
  · subst h; simp
  · rw [decide_eq_false h]; exact beq_eq_false_iff_ne.mpr (by omega)
theorem prG_eqv (p q : Nat × Nat) : PyData.eqv (gD (prG p)) (gD (prG q)) = decide (p = q) := by
  show PyData.eqv (gD (.tup [nG p.1, nG p.2])) (gD (.tup [nG q.1, nG q.2])) = _
  rw [gD, gD, gDs, gDs, gDs, gDs, gDs, gDs, PyData.eqv, PyData.eqvAll, PyData.eqvAll, PyData.eqvAll]
  show (((p.1 : Int) == (q.1 : Int)) && (((p.2 : Int) == (q.2 : Int)) && true)) = _
  rw [nat_eqb, nat_eqb, Bool.and_true, ← Bool.decide_and]
  congr 1
  exact propext ⟨fun h => Prod.ext h.1 h.2, fun h => by rw [h]; exact ⟨rfl, rfl⟩⟩
theorem eq_rule (a b : Rule) : gEq (ruG a) (ruG b) S = some (.bl (decide (a = b))) := gEq_tupM (fun _ => rfl) prG_eqv a b
theorem Row.grow {Z S S' : Sto} (h : Row Z S) (g : Grow S S') : ∃ Z', Row Z' S' := by
  obtain ⟨sc, a, b, c, rfl, h1, h2⟩ := h
  obtain ⟨Y, rfl⟩ := g
  exact ⟨Z ++ Y, sc, a, b, c, rfl, h1, h2⟩
/-! texts shown -/
theorem tt_len (ts : List Str) : (tupleText ts).length ≤ (ts.map (·.length)).sum + 2 * ts.length + 3 := by
  unfold tupleText
  rw [Str.length_append, Str.length_append]
  have h := StrLaws.join_length_le ", " ts
  have h1 : ((", " : Str)).length = 2 := by kernel_rfl
  have h2 : (("(" : Str)).length = 1 := by kernel_rfl
  have h3 : (Str.ofString (if (ts.length == 1) = true then ",)" else ")")).length ≤ 2 := by
    split
    · exact Nat.le_of_eq (by kernel_rfl)
    · exact Nat.le_trans (Nat.le_of_eq (by kernel_rfl : _ = 1)) (by omega)
  rw [h1] at h
  rw [h2]
  omega
theorem sh_int {a : Nat} (h : a ≤ 9) : PyData.showable (.int (a : Int)) = true ∧ (PyData.shown (.int (a : Int))).length = 1 := by
  match a, h with
  | 0, _ => exact ⟨by kernel_rfl, by kernel_rfl⟩
  | 1, _ => exact ⟨by kernel_rfl, by kernel_rfl⟩
  | 2, _ => exact ⟨by kernel_rfl, by kernel_rfl⟩
  | 3, _ => exact ⟨by kernel_rfl, by kernel_rfl⟩
  | 4, _ => exact ⟨by kernel_rfl, by kernel_rfl⟩
  | 5, _ => exact ⟨by kernel_rfl, by kernel_rfl⟩
  | 6, _ => exact ⟨by kernel_rfl, by kernel_rfl⟩
  | 7, _ => exact ⟨by kernel_rfl, by kernel_rfl⟩
  | 8, _ => exact ⟨by kernel_rfl, by kernel_rfl⟩
  | 9, _ => exact ⟨by kernel_rfl, by kernel_rfl⟩
theorem sh_pair {p : Nat × Nat} (h : p.1 ≤ 9 ∧ p.2 ≤ 9) : PyData.showable (gD (prG p)) = true ∧ (PyData.shown (gD (prG p))).length ≤ 9 := by
  have e : gD (prG p) = .tuple [.int (p.1 : Int), .int (p.2 : Int)] := rfl
  obtain ⟨a1, a2⟩ := sh_int h.1
  obtain ⟨b1, b2⟩ := sh_int h.2
  rw [e]
  refine ⟨?_, ?_⟩
  · rw [PyData.showable, PyData.showableAll, PyData.showableAll, PyData.showableAll, a1, b1]; rfl
  · rw [PyData.shown, PyData.shownAll, PyData.shownAll, PyData.shownAll]
    have := tt_len [(PyData.int (p.1 : Int)).shown, (PyData.int (p.2 : Int)).shown]
    simp only [List.map_cons, List.map_nil, List.sum_cons, List.sum_nil, List.length_cons, List.length_nil, a2, b2] at this
    omega
theorem sh_rows : ∀ {f : Rule}, (∀ p ∈ f, p.1 ≤ 9 ∧ p.2 ≤ 9) → PyData.showableAll (gDs (f.map prG)) = true ∧ ((PyData.shownAll (gDs (f.map prG))).map (·.length)).sum ≤ 9 * f.length ∧ (PyData.shownAll (gDs (f.map prG))).length = f.length
  | [], _ => ⟨rfl, Nat.le_refl _, rfl⟩
  | p :: f, h => by
    obtain ⟨a, b, c⟩ := sh_rows (f := f) fun q hq => h q (List.mem_cons_of_mem _ hq)
    obtain ⟨d, e⟩ := sh_pair (h p List.mem_cons_self)
    rw [List.map_cons, gDs, PyData.showableAll, PyData.shownAll, d, a]
    refine ⟨rfl, ?_, ?_⟩
    · rw [List.map_cons, List.sum_cons, List.length_cons]; omega
    · rw [List.length_cons, List.length_cons, c]
theorem shown_told {f : Rule} (h : ∀ p ∈ f, p.1 ≤ 9 ∧ p.2 ≤ 9) (hl : f.length ≤ 100) : (gShown S (.tup [.str "told", ruG f])).isSome = true := by
  obtain ⟨a, b, c⟩ := sh_rows h
  have h1 : gOk 60 (.tup [.str "told", ruG f]) = true := by
    rw [gOk, gOks, gOks, gOks, show gOk 59 (.str "told") = true by kernel_rfl, show gOk 59 (ruG f) = true by (unfold ruG; rw [gOk]; exact gOks_map (fun _ => rfl) f)]
    first | done | rfl
  have e : gD (.tup [.str "told", ruG f]) = .tuple [.str "told", .tuple (gDs (f.map prG))] := rfl
  have h5 : (gD (.tup [.str "told", ruG f])).showable = true := by
    rw [e, PyData.showable, PyData.showableAll, PyData.showableAll, PyData.showableAll, PyData.showable, PyData.showable, a]
    first | done | rfl
  have h6 : (gD (.tup [.str "told", ruG f])).shown.length ≤ sizeLine := by
    rw [e, PyData.shown, PyData.shownAll, PyData.shownAll, PyData.shownAll, PyData.shown, PyData.shown]
    have h2 := tt_len (PyData.shownAll (gDs (f.map prG)))
    have h3 := tt_len [reprText "told", tupleText (PyData.shownAll (gDs (f.map prG)))]
    have h4 : (reprText "told").length = 6 := by kernel_rfl
    simp only [List.map_cons, List.map_nil, List.sum_cons, List.sum_nil, List.length_cons, List.length_nil, h4] at h3
    rw [sizeLine_eq]
    omega
  unfold gShown
  rw [show gRes S (.tup [.str "told", ruG f]) = .tup [.str "told", ruG f] from rfl, if_pos ⟨h1, h5, h6⟩]
  rfl

end Lk02

end

section
set_option Elab.async false
set_option linter.all false
set_option maxRecDepth 100000
set_option maxHeartbeats 4000000
namespace Lk02
open PySem GL PySem.Builtin PySem.Builtin.Str
variable {n : Nat} {S : Sto}
/-! words and pairs -/
theorem spl_len (s : List Nat) : ∀ (L acc : List Nat) (k : Nat), ∀ p ∈ TL.spl s k acc L, p.length ≤ acc.length + L.length
  | [], acc, k, p, h => by
    rw [TL.spl_nil] at h
    rw [List.mem_singleton.mp h]
    exact Nat.le_refl _
  | c :: r, acc, 0, p, h => by
    have e : TL.spl s 0 acc (c :: r) = if TL.pre s (c :: r) = true then acc :: TL.spl s (s.length - 1) [] r else TL.spl s 0 (acc ++ [c]) r := rfl
    rw [e] at h
    split at h
    · rcases List.mem_cons.mp h with rfl | h
      · omega
      · have := spl_len s r [] _ p h
        simp at this ⊢
        omega
    · have := spl_len s r (acc ++ [c]) 0 p h
      simp at this ⊢
      omega
  | c :: r, acc, k + 1, p, h => by
    have := spl_len s r acc k p h
    simp at this ⊢
    omega
theorem split58 (w : Str) : (Txt.split w ":").map TL.tl = TL.spl [58] 0 [] (TL.tl w) :=
  TL.split_spl w ":" (by intro h; cases h) (TL.kind_ok (by kernel_rfl))
theorem split32 (w : Str) : (Txt.split w " ").map TL.tl = TL.spl [32] 0 [] (TL.tl w) :=
  TL.split_spl w " " (by intro h; cases h) (TL.kind_ok (by kernel_rfl))
theorem part_len {w p y : Str} {s : List Nat} (h : (Txt.split w y).map TL.tl = TL.spl s 0 [] (TL.tl w)) (hp : p ∈ Txt.split w y) : p.length ≤ w.length := by
  have : TL.tl p ∈ TL.spl s 0 [] (TL.tl w) := by rw [← h]; exact List.mem_map_of_mem hp
  have := spl_len s _ _ _ _ this
  rw [TL.len_tl, TL.len_tl]
  simp at this ⊢
  exact this
theorem sm {k : Nat} (h : k ≤ 1000) : k ≤ sizeLine := by rw [sizeLine_eq]; omega
def isD : List Nat → Bool
  | [c] => dig c
  | _ => false
theorem gLen_str {w : Str} (h : w.length ≤ 1000) : gLen [.str w] S = some (.int (w.length : Nat)) := if_pos (sm h)
theorem gSplit_58 {w : Str} (h : w.length ≤ 900) : gSplit (.str w) [.str ":"] S = some (.tl ((Txt.split w ":").map .str)) := if_pos ⟨by kernel_rfl, sm (by omega)⟩
theorem gSplit_32 {w : Str} (h : w.length ≤ 900) : gSplit (.str w) [.str " "] S = some (.tl ((Txt.split w " ").map .str)) := if_pos ⟨by kernel_rfl, sm (by omega)⟩
theorem blsG_map {a : Type} (f : a → Bool) : ∀ l : List a, blsG (l.map fun x => .bl (f x)) = some (l.map f)
  | [] => rfl
  | x :: l => by rw [List.map_cons, blsG, blsG_map f l]; rfl
theorem pair_in_eq {w : Str} (hw : w.length ≤ 900) : callN tab (n + 1) (.fn "pair_in") [.str w] S = .ok (match pairL (TL.tl w) with | some p => prG p | none => .non) S := by
  rw [cn_pair_in n _ _ rfl, ← pairP_spl, ← split58]
  have hs := gSplit_58 (S := S) hw
  have hl : ∀ p ∈ Txt.split w ":", p.length ≤ 900 := fun p hp => Nat.le_trans (part_len (split58 w) hp) hw
  generalize Txt.split w ":" = ps at hs hl ⊢
  refine R_ok_of ?_
  unfold sh_pair_in
  have ht : ∀ x, isSG (.str x) S = true := fun _ => rfl
  refine wp_seq (wp_set ?_)
  rw [show eMq isSG gSplit (eV 0) (aCons (eC (.str ":")) aNil) (lo0 3 [.str w]) S = .ok (.tl (ps.map .str)) S by simp only [eMq, nG, sSet, sRet, sRetN, sIf, sDrop, sNx, sBrk, sPar, sTg, sr_ok, rb_ok, ro_ok, so_ok, e1, e2, eA, eCl, eV, eC, eAnd, eOr, eNot, eIf, eCh, tV, tNot, tAnd, tOr, tYes, bof_bl, aNil, aCons, tgSet, setAll, lo0, bodyR_nx, bodyR_rt, R.wp_ok, SR.wp_nx, SR.wp_rt, SR.wp_bk, gAddA, gAdd, gSub, gLe, gLt, gGt, gGe, is_non, is_int, is_tup, is_bl, isn_non, isn_int, isn_tup, isn_bl, is_o, isn_o, gNeg, gTup1, gTup2, gTup3, gTup4, gTup5, gLst0, gLst1, gLst2, gLst3, eLstA0, List.length_cons, List.length_nil, List.map_cons, List.map_nil, List.cons_append, List.nil_append, List.replicate, Nat.sub_self, Nat.reduceSub, Nat.reduceAdd, List.getElem?_cons_zero, List.getElem?_cons_succ, List.set_cons_zero, List.set_cons_succ, Option.map_some, Bool.not_true, Bool.not_false, ite_true, ite_false, if_true, if_false, Bool.false_eq_true, gEq_int, gNe_int, gEq_bl, gNe_bl, gEq_non, gNe_non, List.isEmpty_cons, List.isEmpty_nil, ht, hs]]
  have hlen : gLen [.tl (ps.map .str)] S = some (.int (ps.length : Nat)) := by
    show some (G.int ((ps.map G.str).length : Nat)) = _
    rw [List.length_map]
  have hall : ∀ l, eLc (itV (eV 1)) [2] (.nm 2) tYes (eAnd (e2 gEq (eA gLen (aCons (eV 2) aNil)) (eC (.int 1))) (e2 gIn (eV 2) (eC (.str "0123456789")))) [l, some (.tl (ps.map .str)), none] S = .ok (.tl (ps.map fun p => .bl (isD (TL.tl p)))) S := fun l => by
    rw [eLc_map (c := G.str) (L := ps) (p := fun _ => true) (f := fun p => .bl (isD (TL.tl p))) (by simp only [nG, sSet, sRet, sRetN, sIf, sDrop, sNx, sBrk, sPar, sTg, sr_ok, rb_ok, ro_ok, so_ok, e1, e2, eA, eCl, eV, eC, eAnd, eOr, eNot, eIf, eCh, tV, tNot, tAnd, tOr, tYes, bof_bl, aNil, aCons, tgSet, setAll, lo0, bodyR_nx, bodyR_rt, R.wp_ok, SR.wp_nx, SR.wp_rt, SR.wp_bk, gAddA, gAdd, gSub, gLe, gLt, gGt, gGe, is_non, is_int, is_tup, is_bl, isn_non, isn_int, isn_tup, isn_bl, is_o, isn_o, gNeg, gTup1, gTup2, gTup3, gTup4, gTup5, gLst0, gLst1, gLst2, gLst3, eLstA0, List.length_cons, List.length_nil, List.map_cons, List.map_nil, List.cons_append, List.nil_append, List.replicate, Nat.sub_self, Nat.reduceSub, Nat.reduceAdd, List.getElem?_cons_zero, List.getElem?_cons_succ, List.set_cons_zero, List.set_cons_succ, Option.map_some, Bool.not_true, Bool.not_false, ite_true, ite_false, if_true, if_false, Bool.false_eq_true, gEq_int, gNe_int, gEq_bl, gNe_bl, gEq_non, gNe_non, List.isEmpty_cons, List.isEmpty_nil, itV]) fun p hp => ⟨_, rfl, rfl, fun _ => ?_⟩, List.filter_eq_self.mpr (fun _ _ => rfl)]
    have h1 := gLen_str (S := S) (w := p) (by have := hl p hp; omega)
    have hc := TL.len_tl p
    cases e : TL.tl p with
    | nil =>
      rw [e] at hc
      simp only [nG, sSet, sRet, sRetN, sIf, sDrop, sNx, sBrk, sPar, sTg, sr_ok, rb_ok, ro_ok, so_ok, e1, e2, eA, eCl, eV, eC, eAnd, eOr, eNot, eIf, eCh, tV, tNot, tAnd, tOr, tYes, bof_bl, aNil, aCons, tgSet, setAll, lo0, bodyR_nx, bodyR_rt, R.wp_ok, SR.wp_nx, SR.wp_rt, SR.wp_bk, gAddA, gAdd, gSub, gLe, gLt, gGt, gGe, is_non, is_int, is_tup, is_bl, isn_non, isn_int, isn_tup, isn_bl, is_o, isn_o, gNeg, gTup1, gTup2, gTup3, gTup4, gTup5, gLst0, gLst1, gLst2, gLst3, eLstA0, List.length_cons, List.length_nil, List.map_cons, List.map_nil, List.cons_append, List.nil_append, List.replicate, Nat.sub_self, Nat.reduceSub, Nat.reduceAdd, List.getElem?_cons_zero, List.getElem?_cons_succ, List.set_cons_zero, List.set_cons_succ, Option.map_some, Bool.not_true, Bool.not_false, ite_true, ite_false, if_true, if_false, Bool.false_eq_true, gEq_int, gNe_int, gEq_bl, gNe_bl, gEq_non, gNe_non, List.isEmpty_cons, List.isEmpty_nil, wipeL, h1, hc]
      rfl
    | cons c r =>
      cases r with
      | nil =>
        rw [e] at hc
        have ep : p = ⟨#[c]⟩ := TL.ext_tl e
        have hd := in_dig (S := S) c
        simp only [nG, sSet, sRet, sRetN, sIf, sDrop, sNx, sBrk, sPar, sTg, sr_ok, rb_ok, ro_ok, so_ok, e1, e2, eA, eCl, eV, eC, eAnd, eOr, eNot, eIf, eCh, tV, tNot, tAnd, tOr, tYes, bof_bl, aNil, aCons, tgSet, setAll, lo0, bodyR_nx, bodyR_rt, R.wp_ok, SR.wp_nx, SR.wp_rt, SR.wp_bk, gAddA, gAdd, gSub, gLe, gLt, gGt, gGe, is_non, is_int, is_tup, is_bl, isn_non, isn_int, isn_tup, isn_bl, is_o, isn_o, gNeg, gTup1, gTup2, gTup3, gTup4, gTup5, gLst0, gLst1, gLst2, gLst3, eLstA0, List.length_cons, List.length_nil, List.map_cons, List.map_nil, List.cons_append, List.nil_append, List.replicate, Nat.sub_self, Nat.reduceSub, Nat.reduceAdd, List.getElem?_cons_zero, List.getElem?_cons_succ, List.set_cons_zero, List.set_cons_succ, Option.map_some, Bool.not_true, Bool.not_false, ite_true, ite_false, if_true, if_false, Bool.false_eq_true, gEq_int, gNe_int, gEq_bl, gNe_bl, gEq_non, gNe_non, List.isEmpty_cons, List.isEmpty_nil, wipeL, h1, hc]
        rw [ep]
        simp only [nG, sSet, sRet, sRetN, sIf, sDrop, sNx, sBrk, sPar, sTg, sr_ok, rb_ok, ro_ok, so_ok, e1, e2, eA, eCl, eV, eC, eAnd, eOr, eNot, eIf, eCh, tV, tNot, tAnd, tOr, tYes, bof_bl, aNil, aCons, tgSet, setAll, lo0, bodyR_nx, bodyR_rt, R.wp_ok, SR.wp_nx, SR.wp_rt, SR.wp_bk, gAddA, gAdd, gSub, gLe, gLt, gGt, gGe, is_non, is_int, is_tup, is_bl, isn_non, isn_int, isn_tup, isn_bl, is_o, isn_o, gNeg, gTup1, gTup2, gTup3, gTup4, gTup5, gLst0, gLst1, gLst2, gLst3, eLstA0, List.length_cons, List.length_nil, List.map_cons, List.map_nil, List.cons_append, List.nil_append, List.replicate, Nat.sub_self, Nat.reduceSub, Nat.reduceAdd, List.getElem?_cons_zero, List.getElem?_cons_succ, List.set_cons_zero, List.set_cons_succ, Option.map_some, Bool.not_true, Bool.not_false, ite_true, ite_false, if_true, if_false, Bool.false_eq_true, gEq_int, gNe_int, gEq_bl, gNe_bl, gEq_non, gNe_non, List.isEmpty_cons, List.isEmpty_nil, hd, List.length_cons, List.length_nil]
        simp [isD]
      | cons d r =>
        rw [e] at hc
        have hn : ((p.length : Nat) : Int) ≠ 1 := by rw [hc]; simp; omega
        simp only [nG, sSet, sRet, sRetN, sIf, sDrop, sNx, sBrk, sPar, sTg, sr_ok, rb_ok, ro_ok, so_ok, e1, e2, eA, eCl, eV, eC, eAnd, eOr, eNot, eIf, eCh, tV, tNot, tAnd, tOr, tYes, bof_bl, aNil, aCons, tgSet, setAll, lo0, bodyR_nx, bodyR_rt, R.wp_ok, SR.wp_nx, SR.wp_rt, SR.wp_bk, gAddA, gAdd, gSub, gLe, gLt, gGt, gGe, is_non, is_int, is_tup, is_bl, isn_non, isn_int, isn_tup, isn_bl, is_o, isn_o, gNeg, gTup1, gTup2, gTup3, gTup4, gTup5, gLst0, gLst1, gLst2, gLst3, eLstA0, List.length_cons, List.length_nil, List.map_cons, List.map_nil, List.cons_append, List.nil_append, List.replicate, Nat.sub_self, Nat.reduceSub, Nat.reduceAdd, List.getElem?_cons_zero, List.getElem?_cons_succ, List.set_cons_zero, List.set_cons_succ, Option.map_some, Bool.not_true, Bool.not_false, ite_true, ite_false, if_true, if_false, Bool.false_eq_true, gEq_int, gNe_int, gEq_bl, gNe_bl, gEq_non, gNe_non, List.isEmpty_cons, List.isEmpty_nil, wipeL, h1, decide_eq_false hn]
        rfl
  have hga : gAll [.tl (ps.map fun p => .bl (isD (TL.tl p)))] S = some (.bl ((ps.map fun p => isD (TL.tl p)).all id)) := by
    show (blsG (ps.map fun p => .bl (isD (TL.tl p)))).map (fun l => G.bl (l.all id)) = _
    rw [blsG_map]
    rfl
  refine wp_seq ?_
  by_cases c : ps.length = 2
  · have d : decide (((2 : Nat) : Int) = 2) = true := by decide
    obtain ⟨p0, p1, rfl⟩ : ∃ p0 p1, ps = [p0, p1] := by
      match ps, c with
      | [p0, p1], _ => exact ⟨p0, p1, rfl⟩
    generalize hP : [p0, p1].map G.str = P at hlen hall
    have i0 : gIx (.tl P) (.int 0) S = some (.str p0) := by rw [← hP]; rfl
    have i1 : gIx (.tl P) (.int 1) S = some (.str p1) := by rw [← hP]; rfl
    generalize hA : ([p0, p1].map fun p => G.bl (isD (TL.tl p))) = A at hall hga
    have hb : (([p0, p1].map fun p => isD (TL.tl p)).all id) = (isD (TL.tl p0) && isD (TL.tl p1)) := by simp
    rw [hb] at hga
    simp only [nG, sSet, sRet, sRetN, sIf, sDrop, sNx, sBrk, sPar, sTg, sr_ok, rb_ok, ro_ok, so_ok, e1, e2, eA, eCl, eV, eC, eAnd, eOr, eNot, eIf, eCh, tV, tNot, tAnd, tOr, tYes, bof_bl, aNil, aCons, tgSet, setAll, lo0, bodyR_nx, bodyR_rt, R.wp_ok, SR.wp_nx, SR.wp_rt, SR.wp_bk, gAddA, gAdd, gSub, gLe, gLt, gGt, gGe, is_non, is_int, is_tup, is_bl, isn_non, isn_int, isn_tup, isn_bl, is_o, isn_o, gNeg, gTup1, gTup2, gTup3, gTup4, gTup5, gLst0, gLst1, gLst2, gLst3, eLstA0, List.length_cons, List.length_nil, List.map_cons, List.map_nil, List.cons_append, List.nil_append, List.replicate, Nat.sub_self, Nat.reduceSub, Nat.reduceAdd, List.getElem?_cons_zero, List.getElem?_cons_succ, List.set_cons_zero, List.set_cons_succ, Option.map_some, Bool.not_true, Bool.not_false, ite_true, ite_false, if_true, if_false, Bool.false_eq_true, gEq_int, gNe_int, gEq_bl, gNe_bl, gEq_non, gNe_non, List.isEmpty_cons, List.isEmpty_nil, hlen, d, hall, hga]
    cases h0 : isD (TL.tl p0) with
    | false =>
      have : pairP [TL.tl p0, TL.tl p1] = none := by
        unfold pairP
        split
        · rename_i a b e
          injection e with e1 e2
          rw [e1] at h0
          rw [if_neg (fun h => by rw [show isD [a] = dig a from rfl, h.1] at h0; cases h0)]
        · rfl
      simp only [nG, sSet, sRet, sRetN, sIf, sDrop, sNx, sBrk, sPar, sTg, sr_ok, rb_ok, ro_ok, so_ok, e1, e2, eA, eCl, eV, eC, eAnd, eOr, eNot, eIf, eCh, tV, tNot, tAnd, tOr, tYes, bof_bl, aNil, aCons, tgSet, setAll, lo0, bodyR_nx, bodyR_rt, R.wp_ok, SR.wp_nx, SR.wp_rt, SR.wp_bk, gAddA, gAdd, gSub, gLe, gLt, gGt, gGe, is_non, is_int, is_tup, is_bl, isn_non, isn_int, isn_tup, isn_bl, is_o, isn_o, gNeg, gTup1, gTup2, gTup3, gTup4, gTup5, gLst0, gLst1, gLst2, gLst3, eLstA0, List.length_cons, List.length_nil, List.map_cons, List.map_nil, List.cons_append, List.nil_append, List.replicate, Nat.sub_self, Nat.reduceSub, Nat.reduceAdd, List.getElem?_cons_zero, List.getElem?_cons_succ, List.set_cons_zero, List.set_cons_succ, Option.map_some, Bool.not_true, Bool.not_false, ite_true, ite_false, if_true, if_false, Bool.false_eq_true, gEq_int, gNe_int, gEq_bl, gNe_bl, gEq_non, gNe_non, List.isEmpty_cons, List.isEmpty_nil, Bool.false_and, this]
      exact ⟨trivial, trivial⟩
    | true =>
      cases h1 : isD (TL.tl p1) with
      | false =>
        have : pairP [TL.tl p0, TL.tl p1] = none := by
          unfold pairP
          split
          · rename_i a b e
            injection e with e1 e2
            injection e2 with e2 _
            rw [e2] at h1
            rw [if_neg (fun h => by rw [show isD [b] = dig b from rfl, h.2] at h1; cases h1)]
          · rfl
        simp only [nG, sSet, sRet, sRetN, sIf, sDrop, sNx, sBrk, sPar, sTg, sr_ok, rb_ok, ro_ok, so_ok, e1, e2, eA, eCl, eV, eC, eAnd, eOr, eNot, eIf, eCh, tV, tNot, tAnd, tOr, tYes, bof_bl, aNil, aCons, tgSet, setAll, lo0, bodyR_nx, bodyR_rt, R.wp_ok, SR.wp_nx, SR.wp_rt, SR.wp_bk, gAddA, gAdd, gSub, gLe, gLt, gGt, gGe, is_non, is_int, is_tup, is_bl, isn_non, isn_int, isn_tup, isn_bl, is_o, isn_o, gNeg, gTup1, gTup2, gTup3, gTup4, gTup5, gLst0, gLst1, gLst2, gLst3, eLstA0, List.length_cons, List.length_nil, List.map_cons, List.map_nil, List.cons_append, List.nil_append, List.replicate, Nat.sub_self, Nat.reduceSub, Nat.reduceAdd, List.getElem?_cons_zero, List.getElem?_cons_succ, List.set_cons_zero, List.set_cons_succ, Option.map_some, Bool.not_true, Bool.not_false, ite_true, ite_false, if_true, if_false, Bool.false_eq_true, gEq_int, gNe_int, gEq_bl, gNe_bl, gEq_non, gNe_non, List.isEmpty_cons, List.isEmpty_nil, Bool.true_and, this]
        exact ⟨trivial, trivial⟩
      | true =>
        have key : ∀ p, isD (TL.tl p) = true → ∃ a, dig a = true ∧ p = ⟨#[a]⟩ := fun p h => by
          cases e : TL.tl p with
          | nil => rw [e] at h; cases h
          | cons a r =>
            rw [e] at h
            cases r with
            | nil => exact ⟨a, h, TL.ext_tl e⟩
            | cons _ _ => cases h
        obtain ⟨a, ha, rfl⟩ := key p0 h0
        obtain ⟨b, hb', rfl⟩ := key p1 h1
        have e : pairP [TL.tl ⟨#[a]⟩, TL.tl ⟨#[b]⟩] = some (a - 48, b - 48) := if_pos ⟨ha, hb'⟩
        have j0 := int_dig (S := S) ha
        have j1 := int_dig (S := S) hb'
        simp only [nG, sSet, sRet, sRetN, sIf, sDrop, sNx, sBrk, sPar, sTg, sr_ok, rb_ok, ro_ok, so_ok, e1, e2, eA, eCl, eV, eC, eAnd, eOr, eNot, eIf, eCh, tV, tNot, tAnd, tOr, tYes, bof_bl, aNil, aCons, tgSet, setAll, lo0, bodyR_nx, bodyR_rt, R.wp_ok, SR.wp_nx, SR.wp_rt, SR.wp_bk, gAddA, gAdd, gSub, gLe, gLt, gGt, gGe, is_non, is_int, is_tup, is_bl, isn_non, isn_int, isn_tup, isn_bl, is_o, isn_o, gNeg, gTup1, gTup2, gTup3, gTup4, gTup5, gLst0, gLst1, gLst2, gLst3, eLstA0, List.length_cons, List.length_nil, List.map_cons, List.map_nil, List.cons_append, List.nil_append, List.replicate, Nat.sub_self, Nat.reduceSub, Nat.reduceAdd, List.getElem?_cons_zero, List.getElem?_cons_succ, List.set_cons_zero, List.set_cons_succ, Option.map_some, Bool.not_true, Bool.not_false, ite_true, ite_false, if_true, if_false, Bool.false_eq_true, gEq_int, gNe_int, gEq_bl, gNe_bl, gEq_non, gNe_non, List.isEmpty_cons, List.isEmpty_nil, Bool.true_and, e, prG, i0, i1, j0, j1]
        exact ⟨trivial, trivial⟩
  · have d : decide ((ps.length : Int) = 2) = false := decide_eq_false (by omega)
    have : pairP (ps.map TL.tl) = none := by
      unfold pairP
      split
      · rename_i a b e
        have : (ps.map TL.tl).length = 2 := by rw [e]; rfl
        rw [List.length_map] at this
        exact absurd this c
      · rfl
    simp only [nG, sSet, sRet, sRetN, sIf, sDrop, sNx, sBrk, sPar, sTg, sr_ok, rb_ok, ro_ok, so_ok, e1, e2, eA, eCl, eV, eC, eAnd, eOr, eNot, eIf, eCh, tV, tNot, tAnd, tOr, tYes, bof_bl, aNil, aCons, tgSet, setAll, lo0, bodyR_nx, bodyR_rt, R.wp_ok, SR.wp_nx, SR.wp_rt, SR.wp_bk, gAddA, gAdd, gSub, gLe, gLt, gGt, gGe, is_non, is_int, is_tup, is_bl, isn_non, isn_int, isn_tup, isn_bl, is_o, isn_o, gNeg, gTup1, gTup2, gTup3, gTup4, gTup5, gLst0, gLst1, gLst2, gLst3, eLstA0, List.length_cons, List.length_nil, List.map_cons, List.map_nil, List.cons_append, List.nil_append, List.replicate, Nat.sub_self, Nat.reduceSub, Nat.reduceAdd, List.getElem?_cons_zero, List.getElem?_cons_succ, List.set_cons_zero, List.set_cons_succ, Option.map_some, Bool.not_true, Bool.not_false, ite_true, ite_false, if_true, if_false, Bool.false_eq_true, gEq_int, gNe_int, gEq_bl, gNe_bl, gEq_non, gNe_non, List.isEmpty_cons, List.isEmpty_nil, hlen, d, this]
    exact ⟨trivial, trivial⟩

end Lk02

end

section
set_option Elab.async false
set_option linter.all false
set_option maxRecDepth 100000
set_option maxHeartbeats 4000000
namespace Lk02
open PySem GL PySem.Builtin PySem.Builtin.Str
variable {n : Nat} {S : Sto}
/-! a line read -/
def aft (f : Rule) (p : Nat × Nat) : Bool := decide (1 ≤ p.1 ∧ ∀ q, f.getLast? = some q → q.1 < p.1)
def rd : Nat → Rule → List Str → Nat ⊕ Rule
  | _, f, [] => .inr f
  | k, f, w :: ws => match pairL (TL.tl w) with
    | some p => if aft f p = true ∧ k < 5 then rd (k + 1) (f ++ [p]) ws else .inl k
    | none => .inl k
theorem pairL_le {L : List Nat} {p : Nat × Nat} (h : pairL L = some p) : p.1 ≤ 9 ∧ p.2 ≤ 9 := by
  unfold pairL at h
  split at h
  · split at h
    · rename_i h3
      cases h
      have h1 := of_decide_eq_true h3.2.1
      have h2 := of_decide_eq_true h3.2.2
      dsimp only
      omega
    · cases h
  · cases h
theorem is_pair_ref {p : Nat × Nat} {pre : Rule} {o : Nat} (hS : lstAt S o = some (pre.map prG)) (hp : p.1 ≤ 9 ∧ p.2 ≤ 9) : callN tab (n + 3) (.fn "is_pair") [prG p, .ref o] S = .ok (.bl (aft pre p)) S := by
  rw [cn_is_pair (n + 2) _ _ rfl]
  have h1 : callN tab (n + 2) (.fn "is_row") [prG p, .int 2] S = .ok (.bl true) S := is_row_eq (n := n + 1) [nG p.1, nG p.2] 2
  have h2 : callN tab (n + 2) (.fn "is_within") [nG p.1, .int 1, .int 9] S = .ok (.bl (decide (1 ≤ p.1))) S := by
    have := is_within_eq (n := n) (S := S) (p.1 : Int) 1 9
    refine this.trans ?_
    congr 3
    exact propext ⟨fun h => by omega, fun h => by omega⟩
  have h3 : callN tab (n + 2) (.fn "is_within") [nG p.2, .int 0, .int 9] S = .ok (.bl true) S := by
    have := is_within_eq (n := n) (S := S) (p.2 : Int) 0 9
    rw [decide_eq_true (by omega)] at this
    exact this
  unfold nG at h2 h3
  have hL : gLen [.ref o] S = some (.int (pre.length : Nat)) := by
    show (lstAt S o).map (fun l => G.int (l.length : Nat)) = _
    rw [hS, Option.map_some, List.length_map]
  by_cases c : 1 ≤ p.1
  · have d : decide (1 ≤ p.1) = true := decide_eq_true c
    rcases List.eq_nil_or_concat pre with rfl | ⟨pre', q, rfl⟩
    · have e : aft [] p = true := decide_eq_true ⟨c, fun q h => by cases h⟩
      simp only [nG, sSeq, sSet, sRet, sRetN, sIf, sDrop, sNx, sBrk, sPar, sTg, sr_ok, rb_ok, ro_ok, so_ok, e1, e2, eA, eCl, eV, eC, eAnd, eOr, eNot, eIf, eCh, tV, tNot, tAnd, tOr, tYes, bof_bl, aNil, aCons, tgSet, setAll, lo0, bodyR_nx, bodyR_rt, R.wp_ok, SR.wp_nx, SR.wp_rt, SR.wp_bk, gAddA, gAdd, gSub, gLe, gLt, gGt, gGe, is_non, is_int, is_tup, is_bl, isn_non, isn_int, isn_tup, isn_bl, is_o, isn_o, gNeg, gTup1, gTup2, gTup3, gTup4, gTup5, gLst0, gLst1, gLst2, gLst3, eLstA0, List.length_cons, List.length_nil, List.map_cons, List.map_nil, List.cons_append, List.nil_append, List.replicate, Nat.sub_self, Nat.reduceSub, Nat.reduceAdd, List.getElem?_cons_zero, List.getElem?_cons_succ, List.set_cons_zero, List.set_cons_succ, Option.map_some, Bool.not_true, Bool.not_false, ite_true, ite_false, if_true, if_false, Bool.false_eq_true, gEq_int, gNe_int, gEq_bl, gNe_bl, gEq_non, gNe_non, List.isEmpty_cons, List.isEmpty_nil, sh_is_pair, h1, prG_ix0, prG_ix1, h2, h3, hL, d, e]
      simp [nG, sSeq, sSet, sRet, sRetN, sIf, sDrop, sNx, sBrk, sPar, sTg, sr_ok, rb_ok, ro_ok, so_ok, e1, e2, eA, eCl, eV, eC, eAnd, eOr, eNot, eIf, eCh, tV, tNot, tAnd, tOr, tYes, bof_bl, aNil, aCons, tgSet, setAll, lo0, bodyR_nx, bodyR_rt, R.wp_ok, SR.wp_nx, SR.wp_rt, SR.wp_bk, gAddA, gAdd, gSub, gLe, gLt, gGt, gGe, is_non, is_int, is_tup, is_bl, isn_non, isn_int, isn_tup, isn_bl, is_o, isn_o, gNeg, gTup1, gTup2, gTup3, gTup4, gTup5, gLst0, gLst1, gLst2, gLst3, eLstA0, List.length_cons, List.length_nil, List.map_cons, List.map_nil, List.cons_append, List.nil_append, List.replicate, Nat.sub_self, Nat.reduceSub, Nat.reduceAdd, List.getElem?_cons_zero, List.getElem?_cons_succ, List.set_cons_zero, List.set_cons_succ, Option.map_some, Bool.not_true, Bool.not_false, ite_true, ite_false, if_true, if_false, Bool.false_eq_true, gEq_int, gNe_int, gEq_bl, gNe_bl, gEq_non, gNe_non, List.isEmpty_cons, List.isEmpty_nil]
    · rw [List.concat_eq_append] at *
      have h5 : gIx (.ref o) (.int (-1)) S = some (prG q) := by
        show (match seqG S (.ref o) with | some l => L2.atI l (-1) | none => none) = _
        rw [show seqG S (.ref o) = lstAt S o from rfl, hS, List.map_append]
        exact atI_last
      have h6 : (((pre' ++ [q]).length : Nat) : Int) ≠ 0 := by simp; omega
      have e : aft (pre' ++ [q]) p = decide (q.1 < p.1) := by
        unfold aft
        congr 1
        simp [c]
      rw [e]
      simp only [nG, sSeq, sSet, sRet, sRetN, sIf, sDrop, sNx, sBrk, sPar, sTg, sr_ok, rb_ok, ro_ok, so_ok, e1, e2, eA, eCl, eV, eC, eAnd, eOr, eNot, eIf, eCh, tV, tNot, tAnd, tOr, tYes, bof_bl, aNil, aCons, tgSet, setAll, lo0, bodyR_nx, bodyR_rt, R.wp_ok, SR.wp_nx, SR.wp_rt, SR.wp_bk, gAddA, gAdd, gSub, gLe, gLt, gGt, gGe, is_non, is_int, is_tup, is_bl, isn_non, isn_int, isn_tup, isn_bl, is_o, isn_o, gNeg, gTup1, gTup2, gTup3, gTup4, gTup5, gLst0, gLst1, gLst2, gLst3, eLstA0, List.length_cons, List.length_nil, List.map_cons, List.map_nil, List.cons_append, List.nil_append, List.replicate, Nat.sub_self, Nat.reduceSub, Nat.reduceAdd, List.getElem?_cons_zero, List.getElem?_cons_succ, List.set_cons_zero, List.set_cons_succ, Option.map_some, Bool.not_true, Bool.not_false, ite_true, ite_false, if_true, if_false, Bool.false_eq_true, gEq_int, gNe_int, gEq_bl, gNe_bl, gEq_non, gNe_non, List.isEmpty_cons, List.isEmpty_nil, sh_is_pair, h1, prG_ix0, prG_ix1, h2, h3, hL, d, h5, h6, decide_false]
      simp
  · have d : decide (1 ≤ p.1) = false := decide_eq_false c
    have e : aft pre p = false := decide_eq_false fun h => c h.1
    simp only [nG, sSeq, sSet, sRet, sRetN, sIf, sDrop, sNx, sBrk, sPar, sTg, sr_ok, rb_ok, ro_ok, so_ok, e1, e2, eA, eCl, eV, eC, eAnd, eOr, eNot, eIf, eCh, tV, tNot, tAnd, tOr, tYes, bof_bl, aNil, aCons, tgSet, setAll, lo0, bodyR_nx, bodyR_rt, R.wp_ok, SR.wp_nx, SR.wp_rt, SR.wp_bk, gAddA, gAdd, gSub, gLe, gLt, gGt, gGe, is_non, is_int, is_tup, is_bl, isn_non, isn_int, isn_tup, isn_bl, is_o, isn_o, gNeg, gTup1, gTup2, gTup3, gTup4, gTup5, gLst0, gLst1, gLst2, gLst3, eLstA0, List.length_cons, List.length_nil, List.map_cons, List.map_nil, List.cons_append, List.nil_append, List.replicate, Nat.sub_self, Nat.reduceSub, Nat.reduceAdd, List.getElem?_cons_zero, List.getElem?_cons_succ, List.set_cons_zero, List.set_cons_succ, Option.map_some, Bool.not_true, Bool.not_false, ite_true, ite_false, if_true, if_false, Bool.false_eq_true, gEq_int, gNe_int, gEq_bl, gNe_bl, gEq_non, gNe_non, List.isEmpty_cons, List.isEmpty_nil, sh_is_pair, h1, prG_ix0, prG_ix1, h2, d, e]

end Lk02

end

section
set_option Elab.async false
set_option linter.all false
set_option maxRecDepth 100000
set_option maxHeartbeats 4000000
namespace Lk02
open PySem GL PySem.Builtin PySem.Builtin.Str
variable {n : Nat} {S : Sto}
def wds (w : Str) : List Str := if w = "-" then [] else Txt.split w " "
theorem gEq_dash (w : Str) : gEq (.str w) (.str "-") S = some (.bl (decide (w = "-"))) := rfl
theorem numd_get : ∀ (xs : List G) (j k : Nat) (x : G), (numd j xs)[k]? = some x → ∃ y, xs[k]? = some y ∧ x = .tup [.int ((j + k : Nat) : Int), y]
  | [], _, _, _, h => by simp [numd] at h
  | y :: xs, j, 0, x, h => by
    simp only [numd, List.getElem?_cons_zero] at h
    exact ⟨y, rfl, (Option.some.inj h).symm⟩
  | y :: xs, j, k + 1, x, h => by
    simp only [numd, List.getElem?_cons_succ] at h
    obtain ⟨z, e, hz⟩ := numd_get xs (j + 1) k x h
    exact ⟨z, by simpa using e, by rw [hz, show j + 1 + k = j + (k + 1) by omega]⟩
theorem rd_len : ∀ (ws : List Str) (k : Nat) (f g : Rule), rd k f ws = .inr g → f.length = k → k ≤ 5 → g.length ≤ 5
  | [], k, f, g, h, hf, h5 => by
    have : f = g := Sum.inr.inj h
    rw [← this]; omega
  | w :: ws, k, f, g, h, hf, h5 => by
    unfold rd at h
    split at h
    · split at h
      · rename_i p hp hc
        exact rd_len ws (k + 1) (f ++ [p]) g h (by simp; omega) (by omega)
      · cases h
    · cases h
theorem rd_ok : ∀ (ws : List Str) (k : Nat) (f g : Rule), rd k f ws = .inr g → (∀ p ∈ f, p.1 ≤ 9 ∧ p.2 ≤ 9) → ∀ p ∈ g, p.1 ≤ 9 ∧ p.2 ≤ 9
  | [], k, f, g, h, hf => by
    have : f = g := Sum.inr.inj h
    rw [← this]; exact hf
  | w :: ws, k, f, g, h, hf => by
    unfold rd at h
    split at h
    · split at h
      · rename_i p hp hc
        refine rd_ok ws (k + 1) (f ++ [p]) g h fun q hq => ?_
        rcases List.mem_append.mp hq with hq | hq
        · exact hf q hq
        · rw [List.mem_singleton.mp hq]; exact pairL_le hp
      · cases h
    · cases h

end Lk02

end

section
set_option Elab.async false
set_option linter.all false
set_option maxRecDepth 100000
set_option maxHeartbeats 4000000
namespace Lk02
open PySem GL PySem.Builtin PySem.Builtin.Str
variable {n : Nat} {S : Sto}
theorem rd_cons (k : Nat) (f : Rule) (w : Str) (ws : List Str) : rd k f (w :: ws) = match pairL (TL.tl w) with | some p => if aft f p = true ∧ k < 5 then rd (k + 1) (f ++ [p]) ws else .inl k | none => .inl k := rfl
theorem read_rule_str {w : Str} (hw : w.length ≤ 40) : (callN tab (n + 4) (.fn "read_rule") [.str w] S).wpe (fun g S' => ∃ f, rd 0 [] (wds w) = .inr f ∧ g = ruG f ∧ Grow S S') (fun c fs S' => ∃ k : Nat, rd 0 [] (wds w) = .inl k ∧ c = "BadRule" ∧ fs = ([("place", .int (k : Nat))] : List (Str × G)) ∧ Grow S S') := by
  rw [cn_read_rule (n + 3) _ _ rfl]
  refine wpe_body ?_
  unfold sh_read_rule
  have i1 : gIsi isaT [.str w, .ty "str"] S = some (.bl true) := rfl
  have hl := gLen_str (S := S) (w := w) (by omega)
  have d40 : decide ((40 : Int) < (w.length : Int)) = false := decide_eq_false (by omega)
  refine wpe_seq (SR.wpe_of ?_)
  simp only [nG, sSet, sRet, sRetN, sIf, sDrop, sNx, sBrk, sPar, sTg, sr_ok, rb_ok, ro_ok, so_ok, e1, e2, eA, eCl, eV, eC, eAnd, eOr, eNot, eIf, eCh, tV, tNot, tAnd, tOr, tYes, bof_bl, aNil, aCons, tgSet, setAll, lo0, bodyR_nx, bodyR_rt, R.wp_ok, SR.wp_nx, SR.wp_rt, SR.wp_bk, gAddA, gAdd, gSub, gLe, gLt, gGt, gGe, is_non, is_int, is_tup, is_bl, isn_non, isn_int, isn_tup, isn_bl, is_o, isn_o, gNeg, gTup1, gTup2, gTup3, gTup4, gTup5, gLst0, gLst1, gLst2, gLst3, eLstA0, List.length_cons, List.length_nil, List.map_cons, List.map_nil, List.cons_append, List.nil_append, List.replicate, Nat.sub_self, Nat.reduceSub, Nat.reduceAdd, List.getElem?_cons_zero, List.getElem?_cons_succ, List.set_cons_zero, List.set_cons_succ, Option.map_some, Bool.not_true, Bool.not_false, ite_true, ite_false, if_true, if_false, Bool.false_eq_true, gEq_int, gNe_int, gEq_bl, gNe_bl, gEq_non, gNe_non, List.isEmpty_cons, List.isEmpty_nil, i1, hl, d40]
  refine wpe_seq (SR.wpe_of ?_)
  by_cases c : w = "-"
  · have hd : wds w = [] := if_pos c
    have d : decide (w = "-") = true := decide_eq_true c
    simp only [nG, sSet, sRet, sRetN, sIf, sDrop, sNx, sBrk, sPar, sTg, sr_ok, rb_ok, ro_ok, so_ok, e1, e2, eA, eCl, eV, eC, eAnd, eOr, eNot, eIf, eCh, tV, tNot, tAnd, tOr, tYes, bof_bl, aNil, aCons, tgSet, setAll, lo0, bodyR_nx, bodyR_rt, R.wp_ok, SR.wp_nx, SR.wp_rt, SR.wp_bk, gAddA, gAdd, gSub, gLe, gLt, gGt, gGe, is_non, is_int, is_tup, is_bl, isn_non, isn_int, isn_tup, isn_bl, is_o, isn_o, gNeg, gTup1, gTup2, gTup3, gTup4, gTup5, gLst0, gLst1, gLst2, gLst3, eLstA0, List.length_cons, List.length_nil, List.map_cons, List.map_nil, List.cons_append, List.nil_append, List.replicate, Nat.sub_self, Nat.reduceSub, Nat.reduceAdd, List.getElem?_cons_zero, List.getElem?_cons_succ, List.set_cons_zero, List.set_cons_succ, Option.map_some, Bool.not_true, Bool.not_false, ite_true, ite_false, if_true, if_false, Bool.false_eq_true, gEq_int, gNe_int, gEq_bl, gNe_bl, gEq_non, gNe_non, List.isEmpty_cons, List.isEmpty_nil, gEq_dash, d]
    exact ⟨[], by rw [hd]; rfl, rfl, .refl _⟩
  · have hd : wds w = Txt.split w " " := if_neg c
    have d : decide (w = "-") = false := decide_eq_false c
    simp only [nG, sSet, sRet, sRetN, sIf, sDrop, sNx, sBrk, sPar, sTg, sr_ok, rb_ok, ro_ok, so_ok, e1, e2, eA, eCl, eV, eC, eAnd, eOr, eNot, eIf, eCh, tV, tNot, tAnd, tOr, tYes, bof_bl, aNil, aCons, tgSet, setAll, lo0, bodyR_nx, bodyR_rt, R.wp_ok, SR.wp_nx, SR.wp_rt, SR.wp_bk, gAddA, gAdd, gSub, gLe, gLt, gGt, gGe, is_non, is_int, is_tup, is_bl, isn_non, isn_int, isn_tup, isn_bl, is_o, isn_o, gNeg, gTup1, gTup2, gTup3, gTup4, gTup5, gLst0, gLst1, gLst2, gLst3, eLstA0, List.length_cons, List.length_nil, List.map_cons, List.map_nil, List.cons_append, List.nil_append, List.replicate, Nat.sub_self, Nat.reduceSub, Nat.reduceAdd, List.getElem?_cons_zero, List.getElem?_cons_succ, List.set_cons_zero, List.set_cons_succ, Option.map_some, Bool.not_true, Bool.not_false, ite_true, ite_false, if_true, if_false, Bool.false_eq_true, gEq_int, gNe_int, gEq_bl, gNe_bl, gEq_non, gNe_non, List.isEmpty_cons, List.isEmpty_nil, gEq_dash, d]
    rw [hd]
    have hs := gSplit_32 (S := S ++ [.lst true []]) (w := w) (by omega)
    have hpl : ∀ p ∈ Txt.split w " ", p.length ≤ 40 := fun p hp => Nat.le_trans (part_len (split32 w) hp) hw
    generalize Txt.split w " " = ws at hs hpl ⊢
    refine wpe_seq (SR.wpe_of ?_)
    simp only [nG, sSet, sRet, sRetN, sIf, sDrop, sNx, sBrk, sPar, sTg, sr_ok, rb_ok, ro_ok, so_ok, e1, e2, eA, eCl, eV, eC, eAnd, eOr, eNot, eIf, eCh, tV, tNot, tAnd, tOr, tYes, bof_bl, aNil, aCons, tgSet, setAll, lo0, bodyR_nx, bodyR_rt, R.wp_ok, SR.wp_nx, SR.wp_rt, SR.wp_bk, gAddA, gAdd, gSub, gLe, gLt, gGt, gGe, is_non, is_int, is_tup, is_bl, isn_non, isn_int, isn_tup, isn_bl, is_o, isn_o, gNeg, gTup1, gTup2, gTup3, gTup4, gTup5, gLst0, gLst1, gLst2, gLst3, eLstA0, List.length_cons, List.length_nil, List.map_cons, List.map_nil, List.cons_append, List.nil_append, List.replicate, Nat.sub_self, Nat.reduceSub, Nat.reduceAdd, List.getElem?_cons_zero, List.getElem?_cons_succ, List.set_cons_zero, List.set_cons_succ, Option.map_some, Bool.not_true, Bool.not_false, ite_true, ite_false, if_true, if_false, Bool.false_eq_true, gEq_int, gNe_int, gEq_bl, gNe_bl, gEq_non, gNe_non, List.isEmpty_cons, List.isEmpty_nil]
    have it1 : itEn (aCons (eMq isSG gSplit (eV 0) (aCons (eC (.str " ")) aNil)) aNil) [some (.str w), some (.ref S.length), none, none, none] (S ++ [.lst true []]) = .ok (.fix (numd 0 (ws.map .str))) (S ++ [.lst true []]) := by
      have ht : ∀ x S, isSG (.str x) S = true := fun _ _ => rfl
      simp only [itEn, eMq, nG, sSet, sRet, sRetN, sIf, sDrop, sNx, sBrk, sPar, sTg, sr_ok, rb_ok, ro_ok, so_ok, e1, e2, eA, eCl, eV, eC, eAnd, eOr, eNot, eIf, eCh, tV, tNot, tAnd, tOr, tYes, bof_bl, aNil, aCons, tgSet, setAll, lo0, bodyR_nx, bodyR_rt, R.wp_ok, SR.wp_nx, SR.wp_rt, SR.wp_bk, gAddA, gAdd, gSub, gLe, gLt, gGt, gGe, is_non, is_int, is_tup, is_bl, isn_non, isn_int, isn_tup, isn_bl, is_o, isn_o, gNeg, gTup1, gTup2, gTup3, gTup4, gTup5, gLst0, gLst1, gLst2, gLst3, eLstA0, List.length_cons, List.length_nil, List.map_cons, List.map_nil, List.cons_append, List.nil_append, List.replicate, Nat.sub_self, Nat.reduceSub, Nat.reduceAdd, List.getElem?_cons_zero, List.getElem?_cons_succ, List.set_cons_zero, List.set_cons_succ, Option.map_some, Bool.not_true, Bool.not_false, ite_true, ite_false, if_true, if_false, Bool.false_eq_true, gEq_int, gNe_int, gEq_bl, gNe_bl, gEq_non, gNe_non, List.isEmpty_cons, List.isEmpty_nil, ht, hs]
    refine wpe_seq (wpe_for it1 (fun k l S' => ∃ (f : Rule) (u2 u3 u4 : Option G), l = [some (.str w), some (.ref S.length), u2, u3, u4] ∧ S' = S ++ [.lst true (f.map prG)] ∧ f.length = k ∧ k ≤ 5 ∧ rd 0 [] ws = rd k f (ws.drop k)) ?_ ⟨[], _, _, _, rfl, rfl, rfl, Nat.zero_le _, rfl⟩ ?_)
    · rintro k x l S' hx ⟨f, u2, u3, u4, rfl, rfl, hf, hk5, hr⟩
      obtain ⟨y, hy, rfl⟩ := numd_get _ 0 k x hx
      rw [Nat.zero_add]
      rw [List.getElem?_map] at hy
      cases e0 : ws[k]? with
      | none => rw [e0] at hy; cases hy
      | some v =>
        rw [e0] at hy
        cases hy
        refine ⟨_, rfl, ?_⟩
        have hk : k < ws.length := (List.getElem?_eq_some_iff.mp e0).1
        have hv : v ∈ ws := List.mem_of_getElem? e0
        have hdk : ws.drop k = v :: ws.drop (k + 1) := by
          rw [List.drop_eq_getElem_cons hk]
          congr 1
          exact (List.getElem?_eq_some_iff.mp e0).2
        rw [hdk] at hr
        have hp := pair_in_eq (n := n + 2) (S := S ++ [.lst true (f.map prG)]) (w := v) (by have := hpl v hv; omega)
        rw [rd_cons] at hr
        cases eP : pairL (TL.tl v) with
        | none =>
          rw [eP] at hp hr
          dsimp only at hp hr
          refine wpe_seq (SR.wpe_of ?_)
          simp only [nG, sSet, sRet, sRetN, sIf, sDrop, sNx, sBrk, sPar, sTg, sr_ok, rb_ok, ro_ok, so_ok, e1, e2, eA, eCl, eV, eC, eAnd, eOr, eNot, eIf, eCh, tV, tNot, tAnd, tOr, tYes, bof_bl, aNil, aCons, tgSet, setAll, lo0, bodyR_nx, bodyR_rt, R.wp_ok, SR.wp_nx, SR.wp_rt, SR.wp_bk, gAddA, gAdd, gSub, gLe, gLt, gGt, gGe, is_non, is_int, is_tup, is_bl, isn_non, isn_int, isn_tup, isn_bl, is_o, isn_o, gNeg, gTup1, gTup2, gTup3, gTup4, gTup5, gLst0, gLst1, gLst2, gLst3, eLstA0, List.length_cons, List.length_nil, List.map_cons, List.map_nil, List.cons_append, List.nil_append, List.replicate, Nat.sub_self, Nat.reduceSub, Nat.reduceAdd, List.getElem?_cons_zero, List.getElem?_cons_succ, List.set_cons_zero, List.set_cons_succ, Option.map_some, Bool.not_true, Bool.not_false, ite_true, ite_false, if_true, if_false, Bool.false_eq_true, gEq_int, gNe_int, gEq_bl, gNe_bl, gEq_non, gNe_non, List.isEmpty_cons, List.isEmpty_nil, hp]
          refine wpe_seq ?_
          simp only [nG, sSet, sRet, sRetN, sIf, sDrop, sNx, sBrk, sPar, sTg, sr_ok, rb_ok, ro_ok, so_ok, e1, e2, eA, eCl, eV, eC, eAnd, eOr, eNot, eIf, eCh, tV, tNot, tAnd, tOr, tYes, bof_bl, aNil, aCons, tgSet, setAll, lo0, bodyR_nx, bodyR_rt, R.wp_ok, SR.wp_nx, SR.wp_rt, SR.wp_bk, gAddA, gAdd, gSub, gLe, gLt, gGt, gGe, is_non, is_int, is_tup, is_bl, isn_non, isn_int, isn_tup, isn_bl, is_o, isn_o, gNeg, gTup1, gTup2, gTup3, gTup4, gTup5, gLst0, gLst1, gLst2, gLst3, eLstA0, List.length_cons, List.length_nil, List.map_cons, List.map_nil, List.cons_append, List.nil_append, List.replicate, Nat.sub_self, Nat.reduceSub, Nat.reduceAdd, List.getElem?_cons_zero, List.getElem?_cons_succ, List.set_cons_zero, List.set_cons_succ, Option.map_some, Bool.not_true, Bool.not_false, ite_true, ite_false, if_true, if_false, Bool.false_eq_true, gEq_int, gNe_int, gEq_bl, gNe_bl, gEq_non, gNe_non, List.isEmpty_cons, List.isEmpty_nil, sRaise, fldsOf]
          exact ⟨k, hr, rfl, rfl, .push _ _⟩
        | some p =>
          rw [eP] at hp hr
          dsimp only at hp hr
          have hip := is_pair_ref (n := n) (S := S ++ [.lst true (f.map prG)]) (p := p) (pre := f) (o := S.length) lst_mid (pairL_le eP)
          have hn : gIs (prG p) .non (S ++ [.lst true (f.map prG)]) = some (.bl false) := rfl
          refine wpe_seq (SR.wpe_of ?_)
          simp only [nG, sSet, sRet, sRetN, sIf, sDrop, sNx, sBrk, sPar, sTg, sr_ok, rb_ok, ro_ok, so_ok, e1, e2, eA, eCl, eV, eC, eAnd, eOr, eNot, eIf, eCh, tV, tNot, tAnd, tOr, tYes, bof_bl, aNil, aCons, tgSet, setAll, lo0, bodyR_nx, bodyR_rt, R.wp_ok, SR.wp_nx, SR.wp_rt, SR.wp_bk, gAddA, gAdd, gSub, gLe, gLt, gGt, gGe, is_non, is_int, is_tup, is_bl, isn_non, isn_int, isn_tup, isn_bl, is_o, isn_o, gNeg, gTup1, gTup2, gTup3, gTup4, gTup5, gLst0, gLst1, gLst2, gLst3, eLstA0, List.length_cons, List.length_nil, List.map_cons, List.map_nil, List.cons_append, List.nil_append, List.replicate, Nat.sub_self, Nat.reduceSub, Nat.reduceAdd, List.getElem?_cons_zero, List.getElem?_cons_succ, List.set_cons_zero, List.set_cons_succ, Option.map_some, Bool.not_true, Bool.not_false, ite_true, ite_false, if_true, if_false, Bool.false_eq_true, gEq_int, gNe_int, gEq_bl, gNe_bl, gEq_non, gNe_non, List.isEmpty_cons, List.isEmpty_nil, hp]
          refine wpe_seq ?_
          by_cases ca : aft f p = true
          · by_cases c5 : k < 5
            · rw [if_pos ⟨ca, c5⟩] at hr
              rw [ca] at hip
              have d5 : decide ((k : Int) = 5) = false := decide_eq_false (by omega)
              refine SR.wpe_of ?_
              simp only [nG, sSet, sRet, sRetN, sIf, sDrop, sNx, sBrk, sPar, sTg, sr_ok, rb_ok, ro_ok, so_ok, e1, e2, eA, eCl, eV, eC, eAnd, eOr, eNot, eIf, eCh, tV, tNot, tAnd, tOr, tYes, bof_bl, aNil, aCons, tgSet, setAll, lo0, bodyR_nx, bodyR_rt, R.wp_ok, SR.wp_nx, SR.wp_rt, SR.wp_bk, gAddA, gAdd, gSub, gLe, gLt, gGt, gGe, is_non, is_int, is_tup, is_bl, isn_non, isn_int, isn_tup, isn_bl, is_o, isn_o, gNeg, gTup1, gTup2, gTup3, gTup4, gTup5, gLst0, gLst1, gLst2, gLst3, eLstA0, List.length_cons, List.length_nil, List.map_cons, List.map_nil, List.cons_append, List.nil_append, List.replicate, Nat.sub_self, Nat.reduceSub, Nat.reduceAdd, List.getElem?_cons_zero, List.getElem?_cons_succ, List.set_cons_zero, List.set_cons_succ, Option.map_some, Bool.not_true, Bool.not_false, ite_true, ite_false, if_true, if_false, Bool.false_eq_true, gEq_int, gNe_int, gEq_bl, gNe_bl, gEq_non, gNe_non, List.isEmpty_cons, List.isEmpty_nil, hn, hip, d5]
              refine wpe_sr ?_
              rw [eML_of (o := S.length) (xs := f.map prG) (x := prG p) rfl get_last (by simp only [nG, sSet, sRet, sRetN, sIf, sDrop, sNx, sBrk, sPar, sTg, sr_ok, rb_ok, ro_ok, so_ok, e1, e2, eA, eCl, eV, eC, eAnd, eOr, eNot, eIf, eCh, tV, tNot, tAnd, tOr, tYes, bof_bl, aNil, aCons, tgSet, setAll, lo0, bodyR_nx, bodyR_rt, R.wp_ok, SR.wp_nx, SR.wp_rt, SR.wp_bk, gAddA, gAdd, gSub, gLe, gLt, gGt, gGe, is_non, is_int, is_tup, is_bl, isn_non, isn_int, isn_tup, isn_bl, is_o, isn_o, gNeg, gTup1, gTup2, gTup3, gTup4, gTup5, gLst0, gLst1, gLst2, gLst3, eLstA0, List.length_cons, List.length_nil, List.map_cons, List.map_nil, List.cons_append, List.nil_append, List.replicate, Nat.sub_self, Nat.reduceSub, Nat.reduceAdd, List.getElem?_cons_zero, List.getElem?_cons_succ, List.set_cons_zero, List.set_cons_succ, Option.map_some, Bool.not_true, Bool.not_false, ite_true, ite_false, if_true, if_false, Bool.false_eq_true, gEq_int, gNe_int, gEq_bl, gNe_bl, gEq_non, gNe_non, List.isEmpty_cons, List.isEmpty_nil]) (by rw [List.length_map]; omega), R.wpe_ok, set_last]
              exact ⟨f ++ [p], _, _, _, rfl, by rw [List.map_append]; rfl, by simp; omega, by omega, hr⟩
            · rw [if_neg (fun h => c5 h.2)] at hr
              rw [ca] at hip
              have d5 : decide ((k : Int) = 5) = true := decide_eq_true (by omega)
              simp only [nG, sSet, sRet, sRetN, sIf, sDrop, sNx, sBrk, sPar, sTg, sr_ok, rb_ok, ro_ok, so_ok, e1, e2, eA, eCl, eV, eC, eAnd, eOr, eNot, eIf, eCh, tV, tNot, tAnd, tOr, tYes, bof_bl, aNil, aCons, tgSet, setAll, lo0, bodyR_nx, bodyR_rt, R.wp_ok, SR.wp_nx, SR.wp_rt, SR.wp_bk, gAddA, gAdd, gSub, gLe, gLt, gGt, gGe, is_non, is_int, is_tup, is_bl, isn_non, isn_int, isn_tup, isn_bl, is_o, isn_o, gNeg, gTup1, gTup2, gTup3, gTup4, gTup5, gLst0, gLst1, gLst2, gLst3, eLstA0, List.length_cons, List.length_nil, List.map_cons, List.map_nil, List.cons_append, List.nil_append, List.replicate, Nat.sub_self, Nat.reduceSub, Nat.reduceAdd, List.getElem?_cons_zero, List.getElem?_cons_succ, List.set_cons_zero, List.set_cons_succ, Option.map_some, Bool.not_true, Bool.not_false, ite_true, ite_false, if_true, if_false, Bool.false_eq_true, gEq_int, gNe_int, gEq_bl, gNe_bl, gEq_non, gNe_non, List.isEmpty_cons, List.isEmpty_nil, hn, hip, d5, sRaise, fldsOf]
              exact ⟨k, hr, rfl, rfl, .push _ _⟩
          · rw [if_neg (fun h => ca h.1)] at hr
            rw [Bool.eq_false_iff.mpr ca] at hip
            simp only [nG, sSet, sRet, sRetN, sIf, sDrop, sNx, sBrk, sPar, sTg, sr_ok, rb_ok, ro_ok, so_ok, e1, e2, eA, eCl, eV, eC, eAnd, eOr, eNot, eIf, eCh, tV, tNot, tAnd, tOr, tYes, bof_bl, aNil, aCons, tgSet, setAll, lo0, bodyR_nx, bodyR_rt, R.wp_ok, SR.wp_nx, SR.wp_rt, SR.wp_bk, gAddA, gAdd, gSub, gLe, gLt, gGt, gGe, is_non, is_int, is_tup, is_bl, isn_non, isn_int, isn_tup, isn_bl, is_o, isn_o, gNeg, gTup1, gTup2, gTup3, gTup4, gTup5, gLst0, gLst1, gLst2, gLst3, eLstA0, List.length_cons, List.length_nil, List.map_cons, List.map_nil, List.cons_append, List.nil_append, List.replicate, Nat.sub_self, Nat.reduceSub, Nat.reduceAdd, List.getElem?_cons_zero, List.getElem?_cons_succ, List.set_cons_zero, List.set_cons_succ, Option.map_some, Bool.not_true, Bool.not_false, ite_true, ite_false, if_true, if_false, Bool.false_eq_true, gEq_int, gNe_int, gEq_bl, gNe_bl, gEq_non, gNe_non, List.isEmpty_cons, List.isEmpty_nil, hn, hip, sRaise, fldsOf]
            exact ⟨k, hr, rfl, rfl, .push _ _⟩
    · rintro l S' ⟨f, u2, u3, u4, rfl, rfl, hf, hk5, hr⟩
      have hn : (numd 0 (ws.map G.str)).length = ws.length := by rw [numd_len, List.length_map]
      rw [hn, List.drop_length] at hr
      refine wpe_ret (R.wpe_of ?_)
      simp only [nG, sSet, sRet, sRetN, sIf, sDrop, sNx, sBrk, sPar, sTg, sr_ok, rb_ok, ro_ok, so_ok, e1, e2, eA, eCl, eV, eC, eAnd, eOr, eNot, eIf, eCh, tV, tNot, tAnd, tOr, tYes, bof_bl, aNil, aCons, tgSet, setAll, lo0, bodyR_nx, bodyR_rt, R.wp_ok, SR.wp_nx, SR.wp_rt, SR.wp_bk, gAddA, gAdd, gSub, gLe, gLt, gGt, gGe, is_non, is_int, is_tup, is_bl, isn_non, isn_int, isn_tup, isn_bl, is_o, isn_o, gNeg, gTup1, gTup2, gTup3, gTup4, gTup5, gLst0, gLst1, gLst2, gLst3, eLstA0, List.length_cons, List.length_nil, List.map_cons, List.map_nil, List.cons_append, List.nil_append, List.replicate, Nat.sub_self, Nat.reduceSub, Nat.reduceAdd, List.getElem?_cons_zero, List.getElem?_cons_succ, List.set_cons_zero, List.set_cons_succ, Option.map_some, Bool.not_true, Bool.not_false, ite_true, ite_false, if_true, if_false, Bool.false_eq_true, gEq_int, gNe_int, gEq_bl, gNe_bl, gEq_non, gNe_non, List.isEmpty_cons, List.isEmpty_nil, gTuple, seqG, lst_mid]
      exact ⟨f, hr, rfl, .push _ _⟩

end Lk02

end

section
set_option Elab.async false
set_option linter.all false
set_option maxRecDepth 100000
set_option maxHeartbeats 4000000
namespace Lk02
open PySem GL PySem.Builtin PySem.Builtin.Str
variable {n : Nat} {S : Sto}
def bR (w : G) : G := .tup [.str "BadRule", w]
/-! what the law reads -/
def readG (w : Str) : G := match rd 0 [] (wds w) with
  | .inl k => bR (.int (k : Nat))
  | .inr f => .tup [.str "told", ruG f]
theorem gIx_str {w : Str} {c : Nat} {k : Nat} (h : (TL.tl w)[k]? = some c) (hl : w.length ≤ 900) : gIx (.str w) (.int (k : Nat)) S = some (.str ⟨#[c]⟩) := by
  show (if w.length ≤ sizeLine then (L2.atI w.cps.toList (k : Nat)).map fun c => G.str ⟨#[c]⟩ else none) = _
  rw [if_pos (sm (by omega)), atI_nat, show w.cps.toList[k]? = some c from h]
  rfl
theorem right_ok {w : Str} {k : Nat} {l : GL.Loc} (hl : w.length ≤ 900) (h3 : l[3]? = some (some (.int (k : Nat)))) (h4 : l[4]? = some (some (.str w))) :
    eAnd (e2 gEq (eA gLen (aCons (eV 4) aNil)) (eC (.int 3))) (eAnd (e2 gEq (e2 gIx (eV 4) (eC (.int 1))) (eC (.str ":"))) (eAnd (e2 gIn (e2 gIx (eV 4) (eC (.int 0))) (eC (.str "123456789"))) (eAnd (e2 gIn (e2 gIx (eV 4) (eC (.int 2))) (eC (.str "0123456789"))) (e2 gLt (eV 3) (eC (.int 5)))))) l S
      = .ok (.bl (match pairL (TL.tl w) with | some p => decide (1 ≤ p.1 ∧ k < 5) | none => false)) S := by
  have hlen := gLen_str (S := S) (w := w) (by omega)
  have hc := TL.len_tl w
  by_cases c3 : w.length = 3
  · obtain ⟨a, c, b, e⟩ : ∃ a c b, TL.tl w = [a, c, b] := by
      have : (TL.tl w).length = 3 := by omega
      match TL.tl w, this with
      | [a, c, b], _ => exact ⟨a, c, b, rfl⟩
    have x0 : gIx (.str w) (.int 0) S = some (.str ⟨#[a]⟩) := gIx_str (k := 0) (by rw [e]; rfl) hl
    have x1 : gIx (.str w) (.int 1) S = some (.str ⟨#[c]⟩) := gIx_str (k := 1) (by rw [e]; rfl) hl
    have x2 : gIx (.str w) (.int 2) S = some (.str ⟨#[b]⟩) := gIx_str (k := 2) (by rw [e]; rfl) hl
    have d3 : decide ((w.length : Int) = 3) = true := decide_eq_true (by omega)
    have ec : gEq (.str ⟨#[c]⟩) (.str ":") S = some (.bl (decide (c = 58))) := by
      show some (G.bl (decide ((⟨#[c]⟩ : Str) = ":"))) = _
      congr 2
      refine decide_eq_decide.mpr ⟨fun h => ?_, fun h => by subst h; kernel_rfl⟩
      have : TL.tl ⟨#[c]⟩ = TL.tl ":" := by rw [h]
      rw [show TL.tl ":" = [58] by kernel_rfl] at this
      exact (List.cons.inj this).1
    rw [e]
    simp only [nG, sSet, sRet, sRetN, sIf, sDrop, sNx, sBrk, sPar, sTg, sr_ok, rb_ok, ro_ok, so_ok, e1, e2, eA, eCl, eV, eC, eAnd, eOr, eNot, eIf, eCh, tV, tNot, tAnd, tOr, tYes, bof_bl, aNil, aCons, tgSet, setAll, lo0, bodyR_nx, bodyR_rt, R.wp_ok, SR.wp_nx, SR.wp_rt, SR.wp_bk, gAddA, gAdd, gSub, gLe, gLt, gGt, gGe, is_non, is_int, is_tup, is_bl, isn_non, isn_int, isn_tup, isn_bl, is_o, isn_o, gNeg, gTup1, gTup2, gTup3, gTup4, gTup5, gLst0, gLst1, gLst2, gLst3, eLstA0, List.length_cons, List.length_nil, List.map_cons, List.map_nil, List.cons_append, List.nil_append, List.replicate, Nat.sub_self, Nat.reduceSub, Nat.reduceAdd, List.getElem?_cons_zero, List.getElem?_cons_succ, List.set_cons_zero, List.set_cons_succ, Option.map_some, Bool.not_true, Bool.not_false, ite_true, ite_false, if_true, if_false, Bool.false_eq_true, gEq_int, gNe_int, gEq_bl, gNe_bl, gEq_non, gNe_non, List.isEmpty_cons, List.isEmpty_nil, h3, h4, hlen, d3, x0, x1, x2, ec, in_dig1 a, in_dig b]
    by_cases c58 : c = 58
    · have q1 : decide (c = 58) = true := decide_eq_true c58
      by_cases ha : 49 ≤ a ∧ a ≤ 57
      · have q2 : decide (49 ≤ a ∧ a ≤ 57) = true := decide_eq_true ha
        have q3 : dig a = true := decide_eq_true (by omega)
        cases hb : dig b with
        | true =>
          have hP : pairL [a, c, b] = some (a - 48, b - 48) := if_pos ⟨c58, q3, hb⟩
          have q4 : decide (1 ≤ a - 48 ∧ k < 5) = decide ((k : Int) < 5) := decide_eq_decide.mpr ⟨fun h => by omega, fun h => by omega⟩
          rw [hP]
          simp only [nG, sSet, sRet, sRetN, sIf, sDrop, sNx, sBrk, sPar, sTg, sr_ok, rb_ok, ro_ok, so_ok, e1, e2, eA, eCl, eV, eC, eAnd, eOr, eNot, eIf, eCh, tV, tNot, tAnd, tOr, tYes, bof_bl, aNil, aCons, tgSet, setAll, lo0, bodyR_nx, bodyR_rt, R.wp_ok, SR.wp_nx, SR.wp_rt, SR.wp_bk, gAddA, gAdd, gSub, gLe, gLt, gGt, gGe, is_non, is_int, is_tup, is_bl, isn_non, isn_int, isn_tup, isn_bl, is_o, isn_o, gNeg, gTup1, gTup2, gTup3, gTup4, gTup5, gLst0, gLst1, gLst2, gLst3, eLstA0, List.length_cons, List.length_nil, List.map_cons, List.map_nil, List.cons_append, List.nil_append, List.replicate, Nat.sub_self, Nat.reduceSub, Nat.reduceAdd, List.getElem?_cons_zero, List.getElem?_cons_succ, List.set_cons_zero, List.set_cons_succ, Option.map_some, Bool.not_true, Bool.not_false, ite_true, ite_false, if_true, if_false, Bool.false_eq_true, gEq_int, gNe_int, gEq_bl, gNe_bl, gEq_non, gNe_non, List.isEmpty_cons, List.isEmpty_nil, q1, q2, h3]
          rw [q4]
        | false =>
          have hP : pairL [a, c, b] = none := if_neg fun h => by rw [hb] at h; cases h.2.2
          rw [hP]
          simp only [nG, sSet, sRet, sRetN, sIf, sDrop, sNx, sBrk, sPar, sTg, sr_ok, rb_ok, ro_ok, so_ok, e1, e2, eA, eCl, eV, eC, eAnd, eOr, eNot, eIf, eCh, tV, tNot, tAnd, tOr, tYes, bof_bl, aNil, aCons, tgSet, setAll, lo0, bodyR_nx, bodyR_rt, R.wp_ok, SR.wp_nx, SR.wp_rt, SR.wp_bk, gAddA, gAdd, gSub, gLe, gLt, gGt, gGe, is_non, is_int, is_tup, is_bl, isn_non, isn_int, isn_tup, isn_bl, is_o, isn_o, gNeg, gTup1, gTup2, gTup3, gTup4, gTup5, gLst0, gLst1, gLst2, gLst3, eLstA0, List.length_cons, List.length_nil, List.map_cons, List.map_nil, List.cons_append, List.nil_append, List.replicate, Nat.sub_self, Nat.reduceSub, Nat.reduceAdd, List.getElem?_cons_zero, List.getElem?_cons_succ, List.set_cons_zero, List.set_cons_succ, Option.map_some, Bool.not_true, Bool.not_false, ite_true, ite_false, if_true, if_false, Bool.false_eq_true, gEq_int, gNe_int, gEq_bl, gNe_bl, gEq_non, gNe_non, List.isEmpty_cons, List.isEmpty_nil, q1, q2, h3]
      · have q2 : decide (49 ≤ a ∧ a ≤ 57) = false := decide_eq_false ha
        have hP : (match pairL [a, c, b] with | some p => decide (1 ≤ p.1 ∧ k < 5) | none => false) = false := by
          cases e2 : pairL [a, c, b] with
          | none => rfl
          | some p =>
            have e3 : (if c = 58 ∧ dig a = true ∧ dig b = true then some (a - 48, b - 48) else none) = some p := e2
            split at e3
            · rename_i h
              have h1 := of_decide_eq_true h.2.1
              cases e3
              exact decide_eq_false fun h => by dsimp only at h; omega
            · cases e3
        rw [hP]
        simp only [nG, sSet, sRet, sRetN, sIf, sDrop, sNx, sBrk, sPar, sTg, sr_ok, rb_ok, ro_ok, so_ok, e1, e2, eA, eCl, eV, eC, eAnd, eOr, eNot, eIf, eCh, tV, tNot, tAnd, tOr, tYes, bof_bl, aNil, aCons, tgSet, setAll, lo0, bodyR_nx, bodyR_rt, R.wp_ok, SR.wp_nx, SR.wp_rt, SR.wp_bk, gAddA, gAdd, gSub, gLe, gLt, gGt, gGe, is_non, is_int, is_tup, is_bl, isn_non, isn_int, isn_tup, isn_bl, is_o, isn_o, gNeg, gTup1, gTup2, gTup3, gTup4, gTup5, gLst0, gLst1, gLst2, gLst3, eLstA0, List.length_cons, List.length_nil, List.map_cons, List.map_nil, List.cons_append, List.nil_append, List.replicate, Nat.sub_self, Nat.reduceSub, Nat.reduceAdd, List.getElem?_cons_zero, List.getElem?_cons_succ, List.set_cons_zero, List.set_cons_succ, Option.map_some, Bool.not_true, Bool.not_false, ite_true, ite_false, if_true, if_false, Bool.false_eq_true, gEq_int, gNe_int, gEq_bl, gNe_bl, gEq_non, gNe_non, List.isEmpty_cons, List.isEmpty_nil, q1, q2, h3]
    · have q1 : decide (c = 58) = false := decide_eq_false c58
      have hP : pairL [a, c, b] = none := if_neg fun h => c58 h.1
      rw [hP]
      simp only [nG, sSet, sRet, sRetN, sIf, sDrop, sNx, sBrk, sPar, sTg, sr_ok, rb_ok, ro_ok, so_ok, e1, e2, eA, eCl, eV, eC, eAnd, eOr, eNot, eIf, eCh, tV, tNot, tAnd, tOr, tYes, bof_bl, aNil, aCons, tgSet, setAll, lo0, bodyR_nx, bodyR_rt, R.wp_ok, SR.wp_nx, SR.wp_rt, SR.wp_bk, gAddA, gAdd, gSub, gLe, gLt, gGt, gGe, is_non, is_int, is_tup, is_bl, isn_non, isn_int, isn_tup, isn_bl, is_o, isn_o, gNeg, gTup1, gTup2, gTup3, gTup4, gTup5, gLst0, gLst1, gLst2, gLst3, eLstA0, List.length_cons, List.length_nil, List.map_cons, List.map_nil, List.cons_append, List.nil_append, List.replicate, Nat.sub_self, Nat.reduceSub, Nat.reduceAdd, List.getElem?_cons_zero, List.getElem?_cons_succ, List.set_cons_zero, List.set_cons_succ, Option.map_some, Bool.not_true, Bool.not_false, ite_true, ite_false, if_true, if_false, Bool.false_eq_true, gEq_int, gNe_int, gEq_bl, gNe_bl, gEq_non, gNe_non, List.isEmpty_cons, List.isEmpty_nil, q1]
  · have d3 : decide ((w.length : Int) = 3) = false := decide_eq_false (by omega)
    have : pairL (TL.tl w) = none := by
      unfold pairL
      split
      · rename_i a c b e
        rw [e] at hc
        exact absurd hc c3
      · rfl
    rw [this]
    simp only [nG, sSet, sRet, sRetN, sIf, sDrop, sNx, sBrk, sPar, sTg, sr_ok, rb_ok, ro_ok, so_ok, e1, e2, eA, eCl, eV, eC, eAnd, eOr, eNot, eIf, eCh, tV, tNot, tAnd, tOr, tYes, bof_bl, aNil, aCons, tgSet, setAll, lo0, bodyR_nx, bodyR_rt, R.wp_ok, SR.wp_nx, SR.wp_rt, SR.wp_bk, gAddA, gAdd, gSub, gLe, gLt, gGt, gGe, is_non, is_int, is_tup, is_bl, isn_non, isn_int, isn_tup, isn_bl, is_o, isn_o, gNeg, gTup1, gTup2, gTup3, gTup4, gTup5, gLst0, gLst1, gLst2, gLst3, eLstA0, List.length_cons, List.length_nil, List.map_cons, List.map_nil, List.cons_append, List.nil_append, List.replicate, Nat.sub_self, Nat.reduceSub, Nat.reduceAdd, List.getElem?_cons_zero, List.getElem?_cons_succ, List.set_cons_zero, List.set_cons_succ, Option.map_some, Bool.not_true, Bool.not_false, ite_true, ite_false, if_true, if_false, Bool.false_eq_true, gEq_int, gNe_int, gEq_bl, gNe_bl, gEq_non, gNe_non, List.isEmpty_cons, List.isEmpty_nil, h4, hlen, d3]

end Lk02

end

section
set_option Elab.async false
set_option linter.all false
set_option maxRecDepth 100000
set_option maxHeartbeats 4000000
namespace Lk02
open PySem GL PySem.Builtin PySem.Builtin.Str
variable {n : Nat} {S : Sto}
theorem gNe_refR {o : Nat} {f : Rule} (h : lstAt S o = some (f.map prG)) : gNe (.ref o) (.tl []) S = some (.bl (!f.isEmpty)) := by
  show (gEqD S (.ref o) (.tl [])).map (fun b => G.bl (!b)) = _
  have h1 : gOk 60 (.tl (f.map prG)) = true := by rw [gOk]; exact gOks_map (fun _ => rfl) f
  have h2 : gOk 60 (.tl []) = true := by rw [gOk]; rfl
  have h3 : gRes S (.ref o) = .tl (f.map prG) := by unfold gRes; dsimp only; rw [h]
  unfold gEqD
  rw [h3, show gRes S (.tl []) = .tl [] from rfl, if_pos ⟨h1, h2⟩]
  cases f with
  | nil => rfl
  | cons x z => rfl
theorem pairL_head {L : List Nat} {p : Nat × Nat} (h : pairL L = some p) : ∃ a b, L = [a, 58, b] ∧ dig a = true ∧ dig b = true ∧ p = (a - 48, b - 48) := by
  unfold pairL at h
  split at h
  · split at h
    · rename_i a c b h3
      cases h
      obtain ⟨rfl, ha, hb⟩ := h3
      exact ⟨a, b, rfl, ha, hb, rfl⟩
    · cases h
  · cases h
theorem spl_count (s : List Nat) : ∀ (L acc : List Nat) (k : Nat), (TL.spl s k acc L).length ≤ L.length + 1
  | [], acc, k => by rw [TL.spl_nil]; exact Nat.le_refl _
  | c :: r, acc, 0 => by
    have e : TL.spl s 0 acc (c :: r) = if TL.pre s (c :: r) = true then acc :: TL.spl s (s.length - 1) [] r else TL.spl s 0 (acc ++ [c]) r := rfl
    rw [e]
    split
    · have := spl_count s r [] (s.length - 1)
      rw [List.length_cons, List.length_cons]; omega
    · have := spl_count s r (acc ++ [c]) 0
      rw [List.length_cons]; omega
  | c :: r, acc, k + 1 => by
    have := spl_count s r acc k
    rw [List.length_cons]
    exact Nat.le_trans this (by omega)
theorem wds_count {w : Str} (hw : w.length ≤ 40) : (wds w).length ≤ 41 := by
  unfold wds
  split
  · exact Nat.zero_le _
  · have h := congrArg List.length (split32 w)
    rw [List.length_map] at h
    rw [h]
    refine Nat.le_trans (spl_count _ _ _ _) ?_
    rw [← TL.len_tl]
    omega
theorem law_read_str {w : Str} (hw : w.length ≤ 40) : (callN tab (n + 1) (.fn "_law_read") [.str w] S).wp fun g S' => g = readG w ∧ Grow S S' := by
  rw [cn__law_read n _ _ rfl]
  refine wp_body ?_
  unfold sh__law_read
  have i1 : gIsi isaT [.str w, .ty "str"] S = some (.bl true) := rfl
  have hl := gLen_str (S := S) (w := w) (by omega)
  have d40 : decide ((40 : Int) < (w.length : Int)) = false := decide_eq_false (by omega)
  refine wp_seq ?_
  simp only [nG, sSet, sRet, sRetN, sIf, sDrop, sNx, sBrk, sPar, sTg, sr_ok, rb_ok, ro_ok, so_ok, e1, e2, eA, eCl, eV, eC, eAnd, eOr, eNot, eIf, eCh, tV, tNot, tAnd, tOr, tYes, bof_bl, aNil, aCons, tgSet, setAll, lo0, bodyR_nx, bodyR_rt, R.wp_ok, SR.wp_nx, SR.wp_rt, SR.wp_bk, gAddA, gAdd, gSub, gLe, gLt, gGt, gGe, is_non, is_int, is_tup, is_bl, isn_non, isn_int, isn_tup, isn_bl, is_o, isn_o, gNeg, gTup1, gTup2, gTup3, gTup4, gTup5, gLst0, gLst1, gLst2, gLst3, eLstA0, List.length_cons, List.length_nil, List.map_cons, List.map_nil, List.cons_append, List.nil_append, List.replicate, Nat.sub_self, Nat.reduceSub, Nat.reduceAdd, List.getElem?_cons_zero, List.getElem?_cons_succ, List.set_cons_zero, List.set_cons_succ, Option.map_some, Bool.not_true, Bool.not_false, ite_true, ite_false, if_true, if_false, Bool.false_eq_true, gEq_int, gNe_int, gEq_bl, gNe_bl, gEq_non, gNe_non, List.isEmpty_cons, List.isEmpty_nil, i1, hl, d40]
  have hpl : ∀ p ∈ wds w, p.length ≤ 40 := fun p hp => by
    unfold wds at hp
    split at hp
    · cases hp
    · exact Nat.le_trans (part_len (split32 w) hp) hw
  have e1' : ∀ l : GL.Loc, l[0]? = some (some (.str w)) → eIf (tV (e2 gEq (eV 0) (eC (.str "-")))) (eA gLst aNil) (eMq isSG gSplit (eV 0) (aCons (eC (.str " ")) aNil)) l (S ++ [.lst true []]) = .ok (.tl ((wds w).map .str)) (S ++ [.lst true []]) := fun l h => by
    by_cases c : w = "-"
    · have d : decide (w = "-") = true := decide_eq_true c
      rw [show wds w = [] from if_pos c]
      simp only [nG, sSet, sRet, sRetN, sIf, sDrop, sNx, sBrk, sPar, sTg, sr_ok, rb_ok, ro_ok, so_ok, e1, e2, eA, eCl, eV, eC, eAnd, eOr, eNot, eIf, eCh, tV, tNot, tAnd, tOr, tYes, bof_bl, aNil, aCons, tgSet, setAll, lo0, bodyR_nx, bodyR_rt, R.wp_ok, SR.wp_nx, SR.wp_rt, SR.wp_bk, gAddA, gAdd, gSub, gLe, gLt, gGt, gGe, is_non, is_int, is_tup, is_bl, isn_non, isn_int, isn_tup, isn_bl, is_o, isn_o, gNeg, gTup1, gTup2, gTup3, gTup4, gTup5, gLst0, gLst1, gLst2, gLst3, eLstA0, List.length_cons, List.length_nil, List.map_cons, List.map_nil, List.cons_append, List.nil_append, List.replicate, Nat.sub_self, Nat.reduceSub, Nat.reduceAdd, List.getElem?_cons_zero, List.getElem?_cons_succ, List.set_cons_zero, List.set_cons_succ, Option.map_some, Bool.not_true, Bool.not_false, ite_true, ite_false, if_true, if_false, Bool.false_eq_true, gEq_int, gNe_int, gEq_bl, gNe_bl, gEq_non, gNe_non, List.isEmpty_cons, List.isEmpty_nil, h, gEq_dash, d]
    · have d : decide (w = "-") = false := decide_eq_false c
      rw [show wds w = Txt.split w " " from if_neg c]
      have hs := gSplit_32 (S := S ++ [.lst true []]) (w := w) (by omega)
      have ht : ∀ x S, isSG (.str x) S = true := fun _ _ => rfl
      simp only [nG, sSet, sRet, sRetN, sIf, sDrop, sNx, sBrk, sPar, sTg, sr_ok, rb_ok, ro_ok, so_ok, e1, e2, eA, eCl, eV, eC, eAnd, eOr, eNot, eIf, eCh, tV, tNot, tAnd, tOr, tYes, bof_bl, aNil, aCons, tgSet, setAll, lo0, bodyR_nx, bodyR_rt, R.wp_ok, SR.wp_nx, SR.wp_rt, SR.wp_bk, gAddA, gAdd, gSub, gLe, gLt, gGt, gGe, is_non, is_int, is_tup, is_bl, isn_non, isn_int, isn_tup, isn_bl, is_o, isn_o, gNeg, gTup1, gTup2, gTup3, gTup4, gTup5, gLst0, gLst1, gLst2, gLst3, eLstA0, List.length_cons, List.length_nil, List.map_cons, List.map_nil, List.cons_append, List.nil_append, List.replicate, Nat.sub_self, Nat.reduceSub, Nat.reduceAdd, List.getElem?_cons_zero, List.getElem?_cons_succ, List.set_cons_zero, List.set_cons_succ, Option.map_some, Bool.not_true, Bool.not_false, ite_true, ite_false, if_true, if_false, Bool.false_eq_true, gEq_int, gNe_int, gEq_bl, gNe_bl, gEq_non, gNe_non, List.isEmpty_cons, List.isEmpty_nil, h, gEq_dash, d, eMq, ht, hs]
  refine wp_seq (wp_sr ?_)
  rw [eLstA0, R.wp_ok]
  refine wp_sr ?_
  rw [e1' _ rfl, R.wp_ok]
  simp only [List.set_cons_zero, List.set_cons_succ]
  unfold readG
  have hcnt := wds_count hw
  generalize wds w = ws at hpl hcnt ⊢
  have hlen : ∀ S, gLen [.tl (ws.map .str)] S = some (.int (ws.length : Nat)) := fun S => by
    show some (G.int ((ws.map G.str).length : Nat)) = _
    rw [List.length_map]
  refine wp_seq (wp_for (xs := (List.range ws.length).map nG) (itR1_nat (n := ws.length) (by simp only [nG, sSet, sRet, sRetN, sIf, sDrop, sNx, sBrk, sPar, sTg, sr_ok, rb_ok, ro_ok, so_ok, e1, e2, eA, eCl, eV, eC, eAnd, eOr, eNot, eIf, eCh, tV, tNot, tAnd, tOr, tYes, bof_bl, aNil, aCons, tgSet, setAll, lo0, bodyR_nx, bodyR_rt, R.wp_ok, SR.wp_nx, SR.wp_rt, SR.wp_bk, gAddA, gAdd, gSub, gLe, gLt, gGt, gGe, is_non, is_int, is_tup, is_bl, isn_non, isn_int, isn_tup, isn_bl, is_o, isn_o, gNeg, gTup1, gTup2, gTup3, gTup4, gTup5, gLst0, gLst1, gLst2, gLst3, eLstA0, List.length_cons, List.length_nil, List.map_cons, List.map_nil, List.cons_append, List.nil_append, List.replicate, Nat.sub_self, Nat.reduceSub, Nat.reduceAdd, List.getElem?_cons_zero, List.getElem?_cons_succ, List.set_cons_zero, List.set_cons_succ, Option.map_some, Bool.not_true, Bool.not_false, ite_true, ite_false, if_true, if_false, Bool.false_eq_true, gEq_int, gNe_int, gEq_bl, gNe_bl, gEq_non, gNe_non, List.isEmpty_cons, List.isEmpty_nil, hlen]) (by omega)) (fun k l S' => ∃ (f : Rule) (u3 u4 u5 : Option G), l = [some (.str w), some (.ref S.length), some (.tl (ws.map .str)), u3, u4, u5] ∧ S' = S ++ [.lst true (f.map prG)] ∧ f.length = k ∧ k ≤ 5 ∧ rd 0 [] ws = rd k f (ws.drop k)) ?_ ⟨[], _, _, _, rfl, rfl, rfl, Nat.zero_le _, rfl⟩ ?_)
  · rintro k x l S' hx ⟨f, u3, u4, u5, rfl, rfl, hf, hk5, hr⟩
    have hk : k < ws.length := by
      have := (List.getElem?_eq_some_iff.mp hx).1
      rw [List.length_map, List.length_range] at this
      exact this
    have hx' : x = .int (k : Nat) := by
      rw [List.getElem?_map, List.getElem?_range hk] at hx
      exact (Option.some.inj hx).symm
    subst hx'
    have e0 : ws[k]? = some ws[k] := List.getElem?_eq_getElem hk
    have hv : ws[k] ∈ ws := List.getElem_mem hk
    have hdk : ws.drop k = ws[k] :: ws.drop (k + 1) := List.drop_eq_getElem_cons hk
    rw [hdk] at hr
    have hlv := hpl _ hv
    generalize ws[k] = v at e0 hv hlv hr
    refine ⟨_, rfl, ?_⟩
    have hix : gIx (.tl (ws.map .str)) (.int (k : Nat)) (S ++ [.lst true (f.map prG)]) = some (.str v) := ix_tl (by rw [List.getElem?_map, e0]; rfl)
    refine wp_seq ?_
    simp only [nG, sSet, sRet, sRetN, sIf, sDrop, sNx, sBrk, sPar, sTg, sr_ok, rb_ok, ro_ok, so_ok, e1, e2, eA, eCl, eV, eC, eAnd, eOr, eNot, eIf, eCh, tV, tNot, tAnd, tOr, tYes, bof_bl, aNil, aCons, tgSet, setAll, lo0, bodyR_nx, bodyR_rt, R.wp_ok, SR.wp_nx, SR.wp_rt, SR.wp_bk, gAddA, gAdd, gSub, gLe, gLt, gGt, gGe, is_non, is_int, is_tup, is_bl, isn_non, isn_int, isn_tup, isn_bl, is_o, isn_o, gNeg, gTup1, gTup2, gTup3, gTup4, gTup5, gLst0, gLst1, gLst2, gLst3, eLstA0, List.length_cons, List.length_nil, List.map_cons, List.map_nil, List.cons_append, List.nil_append, List.replicate, Nat.sub_self, Nat.reduceSub, Nat.reduceAdd, List.getElem?_cons_zero, List.getElem?_cons_succ, List.set_cons_zero, List.set_cons_succ, Option.map_some, Bool.not_true, Bool.not_false, ite_true, ite_false, if_true, if_false, Bool.false_eq_true, gEq_int, gNe_int, gEq_bl, gNe_bl, gEq_non, gNe_non, List.isEmpty_cons, List.isEmpty_nil, hix]
    refine wp_seq (wp_set ?_)
    rw [right_ok (w := v) (k := k) (by omega) rfl rfl, R.wp_ok]
    simp only [List.set_cons_zero, List.set_cons_succ]
    rw [rd_cons] at hr
    cases eP : pairL (TL.tl v) with
    | none =>
      rw [eP] at hr
      dsimp only at hr ⊢
      refine wp_seq ?_
      simp only [nG, sSet, sRet, sRetN, sIf, sDrop, sNx, sBrk, sPar, sTg, sr_ok, rb_ok, ro_ok, so_ok, e1, e2, eA, eCl, eV, eC, eAnd, eOr, eNot, eIf, eCh, tV, tNot, tAnd, tOr, tYes, bof_bl, aNil, aCons, tgSet, setAll, lo0, bodyR_nx, bodyR_rt, R.wp_ok, SR.wp_nx, SR.wp_rt, SR.wp_bk, gAddA, gAdd, gSub, gLe, gLt, gGt, gGe, is_non, is_int, is_tup, is_bl, isn_non, isn_int, isn_tup, isn_bl, is_o, isn_o, gNeg, gTup1, gTup2, gTup3, gTup4, gTup5, gLst0, gLst1, gLst2, gLst3, eLstA0, List.length_cons, List.length_nil, List.map_cons, List.map_nil, List.cons_append, List.nil_append, List.replicate, Nat.sub_self, Nat.reduceSub, Nat.reduceAdd, List.getElem?_cons_zero, List.getElem?_cons_succ, List.set_cons_zero, List.set_cons_succ, Option.map_some, Bool.not_true, Bool.not_false, ite_true, ite_false, if_true, if_false, Bool.false_eq_true, gEq_int, gNe_int, gEq_bl, gNe_bl, gEq_non, gNe_non, List.isEmpty_cons, List.isEmpty_nil]
      rw [hr]
      exact ⟨rfl, .push _ _⟩
    | some p =>
      rw [eP] at hr
      dsimp only at hr ⊢
      by_cases c : 1 ≤ p.1 ∧ k < 5
      · obtain ⟨a, b, eL, ha, hb, rfl⟩ := pairL_head eP
        have x0 : gIx (.str v) (.int 0) (S ++ [.lst true (f.map prG)]) = some (.str ⟨#[a]⟩) := gIx_str (k := 0) (by rw [eL]; rfl) (by omega)
        have x2 : gIx (.str v) (.int 2) (S ++ [.lst true (f.map prG)]) = some (.str ⟨#[b]⟩) := gIx_str (k := 2) (by rw [eL]; rfl) (by omega)
        have j0 := int_dig (S := S ++ [.lst true (f.map prG)]) ha
        have j2 := int_dig (S := S ++ [.lst true (f.map prG)]) hb
        have hne := gNe_refR (S := S ++ [.lst true (f.map prG)]) (o := S.length) (f := f) lst_mid
        rw [decide_eq_true c]
        have fin : ∀ (c1 : aft f (a - 48, b - 48) = true), SR.wp (fun l S' => ∃ (f : Rule) (u3 u4 u5 : Option G), l = [some (.str w), some (.ref S.length), some (.tl (ws.map .str)), u3, u4, u5] ∧ S' = S ++ [.lst true (f.map prG)] ∧ f.length = k + 1 ∧ k + 1 ≤ 5 ∧ rd 0 [] ws = rd (k + 1) f (ws.drop (k + 1))) (fun _ _ => False) (fun _ _ => False)
            (sDrop (eML gApp (eV 1) (aCons (eA gTup (aCons (eA gInt (aCons (e2 gIx (eV 4) (eC (.int 0))) aNil)) (aCons (eA gInt (aCons (e2 gIx (eV 4) (eC (.int 2))) aNil)) aNil))) aNil)) [some (.str w), some (.ref S.length), some (.tl (ws.map .str)), some (.int (k : Nat)), some (.str v), some (.bl true)] (S ++ [.lst true (f.map prG)])) := fun c1 => by
          rw [if_pos ⟨c1, c.2⟩] at hr
          refine wp_drop ?_
          rw [eML_of (o := S.length) (xs := f.map prG) (x := prG (a - 48, b - 48)) rfl get_last (by simp only [nG, sSet, sRet, sRetN, sIf, sDrop, sNx, sBrk, sPar, sTg, sr_ok, rb_ok, ro_ok, so_ok, e1, e2, eA, eCl, eV, eC, eAnd, eOr, eNot, eIf, eCh, tV, tNot, tAnd, tOr, tYes, bof_bl, aNil, aCons, tgSet, setAll, lo0, bodyR_nx, bodyR_rt, R.wp_ok, SR.wp_nx, SR.wp_rt, SR.wp_bk, gAddA, gAdd, gSub, gLe, gLt, gGt, gGe, is_non, is_int, is_tup, is_bl, isn_non, isn_int, isn_tup, isn_bl, is_o, isn_o, gNeg, gTup1, gTup2, gTup3, gTup4, gTup5, gLst0, gLst1, gLst2, gLst3, eLstA0, List.length_cons, List.length_nil, List.map_cons, List.map_nil, List.cons_append, List.nil_append, List.replicate, Nat.sub_self, Nat.reduceSub, Nat.reduceAdd, List.getElem?_cons_zero, List.getElem?_cons_succ, List.set_cons_zero, List.set_cons_succ, Option.map_some, Bool.not_true, Bool.not_false, ite_true, ite_false, if_true, if_false, Bool.false_eq_true, gEq_int, gNe_int, gEq_bl, gNe_bl, gEq_non, gNe_non, List.isEmpty_cons, List.isEmpty_nil, x0, x2, j0, j2, prG]) (by rw [List.length_map]; omega), R.wp_ok, set_last]
          exact ⟨f ++ [(a - 48, b - 48)], _, _, _, rfl, by rw [List.map_append]; rfl, by simp; omega, by omega, hr⟩
        cases hfe : f.isEmpty with
        | true =>
          have hf0 : f = [] := List.isEmpty_iff.mp hfe
          rw [hfe] at hne
          refine wp_seq ?_
          simp only [nG, sSet, sRet, sRetN, sIf, sDrop, sNx, sBrk, sPar, sTg, sr_ok, rb_ok, ro_ok, so_ok, e1, e2, eA, eCl, eV, eC, eAnd, eOr, eNot, eIf, eCh, tV, tNot, tAnd, tOr, tYes, bof_bl, aNil, aCons, tgSet, setAll, lo0, bodyR_nx, bodyR_rt, R.wp_ok, SR.wp_nx, SR.wp_rt, SR.wp_bk, gAddA, gAdd, gSub, gLe, gLt, gGt, gGe, is_non, is_int, is_tup, is_bl, isn_non, isn_int, isn_tup, isn_bl, is_o, isn_o, gNeg, gTup1, gTup2, gTup3, gTup4, gTup5, gLst0, gLst1, gLst2, gLst3, eLstA0, List.length_cons, List.length_nil, List.map_cons, List.map_nil, List.cons_append, List.nil_append, List.replicate, Nat.sub_self, Nat.reduceSub, Nat.reduceAdd, List.getElem?_cons_zero, List.getElem?_cons_succ, List.set_cons_zero, List.set_cons_succ, Option.map_some, Bool.not_true, Bool.not_false, ite_true, ite_false, if_true, if_false, Bool.false_eq_true, gEq_int, gNe_int, gEq_bl, gNe_bl, gEq_non, gNe_non, List.isEmpty_cons, List.isEmpty_nil, hne]
          exact SR.wp_mono (fin (by rw [hf0]; exact decide_eq_true ⟨c.1, fun q h => by cases h⟩)) (fun _ _ h => h) (fun _ _ h => False.elim h) (fun _ _ h => False.elim h)
        | false =>
          obtain ⟨q, hq, hqi⟩ : ∃ q, f.getLast? = some q ∧ gIx (.ref S.length) (.int (-1)) (S ++ [.lst true (f.map prG)]) = some (prG q) := by
            rcases List.eq_nil_or_concat f with rfl | ⟨f', q, rfl⟩
            · cases hfe
            · refine ⟨q, by simp, ?_⟩
              show (match seqG _ (.ref S.length) with | some l => L2.atI l (-1) | none => none) = _
              rw [show seqG (S ++ [.lst true ((f'.concat q).map prG)]) (.ref S.length) = some ((f'.concat q).map prG) from lst_mid, List.concat_eq_append, List.map_append]
              exact atI_last
          rw [hfe] at hne
          by_cases cq : q.1 < a - 48
          · have d : decide (((a - 48 : Nat) : Int) ≤ (q.1 : Int)) = false := decide_eq_false (by omega)
            refine wp_seq ?_
            simp only [nG, sSet, sRet, sRetN, sIf, sDrop, sNx, sBrk, sPar, sTg, sr_ok, rb_ok, ro_ok, so_ok, e1, e2, eA, eCl, eV, eC, eAnd, eOr, eNot, eIf, eCh, tV, tNot, tAnd, tOr, tYes, bof_bl, aNil, aCons, tgSet, setAll, lo0, bodyR_nx, bodyR_rt, R.wp_ok, SR.wp_nx, SR.wp_rt, SR.wp_bk, gAddA, gAdd, gSub, gLe, gLt, gGt, gGe, is_non, is_int, is_tup, is_bl, isn_non, isn_int, isn_tup, isn_bl, is_o, isn_o, gNeg, gTup1, gTup2, gTup3, gTup4, gTup5, gLst0, gLst1, gLst2, gLst3, eLstA0, List.length_cons, List.length_nil, List.map_cons, List.map_nil, List.cons_append, List.nil_append, List.replicate, Nat.sub_self, Nat.reduceSub, Nat.reduceAdd, List.getElem?_cons_zero, List.getElem?_cons_succ, List.set_cons_zero, List.set_cons_succ, Option.map_some, Bool.not_true, Bool.not_false, ite_true, ite_false, if_true, if_false, Bool.false_eq_true, gEq_int, gNe_int, gEq_bl, gNe_bl, gEq_non, gNe_non, List.isEmpty_cons, List.isEmpty_nil, hne, hqi, prG_ix0, x0, j0, d]
            exact SR.wp_mono (fin (decide_eq_true ⟨c.1, fun q' h => by rw [hq] at h; cases h; exact cq⟩)) (fun _ _ h => h) (fun _ _ h => False.elim h) (fun _ _ h => False.elim h)
          · have d : decide (((a - 48 : Nat) : Int) ≤ (q.1 : Int)) = true := decide_eq_true (by omega)
            rw [if_neg (fun h => cq ((of_decide_eq_true h.1).2 q hq))] at hr
            refine wp_seq ?_
            simp only [nG, sSet, sRet, sRetN, sIf, sDrop, sNx, sBrk, sPar, sTg, sr_ok, rb_ok, ro_ok, so_ok, e1, e2, eA, eCl, eV, eC, eAnd, eOr, eNot, eIf, eCh, tV, tNot, tAnd, tOr, tYes, bof_bl, aNil, aCons, tgSet, setAll, lo0, bodyR_nx, bodyR_rt, R.wp_ok, SR.wp_nx, SR.wp_rt, SR.wp_bk, gAddA, gAdd, gSub, gLe, gLt, gGt, gGe, is_non, is_int, is_tup, is_bl, isn_non, isn_int, isn_tup, isn_bl, is_o, isn_o, gNeg, gTup1, gTup2, gTup3, gTup4, gTup5, gLst0, gLst1, gLst2, gLst3, eLstA0, List.length_cons, List.length_nil, List.map_cons, List.map_nil, List.cons_append, List.nil_append, List.replicate, Nat.sub_self, Nat.reduceSub, Nat.reduceAdd, List.getElem?_cons_zero, List.getElem?_cons_succ, List.set_cons_zero, List.set_cons_succ, Option.map_some, Bool.not_true, Bool.not_false, ite_true, ite_false, if_true, if_false, Bool.false_eq_true, gEq_int, gNe_int, gEq_bl, gNe_bl, gEq_non, gNe_non, List.isEmpty_cons, List.isEmpty_nil, hne, hqi, prG_ix0, x0, j0, d]
            rw [hr]
            exact ⟨rfl, .push _ _⟩
      · rw [if_neg (fun h => c ⟨(of_decide_eq_true h.1).1, h.2⟩)] at hr
        rw [decide_eq_false c]
        refine wp_seq ?_
        simp only [nG, sSet, sRet, sRetN, sIf, sDrop, sNx, sBrk, sPar, sTg, sr_ok, rb_ok, ro_ok, so_ok, e1, e2, eA, eCl, eV, eC, eAnd, eOr, eNot, eIf, eCh, tV, tNot, tAnd, tOr, tYes, bof_bl, aNil, aCons, tgSet, setAll, lo0, bodyR_nx, bodyR_rt, R.wp_ok, SR.wp_nx, SR.wp_rt, SR.wp_bk, gAddA, gAdd, gSub, gLe, gLt, gGt, gGe, is_non, is_int, is_tup, is_bl, isn_non, isn_int, isn_tup, isn_bl, is_o, isn_o, gNeg, gTup1, gTup2, gTup3, gTup4, gTup5, gLst0, gLst1, gLst2, gLst3, eLstA0, List.length_cons, List.length_nil, List.map_cons, List.map_nil, List.cons_append, List.nil_append, List.replicate, Nat.sub_self, Nat.reduceSub, Nat.reduceAdd, List.getElem?_cons_zero, List.getElem?_cons_succ, List.set_cons_zero, List.set_cons_succ, Option.map_some, Bool.not_true, Bool.not_false, ite_true, ite_false, if_true, if_false, Bool.false_eq_true, gEq_int, gNe_int, gEq_bl, gNe_bl, gEq_non, gNe_non, List.isEmpty_cons, List.isEmpty_nil]
        rw [hr]
        exact ⟨rfl, .push _ _⟩
  · rintro l S' ⟨f, u3, u4, u5, rfl, rfl, hf, hk5, hr⟩
    rw [List.length_map, List.length_range, List.drop_length] at hr
    refine wp_ret ?_
    rw [hr]
    simp only [nG, sSet, sRet, sRetN, sIf, sDrop, sNx, sBrk, sPar, sTg, sr_ok, rb_ok, ro_ok, so_ok, e1, e2, eA, eCl, eV, eC, eAnd, eOr, eNot, eIf, eCh, tV, tNot, tAnd, tOr, tYes, bof_bl, aNil, aCons, tgSet, setAll, lo0, bodyR_nx, bodyR_rt, R.wp_ok, SR.wp_nx, SR.wp_rt, SR.wp_bk, gAddA, gAdd, gSub, gLe, gLt, gGt, gGe, is_non, is_int, is_tup, is_bl, isn_non, isn_int, isn_tup, isn_bl, is_o, isn_o, gNeg, gTup1, gTup2, gTup3, gTup4, gTup5, gLst0, gLst1, gLst2, gLst3, eLstA0, List.length_cons, List.length_nil, List.map_cons, List.map_nil, List.cons_append, List.nil_append, List.replicate, Nat.sub_self, Nat.reduceSub, Nat.reduceAdd, List.getElem?_cons_zero, List.getElem?_cons_succ, List.set_cons_zero, List.set_cons_succ, Option.map_some, Bool.not_true, Bool.not_false, ite_true, ite_false, if_true, if_false, Bool.false_eq_true, gEq_int, gNe_int, gEq_bl, gNe_bl, gEq_non, gNe_non, List.isEmpty_cons, List.isEmpty_nil, gTuple, seqG, lst_mid]
    exact ⟨rfl, .push _ _⟩

end Lk02

end

section
set_option Elab.async false
set_option linter.all false
set_option maxRecDepth 100000
set_option maxHeartbeats 4000000
namespace Lk02
open PySem GL PySem.Builtin PySem.Builtin.Str
variable {n : Nat} {S : Sto}
/-! the line of a rule -/
def numS (k : Nat) : Str := Str.ofString (toString ((k : Nat) : Int))
def pw (p : Nat × Nat) : Str := numS p.1 ++ ":" ++ numS p.2
theorem tl_numS {k : Nat} (h : k ≤ 9) : TL.tl (numS k) = [48 + k] := by
  unfold numS
  rw [TL.tl_num, TL.numL_lt (by omega)]
theorem tl_pw {p : Nat × Nat} (h : p.1 ≤ 9 ∧ p.2 ≤ 9) : TL.tl (pw p) = [48 + p.1, 58, 48 + p.2] := by
  unfold pw
  rw [TL.tl_append, TL.tl_append, tl_numS h.1, tl_numS h.2]
  have : TL.tl ":" = [58] := by kernel_rfl
  rw [this]
  rfl
theorem pairL_pw {p : Nat × Nat} (h : p.1 ≤ 9 ∧ p.2 ≤ 9) : pairL (TL.tl (pw p)) = some p := by
  rw [tl_pw h]
  have h1 : dig (48 + p.1) = true := decide_eq_true (by omega)
  have h2 : dig (48 + p.2) = true := decide_eq_true (by omega)
  refine (if_pos ⟨rfl, h1, h2⟩).trans ?_
  rw [show 48 + p.1 - 48 = p.1 by omega, show 48 + p.2 - 48 = p.2 by omega]
def lineOf (r : Rule) : Str := if r = [] then "-" else Txt.join " " (r.map pw)
theorem ROk.le {r : Rule} (ok : ROk r) : ∀ p ∈ r, p.1 ≤ 9 ∧ p.2 ≤ 9 := fun p hp => by have := ok.lv p hp; omega
theorem wds_line {r : Rule} (ok : ROk r) : wds (lineOf r) = r.map pw := by
  unfold lineOf
  by_cases c : r = []
  · subst c
    rw [if_pos rfl]
    rfl
  · rw [if_neg c]
    have hs : Txt.split (Txt.join " " (r.map pw)) " " = r.map pw := TL.split_join (s := 32) (S := []) (by kernel_rfl) (by kernel_rfl) (by simpa using c) fun p hp => by
      obtain ⟨q, hq, rfl⟩ := List.mem_map.mp hp
      rw [tl_pw (ok.le q hq)]
      simp
      omega
    unfold wds
    rw [if_neg, hs]
    intro e
    rw [e] at hs
    have h2 : Txt.split (Str.ofString "-") (Str.ofString " ") = [Str.ofString "-"] := by kernel_rfl
    rw [h2] at hs
    cases r with
    | nil => exact c rfl
    | cons p r =>
      rw [List.map_cons] at hs
      injection hs with hs _
      have h3 := tl_pw (ok.le p List.mem_cons_self)
      rw [← hs] at h3
      have h4 : TL.tl "-" = [45] := by kernel_rfl
      rw [h4] at h3
      simp at h3
theorem rd_line {r : Rule} (ok : ROk r) : ∀ (d k : Nat), r.length = k + d → rd k (r.take k) ((r.drop k).map pw) = .inr r
  | 0, k, h => by
    rw [List.drop_of_length_le (by omega), List.take_of_length_le (by omega)]
    rfl
  | d + 1, k, h => by
    have hk : k < r.length := by omega
    have h5 := ok.len
    rw [List.drop_eq_getElem_cons hk, List.map_cons, rd_cons, pairL_pw (ok.le _ (List.getElem_mem hk))]
    dsimp only
    have ha : aft (r.take k) r[k] = true := by
      refine decide_eq_true ⟨(ok.lv _ (List.getElem_mem hk)).1, fun q hq => ?_⟩
      obtain ⟨j, hj, e⟩ := getLast_take hq
      obtain ⟨hj2, e⟩ := List.getElem?_eq_some_iff.mp e
      have := List.pairwise_iff_getElem.mp ok.inc j k hj2 hk hj
      rw [e] at this
      exact this
    rw [if_pos ⟨ha, by omega⟩, ← take_snoc (List.getElem?_eq_getElem hk)]
    exact rd_line ok d (k + 1) (by omega)
theorem gNe_strs {f : (Nat × Nat) → Str} {r : Rule} (h : ∀ p ∈ r, PyData.strOk (f p) = true) : gNe (.tl (r.map fun p => .str (f p))) (.tl []) S = some (.bl (!r.isEmpty)) := by
  have hk : ∀ {r : Rule}, (∀ p ∈ r, PyData.strOk (f p) = true) → gOks 59 (r.map fun p => .str (f p)) = true := by
    intro r
    induction r with
    | nil => intro _; rfl
    | cons p r ih =>
      intro h
      rw [List.map_cons, gOks, gOk, h p List.mem_cons_self, ih fun q hq => h q (List.mem_cons_of_mem _ hq)]
      rfl
  show (gEqD S (.tl (r.map fun p => .str (f p))) (.tl [])).map (fun b => G.bl (!b)) = _
  have h1 : gOk 60 (.tl (r.map fun p => .str (f p))) = true := by rw [gOk]; exact hk h
  have h2 : gOk 60 (.tl []) = true := by rw [gOk]; rfl
  unfold gEqD
  rw [show gRes S (.tl (r.map fun p => .str (f p))) = .tl (r.map fun p => .str (f p)) from rfl, show gRes S (.tl []) = .tl [] from rfl, if_pos ⟨h1, h2⟩]
  cases r with
  | nil => rfl
  | cons x z => rfl
theorem strOk_pw {p : Nat × Nat} (h : p.1 ≤ 9 ∧ p.2 ≤ 9) : PyData.strOk (pw p) = true := by
  have e : pw p = ⟨#[48 + p.1, 58, 48 + p.2]⟩ := TL.ext_tl (tl_pw h)
  rw [e]
  unfold PyData.strOk
  simp
  omega
theorem strsG_map (l : List Str) : strsG (l.map .str) = some l := by
  induction l with
  | nil => rfl
  | cons x l ih => rw [List.map_cons, strsG, ih]; rfl
theorem len_pw {p : Nat × Nat} (h : p.1 ≤ 9 ∧ p.2 ≤ 9) : (pw p).length = 3 := by rw [TL.len_tl, tl_pw h]; rfl
theorem join_le {ws : List Str} {k : Nat} (h : ∀ w ∈ ws, w.length ≤ k) (hl : ws.length * (k + 1) ≤ 1000) : gJoin (.str " ") [.tl (ws.map .str)] S = some (.str (Txt.join " " ws)) ∧ (Txt.join " " ws).length ≤ ws.length * (k + 1) := by
  have hs : (ws.map (·.length)).sum ≤ ws.length * k := by
    clear hl
    induction ws with
    | nil => exact Nat.zero_le _
    | cons w ws ih =>
      rw [List.map_cons, List.sum_cons, List.length_cons, Nat.succ_mul]
      have := ih fun q hq => h q (List.mem_cons_of_mem _ hq)
      have := h w List.mem_cons_self
      omega
  have h1 : ((" " : Str)).length = 1 := by kernel_rfl
  rw [Nat.mul_add, Nat.mul_one] at hl
  refine ⟨?_, ?_⟩
  · show ((seqG S (.tl (ws.map .str))).bind fun l => (strsG l).bind fun ys => if (ys.map (·.length)).sum + ys.length * (" " : Str).length ≤ 16777216 then some (G.str (Txt.join " " ys)) else none) = _
    rw [show seqG S (.tl (ws.map .str)) = some (ws.map .str) from rfl, Option.bind_some, strsG_map, Option.bind_some, if_pos (by rw [h1]; omega)]
  · have := StrLaws.join_length_le " " ws
    rw [TL.join_eq]
    rw [h1] at this
    rw [Nat.mul_add, Nat.mul_one]
    omega
theorem gStr_num (k : Nat) (h : k ≤ 9) : gStr [.int (k : Nat)] S = some (.str (numS k)) := by
  match k, h with
  | 0, _ => kernel_rfl
  | 1, _ => kernel_rfl
  | 2, _ => kernel_rfl
  | 3, _ => kernel_rfl
  | 4, _ => kernel_rfl
  | 5, _ => kernel_rfl
  | 6, _ => kernel_rfl
  | 7, _ => kernel_rfl
  | 8, _ => kernel_rfl
  | 9, _ => kernel_rfl
theorem addS {x y : Str} (h : x.length + y.length ≤ 1000) : gAddA (.str x) (.str y) S = some (.str (x ++ y)) := by
  have e : gAdd (.str x) (.str y) S = some (.str (x ++ y)) := if_pos (sm h)
  unfold gAddA
  rw [e]
theorem words_lc {r : Rule} (ok : ROk r) {a b : Nat} {l : GL.Loc} {it : GL.Loc → Sto → R It} {own : List Nat} (hit : it l S = .ok (.fix (r.map prG)) S)
    (hw : ∀ x y, ∃ l', tgSet (.tp [a, b]) (.tup [x, y]) (wipeL l own) = some l' ∧ l'[a]? = some (some x) ∧ l'[b]? = some (some y)) :
    eLc it own (.tp [a, b]) tYes (e2 gAddA (e2 gAddA (eA gStr (aCons (eV a) aNil)) (eC (.str ":"))) (eA gStr (aCons (eV b) aNil))) l S = .ok (.tl (r.map fun p => .str (pw p))) S := by
  rw [eLc_map (c := prG) (L := r) (p := fun _ => true) (f := fun p => .str (pw p)) hit fun p hp => ?_, List.filter_eq_self.mpr (fun _ _ => rfl)]
  obtain ⟨l', e, ea, eb⟩ := hw (nG p.1) (nG p.2)
  refine ⟨l', e, rfl, fun _ => ?_⟩
  have h9 := ok.le p hp
  have g1 := gStr_num (S := S) p.1 h9.1
  have g2 := gStr_num (S := S) p.2 h9.2
  have l1 : (numS p.1).length = 1 := by rw [TL.len_tl, tl_numS h9.1]; rfl
  have l2 : (numS p.2).length = 1 := by rw [TL.len_tl, tl_numS h9.2]; rfl
  have l3 : ((":" : Str)).length = 1 := by kernel_rfl
  have a1 : gAddA (.str (numS p.1)) (.str ":") S = some (.str (numS p.1 ++ ":")) := addS (by omega)
  have a2 : gAddA (.str (numS p.1 ++ ":")) (.str (numS p.2)) S = some (.str (numS p.1 ++ ":" ++ numS p.2)) := addS (by rw [Str.length_append]; omega)
  simp only [nG] at ea eb
  simp only [e2, eA, eV, eC, aCons, aNil, ea, eb, rb_ok, ro_ok, g1, g2, a1, a2]
  rfl
theorem line_ok {r : Rule} (ok : ROk r) : gJoin (.str " ") [.tl (r.map fun p => .str (pw p))] S = some (.str (Txt.join " " (r.map pw))) ∧ (lineOf r).length ≤ 20 := by
  have h5 := ok.len
  have hw : ∀ w ∈ r.map pw, w.length ≤ 3 := fun w hw => by
    obtain ⟨p, hp, rfl⟩ := List.mem_map.mp hw
    rw [len_pw (ok.le p hp)]
    exact Nat.le_refl _
  obtain ⟨a, b⟩ := join_le (S := S) hw (by rw [List.length_map]; omega)
  rw [List.map_map] at a
  refine ⟨a, ?_⟩
  rw [List.length_map] at b
  unfold lineOf
  split
  · exact Nat.le_trans (Nat.le_of_eq (by kernel_rfl : _ = 1)) (by omega)
  · omega
theorem rule_line_ok {r : Rule} (ok : ROk r) : callN tab (n + 7) (.fn "rule_line") [ruG r] S = .ok (.str (lineOf r)) S := by
  rw [cn_rule_line (n + 6) _ _ rfl]
  refine R_ok_of ?_
  unfold sh_rule_line
  refine wp_seq ?_
  simp only [nG, sSet, sRet, sRetN, sIf, sDrop, sNx, sBrk, sPar, sTg, sr_ok, rb_ok, ro_ok, so_ok, e1, e2, eA, eCl, eV, eC, eAnd, eOr, eNot, eIf, eCh, tV, tNot, tAnd, tOr, tYes, bof_bl, aNil, aCons, tgSet, setAll, lo0, bodyR_nx, bodyR_rt, R.wp_ok, SR.wp_nx, SR.wp_rt, SR.wp_bk, gAddA, gAdd, gSub, gLe, gLt, gGt, gGe, is_non, is_int, is_tup, is_bl, isn_non, isn_int, isn_tup, isn_bl, is_o, isn_o, gNeg, gTup1, gTup2, gTup3, gTup4, gTup5, gLst0, gLst1, gLst2, gLst3, eLstA0, List.length_cons, List.length_nil, List.map_cons, List.map_nil, List.cons_append, List.nil_append, List.replicate, Nat.sub_self, Nat.reduceSub, Nat.reduceAdd, List.getElem?_cons_zero, List.getElem?_cons_succ, List.set_cons_zero, List.set_cons_succ, Option.map_some, Bool.not_true, Bool.not_false, ite_true, ite_false, if_true, if_false, Bool.false_eq_true, gEq_int, gNe_int, gEq_bl, gNe_bl, gEq_non, gNe_non, List.isEmpty_cons, List.isEmpty_nil, require_ok (n := n) ok]
  refine wp_seq (wp_set ?_)
  rw [words_lc ok (by simp only [nG, sSet, sRet, sRetN, sIf, sDrop, sNx, sBrk, sPar, sTg, sr_ok, rb_ok, ro_ok, so_ok, e1, e2, eA, eCl, eV, eC, eAnd, eOr, eNot, eIf, eCh, tV, tNot, tAnd, tOr, tYes, bof_bl, aNil, aCons, tgSet, setAll, lo0, bodyR_nx, bodyR_rt, R.wp_ok, SR.wp_nx, SR.wp_rt, SR.wp_bk, gAddA, gAdd, gSub, gLe, gLt, gGt, gGe, is_non, is_int, is_tup, is_bl, isn_non, isn_int, isn_tup, isn_bl, is_o, isn_o, gNeg, gTup1, gTup2, gTup3, gTup4, gTup5, gLst0, gLst1, gLst2, gLst3, eLstA0, List.length_cons, List.length_nil, List.map_cons, List.map_nil, List.cons_append, List.nil_append, List.replicate, Nat.sub_self, Nat.reduceSub, Nat.reduceAdd, List.getElem?_cons_zero, List.getElem?_cons_succ, List.set_cons_zero, List.set_cons_succ, Option.map_some, Bool.not_true, Bool.not_false, ite_true, ite_false, if_true, if_false, Bool.false_eq_true, gEq_int, gNe_int, gEq_bl, gNe_bl, gEq_non, gNe_non, List.isEmpty_cons, List.isEmpty_nil, itV, ruG]) fun x y => ⟨_, rfl, rfl, rfl⟩, R.wp_ok]
  refine wp_ret ?_
  have hne := gNe_strs (S := S) (f := pw) (r := r) fun p hp => strOk_pw (ok.le p hp)
  have ht : ∀ x S, isSG (.str x) S = true := fun _ _ => rfl
  obtain ⟨hj, _⟩ := line_ok (S := S) ok
  cases r with
  | nil =>
    have hz : ([] : Rule).isEmpty = true := rfl
    rw [hz] at hne
    simp only [List.map_nil] at hne
    simp only [nG, sSet, sRet, sRetN, sIf, sDrop, sNx, sBrk, sPar, sTg, sr_ok, rb_ok, ro_ok, so_ok, e1, e2, eA, eCl, eV, eC, eAnd, eOr, eNot, eIf, eCh, tV, tNot, tAnd, tOr, tYes, bof_bl, aNil, aCons, tgSet, setAll, lo0, bodyR_nx, bodyR_rt, R.wp_ok, SR.wp_nx, SR.wp_rt, SR.wp_bk, gAddA, gAdd, gSub, gLe, gLt, gGt, gGe, is_non, is_int, is_tup, is_bl, isn_non, isn_int, isn_tup, isn_bl, is_o, isn_o, gNeg, gTup1, gTup2, gTup3, gTup4, gTup5, gLst0, gLst1, gLst2, gLst3, eLstA0, List.length_cons, List.length_nil, List.map_cons, List.map_nil, List.cons_append, List.nil_append, List.replicate, Nat.sub_self, Nat.reduceSub, Nat.reduceAdd, List.getElem?_cons_zero, List.getElem?_cons_succ, List.set_cons_zero, List.set_cons_succ, Option.map_some, Bool.not_true, Bool.not_false, ite_true, ite_false, if_true, if_false, Bool.false_eq_true, gEq_int, gNe_int, gEq_bl, gNe_bl, gEq_non, gNe_non, List.isEmpty_cons, List.isEmpty_nil, hne]
    first | exact ⟨rfl, rfl⟩ | exact ⟨rfl, trivial⟩ | exact ⟨trivial, trivial⟩
  | cons p r =>
    have hz : (p :: r : Rule).isEmpty = false := rfl
    have hL : lineOf (p :: r) = Txt.join " " ((p :: r).map pw) := if_neg (by simp)
    rw [hz] at hne
    rw [hL]
    generalize Txt.join " " ((p :: r).map pw) = z at hj
    generalize ((p :: r).map fun p => G.str (pw p)) = L at hne hj
    simp only [nG, sSet, sRet, sRetN, sIf, sDrop, sNx, sBrk, sPar, sTg, sr_ok, rb_ok, ro_ok, so_ok, e1, e2, eA, eCl, eV, eC, eAnd, eOr, eNot, eIf, eCh, tV, tNot, tAnd, tOr, tYes, bof_bl, aNil, aCons, tgSet, setAll, lo0, bodyR_nx, bodyR_rt, R.wp_ok, SR.wp_nx, SR.wp_rt, SR.wp_bk, gAddA, gAdd, gSub, gLe, gLt, gGt, gGe, is_non, is_int, is_tup, is_bl, isn_non, isn_int, isn_tup, isn_bl, is_o, isn_o, gNeg, gTup1, gTup2, gTup3, gTup4, gTup5, gLst0, gLst1, gLst2, gLst3, eLstA0, List.length_cons, List.length_nil, List.map_cons, List.map_nil, List.cons_append, List.nil_append, List.replicate, Nat.sub_self, Nat.reduceSub, Nat.reduceAdd, List.getElem?_cons_zero, List.getElem?_cons_succ, List.set_cons_zero, List.set_cons_succ, Option.map_some, Bool.not_true, Bool.not_false, ite_true, ite_false, if_true, if_false, Bool.false_eq_true, gEq_int, gNe_int, gEq_bl, gNe_bl, gEq_non, gNe_non, List.isEmpty_cons, List.isEmpty_nil, hne, eMq, ht, hj]
    first | exact ⟨rfl, rfl⟩ | exact ⟨rfl, trivial⟩ | exact ⟨trivial, trivial⟩
/-! told -/
theorem refusal_BadRule (p : G) : callN tab (n + 1) (.fh "_law_refusal") [.hx "BadRule" [("place", p)]] S = .ok (.tup [.str "BadRule", p]) S := by
  rw [cn_fh__law_refusal n _ _ rfl]
  kernel_rfl
theorem told_bad {ln k : Nat} {cap : List G} {w : G} {S1 : Sto} (hn : noHx w = true) (h : callN tab (n + 1) (.la ln 1) cap S = .exc "BadRule" [("place", w)] S1) : callN tab (n + 2) (.fc "_law_told") [.clo ln (k + 1) cap] S = .ok (bR w) S1 :=
  told_of h (by decide +kernel) (by decide +kernel) (refusal_BadRule w) (by simp only [bR, noHx, noHxs, hn]; rfl)
/-- what no line is -/
inductive BadLn : G → Prop
  | long (w : Str) : 40 < w.length → w.length ≤ 900 → BadLn (.str w)
  | no (v : G) : (∀ S, gIsi isaT [v, .ty "str"] S = some (.bl false)) → BadLn v
theorem read_bad {v : G} (h : BadLn v) : callN tab (n + 1) (.fn "read_rule") [v] S = .exc "BadRule" [("place", .non)] S := by
  rw [cn_read_rule n _ _ rfl]
  cases h with
  | long w h1 h2 =>
    have i1 : gIsi isaT [.str w, .ty "str"] S = some (.bl true) := rfl
    have hl := gLen_str (S := S) (w := w) (by omega)
    have d40 : decide ((40 : Int) < (w.length : Int)) = true := decide_eq_true (by omega)
    simp only [nG, sSeq, sSet, sRet, sRetN, sIf, sDrop, sNx, sBrk, sPar, sTg, sr_ok, rb_ok, ro_ok, so_ok, e1, e2, eA, eCl, eV, eC, eAnd, eOr, eNot, eIf, eCh, tV, tNot, tAnd, tOr, tYes, bof_bl, aNil, aCons, tgSet, setAll, lo0, bodyR_nx, bodyR_rt, R.wp_ok, SR.wp_nx, SR.wp_rt, SR.wp_bk, gAddA, gAdd, gSub, gLe, gLt, gGt, gGe, is_non, is_int, is_tup, is_bl, isn_non, isn_int, isn_tup, isn_bl, is_o, isn_o, gNeg, gTup1, gTup2, gTup3, gTup4, gTup5, gLst0, gLst1, gLst2, gLst3, eLstA0, List.length_cons, List.length_nil, List.map_cons, List.map_nil, List.cons_append, List.nil_append, List.replicate, Nat.sub_self, Nat.reduceSub, Nat.reduceAdd, List.getElem?_cons_zero, List.getElem?_cons_succ, List.set_cons_zero, List.set_cons_succ, Option.map_some, Bool.not_true, Bool.not_false, ite_true, ite_false, if_true, if_false, Bool.false_eq_true, gEq_int, gNe_int, gEq_bl, gNe_bl, gEq_non, gNe_non, List.isEmpty_cons, List.isEmpty_nil, sh_read_rule, i1, hl, d40, sRaise, fldsOf, bodyR_exc]
    rfl
  | no v h =>
    simp only [nG, sSeq, sSet, sRet, sRetN, sIf, sDrop, sNx, sBrk, sPar, sTg, sr_ok, rb_ok, ro_ok, so_ok, e1, e2, eA, eCl, eV, eC, eAnd, eOr, eNot, eIf, eCh, tV, tNot, tAnd, tOr, tYes, bof_bl, aNil, aCons, tgSet, setAll, lo0, bodyR_nx, bodyR_rt, R.wp_ok, SR.wp_nx, SR.wp_rt, SR.wp_bk, gAddA, gAdd, gSub, gLe, gLt, gGt, gGe, is_non, is_int, is_tup, is_bl, isn_non, isn_int, isn_tup, isn_bl, is_o, isn_o, gNeg, gTup1, gTup2, gTup3, gTup4, gTup5, gLst0, gLst1, gLst2, gLst3, eLstA0, List.length_cons, List.length_nil, List.map_cons, List.map_nil, List.cons_append, List.nil_append, List.replicate, Nat.sub_self, Nat.reduceSub, Nat.reduceAdd, List.getElem?_cons_zero, List.getElem?_cons_succ, List.set_cons_zero, List.set_cons_succ, Option.map_some, Bool.not_true, Bool.not_false, ite_true, ite_false, if_true, if_false, Bool.false_eq_true, gEq_int, gNe_int, gEq_bl, gNe_bl, gEq_non, gNe_non, List.isEmpty_cons, List.isEmpty_nil, sh_read_rule, h, sRaise, fldsOf, bodyR_exc]
    rfl
theorem law_bad {v : G} (h : BadLn v) : callN tab (n + 1) (.fn "_law_read") [v] S = .ok (bR .non) S := by
  rw [cn__law_read n _ _ rfl]
  cases h with
  | long w h1 h2 =>
    have i1 : gIsi isaT [.str w, .ty "str"] S = some (.bl true) := rfl
    have hl := gLen_str (S := S) (w := w) (by omega)
    have d40 : decide ((40 : Int) < (w.length : Int)) = true := decide_eq_true (by omega)
    simp only [nG, sSeq, sSet, sRet, sRetN, sIf, sDrop, sNx, sBrk, sPar, sTg, sr_ok, rb_ok, ro_ok, so_ok, e1, e2, eA, eCl, eV, eC, eAnd, eOr, eNot, eIf, eCh, tV, tNot, tAnd, tOr, tYes, bof_bl, aNil, aCons, tgSet, setAll, lo0, bodyR_nx, bodyR_rt, R.wp_ok, SR.wp_nx, SR.wp_rt, SR.wp_bk, gAddA, gAdd, gSub, gLe, gLt, gGt, gGe, is_non, is_int, is_tup, is_bl, isn_non, isn_int, isn_tup, isn_bl, is_o, isn_o, gNeg, gTup1, gTup2, gTup3, gTup4, gTup5, gLst0, gLst1, gLst2, gLst3, eLstA0, List.length_cons, List.length_nil, List.map_cons, List.map_nil, List.cons_append, List.nil_append, List.replicate, Nat.sub_self, Nat.reduceSub, Nat.reduceAdd, List.getElem?_cons_zero, List.getElem?_cons_succ, List.set_cons_zero, List.set_cons_succ, Option.map_some, Bool.not_true, Bool.not_false, ite_true, ite_false, if_true, if_false, Bool.false_eq_true, gEq_int, gNe_int, gEq_bl, gNe_bl, gEq_non, gNe_non, List.isEmpty_cons, List.isEmpty_nil, sh__law_read, i1, hl, d40]
    rfl
  | no v h =>
    simp only [nG, sSeq, sSet, sRet, sRetN, sIf, sDrop, sNx, sBrk, sPar, sTg, sr_ok, rb_ok, ro_ok, so_ok, e1, e2, eA, eCl, eV, eC, eAnd, eOr, eNot, eIf, eCh, tV, tNot, tAnd, tOr, tYes, bof_bl, aNil, aCons, tgSet, setAll, lo0, bodyR_nx, bodyR_rt, R.wp_ok, SR.wp_nx, SR.wp_rt, SR.wp_bk, gAddA, gAdd, gSub, gLe, gLt, gGt, gGe, is_non, is_int, is_tup, is_bl, isn_non, isn_int, isn_tup, isn_bl, is_o, isn_o, gNeg, gTup1, gTup2, gTup3, gTup4, gTup5, gLst0, gLst1, gLst2, gLst3, eLstA0, List.length_cons, List.length_nil, List.map_cons, List.map_nil, List.cons_append, List.nil_append, List.replicate, Nat.sub_self, Nat.reduceSub, Nat.reduceAdd, List.getElem?_cons_zero, List.getElem?_cons_succ, List.set_cons_zero, List.set_cons_succ, Option.map_some, Bool.not_true, Bool.not_false, ite_true, ite_false, if_true, if_false, Bool.false_eq_true, gEq_int, gNe_int, gEq_bl, gNe_bl, gEq_non, gNe_non, List.isEmpty_cons, List.isEmpty_nil, sh__law_read, h]
    rfl

end Lk02

end

section
set_option Elab.async false
set_option linter.all false
set_option maxRecDepth 100000
set_option maxHeartbeats 4000000
namespace Lk02
open PySem GL PySem.Builtin PySem.Builtin.Str
variable {n : Nat} {S : Sto}
/-! the law's turn -/
theorem lam0_eq (v : G) : callN tab (n + 1) (.la 0 1) [v] S = callN tab n (.fn "read_rule") [v] S := by
  rw [cn_lam0 n _ _ rfl]
  simp only [nG, sSeq, sSet, sRet, sRetN, sIf, sDrop, sNx, sBrk, sPar, sTg, sr_ok, rb_ok, ro_ok, so_ok, e1, e2, eA, eCl, eV, eC, eAnd, eOr, eNot, eIf, eCh, tV, tNot, tAnd, tOr, tYes, bof_bl, aNil, aCons, tgSet, setAll, lo0, bodyR_nx, bodyR_rt, R.wp_ok, SR.wp_nx, SR.wp_rt, SR.wp_bk, gAddA, gAdd, gSub, gLe, gLt, gGt, gGe, is_non, is_int, is_tup, is_bl, isn_non, isn_int, isn_tup, isn_bl, is_o, isn_o, gNeg, gTup1, gTup2, gTup3, gTup4, gTup5, gLst0, gLst1, gLst2, gLst3, eLstA0, List.length_cons, List.length_nil, List.map_cons, List.map_nil, List.cons_append, List.nil_append, List.replicate, Nat.sub_self, Nat.reduceSub, Nat.reduceAdd, List.getElem?_cons_zero, List.getElem?_cons_succ, List.set_cons_zero, List.set_cons_succ, Option.map_some, Bool.not_true, Bool.not_false, ite_true, ite_false, if_true, if_false, Bool.false_eq_true, gEq_int, gNe_int, gEq_bl, gNe_bl, gEq_non, gNe_non, List.isEmpty_cons, List.isEmpty_nil, eShift, she_lam0]
  cases callN tab n (.fn "read_rule") [v] S <;> rfl
theorem lam1_eq (v : G) : callN tab (n + 1) (.la 1 1) [v] S = callN tab n (.fn "read_rule") [v] S := by
  rw [cn_lam1 n _ _ rfl]
  simp only [nG, sSeq, sSet, sRet, sRetN, sIf, sDrop, sNx, sBrk, sPar, sTg, sr_ok, rb_ok, ro_ok, so_ok, e1, e2, eA, eCl, eV, eC, eAnd, eOr, eNot, eIf, eCh, tV, tNot, tAnd, tOr, tYes, bof_bl, aNil, aCons, tgSet, setAll, lo0, bodyR_nx, bodyR_rt, R.wp_ok, SR.wp_nx, SR.wp_rt, SR.wp_bk, gAddA, gAdd, gSub, gLe, gLt, gGt, gGe, is_non, is_int, is_tup, is_bl, isn_non, isn_int, isn_tup, isn_bl, is_o, isn_o, gNeg, gTup1, gTup2, gTup3, gTup4, gTup5, gLst0, gLst1, gLst2, gLst3, eLstA0, List.length_cons, List.length_nil, List.map_cons, List.map_nil, List.cons_append, List.nil_append, List.replicate, Nat.sub_self, Nat.reduceSub, Nat.reduceAdd, List.getElem?_cons_zero, List.getElem?_cons_succ, List.set_cons_zero, List.set_cons_succ, Option.map_some, Bool.not_true, Bool.not_false, ite_true, ite_false, if_true, if_false, Bool.false_eq_true, gEq_int, gNe_int, gEq_bl, gNe_bl, gEq_non, gNe_non, List.isEmpty_cons, List.isEmpty_nil, eShift, she_lam1]
  cases callN tab n (.fn "read_rule") [v] S <;> rfl
theorem told_read {ln k : Nat} {w : Str} (hw : w.length ≤ 40) (hl : ∀ S, callN tab (n + 5) (.la ln 1) [.str w] S = callN tab (n + 4) (.fn "read_rule") [.str w] S) :
    ∃ S1, callN tab (n + 6) (.fc "_law_told") [.clo ln (k + 1) [.str w]] S = .ok (readG w) S1 ∧ Grow S S1 := by
  rcases R.wpe_iff.mp (read_rule_str (n := n) (S := S) hw) with ⟨g, S1, e, f, hf, rfl, gr⟩ | ⟨c, fs, S1, e, k', hk, rfl, rfl, gr⟩
  · refine ⟨S1, ?_, gr⟩
    have := told_ok (n := n + 4) (k := k) ((hl S).trans e)
    unfold readG
    rw [hf]
    exact this
  · refine ⟨S1, ?_, gr⟩
    have := told_bad (n := n + 4) (k := k) (w := .int (k' : Nat)) rfl ((hl S).trans e)
    unfold readG
    rw [hk]
    exact this
theorem told_badl {ln k : Nat} {v : G} (hv : BadLn v) (hl : ∀ S, callN tab (n + 5) (.la ln 1) [v] S = callN tab (n + 4) (.fn "read_rule") [v] S) :
    ∃ S1, callN tab (n + 6) (.fc "_law_told") [.clo ln (k + 1) [v]] S = .ok (bR .non) S1 ∧ Grow S S1 :=
  ⟨S, told_bad (n := n + 4) (k := k) (w := .non) rfl ((hl S).trans (read_bad (n := n + 3) hv)), .refl _⟩
theorem rd_inl : ∀ (ws : List Str) (k j : Nat) (f : Rule), rd k f ws = .inl j → k ≤ 5 → j ≤ 5
  | [], k, j, f, h, h5 => by cases h
  | w :: ws, k, j, f, h, h5 => by
    rw [rd_cons] at h
    split at h
    · split at h
      · rename_i p hp hc
        exact rd_inl ws (k + 1) j _ h (by omega)
      · cases h; exact h5
    · cases h; exact h5
theorem shown_read (w : Str) : (gShown S (readG w)).isSome = true := by
  unfold readG
  cases e : rd 0 [] (wds w) with
  | inl k =>
    have h5 := rd_inl _ _ _ _ e (by omega)
    match k, h5 with
    | 0, _ => kernel_rfl
    | 1, _ => kernel_rfl
    | 2, _ => kernel_rfl
    | 3, _ => kernel_rfl
    | 4, _ => kernel_rfl
    | 5, _ => kernel_rfl
  | inr f => exact shown_told (rd_ok _ _ _ _ e fun _ h => by cases h) (by have := rd_len _ _ _ _ e rfl (by omega); omega)
theorem sameE {ln j : Nat} {l : GL.Loc} {v g : G} (hj : l[j]? = some (some v)) (A : ∀ S k, ∃ S1, callN tab (n + 6) (.fc "_law_told") [.clo ln (k + 1) [v]] S = .ok g S1 ∧ Grow S S1)
    (B : ∀ S, (callN tab (n + 6) (.fn "_law_read") [v] S).wp fun g' S' => g' = g ∧ Grow S S') (C : ∀ S, (gShown S g).isSome = true) :
    (eCl (callN tab (n + 6)) (.fn "_law_same") (aCons (eCl (callN tab (n + 6)) (.fc "_law_told") (aCons (eLamC ln [j]) aNil)) (aCons (eCl (callN tab (n + 6)) (.fn "_law_read") (aCons (eV j) aNil)) aNil)) l S).wp fun g' S' => g' = .bl true ∧ Grow S S' := by
  have hc : capG l [j] = some [v] := by simp only [capG, hj]; rfl
  obtain ⟨S1, e1', g1⟩ := A (S ++ [.dead]) S.length
  obtain ⟨g', S2, e2', rfl, g2⟩ := R.wp_iff.mp (B S1)
  have e3 := same_refl (n := n + 5) (S := S2) (C S2)
  simp only [eCl, eLamC, aCons, aNil, hc, rb_ok, e1', eV, hj, e2', e3]
  exact ⟨rfl, ((Grow.push S [.dead]).trans g1).trans g2⟩
def wl (r : Rule) : List Str := if r = [] then ["-"] else r.map pw
theorem wl_le {r : Rule} (ok : ROk r) : ∀ w ∈ wl r, w.length ≤ 5 := fun w hw => by
  unfold wl at hw
  split at hw
  · rw [List.mem_singleton.mp hw]
    exact Nat.le_trans (Nat.le_of_eq (by kernel_rfl : _ = 1)) (by omega)
  · obtain ⟨p, hp, rfl⟩ := List.mem_map.mp hw
    rw [len_pw (ok.le p hp)]
    omega
theorem wl_len {r : Rule} (ok : ROk r) : 0 < (wl r).length ∧ (wl r).length ≤ 5 := by
  have := ok.len
  unfold wl
  split
  · simp
  · rename_i c
    rw [List.length_map]
    cases r with
    | nil => exact absurd rfl c
    | cons p r => simp at this ⊢; omega
theorem wl_split {r : Rule} (ok : ROk r) : Txt.split (lineOf r) " " = wl r := by
  unfold lineOf wl
  by_cases c : r = []
  · rw [if_pos c, if_pos c]
    have h2 : Txt.split (Str.ofString "-") (Str.ofString " ") = [Str.ofString "-"] := by kernel_rfl
    exact h2
  · rw [if_neg c, if_neg c]
    exact TL.split_join (s := 32) (S := []) (by kernel_rfl) (by kernel_rfl) (by simpa using c) fun p hp => by
      obtain ⟨q, hq, rfl⟩ := List.mem_map.mp hp
      rw [tl_pw (ok.le q hq)]
      simp
      omega
theorem alike_str {s : Str} : callN tab (n + 1) (.fn "_law_alike") [.str s, .str s] S = .ok (.bl true) S := by
  rw [cn__law_alike n _ _ rfl]
  have h1 : gIsi isaT [.str s, .tup [.ty "tuple", .ty "list"]] S = some (.bl false) := rfl
  have h2 : gIsi isaT [.str s, .ty "str"] S = some (.bl true) := rfl
  have h3 : gIs (.str s) .non S = some (.bl false) := rfl
  have h4 : gEq (.str s) (.str s) S = some (.bl true) := by
    show some (G.bl (decide (s = s))) = _
    rw [decide_eq_true rfl]
  simp only [nG, sSeq, sSet, sRet, sRetN, sIf, sDrop, sNx, sBrk, sPar, sTg, sr_ok, rb_ok, ro_ok, so_ok, e1, e2, eA, eCl, eV, eC, eAnd, eOr, eNot, eIf, eCh, tV, tNot, tAnd, tOr, tYes, bof_bl, aNil, aCons, tgSet, setAll, lo0, bodyR_nx, bodyR_rt, R.wp_ok, SR.wp_nx, SR.wp_rt, SR.wp_bk, gAddA, gAdd, gSub, gLe, gLt, gGt, gGe, is_non, is_int, is_tup, is_bl, isn_non, isn_int, isn_tup, isn_bl, is_o, isn_o, gNeg, gTup1, gTup2, gTup3, gTup4, gTup5, gLst0, gLst1, gLst2, gLst3, eLstA0, List.length_cons, List.length_nil, List.map_cons, List.map_nil, List.cons_append, List.nil_append, List.replicate, Nat.sub_self, Nat.reduceSub, Nat.reduceAdd, List.getElem?_cons_zero, List.getElem?_cons_succ, List.set_cons_zero, List.set_cons_succ, Option.map_some, Bool.not_true, Bool.not_false, ite_true, ite_false, if_true, if_false, Bool.false_eq_true, gEq_int, gNe_int, gEq_bl, gNe_bl, gEq_non, gNe_non, List.isEmpty_cons, List.isEmpty_nil, sh__law_alike, h1, h2, h3, h4, decide_true]
theorem alike_rule {r : Rule} (ok : r.length ≤ 1000) : callN tab (n + 3) (.fn "_law_alike") [ruG r, ruG r] S = .ok (.bl true) S :=
  alike_tup (n := n + 2) (by rw [List.length_map]; omega) fun x hx => by
    obtain ⟨p, _, rfl⟩ := List.mem_map.mp hx
    exact alike_tup (n := n + 1) (by simp) fun y hy => by
      simp only [List.mem_cons, List.not_mem_nil, or_false] at hy
      rcases hy with rfl | rfl <;> exact alike_int (n := n) _
theorem ne_rule (a b : Rule) : gNe (ruG a) (ruG b) S = some (.bl (!decide (a = b))) := by
  have h := eq_rule (S := S) a b
  have h1 : (gEqD S (ruG a) (ruG b)).map (fun b => G.bl b) = some (.bl (decide (a = b))) := h
  show (gEqD S (ruG a) (ruG b)).map (fun b => G.bl (!b)) = _
  cases e : gEqD S (ruG a) (ruG b) with
  | none => rw [e] at h1; cases h1
  | some x =>
    rw [e] at h1
    have : x = decide (a = b) := by
      have := Option.some.inj h1
      injection this
    rw [this]; rfl
theorem cutG_map {a : Type} {f : a → G} {l : List a} {lo hi : Option Int} : ∃ l' : List a, cutG (l.map f) lo hi = l'.map f ∧ l'.Sublist l := by
  unfold cutG
  refine ⟨(l.drop (HT.sIx (l.map f).length 0 lo)).take (HT.sIx (l.map f).length (l.map f).length hi - HT.sIx (l.map f).length 0 lo), by rw [List.map_take, List.map_drop], (List.take_sublist _ _).trans (List.drop_sublist _ _)⟩
theorem addI {i j : Int} : gAddA (.int i) (.int j) S = some (.int (i + j)) := rfl

end Lk02

end

section
set_option Elab.async false
set_option linter.all false
set_option maxRecDepth 100000
set_option maxHeartbeats 4000000
namespace Lk02
open PySem GL PySem.Builtin PySem.Builtin.Str
variable {n : Nat} {S : Sto}
def picks (w : Str) : List G := [.str "", .str "-", .str "1:1", .str "9:9", .str "0:1", .str "5", .str "5:", .str ":5", .str "10:1", .str "5:10", .str "a:1", .str "5:5:5", .str "5;5", .str w]
theorem picks_ok {w : Str} (hw : w.length ≤ 5) {k : Nat} {g : G} (h : (picks w)[k]? = some g) : ∃ z : Str, g = .str z ∧ z.length ≤ 5 := by
  have := List.mem_of_getElem? h
  simp only [picks, List.mem_cons, List.not_mem_nil, or_false] at this
  rcases this with rfl | rfl | rfl | rfl | rfl | rfl | rfl | rfl | rfl | rfl | rfl | rfl | rfl | rfl
  all_goals first
    | exact ⟨_, rfl, hw⟩
    | exact ⟨_, rfl, by decide +kernel⟩
theorem picks_e {w : Str} {l : GL.Loc} {ws : List Str} (h7 : l[7]? = some (some (.tl (ws.map .str)))) (hw : ws[0]? = some w) :
    eA gLst (aCons (eC (.str "")) (aCons (eC (.str "-")) (aCons (eC (.str "1:1")) (aCons (eC (.str "9:9")) (aCons (eC (.str "0:1")) (aCons (eC (.str "5")) (aCons (eC (.str "5:")) (aCons (eC (.str ":5")) (aCons (eC (.str "10:1")) (aCons (eC (.str "5:10")) (aCons (eC (.str "a:1")) (aCons (eC (.str "5:5:5")) (aCons (eC (.str "5;5")) (aCons (e2 gIx (eV 7) (eC (.int 0))) aNil)))))))))))))) l S = .ok (.tl (picks w)) S := by
  have hi : gIx (.tl (ws.map .str)) (.int 0) S = some (.str w) := ix_tl (k := 0) (by rw [List.getElem?_map, hw]; rfl)
  have hl : gLst (picks w) S = some (.tl (picks w)) := lstN (by simp [picks])
  unfold picks at hl ⊢
  simp only [nG, sSet, sRet, sRetN, sIf, sDrop, sNx, sBrk, sPar, sTg, sr_ok, rb_ok, ro_ok, so_ok, e1, e2, eA, eCl, eV, eC, eAnd, eOr, eNot, eIf, eCh, tV, tNot, tAnd, tOr, tYes, bof_bl, aNil, aCons, tgSet, setAll, lo0, bodyR_nx, bodyR_rt, R.wp_ok, SR.wp_nx, SR.wp_rt, SR.wp_bk, gAddA, gAdd, gSub, gLe, gLt, gGt, gGe, is_non, is_int, is_tup, is_bl, isn_non, isn_int, isn_tup, isn_bl, is_o, isn_o, gNeg, gTup1, gTup2, gTup3, gTup4, gTup5, gLst0, gLst1, gLst2, gLst3, eLstA0, List.length_cons, List.length_nil, List.map_cons, List.map_nil, List.cons_append, List.nil_append, List.replicate, Nat.sub_self, Nat.reduceSub, Nat.reduceAdd, List.getElem?_cons_zero, List.getElem?_cons_succ, List.set_cons_zero, List.set_cons_succ, Option.map_some, Bool.not_true, Bool.not_false, ite_true, ite_false, if_true, if_false, Bool.false_eq_true, gEq_int, gNe_int, gEq_bl, gNe_bl, gEq_non, gNe_non, List.isEmpty_cons, List.isEmpty_nil, h7, hi, hl]
inductive Odd : G → Prop
  | str (w : Str) : w.length ≤ 40 → Odd (.str w)
  | bad (v : G) : BadLn v → Odd v
theorem oddL_ok {g : G} (h : g ∈ oddL) : Odd g := by
  simp only [oddL, List.mem_cons, List.not_mem_nil, or_false] at h
  rcases h with rfl | rfl | rfl | rfl | rfl | rfl | rfl | rfl | rfl | rfl | rfl | rfl | rfl | rfl | rfl | rfl
  all_goals first
    | exact .bad _ (.no _ fun _ => rfl)
    | exact .str _ (by decide +kernel)
theorem mul12 : gMulA (.str "1:1 ") (.int 12) S = some (.str (Txt.mul "1:1 " 12)) := by
  show (if strMulOk "1:1 " 12 = true then some (G.str (Txt.mul "1:1 " 12)) else none) = _
  rw [if_pos (by kernel_rfl)]
theorem odd_is {y x : G} {k : Nat} (hy : y ∈ oddL) (h : ([.non, .int 1, .tl [.str "1:1"], .str (Txt.mul "1:1 " 12), .str "1:1 2:2 3:3 4:4 5:5 6:6", .str "", y] : List G)[k]? = some x) : Odd x := by
  have := List.mem_of_getElem? h
  simp only [List.mem_cons, List.not_mem_nil, or_false] at this
  rcases this with rfl | rfl | rfl | rfl | rfl | rfl | rfl
  · exact .bad _ (.no _ fun _ => rfl)
  · exact .bad _ (.no _ fun _ => rfl)
  · exact .bad _ (.no _ fun _ => rfl)
  · exact .bad _ (.long _ (by decide +kernel) (by decide +kernel))
  · exact .str _ (by decide +kernel)
  · exact .str _ (by decide +kernel)
  · exact oddL_ok hy
theorem same_w {ln j : Nat} {l : GL.Loc} {w : Str} (hj : l[j]? = some (some (.str w))) (hw : w.length ≤ 40) (hl : ∀ n S, callN tab (n + 1) (.la ln 1) [.str w] S = callN tab n (.fn "read_rule") [.str w] S) :
    (eCl (callN tab (n + 6)) (.fn "_law_same") (aCons (eCl (callN tab (n + 6)) (.fc "_law_told") (aCons (eLamC ln [j]) aNil)) (aCons (eCl (callN tab (n + 6)) (.fn "_law_read") (aCons (eV j) aNil)) aNil)) l S).wp fun g' S' => g' = .bl true ∧ Grow S S' :=
  sameE hj (fun S k => told_read hw (hl (n + 4))) (fun S => law_read_str (n := n + 5) hw) fun S => shown_read w
theorem same_odd {ln j : Nat} {l : GL.Loc} {v : G} (hj : l[j]? = some (some v)) (hv : Odd v) (hl : ∀ n S, callN tab (n + 1) (.la ln 1) [v] S = callN tab n (.fn "read_rule") [v] S) :
    (eCl (callN tab (n + 6)) (.fn "_law_same") (aCons (eCl (callN tab (n + 6)) (.fc "_law_told") (aCons (eLamC ln [j]) aNil)) (aCons (eCl (callN tab (n + 6)) (.fn "_law_read") (aCons (eV j) aNil)) aNil)) l S).wp fun g' S' => g' = .bl true ∧ Grow S S' := by
  cases hv with
  | str w hw => exact same_w hj hw hl
  | bad v hv => exact sameE hj (fun S k => told_badl hv (hl (n + 4))) (fun S => R.wp_iff.mpr ⟨_, _, law_bad (n := n + 5) hv, rfl, .refl _⟩) fun S => by kernel_rfl
theorem line_e {r : Rule} (ok : ROk r) {c0 c1 c2 c4 c5 c6 c7 c8 c9 c10 c11 c12 : Option G} :
    eIf (tV (e2 gNe (eV 3) (eA gTup aNil))) (eMq isSG gJoin (eC (.str " ")) (aCons (eLc (itV (eV 3)) [5, 6] (.tp [5, 6]) tYes (e2 gAddA (e2 gAddA (eA gStr (aCons (eV 5) aNil)) (eC (.str ":"))) (eA gStr (aCons (eV 6) aNil)))) aNil)) (eC (.str "-")) [c0, c1, c2, some (ruG r), c4, c5, c6, c7, c8, c9, c10, c11, c12] S = .ok (.str (lineOf r)) S := by
  have hn : gNe (ruG r) (.tup []) S = some (.bl (!decide (r = []))) := ne_rule r []
  have ht : ∀ x S, isSG (.str x) S = true := fun _ _ => rfl
  obtain ⟨hj, _⟩ := line_ok (S := S) ok
  have hlc := words_lc (S := S) ok (a := 5) (b := 6) (l := [c0, c1, c2, some (ruG r), c4, c5, c6, c7, c8, c9, c10, c11, c12]) (it := itV (eV 3)) (own := [5, 6]) (by simp only [nG, sSet, sRet, sRetN, sIf, sDrop, sNx, sBrk, sPar, sTg, sr_ok, rb_ok, ro_ok, so_ok, e1, e2, eA, eCl, eV, eC, eAnd, eOr, eNot, eIf, eCh, tV, tNot, tAnd, tOr, tYes, bof_bl, aNil, aCons, tgSet, setAll, lo0, bodyR_nx, bodyR_rt, R.wp_ok, SR.wp_nx, SR.wp_rt, SR.wp_bk, gAddA, gAdd, gSub, gLe, gLt, gGt, gGe, is_non, is_int, is_tup, is_bl, isn_non, isn_int, isn_tup, isn_bl, is_o, isn_o, gNeg, gTup1, gTup2, gTup3, gTup4, gTup5, gLst0, gLst1, gLst2, gLst3, eLstA0, List.length_cons, List.length_nil, List.map_cons, List.map_nil, List.cons_append, List.nil_append, List.replicate, Nat.sub_self, Nat.reduceSub, Nat.reduceAdd, List.getElem?_cons_zero, List.getElem?_cons_succ, List.set_cons_zero, List.set_cons_succ, Option.map_some, Bool.not_true, Bool.not_false, ite_true, ite_false, if_true, if_false, Bool.false_eq_true, gEq_int, gNe_int, gEq_bl, gNe_bl, gEq_non, gNe_non, List.isEmpty_cons, List.isEmpty_nil, itV, ruG]) fun x y => ⟨_, rfl, rfl, rfl⟩
  have t0 : gTup [] S = some (.tup []) := if_pos (sz 0 (by omega))
  by_cases c : r = []
  · have d : decide (r = []) = true := decide_eq_true c
    rw [show lineOf r = "-" from if_pos c]
    simp only [nG, sSet, sRet, sRetN, sIf, sDrop, sNx, sBrk, sPar, sTg, sr_ok, rb_ok, ro_ok, so_ok, e1, e2, eA, eCl, eV, eC, eAnd, eOr, eNot, eIf, eCh, tV, tNot, tAnd, tOr, tYes, bof_bl, aNil, aCons, tgSet, setAll, lo0, bodyR_nx, bodyR_rt, R.wp_ok, SR.wp_nx, SR.wp_rt, SR.wp_bk, gAddA, gAdd, gSub, gLe, gLt, gGt, gGe, is_non, is_int, is_tup, is_bl, isn_non, isn_int, isn_tup, isn_bl, is_o, isn_o, gNeg, gTup1, gTup2, gTup3, gTup4, gTup5, gLst0, gLst1, gLst2, gLst3, eLstA0, List.length_cons, List.length_nil, List.map_cons, List.map_nil, List.cons_append, List.nil_append, List.replicate, Nat.sub_self, Nat.reduceSub, Nat.reduceAdd, List.getElem?_cons_zero, List.getElem?_cons_succ, List.set_cons_zero, List.set_cons_succ, Option.map_some, Bool.not_true, Bool.not_false, ite_true, ite_false, if_true, if_false, Bool.false_eq_true, gEq_int, gNe_int, gEq_bl, gNe_bl, gEq_non, gNe_non, List.isEmpty_cons, List.isEmpty_nil, t0, hn, d]
  · have d : decide (r = []) = false := decide_eq_false c
    rw [show lineOf r = Txt.join " " (r.map pw) from if_neg c]
    generalize Txt.join " " (r.map pw) = z at hj
    simp only [nG, sSet, sRet, sRetN, sIf, sDrop, sNx, sBrk, sPar, sTg, sr_ok, rb_ok, ro_ok, so_ok, e1, e2, eA, eCl, eV, eC, eAnd, eOr, eNot, eIf, eCh, tV, tNot, tAnd, tOr, tYes, bof_bl, aNil, aCons, tgSet, setAll, lo0, bodyR_nx, bodyR_rt, R.wp_ok, SR.wp_nx, SR.wp_rt, SR.wp_bk, gAddA, gAdd, gSub, gLe, gLt, gGt, gGe, is_non, is_int, is_tup, is_bl, isn_non, isn_int, isn_tup, isn_bl, is_o, isn_o, gNeg, gTup1, gTup2, gTup3, gTup4, gTup5, gLst0, gLst1, gLst2, gLst3, eLstA0, List.length_cons, List.length_nil, List.map_cons, List.map_nil, List.cons_append, List.nil_append, List.replicate, Nat.sub_self, Nat.reduceSub, Nat.reduceAdd, List.getElem?_cons_zero, List.getElem?_cons_succ, List.set_cons_zero, List.set_cons_succ, Option.map_some, Bool.not_true, Bool.not_false, ite_true, ite_false, if_true, if_false, Bool.false_eq_true, gEq_int, gNe_int, gEq_bl, gNe_bl, gEq_non, gNe_non, List.isEmpty_cons, List.isEmpty_nil, t0, hn, d, eMq, ht, hlc, hj]
theorem addTL {i j : List G} (h : i.length + j.length ≤ 1000) : gAddA (.tl i) (.tl j) S = some (.tl (i ++ j)) := by
  show (if i.length + j.length ≤ sizeLine then some (G.tl (i ++ j)) else none) = _
  rw [if_pos (by rw [sizeLine_eq]; omega)]
/-- the words with one changed, left out, or more -/
theorem other_e {Z : Sto} {l : GL.Loc} {ws : List Str} {a : Nat} (hr : Row Z S) (h1 : l[1]? = some (some (.ref 0))) (h7 : l[7]? = some (some (.tl (ws.map .str)))) (h9 : l[9]? = some (some (.int (a : Nat)))) (hw : ∀ w ∈ ws, w.length ≤ 5) (h0 : 0 < ws.length) (h5 : ws.length ≤ 5) (ha : a ≤ ws.length) :
    (e2 gAddA (e2 gAddA (eSl (eV 7) none (some (eV 9))) (eA gLst (aCons (eCl (callN tab (n + 10)) (.fn "_law_pick") (aCons (eV 1) (aCons (eA gLst (aCons (eC (.str "")) (aCons (eC (.str "-")) (aCons (eC (.str "1:1")) (aCons (eC (.str "9:9")) (aCons (eC (.str "0:1")) (aCons (eC (.str "5")) (aCons (eC (.str "5:")) (aCons (eC (.str ":5")) (aCons (eC (.str "10:1")) (aCons (eC (.str "5:10")) (aCons (eC (.str "a:1")) (aCons (eC (.str "5:5:5")) (aCons (eC (.str "5;5")) (aCons (e2 gIx (eV 7) (eC (.int 0))) aNil))))))))))))))) aNil))) aNil))) (eSl (eV 7) (some (e2 gAddA (eV 9) (eCl (callN tab (n + 10)) (.fn "_law_taken") (aCons (eV 1) (aCons (eC (.int 2)) aNil))))) none) l S).wp
      fun g S' => (∃ ws' : List Str, g = .tl (ws'.map .str) ∧ (∀ w ∈ ws', w.length ≤ 5) ∧ ws'.length ≤ 6) ∧ Row Z S' := by
  have e0 : ws[0]? = some ws[0] := List.getElem?_eq_getElem h0
  have hw0 := hw _ (List.getElem_mem h0)
  generalize ws[0] = w0 at e0 hw0
  obtain ⟨x1, S1, d1, ⟨i, _, hx1⟩, hr1⟩ := R.wp_iff.mp (pick_tl (n := n + 8) (xs := picks w0) hr (by simp [picks]) (by simp [picks]))
  obtain ⟨z, rfl, hz⟩ := picks_ok hw0 hx1
  obtain ⟨_, S2, d2, ⟨y, hy, rfl⟩, hr2⟩ := R.wp_iff.mp (taken_ok (n := n + 9) (many := 2) hr1 (by omega) (by omega))
  have d2' : callN tab (n + 10) (.fn "_law_taken") [.ref 0, .int 2] S1 = .ok (.int (y : Nat)) S2 := d2
  obtain ⟨l1, q1, s1⟩ := cutG_map (f := G.str) (l := ws) (lo := none) (hi := some (a : Int))
  obtain ⟨l2, q2, s2⟩ := cutG_map (f := G.str) (l := ws) (lo := some ((a : Int) + (y : Int))) (hi := none)
  have c1 : gSl (.tl (ws.map .str)) none (some (a : Int)) S = some (.tl (l1.map .str)) := by rw [← q1]; rfl
  have c2 : gSl (.tl (ws.map .str)) (some ((a : Int) + (y : Int))) none S2 = some (.tl (l2.map .str)) := by rw [← q2]; rfl
  have n1 : l1.length ≤ a := by
    have := congrArg List.length q1
    rw [List.length_map] at this
    rw [← this]
    unfold cutG
    rw [HT.sIx_none, HT.sIx_nat, List.length_take, List.length_drop]
    omega
  have n2 : l2.length ≤ ws.length - a := by
    have := congrArg List.length q2
    rw [List.length_map] at this
    rw [← this]
    unfold cutG
    rw [HT.sIx_none, show ((a : Int) + (y : Int)) = ((a + y : Nat) : Int) by omega, HT.sIx_nat, List.length_take, List.length_drop, List.length_map]
    omega
  have a1 : gAddA (.tl (l1.map .str)) (.tl [.str z]) S1 = some (.tl ((l1 ++ [z]).map .str)) := by
    have := addTL (S := S1) (i := l1.map .str) (j := [.str z]) (by simp; omega)
    rw [this, List.map_append]; rfl
  have a2 : gAddA (.tl ((l1 ++ [z]).map .str)) (.tl (l2.map .str)) S2 = some (.tl ((l1 ++ [z] ++ l2).map .str)) := by
    have := addTL (S := S2) (i := (l1 ++ [z]).map .str) (j := l2.map .str) (by simp; omega)
    rw [this, ← List.map_append]
  have hp := picks_e (S := S) h7 e0
  generalize hP : (eA gLst (aCons (eC (.str "")) (aCons (eC (.str "-")) (aCons (eC (.str "1:1")) (aCons (eC (.str "9:9")) (aCons (eC (.str "0:1")) (aCons (eC (.str "5")) (aCons (eC (.str "5:")) (aCons (eC (.str ":5")) (aCons (eC (.str "10:1")) (aCons (eC (.str "5:10")) (aCons (eC (.str "a:1")) (aCons (eC (.str "5:5:5")) (aCons (eC (.str "5;5")) (aCons (e2 gIx (eV 7) (eC (.int 0))) aNil))))))))))))))) = P at hp ⊢
  generalize picks w0 = L0 at hp d1
  simp only [eSl, oE, nG, sSet, sRet, sRetN, sIf, sDrop, sNx, sBrk, sPar, sTg, sr_ok, rb_ok, ro_ok, so_ok, e1, e2, eA, eCl, eV, eC, eAnd, eOr, eNot, eIf, eCh, tV, tNot, tAnd, tOr, tYes, bof_bl, aNil, aCons, tgSet, setAll, lo0, bodyR_nx, bodyR_rt, R.wp_ok, SR.wp_nx, SR.wp_rt, SR.wp_bk, gSub, gLe, gLt, gGt, gGe, is_non, is_int, is_tup, is_bl, isn_non, isn_int, isn_tup, isn_bl, is_o, isn_o, gNeg, gTup1, gTup2, gTup3, gTup4, gTup5, gLst0, gLst1, gLst2, gLst3, eLstA0, List.length_cons, List.length_nil, List.map_cons, List.map_nil, List.cons_append, List.nil_append, List.replicate, Nat.sub_self, Nat.reduceSub, Nat.reduceAdd, List.getElem?_cons_zero, List.getElem?_cons_succ, List.set_cons_zero, List.set_cons_succ, Option.map_some, Bool.not_true, Bool.not_false, ite_true, ite_false, if_true, if_false, Bool.false_eq_true, gEq_int, gNe_int, gEq_bl, gNe_bl, gEq_non, gNe_non, List.isEmpty_cons, List.isEmpty_nil, h7, h9, h1, c1, hp, d1, gLst1, a1, d2', addI, c2, a2]
  exact ⟨⟨l1 ++ [z] ++ l2, rfl, fun w hw' => by
    simp only [List.mem_append, List.mem_singleton] at hw'
    rcases hw' with (h | rfl) | h
    · exact hw _ (s1.subset h)
    · exact hz
    · exact hw _ (s2.subset h), by simp; omega⟩, hr2⟩

end Lk02

end

section
set_option Elab.async false
set_option linter.all false
set_option maxRecDepth 100000
set_option maxHeartbeats 4000000
namespace Lk02
open PySem GL PySem.Builtin PySem.Builtin.Str
variable {n : Nat} {S : Sto}
theorem len_tls (ws : List Str) : gLen [.tl (ws.map .str)] S = some (.int (ws.length : Nat)) := by
  show some (G.int ((ws.map G.str).length : Nat)) = _
  rw [List.length_map]
theorem law_ok (ns : List Int) : (callN tab (n + 11) (.fn "law") [.fz (ns.map .int)] []).wp fun g _ => g = .bl true := by
  rw [cn_law (n + 10) _ _ rfl]
  refine wp_body ?_
  unfold sh_law
  refine wp_seq ?_
  simp only [nG, sSet, sRet, sRetN, sIf, sDrop, sNx, sBrk, sPar, sTg, sr_ok, rb_ok, ro_ok, so_ok, e1, e2, eA, eCl, eV, eC, eAnd, eOr, eNot, eIf, eCh, tV, tNot, tAnd, tOr, tYes, bof_bl, aNil, aCons, tgSet, setAll, lo0, bodyR_nx, bodyR_rt, R.wp_ok, SR.wp_nx, SR.wp_rt, SR.wp_bk, gAddA, gAdd, gSub, gLe, gLt, gGt, gGe, is_non, is_int, is_tup, is_bl, isn_non, isn_int, isn_tup, isn_bl, is_o, isn_o, gNeg, gTup1, gTup2, gTup3, gTup4, gTup5, gLst0, gLst1, gLst2, gLst3, eLstA0, List.length_cons, List.length_nil, List.map_cons, List.map_nil, List.cons_append, List.nil_append, List.replicate, Nat.sub_self, Nat.reduceSub, Nat.reduceAdd, List.getElem?_cons_zero, List.getElem?_cons_succ, List.set_cons_zero, List.set_cons_succ, Option.map_some, Bool.not_true, Bool.not_false, ite_true, ite_false, if_true, if_false, Bool.false_eq_true, gEq_int, gNe_int, gEq_bl, gNe_bl, gEq_non, gNe_non, List.isEmpty_cons, List.isEmpty_nil]
  have h4 : ∀ l S, eLstA (aCons (eV 0) (aCons (eC (.int 0)) (aCons (eC (.int 7021)) (aCons (eC (.int 0)) aNil)))) (some (.fz (ns.map .int)) :: l) S = .ok (.ref S.length) (S ++ [.lst true [.fz (ns.map .int), .int 0, .int 7021, .int 0]]) := fun l S => by
    simp only [eLstA, nG, sSet, sRet, sRetN, sIf, sDrop, sNx, sBrk, sPar, sTg, sr_ok, rb_ok, ro_ok, so_ok, e1, e2, eA, eCl, eV, eC, eAnd, eOr, eNot, eIf, eCh, tV, tNot, tAnd, tOr, tYes, bof_bl, aNil, aCons, tgSet, setAll, lo0, bodyR_nx, bodyR_rt, R.wp_ok, SR.wp_nx, SR.wp_rt, SR.wp_bk, gAddA, gAdd, gSub, gLe, gLt, gGt, gGe, is_non, is_int, is_tup, is_bl, isn_non, isn_int, isn_tup, isn_bl, is_o, isn_o, gNeg, gTup1, gTup2, gTup3, gTup4, gTup5, gLst0, gLst1, gLst2, gLst3, eLstA0, List.length_cons, List.length_nil, List.map_cons, List.map_nil, List.cons_append, List.nil_append, List.replicate, Nat.sub_self, Nat.reduceSub, Nat.reduceAdd, List.getElem?_cons_zero, List.getElem?_cons_succ, List.set_cons_zero, List.set_cons_succ, Option.map_some, Bool.not_true, Bool.not_false, ite_true, ite_false, if_true, if_false, Bool.false_eq_true, gEq_int, gNe_int, gEq_bl, gNe_bl, gEq_non, gNe_non, List.isEmpty_cons, List.isEmpty_nil]
    rw [if_pos (sz _ (by decide))]
  rw [h4]
  simp only [nG, sSet, sRet, sRetN, sIf, sDrop, sNx, sBrk, sPar, sTg, sr_ok, rb_ok, ro_ok, so_ok, e1, e2, eA, eCl, eV, eC, eAnd, eOr, eNot, eIf, eCh, tV, tNot, tAnd, tOr, tYes, bof_bl, aNil, aCons, tgSet, setAll, lo0, bodyR_nx, bodyR_rt, R.wp_ok, SR.wp_nx, SR.wp_rt, SR.wp_bk, gAddA, gAdd, gSub, gLe, gLt, gGt, gGe, is_non, is_int, is_tup, is_bl, isn_non, isn_int, isn_tup, isn_bl, is_o, isn_o, gNeg, gTup1, gTup2, gTup3, gTup4, gTup5, gLst0, gLst1, gLst2, gLst3, eLstA0, List.length_cons, List.length_nil, List.map_cons, List.map_nil, List.cons_append, List.nil_append, List.replicate, Nat.sub_self, Nat.reduceSub, Nat.reduceAdd, List.getElem?_cons_zero, List.getElem?_cons_succ, List.set_cons_zero, List.set_cons_succ, Option.map_some, Bool.not_true, Bool.not_false, ite_true, ite_false, if_true, if_false, Bool.false_eq_true, gEq_int, gNe_int, gEq_bl, gNe_bl, gEq_non, gNe_non, List.isEmpty_cons, List.isEmpty_nil]
  refine wp_seq (wp_for (xs := (List.range 6).map nG) (itR1_nat (n := 6) (by simp only [nG, sSet, sRet, sRetN, sIf, sDrop, sNx, sBrk, sPar, sTg, sr_ok, rb_ok, ro_ok, so_ok, e1, e2, eA, eCl, eV, eC, eAnd, eOr, eNot, eIf, eCh, tV, tNot, tAnd, tOr, tYes, bof_bl, aNil, aCons, tgSet, setAll, lo0, bodyR_nx, bodyR_rt, R.wp_ok, SR.wp_nx, SR.wp_rt, SR.wp_bk, gAddA, gAdd, gSub, gLe, gLt, gGt, gGe, is_non, is_int, is_tup, is_bl, isn_non, isn_int, isn_tup, isn_bl, is_o, isn_o, gNeg, gTup1, gTup2, gTup3, gTup4, gTup5, gLst0, gLst1, gLst2, gLst3, eLstA0, List.length_cons, List.length_nil, List.map_cons, List.map_nil, List.cons_append, List.nil_append, List.replicate, Nat.sub_self, Nat.reduceSub, Nat.reduceAdd, List.getElem?_cons_zero, List.getElem?_cons_succ, List.set_cons_zero, List.set_cons_succ, Option.map_some, Bool.not_true, Bool.not_false, ite_true, ite_false, if_true, if_false, Bool.false_eq_true, gEq_int, gNe_int, gEq_bl, gNe_bl, gEq_non, gNe_non, List.isEmpty_cons, List.isEmpty_nil]; rfl) (by omega)) (fun _ l S => (∃ u2 u3 u4 u5 u6 u7 u8 u9 u10 u11 u12, l = [some (.fz (ns.map iG)), some (.ref 0), u2, u3, u4, u5, u6, u7, u8, u9, u10, u11, u12]) ∧ ∃ Z, Row Z S) ?_ ⟨⟨_, _, _, _, _, _, _, _, _, _, _, rfl⟩, [], ns, 0, 7021, 0, rfl, by decide, by decide⟩ ?_)
  · rintro k x l S hx ⟨⟨u2, u3, u4, u5, u6, u7, u8, u9, u10, u11, u12, rfl⟩, Z, hr⟩
    refine ⟨_, rfl, ?_⟩
    obtain ⟨_, S1, d1, ⟨r, ok, rfl⟩, hr1⟩ := R.wp_iff.mp (rule_ok (n := n + 7) hr)
    refine wp_seq ?_
    simp only [nG, sSet, sRet, sRetN, sIf, sDrop, sNx, sBrk, sPar, sTg, sr_ok, rb_ok, ro_ok, so_ok, e1, e2, eA, eCl, eV, eC, eAnd, eOr, eNot, eIf, eCh, tV, tNot, tAnd, tOr, tYes, bof_bl, aNil, aCons, tgSet, setAll, lo0, bodyR_nx, bodyR_rt, R.wp_ok, SR.wp_nx, SR.wp_rt, SR.wp_bk, gAddA, gAdd, gSub, gLe, gLt, gGt, gGe, is_non, is_int, is_tup, is_bl, isn_non, isn_int, isn_tup, isn_bl, is_o, isn_o, gNeg, gTup1, gTup2, gTup3, gTup4, gTup5, gLst0, gLst1, gLst2, gLst3, eLstA0, List.length_cons, List.length_nil, List.map_cons, List.map_nil, List.cons_append, List.nil_append, List.replicate, Nat.sub_self, Nat.reduceSub, Nat.reduceAdd, List.getElem?_cons_zero, List.getElem?_cons_succ, List.set_cons_zero, List.set_cons_succ, Option.map_some, Bool.not_true, Bool.not_false, ite_true, ite_false, if_true, if_false, Bool.false_eq_true, gEq_int, gNe_int, gEq_bl, gNe_bl, gEq_non, gNe_non, List.isEmpty_cons, List.isEmpty_nil, d1]
    refine wp_seq (wp_set ?_)
    rw [line_e ok, R.wp_ok]
    simp only [List.set_cons_zero, List.set_cons_succ]
    have hline : (lineOf r).length ≤ 20 := (line_ok (S := S1) ok).2
    have e1' : callN tab (n + 10) (.fn "rule_line") [ruG r] S1 = .ok (.str (lineOf r)) S1 := rule_line_ok (n := n + 3) ok
    obtain ⟨S2, e2', g2⟩ : ∃ S2, callN tab (n + 10) (.fn "read_rule") [.str (lineOf r)] S1 = .ok (ruG r) S2 ∧ Grow S1 S2 := by
      have hrd : rd 0 [] (wds (lineOf r)) = .inr r := by
        rw [wds_line ok]
        exact rd_line ok r.length 0 (by omega)
      rcases R.wpe_iff.mp (read_rule_str (n := n + 6) (S := S1) (w := lineOf r) (by omega)) with ⟨g, S2, e, f, hf, rfl, gr⟩ | ⟨c, fs, S2, e, k', hk, rfl, rfl, gr⟩
      · rw [hrd] at hf
        cases hf
        exact ⟨S2, e, gr⟩
      · rw [hrd] at hk
        cases hk
    have al : callN tab (n + 10) (.fn "_law_alike") [.tup [.str (lineOf r), ruG r], .tup [.str (lineOf r), ruG r]] S2 = .ok (.bl true) S2 := alike_tup (n := n + 9) (by simp) fun y hy => by
      simp only [List.mem_cons, List.not_mem_nil, or_false] at hy
      rcases hy with rfl | rfl
      · exact alike_str (n := n + 8)
      · exact alike_rule (n := n + 6) (by have := ok.len; omega)
    have sp := fun S => gSplit_32 (S := S) (w := lineOf r) (by omega)
    rw [wl_split ok] at sp
    have hwl := wl_le ok
    have hwn := wl_len ok
    generalize lineOf r = w0 at *
    generalize wl r = ws at *
    have ht : ∀ x S, isSG (.str x) S = true := fun _ _ => rfl
    refine wp_seq ?_
    simp only [nG, sSet, sRet, sRetN, sIf, sDrop, sNx, sBrk, sPar, sTg, sr_ok, rb_ok, ro_ok, so_ok, e1, e2, eA, eCl, eV, eC, eAnd, eOr, eNot, eIf, eCh, tV, tNot, tAnd, tOr, tYes, bof_bl, aNil, aCons, tgSet, setAll, lo0, bodyR_nx, bodyR_rt, R.wp_ok, SR.wp_nx, SR.wp_rt, SR.wp_bk, gAddA, gAdd, gSub, gLe, gLt, gGt, gGe, is_non, is_int, is_tup, is_bl, isn_non, isn_int, isn_tup, isn_bl, is_o, isn_o, gNeg, gTup1, gTup2, gTup3, gTup4, gTup5, gLst0, gLst1, gLst2, gLst3, eLstA0, List.length_cons, List.length_nil, List.map_cons, List.map_nil, List.cons_append, List.nil_append, List.replicate, Nat.sub_self, Nat.reduceSub, Nat.reduceAdd, List.getElem?_cons_zero, List.getElem?_cons_succ, List.set_cons_zero, List.set_cons_succ, Option.map_some, Bool.not_true, Bool.not_false, ite_true, ite_false, if_true, if_false, Bool.false_eq_true, gEq_int, gNe_int, gEq_bl, gNe_bl, gEq_non, gNe_non, List.isEmpty_cons, List.isEmpty_nil, e1', e2', al]
    refine wp_seq ?_
    simp only [nG, sSet, sRet, sRetN, sIf, sDrop, sNx, sBrk, sPar, sTg, sr_ok, rb_ok, ro_ok, so_ok, e1, e2, eA, eCl, eV, eC, eAnd, eOr, eNot, eIf, eCh, tV, tNot, tAnd, tOr, tYes, bof_bl, aNil, aCons, tgSet, setAll, lo0, bodyR_nx, bodyR_rt, R.wp_ok, SR.wp_nx, SR.wp_rt, SR.wp_bk, gAddA, gAdd, gSub, gLe, gLt, gGt, gGe, is_non, is_int, is_tup, is_bl, isn_non, isn_int, isn_tup, isn_bl, is_o, isn_o, gNeg, gTup1, gTup2, gTup3, gTup4, gTup5, gLst0, gLst1, gLst2, gLst3, eLstA0, List.length_cons, List.length_nil, List.map_cons, List.map_nil, List.cons_append, List.nil_append, List.replicate, Nat.sub_self, Nat.reduceSub, Nat.reduceAdd, List.getElem?_cons_zero, List.getElem?_cons_succ, List.set_cons_zero, List.set_cons_succ, Option.map_some, Bool.not_true, Bool.not_false, ite_true, ite_false, if_true, if_false, Bool.false_eq_true, gEq_int, gNe_int, gEq_bl, gNe_bl, gEq_non, gNe_non, List.isEmpty_cons, List.isEmpty_nil, eMq, ht, sp]
    obtain ⟨Z2, hr2⟩ := hr1.grow g2
    clear e1' e2' al sp d1 hr g2 hr1 hx
    refine wp_seq (SR.wp_mono (N := fun l S => (∃ u8 u9 u10 u11, l = [some (.fz (ns.map iG)), some (.ref 0), some x, some (ruG r), some (.str w0), u5, u6, some (.tl (ws.map .str)), u8, u9, u10, u11, u12]) ∧ ∃ Z, Row Z S) (T := fun _ _ => False) (B := fun _ _ => False) ?_ ?_ (fun _ _ h => h.elim) (fun _ _ h => h.elim))
    · refine wp_for (xs := (List.range 5).map nG) (itR1_nat (n := 5) (by simp only [nG, sSet, sRet, sRetN, sIf, sDrop, sNx, sBrk, sPar, sTg, sr_ok, rb_ok, ro_ok, so_ok, e1, e2, eA, eCl, eV, eC, eAnd, eOr, eNot, eIf, eCh, tV, tNot, tAnd, tOr, tYes, bof_bl, aNil, aCons, tgSet, setAll, lo0, bodyR_nx, bodyR_rt, R.wp_ok, SR.wp_nx, SR.wp_rt, SR.wp_bk, gAddA, gAdd, gSub, gLe, gLt, gGt, gGe, is_non, is_int, is_tup, is_bl, isn_non, isn_int, isn_tup, isn_bl, is_o, isn_o, gNeg, gTup1, gTup2, gTup3, gTup4, gTup5, gLst0, gLst1, gLst2, gLst3, eLstA0, List.length_cons, List.length_nil, List.map_cons, List.map_nil, List.cons_append, List.nil_append, List.replicate, Nat.sub_self, Nat.reduceSub, Nat.reduceAdd, List.getElem?_cons_zero, List.getElem?_cons_succ, List.set_cons_zero, List.set_cons_succ, Option.map_some, Bool.not_true, Bool.not_false, ite_true, ite_false, if_true, if_false, Bool.false_eq_true, gEq_int, gNe_int, gEq_bl, gNe_bl, gEq_non, gNe_non, List.isEmpty_cons, List.isEmpty_nil]; rfl) (by omega)) (fun _ l S => (∃ u8 u9 u10 u11, l = [some (.fz (ns.map iG)), some (.ref 0), some x, some (ruG r), some (.str w0), u5, u6, some (.tl (ws.map .str)), u8, u9, u10, u11, u12]) ∧ ∃ Z, Row Z S) ?_ ⟨⟨_, _, _, _, rfl⟩, _, hr2⟩ (fun _ _ h => h)
      clear hr2
      rintro j y l S hy ⟨⟨u8, u9, u10, u11, rfl⟩, Z, hr⟩
      refine ⟨_, rfl, ?_⟩
      obtain ⟨_, S3, d3, ⟨a, ha, rfl⟩, hr3⟩ := R.wp_iff.mp (taken_ok (n := n + 9) (many := ws.length + 1) hr (by omega) (by omega))
      have d3' : callN tab (n + 10) (.fn "_law_taken") [.ref 0, .int ((ws.length : Int) + 1)] S = .ok (.int (a : Nat)) S3 := d3
      refine wp_seq ?_
      simp only [nG, sSet, sRet, sRetN, sIf, sDrop, sNx, sBrk, sPar, sTg, sr_ok, rb_ok, ro_ok, so_ok, e1, e2, eA, eCl, eV, eC, eAnd, eOr, eNot, eIf, eCh, tV, tNot, tAnd, tOr, tYes, bof_bl, aNil, aCons, tgSet, setAll, lo0, bodyR_nx, bodyR_rt, R.wp_ok, SR.wp_nx, SR.wp_rt, SR.wp_bk, gAddA, gAdd, gSub, gLe, gLt, gGt, gGe, is_non, is_int, is_tup, is_bl, isn_non, isn_int, isn_tup, isn_bl, is_o, isn_o, gNeg, gTup1, gTup2, gTup3, gTup4, gTup5, gLst0, gLst1, gLst2, gLst3, eLstA0, List.length_cons, List.length_nil, List.map_cons, List.map_nil, List.cons_append, List.nil_append, List.replicate, Nat.sub_self, Nat.reduceSub, Nat.reduceAdd, List.getElem?_cons_zero, List.getElem?_cons_succ, List.set_cons_zero, List.set_cons_succ, Option.map_some, Bool.not_true, Bool.not_false, ite_true, ite_false, if_true, if_false, Bool.false_eq_true, gEq_int, gNe_int, gEq_bl, gNe_bl, gEq_non, gNe_non, List.isEmpty_cons, List.isEmpty_nil, len_tls, d3']
      refine wp_seq (wp_set (R.wp_mono (other_e (n := n) hr3 rfl rfl rfl hwl hwn.1 hwn.2 (by omega)) ?_))
      rintro g S4 ⟨⟨ws', rfl, hw', hn'⟩, hr4⟩
      simp only [List.set_cons_zero, List.set_cons_succ]
      obtain ⟨hj, hjl⟩ := join_le (S := S4) (k := 5) hw' (by omega)
      generalize Txt.join " " ws' = z at hj hjl ⊢
      refine wp_seq (wp_set (R.wp_iff.mpr ⟨.str z, S4, by simp only [nG, sSet, sRet, sRetN, sIf, sDrop, sNx, sBrk, sPar, sTg, sr_ok, rb_ok, ro_ok, so_ok, e1, e2, eA, eCl, eV, eC, eAnd, eOr, eNot, eIf, eCh, tV, tNot, tAnd, tOr, tYes, bof_bl, aNil, aCons, tgSet, setAll, lo0, bodyR_nx, bodyR_rt, R.wp_ok, SR.wp_nx, SR.wp_rt, SR.wp_bk, gAddA, gAdd, gSub, gLe, gLt, gGt, gGe, is_non, is_int, is_tup, is_bl, isn_non, isn_int, isn_tup, isn_bl, is_o, isn_o, gNeg, gTup1, gTup2, gTup3, gTup4, gTup5, gLst0, gLst1, gLst2, gLst3, eLstA0, List.length_cons, List.length_nil, List.map_cons, List.map_nil, List.cons_append, List.nil_append, List.replicate, Nat.sub_self, Nat.reduceSub, Nat.reduceAdd, List.getElem?_cons_zero, List.getElem?_cons_succ, List.set_cons_zero, List.set_cons_succ, Option.map_some, Bool.not_true, Bool.not_false, ite_true, ite_false, if_true, if_false, Bool.false_eq_true, gEq_int, gNe_int, gEq_bl, gNe_bl, gEq_non, gNe_non, List.isEmpty_cons, List.isEmpty_nil, eMq, ht, hj], ?_⟩))
      simp only [List.set_cons_zero, List.set_cons_succ]
      refine wp_if (wp_tNot (wp_tV (R.wp_mono (same_w (n := n + 4) (w := z) ?h1 (by omega) (fun n S => lam0_eq _)) ?_)))
      case h1 => rfl
      rintro g S5 ⟨rfl, g5⟩
      refine ⟨true, rfl, ?_⟩
      rw [if_neg (by decide)]
      exact ⟨⟨_, _, _, _, rfl⟩, hr4.grow g5⟩
    · rintro l S ⟨⟨u8, u9, u10, u11, rfl⟩, Z, hr⟩
      obtain ⟨y7, S7, d7, hy7, hr7⟩ := R.wp_iff.mp (odd_ok (n := n + 7) hr)
      obtain ⟨x2, S8, d8, ⟨i8, _, hx2⟩, hr8⟩ := R.wp_iff.mp (pick_tl (n := n + 8) (xs := [.non, .int 1, .tl [.str "1:1"], .str (Txt.mul "1:1 " 12), .str "1:1 2:2 3:3 4:4 5:5 6:6", .str "", y7]) hr7 (by simp) (by simp))
      have hodd := odd_is hy7 hx2
      have t3 : gLst [.non, .int 1, .tl [.str "1:1"], .str (Txt.mul "1:1 " 12), .str "1:1 2:2 3:3 4:4 5:5 6:6", .str "", y7] S7 = some (.tl [.non, .int 1, .tl [.str "1:1"], .str (Txt.mul "1:1 " 12), .str "1:1 2:2 3:3 4:4 5:5 6:6", .str "", y7]) := lstN (by simp)
      have m12 := fun S => mul12 (S := S)
      generalize Txt.mul "1:1 " 12 = m at *
      refine wp_seq (wp_set (R.wp_iff.mpr ⟨x2, S8, by simp only [nG, sSet, sRet, sRetN, sIf, sDrop, sNx, sBrk, sPar, sTg, sr_ok, rb_ok, ro_ok, so_ok, e1, e2, eA, eCl, eV, eC, eAnd, eOr, eNot, eIf, eCh, tV, tNot, tAnd, tOr, tYes, bof_bl, aNil, aCons, tgSet, setAll, lo0, bodyR_nx, bodyR_rt, R.wp_ok, SR.wp_nx, SR.wp_rt, SR.wp_bk, gAddA, gAdd, gSub, gLe, gLt, gGt, gGe, is_non, is_int, is_tup, is_bl, isn_non, isn_int, isn_tup, isn_bl, is_o, isn_o, gNeg, gTup1, gTup2, gTup3, gTup4, gTup5, gLst0, gLst1, gLst2, gLst3, eLstA0, List.length_cons, List.length_nil, List.map_cons, List.map_nil, List.cons_append, List.nil_append, List.replicate, Nat.sub_self, Nat.reduceSub, Nat.reduceAdd, List.getElem?_cons_zero, List.getElem?_cons_succ, List.set_cons_zero, List.set_cons_succ, Option.map_some, Bool.not_true, Bool.not_false, ite_true, ite_false, if_true, if_false, Bool.false_eq_true, gEq_int, gNe_int, gEq_bl, gNe_bl, gEq_non, gNe_non, List.isEmpty_cons, List.isEmpty_nil, gLst1, m12, d7, t3, d8], ?_⟩))
      simp only [List.set_cons_zero, List.set_cons_succ]
      refine wp_if (wp_tNot (wp_tV (R.wp_mono (same_odd (n := n + 4) (v := x2) ?h2 hodd (fun n S => lam1_eq _)) ?_)))
      case h2 => rfl
      rintro g S5 ⟨rfl, g5⟩
      refine ⟨true, rfl, ?_⟩
      rw [if_neg (by decide)]
      exact ⟨⟨_, _, _, _, _, _, _, _, _, _, _, rfl⟩, hr8.grow g5⟩
  · rintro l S ⟨⟨u2, u3, u4, u5, u6, u7, u8, u9, u10, u11, u12, rfl⟩, _⟩
    simp only [nG, sSeq, sSet, sRet, sRetN, sIf, sDrop, sNx, sBrk, sPar, sTg, sr_ok, rb_ok, ro_ok, so_ok, e1, e2, eA, eCl, eV, eC, eAnd, eOr, eNot, eIf, eCh, tV, tNot, tAnd, tOr, tYes, bof_bl, aNil, aCons, tgSet, setAll, lo0, bodyR_nx, bodyR_rt, R.wp_ok, SR.wp_nx, SR.wp_rt, SR.wp_bk, gAddA, gAdd, gSub, gLe, gLt, gGt, gGe, is_non, is_int, is_tup, is_bl, isn_non, isn_int, isn_tup, isn_bl, is_o, isn_o, gNeg, gTup1, gTup2, gTup3, gTup4, gTup5, gLst0, gLst1, gLst2, gLst3, eLstA0, List.length_cons, List.length_nil, List.map_cons, List.map_nil, List.cons_append, List.nil_append, List.replicate, Nat.sub_self, Nat.reduceSub, Nat.reduceAdd, List.getElem?_cons_zero, List.getElem?_cons_succ, List.set_cons_zero, List.set_cons_succ, Option.map_some, Bool.not_true, Bool.not_false, ite_true, ite_false, if_true, if_false, Bool.false_eq_true, gEq_int, gNe_int, gEq_bl, gNe_bl, gEq_non, gNe_non, List.isEmpty_cons, List.isEmpty_nil]
theorem plain (ns : List Int) : ∃ S', callN tab 100 (.fn "law") [.fz (ns.map .int)] [] = .ok (.bl true) S' := by
  obtain ⟨g, S', e, rfl⟩ := R.wp_iff.mp (law_ok (n := 89) ns)
  exact ⟨S', e⟩

end Lk02

end

section
set_option Elab.async false
set_option linter.all false
set_option maxRecDepth 100000
set_option maxHeartbeats 0
namespace Lk02
open PySem PySem.Spec PyProof.Rows L2 LamX GL
abbrev lx_0 : Expr := (txE (exK (txE (exK (txE (exK (txE (stK (txS (stB (txS (stB (txS (C8.fnBody st_law) 1)) 4)) 3)) 0)) 0)) 1)) 1)
abbrev lamD0 : LamD := ⟨"law.<locals>.<lambda>", lamPar lx_0, lamBod lx_0, lamSco lx_0, ["text"], false⟩
abbrev lx_1 : Expr := (txE (exK (txE (exK (txE (exK (txE (stK (txS (stB (txS (C8.fnBody st_law) 1)) 6)) 0)) 0)) 1)) 1)
abbrev lamD1 : LamD := ⟨"law.<locals>.<lambda>", lamPar lx_1, lamBod lx_1, lamSco lx_1, ["odd"], false⟩
abbrev lamD (i : Nat) : LamD := match i with
  | 0 => lamD0
  | 1 => lamD1
  | _ => ⟨"", ⟨[], [], none, [], [], none, []⟩, .Constant .none 0 ⟨0, 0, 0, 0⟩, ⟨.function, [], false, false, []⟩, [], false⟩
abbrev lamT (i : Nat) : Option LamD := if i < 2 then some (lamD i) else none
abbrev dd_is_whole : He.DefD := ⟨("is_whole", none), "is_whole", "is_whole", C8.fnArgs st_is_whole, C8.fnBody st_is_whole, C8.fnScope st_is_whole, [], []⟩
abbrev N_is_whole : List Str := ["value"]
theorem sc_is_whole : FnScope N_is_whole ["value"] (C8.fnScope st_is_whole) := C8.fnScope_by (by kernel_rfl)
abbrev dd_is_within : He.DefD := ⟨("is_within", none), "is_within", "is_within", C8.fnArgs st_is_within, C8.fnBody st_is_within, C8.fnScope st_is_within, [], []⟩
abbrev N_is_within : List Str := ["value", "least", "most"]
theorem sc_is_within : FnScope N_is_within ["value", "least", "most"] (C8.fnScope st_is_within) := C8.fnScope_by (by kernel_rfl)
abbrev dd_is_row : He.DefD := ⟨("is_row", none), "is_row", "is_row", C8.fnArgs st_is_row, C8.fnBody st_is_row, C8.fnScope st_is_row, [], []⟩
abbrev N_is_row : List Str := ["value", "size"]
theorem sc_is_row : FnScope N_is_row ["value", "size"] (C8.fnScope st_is_row) := C8.fnScope_by (by kernel_rfl)
abbrev dd_first_wrong : He.DefD := ⟨("first_wrong", none), "first_wrong", "first_wrong", C8.fnArgs st_first_wrong, C8.fnBody st_first_wrong, C8.fnScope st_first_wrong, [], []⟩
abbrev N_first_wrong : List Str := ["value", "least", "most", "judge", "place", "row"]
theorem sc_first_wrong : FnScope N_first_wrong ["value", "least", "most", "judge"] (C8.fnScope st_first_wrong) := C8.fnScope_by (by kernel_rfl)
abbrev dd_place_told : He.DefD := ⟨("place_told", none), "place_told", "place_told", C8.fnArgs st_place_told, C8.fnBody st_place_told, C8.fnScope st_place_told, [], []⟩
abbrev N_place_told : List Str := ["place"]
theorem sc_place_told : FnScope N_place_told ["place"] (C8.fnScope st_place_told) := C8.fnScope_by (by kernel_rfl)
abbrev dd_is_pair : He.DefD := ⟨("is_pair", none), "is_pair", "is_pair", C8.fnArgs st_is_pair, C8.fnBody st_is_pair, C8.fnScope st_is_pair, [], []⟩
abbrev N_is_pair : List Str := ["row", "ahead"]
theorem sc_is_pair : FnScope N_is_pair ["row", "ahead"] (C8.fnScope st_is_pair) := C8.fnScope_by (by kernel_rfl)
abbrev dd_wrong_place : He.DefD := ⟨("wrong_place", none), "wrong_place", "wrong_place", C8.fnArgs st_wrong_place, C8.fnBody st_wrong_place, C8.fnScope st_wrong_place, [], []⟩
abbrev N_wrong_place : List Str := ["rule"]
theorem sc_wrong_place : FnScope N_wrong_place ["rule"] (C8.fnScope st_wrong_place) := C8.fnScope_by (by kernel_rfl)
abbrev dd_require_rule : He.DefD := ⟨("require_rule", none), "require_rule", "require_rule", C8.fnArgs st_require_rule, C8.fnBody st_require_rule, C8.fnScope st_require_rule, [], []⟩
abbrev N_require_rule : List Str := ["rule", "place"]
theorem sc_require_rule : FnScope N_require_rule ["rule"] (C8.fnScope st_require_rule) := C8.fnScope_by (by kernel_rfl)
abbrev dd_rule_line : He.DefD := ⟨("rule_line", none), "rule_line", "rule_line", C8.fnArgs st_rule_line, C8.fnBody st_rule_line, C8.fnScope st_rule_line, [], []⟩
abbrev N_rule_line : List Str := ["rule", "words", "level", "many"]
theorem sc_rule_line : FnScope N_rule_line ["rule"] (C8.fnScope st_rule_line) := C8.fnScope_by (by kernel_rfl)
abbrev dd_pair_in : He.DefD := ⟨("pair_in", none), "pair_in", "pair_in", C8.fnArgs st_pair_in, C8.fnBody st_pair_in, C8.fnScope st_pair_in, [], []⟩
abbrev N_pair_in : List Str := ["word", "parts", "part"]
theorem sc_pair_in : FnScope N_pair_in ["word"] (C8.fnScope st_pair_in) := C8.fnScope_by (by kernel_rfl)
abbrev dd_read_rule : He.DefD := ⟨("read_rule", none), "read_rule", "read_rule", C8.fnArgs st_read_rule, C8.fnBody st_read_rule, C8.fnScope st_read_rule, [], []⟩
abbrev N_read_rule : List Str := ["line", "found", "place", "word", "pair"]
theorem sc_read_rule : FnScope N_read_rule ["line"] (C8.fnScope st_read_rule) := C8.fnScope_by (by kernel_rfl)
abbrev dd__law_taken : He.DefD := ⟨("_law_taken", none), "_law_taken", "_law_taken", C8.fnArgs st__law_taken, C8.fnBody st__law_taken, C8.fnScope st__law_taken, [], []⟩
abbrev N__law_taken : List Str := ["row", "many", "found", "cell"]
theorem sc__law_taken : FnScope N__law_taken ["row", "many"] (C8.fnScope st__law_taken) := C8.fnScope_by (by kernel_rfl)
abbrev dd__law_pick : He.DefD := ⟨("_law_pick", none), "_law_pick", "_law_pick", C8.fnArgs st__law_pick, C8.fnBody st__law_pick, C8.fnScope st__law_pick, [], []⟩
abbrev N__law_pick : List Str := ["row", "things"]
theorem sc__law_pick : FnScope N__law_pick ["row", "things"] (C8.fnScope st__law_pick) := C8.fnScope_by (by kernel_rfl)
abbrev dd__law_alike : He.DefD := ⟨("_law_alike", none), "_law_alike", "_law_alike", C8.fnArgs st__law_alike, C8.fnBody st__law_alike, C8.fnScope st__law_alike, [], []⟩
abbrev N__law_alike : List Str := ["found", "due", "k"]
theorem sc__law_alike : FnScope N__law_alike ["found", "due"] (C8.fnScope st__law_alike) := C8.fnScope_by (by kernel_rfl)
abbrev dd__law_same : He.DefD := ⟨("_law_same", none), "_law_same", "_law_same", C8.fnArgs st__law_same, C8.fnBody st__law_same, C8.fnScope st__law_same, [], []⟩
abbrev N__law_same : List Str := ["found", "due"]
theorem sc__law_same : FnScope N__law_same ["found", "due"] (C8.fnScope st__law_same) := C8.fnScope_by (by kernel_rfl)
abbrev dd__law_odd : He.DefD := ⟨("_law_odd", none), "_law_odd", "_law_odd", C8.fnArgs st__law_odd, C8.fnBody st__law_odd, C8.fnScope st__law_odd, [], []⟩
abbrev N__law_odd : List Str := ["row", "odd"]
theorem sc__law_odd : FnScope N__law_odd ["row"] (C8.fnScope st__law_odd) := C8.fnScope_by (by kernel_rfl)
abbrev dd__law_refusal : He.DefD := ⟨("_law_refusal", none), "_law_refusal", "_law_refusal", C8.fnArgs st__law_refusal, C8.fnBody st__law_refusal, C8.fnScope st__law_refusal, [], []⟩
abbrev N__law_refusal : List Str := ["e", "names", "marks", "name"]
theorem sc__law_refusal : FnScope N__law_refusal ["e"] (C8.fnScope st__law_refusal) := C8.fnScope_by (by kernel_rfl)
abbrev dd__law_told : He.DefD := ⟨("_law_told", none), "_law_told", "_law_told", C8.fnArgs st__law_told, C8.fnBody st__law_told, C8.fnScope st__law_told, [], []⟩
abbrev N__law_told : List Str := ["call", "e"]
theorem sc__law_told : FnScope N__law_told ["call"] (C8.fnScope st__law_told) := C8.fnScope_by (by kernel_rfl)
abbrev dd__law_rule : He.DefD := ⟨("_law_rule", none), "_law_rule", "_law_rule", C8.fnArgs st__law_rule, C8.fnBody st__law_rule, C8.fnScope st__law_rule, [], []⟩
abbrev N__law_rule : List Str := ["row", "levels", "level"]
theorem sc__law_rule : FnScope N__law_rule ["row"] (C8.fnScope st__law_rule) := C8.fnScope_by (by kernel_rfl)
abbrev dd__law_read : He.DefD := ⟨("_law_read", none), "_law_read", "_law_read", C8.fnArgs st__law_read, C8.fnBody st__law_read, C8.fnScope st__law_read, [], []⟩
abbrev N__law_read : List Str := ["line", "found", "words", "k", "word", "is_right"]
theorem sc__law_read : FnScope N__law_read ["line"] (C8.fnScope st__law_read) := C8.fnScope_by (by kernel_rfl)
abbrev dd_law : He.DefD := ⟨("law", none), "law", "law", C8.fnArgs st_law, C8.fnBody st_law, C8.fnScope st_law, [], []⟩
abbrev N_law : List Str := ["script", "row", "turn", "rule", "line", "level", "many", "words", "k", "at", "other", "text", "odd"]
theorem sc_law : FnScope N_law ["script"] (C8.fnScope st_law) := C8.fnScope_by (by kernel_rfl)
def fnL : List He.DefD := [dd_is_whole, dd_is_within, dd_is_row, dd_first_wrong, dd_place_told, dd_is_pair, dd_wrong_place, dd_require_rule, dd_rule_line, dd_pair_in, dd_read_rule, dd__law_taken, dd__law_pick, dd__law_alike, dd__law_same, dd__law_odd, dd__law_refusal, dd__law_told, dd__law_rule, dd__law_read, dd_law]
def fa : List He.Fa := [.glo "is_pair", .glo "NothingDone", .glo "BadClaim", .glo "NotKept", .glo "BadLine", .glo "BadText", .glo "TooMany", .glo "BadPrices", .glo "BadRain", .glo "BadAreas", .glo "BadDikes", .glo "BadCourse", .glo "BadRule", .glo "UnknownArea", .glo "UnknownPolder", .glo "BadNumber", .glo "BadKeep", .glo "PolderError", .glo "is_whole", .glo "is_within", .glo "is_row", .glo "first_wrong", .glo "place_told", .glo "wrong_place", .glo "require_rule", .glo "rule_line", .glo "pair_in", .glo "read_rule", .glo "_law_taken", .glo "_law_pick", .glo "_law_alike", .glo "_law_same", .glo "_law_odd", .glo "_law_refusal", .glo "_law_told", .glo "_law_rule", .glo "_law_read", .glo "law", .free "int", .free "isinstance", .free "bool", .free "tuple", .free "len", .free "enumerate", .free "str", .free "all", .free "list", .free "range", .free "repr", .free "ValueError", .free "super", .int "MOST_LEVEL" 9, .int "MOST_PUMPED" 9, .int "MOST_PAIRS" 5, .str "COLON" ":", .str "BLANK" " ", .str "NONE" "-", .str "DIGITS" "0123456789"]
def tfL : List (Str × Option Str) := [("law", none)]
def ex (K : PySem.W.Frag) : Bool := tabB K isaT && (fldB K fldT && (true && (decide ((tfL.map fun p => (He.cT K p).2).Nodup) && (xcB prog K (He.ga K "BadRule") ["self", "place"] ["place"] && xtabB K xT))))
structure Fx (M : Md) : Prop where
  kin : M.K.In M.base
  ns : M.base.Ns mainGlobals M.mg
  d : He.SaysD fa fnL M.K
  more : ex M.K = true
  tb : ∀ p ∈ tfL, TabB M.base M.mg (He.cT M.K p).1 (He.cT M.K p).2
  T : M.T = ([((He.cT M.K ("law", none)).2, "law.<locals>.<lambda>")] : List (Addr × Str))
  lo : M.isClo = loIs lamT
  P : M.P = prog
section
variable {M : Md} {r : RP} (F : Fx M)
include F
theorem Fx.g_is_pair : M.mg "is_pair" = some (.ref (He.ga M.K "is_pair")) := He.glo_ok F.kin F.ns (F.d.fact 0 (f := .glo "is_pair") rfl)
theorem Fx.g_NothingDone : M.mg "NothingDone" = some (.ref (He.ga M.K "NothingDone")) := He.glo_ok F.kin F.ns (F.d.fact 1 (f := .glo "NothingDone") rfl)
theorem Fx.g_BadClaim : M.mg "BadClaim" = some (.ref (He.ga M.K "BadClaim")) := He.glo_ok F.kin F.ns (F.d.fact 2 (f := .glo "BadClaim") rfl)
theorem Fx.g_NotKept : M.mg "NotKept" = some (.ref (He.ga M.K "NotKept")) := He.glo_ok F.kin F.ns (F.d.fact 3 (f := .glo "NotKept") rfl)
theorem Fx.g_BadLine : M.mg "BadLine" = some (.ref (He.ga M.K "BadLine")) := He.glo_ok F.kin F.ns (F.d.fact 4 (f := .glo "BadLine") rfl)
theorem Fx.g_BadText : M.mg "BadText" = some (.ref (He.ga M.K "BadText")) := He.glo_ok F.kin F.ns (F.d.fact 5 (f := .glo "BadText") rfl)
theorem Fx.g_TooMany : M.mg "TooMany" = some (.ref (He.ga M.K "TooMany")) := He.glo_ok F.kin F.ns (F.d.fact 6 (f := .glo "TooMany") rfl)
theorem Fx.g_BadPrices : M.mg "BadPrices" = some (.ref (He.ga M.K "BadPrices")) := He.glo_ok F.kin F.ns (F.d.fact 7 (f := .glo "BadPrices") rfl)
theorem Fx.g_BadRain : M.mg "BadRain" = some (.ref (He.ga M.K "BadRain")) := He.glo_ok F.kin F.ns (F.d.fact 8 (f := .glo "BadRain") rfl)
theorem Fx.g_BadAreas : M.mg "BadAreas" = some (.ref (He.ga M.K "BadAreas")) := He.glo_ok F.kin F.ns (F.d.fact 9 (f := .glo "BadAreas") rfl)
theorem Fx.g_BadDikes : M.mg "BadDikes" = some (.ref (He.ga M.K "BadDikes")) := He.glo_ok F.kin F.ns (F.d.fact 10 (f := .glo "BadDikes") rfl)
theorem Fx.g_BadCourse : M.mg "BadCourse" = some (.ref (He.ga M.K "BadCourse")) := He.glo_ok F.kin F.ns (F.d.fact 11 (f := .glo "BadCourse") rfl)
theorem Fx.g_BadRule : M.mg "BadRule" = some (.ref (He.ga M.K "BadRule")) := He.glo_ok F.kin F.ns (F.d.fact 12 (f := .glo "BadRule") rfl)
theorem Fx.g_UnknownArea : M.mg "UnknownArea" = some (.ref (He.ga M.K "UnknownArea")) := He.glo_ok F.kin F.ns (F.d.fact 13 (f := .glo "UnknownArea") rfl)
theorem Fx.g_UnknownPolder : M.mg "UnknownPolder" = some (.ref (He.ga M.K "UnknownPolder")) := He.glo_ok F.kin F.ns (F.d.fact 14 (f := .glo "UnknownPolder") rfl)
theorem Fx.g_BadNumber : M.mg "BadNumber" = some (.ref (He.ga M.K "BadNumber")) := He.glo_ok F.kin F.ns (F.d.fact 15 (f := .glo "BadNumber") rfl)
theorem Fx.g_BadKeep : M.mg "BadKeep" = some (.ref (He.ga M.K "BadKeep")) := He.glo_ok F.kin F.ns (F.d.fact 16 (f := .glo "BadKeep") rfl)
theorem Fx.g_PolderError : M.mg "PolderError" = some (.ref (He.ga M.K "PolderError")) := He.glo_ok F.kin F.ns (F.d.fact 17 (f := .glo "PolderError") rfl)
theorem Fx.g_is_whole : M.mg "is_whole" = some (.ref (He.ga M.K "is_whole")) := He.glo_ok F.kin F.ns (F.d.fact 18 (f := .glo "is_whole") rfl)
theorem Fx.g_is_within : M.mg "is_within" = some (.ref (He.ga M.K "is_within")) := He.glo_ok F.kin F.ns (F.d.fact 19 (f := .glo "is_within") rfl)
theorem Fx.g_is_row : M.mg "is_row" = some (.ref (He.ga M.K "is_row")) := He.glo_ok F.kin F.ns (F.d.fact 20 (f := .glo "is_row") rfl)
theorem Fx.g_first_wrong : M.mg "first_wrong" = some (.ref (He.ga M.K "first_wrong")) := He.glo_ok F.kin F.ns (F.d.fact 21 (f := .glo "first_wrong") rfl)
theorem Fx.g_place_told : M.mg "place_told" = some (.ref (He.ga M.K "place_told")) := He.glo_ok F.kin F.ns (F.d.fact 22 (f := .glo "place_told") rfl)
theorem Fx.g_wrong_place : M.mg "wrong_place" = some (.ref (He.ga M.K "wrong_place")) := He.glo_ok F.kin F.ns (F.d.fact 23 (f := .glo "wrong_place") rfl)
theorem Fx.g_require_rule : M.mg "require_rule" = some (.ref (He.ga M.K "require_rule")) := He.glo_ok F.kin F.ns (F.d.fact 24 (f := .glo "require_rule") rfl)
theorem Fx.g_rule_line : M.mg "rule_line" = some (.ref (He.ga M.K "rule_line")) := He.glo_ok F.kin F.ns (F.d.fact 25 (f := .glo "rule_line") rfl)
theorem Fx.g_pair_in : M.mg "pair_in" = some (.ref (He.ga M.K "pair_in")) := He.glo_ok F.kin F.ns (F.d.fact 26 (f := .glo "pair_in") rfl)
theorem Fx.g_read_rule : M.mg "read_rule" = some (.ref (He.ga M.K "read_rule")) := He.glo_ok F.kin F.ns (F.d.fact 27 (f := .glo "read_rule") rfl)
theorem Fx.g__law_taken : M.mg "_law_taken" = some (.ref (He.ga M.K "_law_taken")) := He.glo_ok F.kin F.ns (F.d.fact 28 (f := .glo "_law_taken") rfl)
theorem Fx.g__law_pick : M.mg "_law_pick" = some (.ref (He.ga M.K "_law_pick")) := He.glo_ok F.kin F.ns (F.d.fact 29 (f := .glo "_law_pick") rfl)
theorem Fx.g__law_alike : M.mg "_law_alike" = some (.ref (He.ga M.K "_law_alike")) := He.glo_ok F.kin F.ns (F.d.fact 30 (f := .glo "_law_alike") rfl)
theorem Fx.g__law_same : M.mg "_law_same" = some (.ref (He.ga M.K "_law_same")) := He.glo_ok F.kin F.ns (F.d.fact 31 (f := .glo "_law_same") rfl)
theorem Fx.g__law_odd : M.mg "_law_odd" = some (.ref (He.ga M.K "_law_odd")) := He.glo_ok F.kin F.ns (F.d.fact 32 (f := .glo "_law_odd") rfl)
theorem Fx.g__law_refusal : M.mg "_law_refusal" = some (.ref (He.ga M.K "_law_refusal")) := He.glo_ok F.kin F.ns (F.d.fact 33 (f := .glo "_law_refusal") rfl)
theorem Fx.g__law_told : M.mg "_law_told" = some (.ref (He.ga M.K "_law_told")) := He.glo_ok F.kin F.ns (F.d.fact 34 (f := .glo "_law_told") rfl)
theorem Fx.g__law_rule : M.mg "_law_rule" = some (.ref (He.ga M.K "_law_rule")) := He.glo_ok F.kin F.ns (F.d.fact 35 (f := .glo "_law_rule") rfl)
theorem Fx.g__law_read : M.mg "_law_read" = some (.ref (He.ga M.K "_law_read")) := He.glo_ok F.kin F.ns (F.d.fact 36 (f := .glo "_law_read") rfl)
theorem Fx.g_law : M.mg "law" = some (.ref (He.ga M.K "law")) := He.glo_ok F.kin F.ns (F.d.fact 37 (f := .glo "law") rfl)
theorem Fx.n_int : M.mg "int" = none := He.free_ok F.kin F.ns (F.d.fact 38 (f := .free "int") rfl)
theorem Fx.n_isinstance : M.mg "isinstance" = none := He.free_ok F.kin F.ns (F.d.fact 39 (f := .free "isinstance") rfl)
theorem Fx.n_bool : M.mg "bool" = none := He.free_ok F.kin F.ns (F.d.fact 40 (f := .free "bool") rfl)
theorem Fx.n_tuple : M.mg "tuple" = none := He.free_ok F.kin F.ns (F.d.fact 41 (f := .free "tuple") rfl)
theorem Fx.n_len : M.mg "len" = none := He.free_ok F.kin F.ns (F.d.fact 42 (f := .free "len") rfl)
theorem Fx.n_enumerate : M.mg "enumerate" = none := He.free_ok F.kin F.ns (F.d.fact 43 (f := .free "enumerate") rfl)
theorem Fx.n_str : M.mg "str" = none := He.free_ok F.kin F.ns (F.d.fact 44 (f := .free "str") rfl)
theorem Fx.n_all : M.mg "all" = none := He.free_ok F.kin F.ns (F.d.fact 45 (f := .free "all") rfl)
theorem Fx.n_list : M.mg "list" = none := He.free_ok F.kin F.ns (F.d.fact 46 (f := .free "list") rfl)
theorem Fx.n_range : M.mg "range" = none := He.free_ok F.kin F.ns (F.d.fact 47 (f := .free "range") rfl)
theorem Fx.n_repr : M.mg "repr" = none := He.free_ok F.kin F.ns (F.d.fact 48 (f := .free "repr") rfl)
theorem Fx.n_ValueError : M.mg "ValueError" = none := He.free_ok F.kin F.ns (F.d.fact 49 (f := .free "ValueError") rfl)
theorem Fx.n_super : M.mg "super" = none := He.free_ok F.kin F.ns (F.d.fact 50 (f := .free "super") rfl)
theorem Fx.c_MOST_LEVEL : ∃ u, M.mg "MOST_LEVEL" = some u ∧ L2.RelV (.int 9) u := let ⟨t, h⟩ := He.int_ok F.kin F.ns (F.d.fact 51 (f := .int "MOST_LEVEL" 9) rfl); ⟨_, h, t, rfl⟩
theorem Fx.c_MOST_PUMPED : ∃ u, M.mg "MOST_PUMPED" = some u ∧ L2.RelV (.int 9) u := let ⟨t, h⟩ := He.int_ok F.kin F.ns (F.d.fact 52 (f := .int "MOST_PUMPED" 9) rfl); ⟨_, h, t, rfl⟩
theorem Fx.c_MOST_PAIRS : ∃ u, M.mg "MOST_PAIRS" = some u ∧ L2.RelV (.int 5) u := let ⟨t, h⟩ := He.int_ok F.kin F.ns (F.d.fact 53 (f := .int "MOST_PAIRS" 5) rfl); ⟨_, h, t, rfl⟩
theorem Fx.c_COLON : ∃ u, M.mg "COLON" = some u ∧ L2.RelV (.str ":") u := let ⟨t, h⟩ := He.str_ok F.kin F.ns (F.d.fact 54 (f := .str "COLON" ":") rfl); ⟨_, h, t, rfl⟩
theorem Fx.c_BLANK : ∃ u, M.mg "BLANK" = some u ∧ L2.RelV (.str " ") u := let ⟨t, h⟩ := He.str_ok F.kin F.ns (F.d.fact 55 (f := .str "BLANK" " ") rfl); ⟨_, h, t, rfl⟩
theorem Fx.c_NONE : ∃ u, M.mg "NONE" = some u ∧ L2.RelV (.str "-") u := let ⟨t, h⟩ := He.str_ok F.kin F.ns (F.d.fact 56 (f := .str "NONE" "-") rfl); ⟨_, h, t, rfl⟩
theorem Fx.c_DIGITS : ∃ u, M.mg "DIGITS" = some u ∧ L2.RelV (.str "0123456789") u := let ⟨t, h⟩ := He.str_ok F.kin F.ns (F.d.fact 57 (f := .str "DIGITS" "0123456789") rfl); ⟨_, h, t, rfl⟩
theorem Fx.isa (hM : M.is r) : TabOk r isaT := tabB_ok (He.ba F.more).1 hM.1 fun c hc => by
  rw [hM.2.1]
  simp only [isaT, List.mem_cons, List.not_mem_nil, or_false] at hc
  try exact hc.elim
theorem Fx.fld (hM : M.is r) : FldOk r fldT := fldB_ok (He.ba (He.ba F.more).2).1 hM.1 fun p hp => by
  rw [hM.2.1]
  simp only [fldT, List.mem_cons, List.not_mem_nil, or_false] at hp
  try exact hp.elim
theorem Fx.xt : XTabOk M.K M.mg xT := xtabB_ok (He.ba (He.ba (He.ba (He.ba (He.ba F.more).2).2).2).2).2 (fun c hc => by
  simp only [xT, List.mem_cons, List.not_mem_nil, or_false] at hc
  rcases hc with rfl | rfl | rfl | rfl | rfl | rfl | rfl | rfl | rfl | rfl | rfl | rfl | rfl | rfl | rfl | rfl
  · exact F.g_BadKeep
  · exact F.g_BadNumber
  · exact F.g_UnknownPolder
  · exact F.g_UnknownArea
  · exact F.g_BadRule
  · exact F.g_BadCourse
  · exact F.g_BadDikes
  · exact F.g_BadAreas
  · exact F.g_BadRain
  · exact F.g_BadPrices
  · exact F.g_TooMany
  · exact F.g_BadText
  · exact F.g_BadLine
  · exact F.g_NotKept
  · exact F.g_BadClaim
  · exact F.g_NothingDone) F.g_PolderError (fun p hp => by
  simp only [xT, List.mem_cons, List.not_mem_nil, or_false] at hp
  rcases hp with rfl | rfl | rfl | rfl | rfl | rfl | rfl | rfl | rfl | rfl | rfl | rfl | rfl | rfl
  · exact F.g_BadKeep
  · exact F.g_BadKeep
  · exact F.g_BadNumber
  · exact F.g_UnknownPolder
  · exact F.g_UnknownArea
  · exact F.g_BadRule
  · exact F.g_BadCourse
  · exact F.g_BadDikes
  · exact F.g_BadAreas
  · exact F.g_BadRain
  · exact F.g_BadPrices
  · exact F.g_TooMany
  · exact F.g_BadText
  · exact F.g_BadLine)
theorem Fx.xc_BadRule : XcC M "BadRule" ["place"] := by
  obtain ⟨fI, fd, Z⟩ := xcB_ok (He.ba (He.ba (He.ba (He.ba (He.ba F.more).2).2).2).2).1
  exact ⟨⟨_, fI, fd, ["self", "place"], F.g_BadRule, by rw [F.P]; exact Z, bind_self_place⟩, F.n_super⟩
theorem Fx.keeps : ∀ y ∈ fnsT, ∃ f, M.mg y = some (.ref f) ∧ PySem.W.keepIn M.K (.ref f) = true := fun y hy => by
  simp only [fnsT, List.mem_cons, List.not_mem_nil, or_false] at hy
  rcases hy with rfl
  · obtain ⟨fd, D⟩ := F.d.def_ 5 (d := dd_is_pair) rfl
    exact ⟨_, F.g_is_pair, D.kp⟩
theorem Fx.cd_law {fd : FuncData} {cdv : Value} (D : FunD M.K dd_law.name dd_law.qual dd_law.params dd_law.body dd_law.scope [] [] (He.fAd M.K dd_law.at_) fd) (h : fd.code = cdv) : cdv = .ref (He.cT M.K ("law", none)).1 := by
  obtain ⟨oc, od, dV, kV, doc, pm, an, cd, ct, osl, rfl, lk, hcd, _, _⟩ := D.ex
  obtain ⟨c, rfl⟩ := He.codeIn_ref hcd
  have := He.codeOf_eq lk rfl
  rw [← h]
  exact congrArg Value.ref this.symm
end
section
variable {M : Md} (F : Fx M) {n : Nat} (A : AllOk M tab lamT n)
include F A
set_option maxRecDepth 100000 in
theorem ok_is_whole : CalF M (2 * (n + 1) + 2) "is_whole" 1 (callN tab (n + 1) (.fn "is_whole")) := by
  obtain ⟨fd, D⟩ := F.d.def_ 0 (d := dd_is_whole) rfl
  refine ⟨_, fd, ["value"], F.g_is_whole, D.kp, D.bindsN (ps := ["value"]) fun _ _ _ _ _ _ us hl => match us, hl with | [_], _ => rfl, (g_fn (k := 2 * n + 3) (N := N_is_whole) (ps := ["value"]) (nN := 1) (np := 1) (body := sh_is_whole (callN tab n)) D sc_is_whole rfl rfl (fun gs S h => callN_eq tab_is_whole n gs S h) fun cdv A0 outer s H E r hcd hM hr c hX hp => ?_).mono (by omega)⟩
  have S := sc_is_whole
  have call := callN tab n
  exact (g_one (g_ret (g_and (g_callB (cr_gIsi c.K (F.isa hM)) rfl F.n_isinstance boot_isinstance (g_acons (g_var (i := 0) rfl (.inl rfl) rfl rfl) (g_acons (g_con (pe_bltn (v := .ty "int") rfl F.n_int boot_int rfl) fun _ _ => .ty _) g_anil rfl) rfl) (by decide) rfl rfl rfl) (g_one' (g_not (g_callB (cr_gIsi c.K (F.isa hM)) rfl F.n_isinstance boot_isinstance (g_acons (g_var (i := 0) rfl (.inl rfl) rfl rfl) (g_acons (g_con (pe_bltn (v := .ty "bool") rfl F.n_bool boot_bool rfl) fun _ _ => .ty _) g_anil rfl) rfl) (by decide) rfl rfl rfl) fun _ _ => rfl)))))
set_option maxRecDepth 100000 in
theorem ok_is_within : CalF M (2 * (n + 1) + 2) "is_within" 3 (callN tab (n + 1) (.fn "is_within")) := by
  obtain ⟨fd, D⟩ := F.d.def_ 1 (d := dd_is_within) rfl
  refine ⟨_, fd, ["value", "least", "most"], F.g_is_within, D.kp, D.bindsN (ps := ["value", "least", "most"]) fun _ _ _ _ _ _ us hl => match us, hl with | [_, _, _], _ => rfl, (g_fn (k := 2 * n + 3) (N := N_is_within) (ps := ["value", "least", "most"]) (nN := 3) (np := 3) (body := sh_is_within (callN tab n)) D sc_is_within rfl rfl (fun gs S h => callN_eq tab_is_within n gs S h) fun cdv A0 outer s H E r hcd hM hr c hX hp => ?_).mono (by omega)⟩
  have S := sc_is_within
  have call := callN tab n
  exact (g_one (g_ret (g_and (g_callF c hX hM (A.fn "is_whole" _ tab_is_whole) (arity tab_is_whole n) (hr.mono (Nat.le_succ _)) rfl (g_acons (g_var (i := 0) rfl (.inl rfl) rfl rfl) g_anil rfl) rfl rfl rfl) (g_one' (g_chE (op_gLe) (op_gLe) (g_var (i := 1) rfl (.inl rfl) rfl rfl) (g_var (i := 0) rfl (.inl rfl) rfl rfl) (g_var (i := 2) rfl (.inl rfl) rfl rfl) (by with_unfolding_all rfl))))))
set_option maxRecDepth 100000 in
theorem ok_is_row : CalF M (2 * (n + 1) + 2) "is_row" 2 (callN tab (n + 1) (.fn "is_row")) := by
  obtain ⟨fd, D⟩ := F.d.def_ 2 (d := dd_is_row) rfl
  refine ⟨_, fd, ["value", "size"], F.g_is_row, D.kp, D.bindsN (ps := ["value", "size"]) fun _ _ _ _ _ _ us hl => match us, hl with | [_, _], _ => rfl, (g_fn (k := 2 * n + 3) (N := N_is_row) (ps := ["value", "size"]) (nN := 2) (np := 2) (body := sh_is_row (callN tab n)) D sc_is_row rfl rfl (fun gs S h => callN_eq tab_is_row n gs S h) fun cdv A0 outer s H E r hcd hM hr c hX hp => ?_).mono (by omega)⟩
  have S := sc_is_row
  have call := callN tab n
  exact (g_one (g_ret (g_and (g_callB (cr_gIsi c.K (F.isa hM)) rfl F.n_isinstance boot_isinstance (g_acons (g_var (i := 0) rfl (.inl rfl) rfl rfl) (g_acons (g_con (pe_bltn (v := .ty "tuple") rfl F.n_tuple boot_tuple rfl) fun _ _ => .ty _) g_anil rfl) rfl) (by decide) rfl rfl rfl) (g_one' (g_cmp (op_gEq c.K c.un) (g_callB (cr_gLen c.K) rfl F.n_len boot_len (g_acons (g_var (i := 0) rfl (.inl rfl) rfl rfl) g_anil rfl) (by decide) rfl rfl rfl) (g_var (i := 1) rfl (.inl rfl) rfl rfl) (nomark _))))))
set_option maxRecDepth 100000 in
theorem ok_first_wrong : CalF M (2 * (n + 1) + 2) "first_wrong" 4 (callN tab (n + 1) (.fn "first_wrong")) := by
  obtain ⟨fd, D⟩ := F.d.def_ 3 (d := dd_first_wrong) rfl
  refine ⟨_, fd, ["value", "least", "most", "judge"], F.g_first_wrong, D.kp, D.bindsN (ps := ["value", "least", "most", "judge"]) fun _ _ _ _ _ _ us hl => match us, hl with | [_, _, _, _], _ => rfl, (g_fn (k := 2 * n + 3) (N := N_first_wrong) (ps := ["value", "least", "most", "judge"]) (nN := 6) (np := 4) (body := sh_first_wrong (callN tab n)) D sc_first_wrong rfl rfl (fun gs S h => callN_eq tab_first_wrong n gs S h) fun cdv A0 outer s H E r hcd hM hr c hX hp => ?_).mono (by omega)⟩
  have S := sc_first_wrong
  have call := callN tab n
  exact (g_cons (g_if (PW.pt (g_tor (g_tnot (g_tval (g_callB (cr_gIsi c.K (F.isa hM)) rfl F.n_isinstance boot_isinstance (g_acons (g_var (i := 0) rfl (.inl rfl) rfl rfl) (g_acons (g_con (pe_bltn (v := .ty "tuple") rfl F.n_tuple boot_tuple rfl) fun _ _ => .ty _) g_anil rfl) rfl) (by decide) rfl rfl rfl) fun _ => rfl)) (g_tor1 (g_tnot (g_chT (op_gLe) (op_gLe) (g_var (i := 1) rfl (.inl rfl) rfl rfl) (g_callB (cr_gLen c.K) rfl F.n_len boot_len (g_acons (g_var (i := 0) rfl (.inl rfl) rfl rfl) g_anil rfl) (by decide) rfl rfl rfl) (g_var (i := 2) rfl (.inl rfl) rfl rfl) (by with_unfolding_all rfl))))))
  (g_one (g_ret (g_neg (g_con pe_int fun _ _ => .int _))))
  g_nil)
  (g_cons (g_for c.K hp c.calm (pi_itEn c.K rfl F.n_enumerate (g_acons (g_var (i := 0) rfl (.inl rfl) rfl rfl) g_anil rfl) rfl) (g_ttp c.calm (g_tgcons (g_tnm0 (i := 4) S.nd rfl (.inl rfl) (.inl rfl)) (g_tgcons (g_tnm0 (i := 5) S.nd rfl (.inl rfl) (.inl rfl)) g_tgnil rfl) rfl) rfl rfl)
  (g_one (g_if (g_tnot (g_tval (g_callLoc c hX hM F.lo (hr.mono (Nat.le_succ _)) (i := 3) rfl (.inl rfl) F.keeps A.locF A.locL (g_acons (g_var (i := 5) rfl (.inl rfl) rfl rfl) (g_acons (g_sl c.K (g_var (i := 0) rfl (.inl rfl) rfl rfl) g_ono (g_oso (g_var (i := 4) rfl (.inl rfl) rfl rfl))) g_anil rfl) rfl) rfl rfl rfl rfl) fun _ => rfl))
  (g_one (g_ret (g_var (i := 4) rfl (.inl rfl) rfl rfl)))
  g_nil)) fun _ => rfl)
  (g_one (g_ret (g_con pe_non fun _ _ => .non)))))
set_option maxRecDepth 100000 in
theorem ok_place_told : CalF M (2 * (n + 1) + 2) "place_told" 1 (callN tab (n + 1) (.fn "place_told")) := by
  obtain ⟨fd, D⟩ := F.d.def_ 4 (d := dd_place_told) rfl
  refine ⟨_, fd, ["place"], F.g_place_told, D.kp, D.bindsN (ps := ["place"]) fun _ _ _ _ _ _ us hl => match us, hl with | [_], _ => rfl, (g_fn (k := 2 * n + 3) (N := N_place_told) (ps := ["place"]) (nN := 1) (np := 1) (body := sh_place_told (callN tab n)) D sc_place_told rfl rfl (fun gs S h => callN_eq tab_place_told n gs S h) fun cdv A0 outer s H E r hcd hM hr c hX hp => ?_).mono (by omega)⟩
  have S := sc_place_told
  have call := callN tab n
  exact (g_one (g_ret (g_ife (g_tcmp (op_gEq c.K c.un) (g_var (i := 0) rfl (.inl rfl) rfl rfl) (g_neg (g_con pe_int fun _ _ => .int _)) (nomark _)) (g_con pe_non fun _ _ => .non) (g_var (i := 0) rfl (.inl rfl) rfl rfl))))
set_option maxRecDepth 100000 in
theorem ok_is_pair : CalF M (2 * (n + 1) + 2) "is_pair" 2 (callN tab (n + 1) (.fn "is_pair")) := by
  obtain ⟨fd, D⟩ := F.d.def_ 5 (d := dd_is_pair) rfl
  refine ⟨_, fd, ["row", "ahead"], F.g_is_pair, D.kp, D.bindsN (ps := ["row", "ahead"]) fun _ _ _ _ _ _ us hl => match us, hl with | [_, _], _ => rfl, (g_fn (k := 2 * n + 3) (N := N_is_pair) (ps := ["row", "ahead"]) (nN := 2) (np := 2) (body := sh_is_pair (callN tab n)) D sc_is_pair rfl rfl (fun gs S h => callN_eq tab_is_pair n gs S h) fun cdv A0 outer s H E r hcd hM hr c hX hp => ?_).mono (by omega)⟩
  have S := sc_is_pair
  have call := callN tab n
  exact (g_cons (g_if (PW.pt (g_tor (g_tnot (g_tval (g_callF c hX hM (A.fn "is_row" _ tab_is_row) (arity tab_is_row n) (hr.mono (Nat.le_succ _)) rfl (g_acons (g_var (i := 0) rfl (.inl rfl) rfl rfl) (g_acons (g_con pe_int fun _ _ => .int _) g_anil rfl) rfl) rfl rfl rfl) fun _ => rfl)) (g_tor (g_tnot (g_tval (g_callF c hX hM (A.fn "is_within" _ tab_is_within) (arity tab_is_within n) (hr.mono (Nat.le_succ _)) rfl (g_acons (g_ix (ix_gIx c.K) (g_var (i := 0) rfl (.inl rfl) rfl rfl) (g_con pe_int fun _ _ => .int _) fun _ _ => rfl) (g_acons (g_con pe_int fun _ _ => .int _) (g_acons (g_con (C8.pe_gc rfl F.c_MOST_LEVEL rfl) fun _ _ => .int _) g_anil rfl) rfl) rfl) rfl rfl rfl) fun _ => rfl)) (g_tor1 (g_tnot (g_tval (g_callF c hX hM (A.fn "is_within" _ tab_is_within) (arity tab_is_within n) (hr.mono (Nat.le_succ _)) rfl (g_acons (g_ix (ix_gIx c.K) (g_var (i := 0) rfl (.inl rfl) rfl rfl) (g_con pe_int fun _ _ => .int _) fun _ _ => rfl) (g_acons (g_con pe_int fun _ _ => .int _) (g_acons (g_con (C8.pe_gc rfl F.c_MOST_PUMPED rfl) fun _ _ => .int _) g_anil rfl) rfl) rfl) rfl rfl rfl) fun _ => rfl))))))
  (g_one (g_ret (g_con pe_bl fun _ _ => .bl _)))
  g_nil)
  (g_one (g_ret (g_or (g_cmp (op_gEq c.K c.un) (g_callB (cr_gLen c.K) rfl F.n_len boot_len (g_acons (g_var (i := 1) rfl (.inl rfl) rfl rfl) g_anil rfl) (by decide) rfl rfl rfl) (g_con pe_int fun _ _ => .int _) (nomark _)) (g_one' (g_cmp (op_gLt) (g_ix (ix_gIx c.K) (g_ix (ix_gIx c.K) (g_var (i := 1) rfl (.inl rfl) rfl rfl) (g_neg (g_con pe_int fun _ _ => .int _)) fun _ _ => rfl) (g_con pe_int fun _ _ => .int _) fun _ _ => rfl) (g_ix (ix_gIx c.K) (g_var (i := 0) rfl (.inl rfl) rfl rfl) (g_con pe_int fun _ _ => .int _) fun _ _ => rfl) (nomark _)))))))
set_option maxRecDepth 100000 in
theorem ok_wrong_place : CalF M (2 * (n + 1) + 2) "wrong_place" 1 (callN tab (n + 1) (.fn "wrong_place")) := by
  obtain ⟨fd, D⟩ := F.d.def_ 6 (d := dd_wrong_place) rfl
  refine ⟨_, fd, ["rule"], F.g_wrong_place, D.kp, D.bindsN (ps := ["rule"]) fun _ _ _ _ _ _ us hl => match us, hl with | [_], _ => rfl, (g_fn (k := 2 * n + 3) (N := N_wrong_place) (ps := ["rule"]) (nN := 1) (np := 1) (body := sh_wrong_place (callN tab n)) D sc_wrong_place rfl rfl (fun gs S h => callN_eq tab_wrong_place n gs S h) fun cdv A0 outer s H E r hcd hM hr c hX hp => ?_).mono (by omega)⟩
  have S := sc_wrong_place
  have call := callN tab n
  exact (g_one (g_ret (g_callF c hX hM (A.fn "first_wrong" _ tab_first_wrong) (arity tab_first_wrong n) (hr.mono (Nat.le_succ _)) rfl (g_acons (g_var (i := 0) rfl (.inl rfl) rfl rfl) (g_acons (g_con pe_int fun _ _ => .int _) (g_acons (g_con (C8.pe_gc rfl F.c_MOST_PAIRS rfl) fun _ _ => .int _) (g_acons (g_glob hM hX rfl F.g_is_pair rfl) g_anil rfl) rfl) rfl) rfl) rfl rfl rfl)))
set_option maxRecDepth 100000 in
theorem ok_require_rule : CalF M (2 * (n + 1) + 2) "require_rule" 1 (callN tab (n + 1) (.fn "require_rule")) := by
  obtain ⟨fd, D⟩ := F.d.def_ 7 (d := dd_require_rule) rfl
  refine ⟨_, fd, ["rule"], F.g_require_rule, D.kp, D.bindsN (ps := ["rule"]) fun _ _ _ _ _ _ us hl => match us, hl with | [_], _ => rfl, (g_fn (k := 2 * n + 3) (N := N_require_rule) (ps := ["rule"]) (nN := 2) (np := 1) (body := sh_require_rule (callN tab n)) D sc_require_rule rfl rfl (fun gs S h => callN_eq tab_require_rule n gs S h) fun cdv A0 outer s H E r hcd hM hr c hX hp => ?_).mono (by omega)⟩
  have S := sc_require_rule
  have call := callN tab n
  exact (g_cons (g_set (i := 1) S.nd rfl (.inl rfl) (g_callF c hX hM (A.fn "wrong_place" _ tab_wrong_place) (arity tab_wrong_place n) (hr.mono (Nat.le_succ _)) rfl (g_acons (g_var (i := 0) rfl (.inl rfl) rfl rfl) g_anil rfl) rfl rfl rfl) rfl (.inl rfl))
  (g_one (g_if (g_tcmp (op_gIsNot) (g_var (i := 1) rfl (.inl rfl) rfl rfl) (g_con pe_non fun _ _ => .non) (nomark _))
  (g_one (g_raise c F.xc_BadRule hX hM (by simp) (by decide) (hr.mono (by omega)) rfl (g_acons (g_callF c hX hM (A.fn "place_told" _ tab_place_told) (arity tab_place_told n) (hr.mono (Nat.le_succ _)) rfl (g_acons (g_var (i := 1) rfl (.inl rfl) rfl rfl) g_anil rfl) rfl rfl rfl) g_anil rfl) rfl rfl rfl))
  g_nil)))
set_option maxRecDepth 100000 in
theorem ok_rule_line : CalF M (2 * (n + 1) + 2) "rule_line" 1 (callN tab (n + 1) (.fn "rule_line")) := by
  obtain ⟨fd, D⟩ := F.d.def_ 8 (d := dd_rule_line) rfl
  refine ⟨_, fd, ["rule"], F.g_rule_line, D.kp, D.bindsN (ps := ["rule"]) fun _ _ _ _ _ _ us hl => match us, hl with | [_], _ => rfl, (g_fn (k := 2 * n + 3) (N := N_rule_line) (ps := ["rule"]) (nN := 4) (np := 1) (body := sh_rule_line (callN tab n)) D sc_rule_line rfl rfl (fun gs S h => callN_eq tab_rule_line n gs S h) fun cdv A0 outer s H E r hcd hM hr c hX hp => ?_).mono (by omega)⟩
  have S := sc_rule_line
  have call := callN tab n
  exact (g_cons (g_expr (g_callF c hX hM (A.fn "require_rule" _ tab_require_rule) (arity tab_require_rule n) (hr.mono (Nat.le_succ _)) rfl (g_acons (g_var (i := 0) rfl (.inl rfl) rfl rfl) g_anil rfl) rfl rfl rfl) rfl)
  (g_cons (g_setLc c.K c.calm S.nd (i := 1) rfl rfl rfl (pi_itV c.K (g_var (i := 0) rfl (.inl rfl) rfl rfl)) (own := [("level", 2), ("many", 3)]) (blkOk_by rfl) (by decide) (fun _ _ _ _ _ => (g_ttp c.calm (g_tgcons (g_tnm0 (i := 2) S.nd rfl (.inl rfl) (.inr rfl)) (g_tgcons (g_tnm0 (i := 3) S.nd rfl (.inl rfl) (.inr rfl)) g_tgnil rfl) rfl) rfl rfl)) (fun _ _ _ _ _ => pts_tYes) (fun _ _ _ _ _ => PE_any fun _ => (g_bin (op_gAddA (Ctx.blk c).K) (g_bin (op_gAddA (Ctx.blk c).K) (g_callTy (cr_gStr) rfl F.n_str boot_str (g_acons (g_var (i := 2) rfl (.inl rfl) rfl rfl) g_anil rfl) (by decide) rfl rfl rfl) (g_con (C8.pe_gc rfl F.c_COLON rfl) fun _ _ => .str _)) (g_callTy (cr_gStr) rfl F.n_str boot_str (g_acons (g_var (i := 3) rfl (.inl rfl) rfl rfl) g_anil rfl) (by decide) rfl rfl rfl))) fun _ => rfl)
  (g_one (g_ret (g_ife (g_tcmp (op_gNe c.K c.un) (g_var (i := 1) rfl (.inl rfl) rfl rfl) (g_lst g_anil) (nomark _)) (g_mq c.K ty_str PySem.F.plainAttrs_str PySem.F.slot_str_join PySem.F.type_str_join (mt_gJoin c.K) (g_con (C8.pe_gc rfl F.c_BLANK rfl) fun _ _ => .str _) (g_acons (g_var (i := 1) rfl (.inl rfl) rfl rfl) g_anil rfl) rfl rfl rfl rfl rfl) (g_con (C8.pe_gc rfl F.c_NONE rfl) fun _ _ => .str _))))))
set_option maxRecDepth 100000 in
theorem ok_pair_in : CalF M (2 * (n + 1) + 2) "pair_in" 1 (callN tab (n + 1) (.fn "pair_in")) := by
  obtain ⟨fd, D⟩ := F.d.def_ 9 (d := dd_pair_in) rfl
  refine ⟨_, fd, ["word"], F.g_pair_in, D.kp, D.bindsN (ps := ["word"]) fun _ _ _ _ _ _ us hl => match us, hl with | [_], _ => rfl, (g_fn (k := 2 * n + 3) (N := N_pair_in) (ps := ["word"]) (nN := 3) (np := 1) (body := sh_pair_in (callN tab n)) D sc_pair_in rfl rfl (fun gs S h => callN_eq tab_pair_in n gs S h) fun cdv A0 outer s H E r hcd hM hr c hX hp => ?_).mono (by omega)⟩
  have S := sc_pair_in
  have call := callN tab n
  exact (g_cons (g_set (i := 1) S.nd rfl (.inl rfl) (g_mq c.K ty_str PySem.F.plainAttrs_str PySem.F.slot_str_split PySem.F.type_str_split (mt_gSplit) (g_var (i := 0) rfl (.inl rfl) rfl rfl) (g_acons (g_con (C8.pe_gc rfl F.c_COLON rfl) fun _ _ => .str _) g_anil rfl) rfl rfl rfl rfl rfl) rfl (.inl rfl))
  (g_cons (g_if (PW.pt (g_tor (g_tcmp (op_gNe c.K c.un) (g_callB (cr_gLen c.K) rfl F.n_len boot_len (g_acons (g_var (i := 1) rfl (.inl rfl) rfl rfl) g_anil rfl) (by decide) rfl rfl rfl) (g_con pe_int fun _ _ => .int _) (nomark _)) (g_tor1 (g_tnot (g_tval (g_callB (cr_gAll c.K c.calm) rfl F.n_all boot_all (g_acons (g_lc c.K c.calm S.nd (pi_itV c.K (g_var (i := 1) rfl (.inl rfl) rfl rfl)) (own := [("part", 2)]) (blkOk_by rfl) (by decide) (fun _ _ _ _ _ => (g_tn (i := 2) S.nd rfl (.inl rfl) (.inr rfl))) (fun _ _ _ _ _ => pts_tYes) (fun _ _ _ _ _ => PE_any fun _ => (g_and (g_cmp (op_gEq (Ctx.blk c).K c.un) (g_callB (cr_gLen (Ctx.blk c).K) rfl F.n_len boot_len (g_acons (g_var (i := 2) rfl (.inl rfl) rfl rfl) g_anil rfl) (by decide) rfl rfl rfl) (g_con pe_int fun _ _ => .int _) (nomark _)) (g_one' (g_cmp (op_gIn (Ctx.blk c).K) (g_var (i := 2) rfl (.inl rfl) rfl rfl) (g_con (C8.pe_gc rfl F.c_DIGITS rfl) fun _ _ => .str _) (by with_unfolding_all rfl))))) fun _ => rfl) g_anil rfl) (by decide) rfl rfl rfl) fun _ => rfl)))))
  (g_one (g_ret (g_con pe_non fun _ _ => .non)))
  g_nil)
  (g_one (g_ret (g_tup (g_acons (g_callTy (cr_gInt) rfl F.n_int boot_int (g_acons (g_ix (ix_gIx c.K) (g_var (i := 1) rfl (.inl rfl) rfl rfl) (g_con pe_int fun _ _ => .int _) fun _ _ => rfl) g_anil rfl) (by decide) rfl rfl rfl) (g_acons (g_callTy (cr_gInt) rfl F.n_int boot_int (g_acons (g_ix (ix_gIx c.K) (g_var (i := 1) rfl (.inl rfl) rfl rfl) (g_con pe_int fun _ _ => .int _) fun _ _ => rfl) g_anil rfl) (by decide) rfl rfl rfl) g_anil rfl) rfl))))))
set_option maxRecDepth 100000 in
theorem ok_read_rule : CalF M (2 * (n + 1) + 2) "read_rule" 1 (callN tab (n + 1) (.fn "read_rule")) := by
  obtain ⟨fd, D⟩ := F.d.def_ 10 (d := dd_read_rule) rfl
  refine ⟨_, fd, ["line"], F.g_read_rule, D.kp, D.bindsN (ps := ["line"]) fun _ _ _ _ _ _ us hl => match us, hl with | [_], _ => rfl, (g_fn (k := 2 * n + 3) (N := N_read_rule) (ps := ["line"]) (nN := 5) (np := 1) (body := sh_read_rule (callN tab n)) D sc_read_rule rfl rfl (fun gs S h => callN_eq tab_read_rule n gs S h) fun cdv A0 outer s H E r hcd hM hr c hX hp => ?_).mono (by omega)⟩
  have S := sc_read_rule
  have call := callN tab n
  exact (g_cons (g_if (PW.pt (g_tor (g_tnot (g_tval (g_callB (cr_gIsi c.K (F.isa hM)) rfl F.n_isinstance boot_isinstance (g_acons (g_var (i := 0) rfl (.inl rfl) rfl rfl) (g_acons (g_con (pe_bltn (v := .ty "str") rfl F.n_str boot_str rfl) fun _ _ => .ty _) g_anil rfl) rfl) (by decide) rfl rfl rfl) fun _ => rfl)) (g_tor1 (g_tcmp (op_gGt) (g_callB (cr_gLen c.K) rfl F.n_len boot_len (g_acons (g_var (i := 0) rfl (.inl rfl) rfl rfl) g_anil rfl) (by decide) rfl rfl rfl) (g_con pe_int fun _ _ => .int _) (nomark _)))))
  (g_one (g_raise c F.xc_BadRule hX hM (by simp) (by decide) (hr.mono (by omega)) rfl (g_acons (g_con pe_non fun _ _ => .non) g_anil rfl) rfl rfl rfl))
  g_nil)
  (g_cons (g_if (g_tcmp (op_gEq c.K c.un) (g_var (i := 0) rfl (.inl rfl) rfl rfl) (g_con (C8.pe_gc rfl F.c_NONE rfl) fun _ _ => .str _) (nomark _))
  (g_one (g_ret (g_tup g_anil)))
  g_nil)
  (g_cons (g_set (i := 1) S.nd rfl (.inl rfl) (g_lstA g_anil) rfl (.inl rfl))
  (g_cons (g_for c.K hp c.calm (pi_itEn c.K rfl F.n_enumerate (g_acons (g_mq c.K ty_str PySem.F.plainAttrs_str PySem.F.slot_str_split PySem.F.type_str_split (mt_gSplit) (g_var (i := 0) rfl (.inl rfl) rfl rfl) (g_acons (g_con (C8.pe_gc rfl F.c_BLANK rfl) fun _ _ => .str _) g_anil rfl) rfl rfl rfl rfl rfl) g_anil rfl) rfl) (g_ttp c.calm (g_tgcons (g_tnm0 (i := 2) S.nd rfl (.inl rfl) (.inl rfl)) (g_tgcons (g_tnm0 (i := 3) S.nd rfl (.inl rfl) (.inl rfl)) g_tgnil rfl) rfl) rfl rfl)
  (g_cons (g_set (i := 4) S.nd rfl (.inl rfl) (g_callF c hX hM (A.fn "pair_in" _ tab_pair_in) (arity tab_pair_in n) (hr.mono (Nat.le_succ _)) rfl (g_acons (g_var (i := 3) rfl (.inl rfl) rfl rfl) g_anil rfl) rfl rfl rfl) rfl (.inl rfl))
  (g_cons (g_if (PW.pt (g_tor (g_tcmp (op_gIs) (g_var (i := 4) rfl (.inl rfl) rfl rfl) (g_con pe_non fun _ _ => .non) (nomark _)) (g_tor (g_tnot (g_tval (g_callF c hX hM (A.fn "is_pair" _ tab_is_pair) (arity tab_is_pair n) (hr.mono (Nat.le_succ _)) rfl (g_acons (g_var (i := 4) rfl (.inl rfl) rfl rfl) (g_acons (g_var (i := 1) rfl (.inl rfl) rfl rfl) g_anil rfl) rfl) rfl rfl rfl) fun _ => rfl)) (g_tor1 (g_tcmp (op_gEq c.K c.un) (g_var (i := 2) rfl (.inl rfl) rfl rfl) (g_con (C8.pe_gc rfl F.c_MOST_PAIRS rfl) fun _ _ => .int _) (nomark _))))))
  (g_one (g_raise c F.xc_BadRule hX hM (by simp) (by decide) (hr.mono (by omega)) rfl (g_acons (g_var (i := 2) rfl (.inl rfl) rfl rfl) g_anil rfl) rfl rfl rfl))
  g_nil)
  (g_one (g_expr (g_ml c.K PySem.F.slot_list_append PySem.F.type_list_append mt_gApp (g_var (i := 1) rfl (.inl rfl) rfl rfl) (g_acons (g_var (i := 4) rfl (.inl rfl) rfl rfl) g_anil rfl) rfl rfl rfl rfl rfl) rfl)))) fun _ => rfl)
  (g_one (g_ret (g_callTy (cr_gTuple c.K) rfl F.n_tuple boot_tuple (g_acons (g_var (i := 1) rfl (.inl rfl) rfl rfl) g_anil rfl) (by decide) rfl rfl rfl)))))))
set_option maxRecDepth 100000 in
theorem ok__law_taken : CalF M (2 * (n + 1) + 2) "_law_taken" 2 (callN tab (n + 1) (.fn "_law_taken")) := by
  obtain ⟨fd, D⟩ := F.d.def_ 11 (d := dd__law_taken) rfl
  refine ⟨_, fd, ["row", "many"], F.g__law_taken, D.kp, D.bindsN (ps := ["row", "many"]) fun _ _ _ _ _ _ us hl => match us, hl with | [_, _], _ => rfl, (g_fn (k := 2 * n + 3) (N := N__law_taken) (ps := ["row", "many"]) (nN := 4) (np := 2) (body := sh__law_taken (callN tab n)) D sc__law_taken rfl rfl (fun gs S h => callN_eq tab__law_taken n gs S h) fun cdv A0 outer s H E r hcd hM hr c hX hp => ?_).mono (by omega)⟩
  have S := sc__law_taken
  have call := callN tab n
  exact (g_cons (g_if (g_tcmp (op_gGt) (g_ix (ix_gIx c.K) (g_var (i := 0) rfl (.inl rfl) rfl rfl) (g_con pe_int fun _ _ => .int _) fun _ _ => rfl) (g_con pe_int fun _ _ => .int _) (nomark _))
  (g_cons (g_set (i := 2) S.nd rfl (.inl rfl) (g_bin (op_gMod) (g_callTy (cr_gInt) rfl F.n_int boot_int (g_acons (g_ix (ix_gIx c.K) (g_var (i := 0) rfl (.inl rfl) rfl rfl) (g_con pe_int fun _ _ => .int _) fun _ _ => rfl) g_anil rfl) (by decide) rfl rfl rfl) (g_var (i := 1) rfl (.inl rfl) rfl rfl)) rfl (.inl rfl))
  (g_cons (g_six (g_var (i := 0) rfl (.inl rfl) rfl rfl) (g_con pe_int fun _ _ => .int _) (g_bin (op_gFdv) (g_ix (ix_gIx c.K) (g_var (i := 0) rfl (.inl rfl) rfl rfl) (g_con pe_int fun _ _ => .int _) fun _ _ => rfl) (g_var (i := 1) rfl (.inl rfl) rfl rfl)) rfl rfl rfl fun _ => rfl)
  (g_one (g_ret (g_var (i := 2) rfl (.inl rfl) rfl rfl)))))
  g_nil)
  (g_cons (g_six (g_var (i := 0) rfl (.inl rfl) rfl rfl) (g_con pe_int fun _ _ => .int _) (g_bin (op_gAddA c.K) (g_ix (ix_gIx c.K) (g_var (i := 0) rfl (.inl rfl) rfl rfl) (g_con pe_int fun _ _ => .int _) fun _ _ => rfl) (g_con pe_int fun _ _ => .int _)) rfl rfl rfl fun _ => rfl)
  (g_cons (g_if (g_tcmp (op_gGt) (g_ix (ix_gIx c.K) (g_var (i := 0) rfl (.inl rfl) rfl rfl) (g_con pe_int fun _ _ => .int _) fun _ _ => rfl) (g_callB (cr_gLen c.K) rfl F.n_len boot_len (g_acons (g_ix (ix_gIx c.K) (g_var (i := 0) rfl (.inl rfl) rfl rfl) (g_con pe_int fun _ _ => .int _) fun _ _ => rfl) g_anil rfl) (by decide) rfl rfl rfl) (nomark _))
  (g_cons (g_six (g_var (i := 0) rfl (.inl rfl) rfl rfl) (g_con pe_int fun _ _ => .int _) (g_bin (op_gMod) (g_callTy (cr_gInt) rfl F.n_int boot_int (g_acons (g_bin (op_gAddA c.K) (g_bin (op_gMulA c.K) (g_ix (ix_gIx c.K) (g_var (i := 0) rfl (.inl rfl) rfl rfl) (g_con pe_int fun _ _ => .int _) fun _ _ => rfl) (g_con pe_int fun _ _ => .int _)) (g_con pe_int fun _ _ => .int _)) g_anil rfl) (by decide) rfl rfl rfl) (g_con pe_int fun _ _ => .int _)) rfl rfl rfl fun _ => rfl)
  (g_one (g_ret (g_bin (op_gMod) (g_callTy (cr_gInt) rfl F.n_int boot_int (g_acons (g_bin (op_gFdv) (g_ix (ix_gIx c.K) (g_var (i := 0) rfl (.inl rfl) rfl rfl) (g_con pe_int fun _ _ => .int _) fun _ _ => rfl) (g_con pe_int fun _ _ => .int _)) g_anil rfl) (by decide) rfl rfl rfl) (g_var (i := 1) rfl (.inl rfl) rfl rfl)))))
  g_nil)
  (g_cons (g_set (i := 3) S.nd rfl (.inl rfl) (g_ix (ix_gIx c.K) (g_ix (ix_gIx c.K) (g_var (i := 0) rfl (.inl rfl) rfl rfl) (g_con pe_int fun _ _ => .int _) fun _ _ => rfl) (g_bin (op_gSub) (g_ix (ix_gIx c.K) (g_var (i := 0) rfl (.inl rfl) rfl rfl) (g_con pe_int fun _ _ => .int _) fun _ _ => rfl) (g_con pe_int fun _ _ => .int _)) fun _ _ => rfl) rfl (.inl rfl))
  (g_cons (g_six (g_var (i := 0) rfl (.inl rfl) rfl rfl) (g_con pe_int fun _ _ => .int _) (g_bin (op_gMod) (g_callTy (cr_gInt) rfl F.n_int boot_int (g_acons (g_bin (op_gAddA c.K) (g_bin (op_gAddA c.K) (g_bin (op_gMulA c.K) (g_ix (ix_gIx c.K) (g_var (i := 0) rfl (.inl rfl) rfl rfl) (g_con pe_int fun _ _ => .int _) fun _ _ => rfl) (g_con pe_int fun _ _ => .int _)) (g_var (i := 3) rfl (.inl rfl) rfl rfl)) (g_con pe_int fun _ _ => .int _)) g_anil rfl) (by decide) rfl rfl rfl) (g_con pe_int fun _ _ => .int _)) rfl rfl rfl fun _ => rfl)
  (g_cons (g_if (g_tcmp (op_gGe) (g_var (i := 3) rfl (.inl rfl) rfl rfl) (g_bin (op_gPow) (g_con pe_int fun _ _ => .int _) (g_con pe_int fun _ _ => .int _)) (nomark _))
  (g_cons (g_six (g_var (i := 0) rfl (.inl rfl) rfl rfl) (g_con pe_int fun _ _ => .int _) (g_bin (op_gFdv) (g_var (i := 3) rfl (.inl rfl) rfl rfl) (g_var (i := 1) rfl (.inl rfl) rfl rfl)) rfl rfl rfl fun _ => rfl)
  (g_one (g_ret (g_bin (op_gMod) (g_callTy (cr_gInt) rfl F.n_int boot_int (g_acons (g_var (i := 3) rfl (.inl rfl) rfl rfl) g_anil rfl) (by decide) rfl rfl rfl) (g_var (i := 1) rfl (.inl rfl) rfl rfl)))))
  g_nil)
  (g_one (g_ret (g_bin (op_gMod) (g_callTy (cr_gInt) rfl F.n_int boot_int (g_acons (g_bin (op_gAddA c.K) (g_bin (op_gMulA c.K) (g_bin (op_gMod) (g_callTy (cr_gInt) rfl F.n_int boot_int (g_acons (g_var (i := 3) rfl (.inl rfl) rfl rfl) g_anil rfl) (by decide) rfl rfl rfl) (g_con pe_int fun _ _ => .int _)) (g_con pe_int fun _ _ => .int _)) (g_bin (op_gFdv) (g_ix (ix_gIx c.K) (g_var (i := 0) rfl (.inl rfl) rfl rfl) (g_con pe_int fun _ _ => .int _) fun _ _ => rfl) (g_con pe_int fun _ _ => .int _))) g_anil rfl) (by decide) rfl rfl rfl) (g_var (i := 1) rfl (.inl rfl) rfl rfl))))))))))
set_option maxRecDepth 100000 in
theorem ok__law_pick : CalF M (2 * (n + 1) + 2) "_law_pick" 2 (callN tab (n + 1) (.fn "_law_pick")) := by
  obtain ⟨fd, D⟩ := F.d.def_ 12 (d := dd__law_pick) rfl
  refine ⟨_, fd, ["row", "things"], F.g__law_pick, D.kp, D.bindsN (ps := ["row", "things"]) fun _ _ _ _ _ _ us hl => match us, hl with | [_, _], _ => rfl, (g_fn (k := 2 * n + 3) (N := N__law_pick) (ps := ["row", "things"]) (nN := 2) (np := 2) (body := sh__law_pick (callN tab n)) D sc__law_pick rfl rfl (fun gs S h => callN_eq tab__law_pick n gs S h) fun cdv A0 outer s H E r hcd hM hr c hX hp => ?_).mono (by omega)⟩
  have S := sc__law_pick
  have call := callN tab n
  exact (g_one (g_ret (g_ix (ix_gIx c.K) (g_var (i := 1) rfl (.inl rfl) rfl rfl) (g_callF c hX hM (A.fn "_law_taken" _ tab__law_taken) (arity tab__law_taken n) (hr.mono (Nat.le_succ _)) rfl (g_acons (g_var (i := 0) rfl (.inl rfl) rfl rfl) (g_acons (g_callB (cr_gLen c.K) rfl F.n_len boot_len (g_acons (g_var (i := 1) rfl (.inl rfl) rfl rfl) g_anil rfl) (by decide) rfl rfl rfl) g_anil rfl) rfl) rfl rfl rfl) fun _ _ => rfl)))
set_option maxRecDepth 100000 in
theorem ok__law_alike : CalF M (2 * (n + 1) + 2) "_law_alike" 2 (callN tab (n + 1) (.fn "_law_alike")) := by
  obtain ⟨fd, D⟩ := F.d.def_ 13 (d := dd__law_alike) rfl
  refine ⟨_, fd, ["found", "due"], F.g__law_alike, D.kp, D.bindsN (ps := ["found", "due"]) fun _ _ _ _ _ _ us hl => match us, hl with | [_, _], _ => rfl, (g_fn (k := 2 * n + 3) (N := N__law_alike) (ps := ["found", "due"]) (nN := 3) (np := 2) (body := sh__law_alike (callN tab n)) D sc__law_alike rfl rfl (fun gs S h => callN_eq tab__law_alike n gs S h) fun cdv A0 outer s H E r hcd hM hr c hX hp => ?_).mono (by omega)⟩
  have S := sc__law_alike
  have call := callN tab n
  exact (g_cons (g_if (g_tval (g_callB (cr_gIsi c.K (F.isa hM)) rfl F.n_isinstance boot_isinstance (g_acons (g_var (i := 1) rfl (.inr (.inl rfl)) rfl rfl) (g_acons (g_tup (g_acons (g_con (pe_bltn (v := .ty "tuple") rfl F.n_tuple boot_tuple rfl) fun _ _ => .ty _) (g_acons (g_con (pe_bltn (v := .ty "list") rfl F.n_list boot_list rfl) fun _ _ => .ty _) g_anil rfl) rfl)) g_anil rfl) rfl) (by decide) rfl rfl rfl) fun _ => rfl)
  (g_cons (g_if (PW.pt (g_tor (g_tnot (g_tval (g_callB (cr_gIsi c.K (F.isa hM)) rfl F.n_isinstance boot_isinstance (g_acons (g_var (i := 0) rfl (.inr (.inl rfl)) rfl rfl) (g_acons (g_tup (g_acons (g_con (pe_bltn (v := .ty "tuple") rfl F.n_tuple boot_tuple rfl) fun _ _ => .ty _) (g_acons (g_con (pe_bltn (v := .ty "list") rfl F.n_list boot_list rfl) fun _ _ => .ty _) g_anil rfl) rfl)) g_anil rfl) rfl) (by decide) rfl rfl rfl) fun _ => rfl)) (g_tor1 (g_tcmp (op_gNe c.K c.un) (g_callB (cr_gIsi c.K (F.isa hM)) rfl F.n_isinstance boot_isinstance (g_acons (g_var (i := 0) rfl (.inr (.inl rfl)) rfl rfl) (g_acons (g_con (pe_bltn (v := .ty "list") rfl F.n_list boot_list rfl) fun _ _ => .ty _) g_anil rfl) rfl) (by decide) rfl rfl rfl) (g_callB (cr_gIsi c.K (F.isa hM)) rfl F.n_isinstance boot_isinstance (g_acons (g_var (i := 1) rfl (.inr (.inl rfl)) rfl rfl) (g_acons (g_con (pe_bltn (v := .ty "list") rfl F.n_list boot_list rfl) fun _ _ => .ty _) g_anil rfl) rfl) (by decide) rfl rfl rfl) (nomark _)))))
  (g_one (g_ret (g_con pe_bl fun _ _ => .bl _)))
  g_nil)
  (g_cons (g_if (g_tcmp (op_gNe c.K c.un) (g_callB (cr_gLen c.K) rfl F.n_len boot_len (g_acons (g_var (i := 0) rfl (.inr (.inl rfl)) rfl rfl) g_anil rfl) (by decide) rfl rfl rfl) (g_callB (cr_gLen c.K) rfl F.n_len boot_len (g_acons (g_var (i := 1) rfl (.inr (.inl rfl)) rfl rfl) g_anil rfl) (by decide) rfl rfl rfl) (nomark _))
  (g_one (g_ret (g_con pe_bl fun _ _ => .bl _)))
  g_nil)
  (g_one (g_ret (g_cmp (op_gEq c.K c.un) (g_lc c.K c.calm S.nd (pi_itR1 rfl F.n_range (g_acons (g_callB (cr_gLen c.K) rfl F.n_len boot_len (g_acons (g_var (i := 1) rfl (.inr (.inl rfl)) rfl rfl) g_anil rfl) (by decide) rfl rfl rfl) g_anil rfl) rfl) (own := [("k", 2)]) (blkOk_by rfl) (by decide) (fun _ _ _ _ _ => (g_tn (i := 2) S.nd rfl (.inl rfl) (.inr rfl))) (fun _ _ _ _ _ => (pts_one (PT_any fun _ => (g_tnot (g_tval (g_callF (Ctx.blk c) hX hM (A.fn "_law_alike" _ tab__law_alike) (arity tab__law_alike n) (hr.mono (Nat.le_succ _)) rfl (g_acons (g_ix (ix_gIx (Ctx.blk c).K) (g_var (i := 0) rfl (.inr (.inl rfl)) rfl rfl) (g_var (i := 2) rfl (.inl rfl) rfl rfl) fun _ _ => rfl) (g_acons (g_ix (ix_gIx (Ctx.blk c).K) (g_var (i := 1) rfl (.inr (.inl rfl)) rfl rfl) (g_var (i := 2) rfl (.inl rfl) rfl rfl) fun _ _ => rfl) g_anil rfl) rfl) rfl rfl rfl) fun _ => rfl))))) (fun _ _ _ _ _ => PE_any fun _ => (g_var (i := 2) rfl (.inl rfl) rfl rfl)) fun _ => rfl) (g_lst g_anil) (nomark _))))))
  g_nil)
  (g_cons (g_if (PW.pt (g_tor (g_tcmp (op_gIs) (g_var (i := 1) rfl (.inr (.inl rfl)) rfl rfl) (g_con pe_non fun _ _ => .non) (nomark _)) (g_tor1 (g_tval (g_callB (cr_gIsi c.K (F.isa hM)) rfl F.n_isinstance boot_isinstance (g_acons (g_var (i := 1) rfl (.inr (.inl rfl)) rfl rfl) (g_acons (g_con (pe_bltn (v := .ty "str") rfl F.n_str boot_str rfl) fun _ _ => .ty _) g_anil rfl) rfl) (by decide) rfl rfl rfl) fun _ => rfl))))
  (g_one (g_ret (g_and (g_cmp (op_gEq c.K c.un) (g_var (i := 0) rfl (.inr (.inl rfl)) rfl rfl) (g_var (i := 1) rfl (.inr (.inl rfl)) rfl rfl) (nomark _)) (g_one' (g_cmp (op_gEq c.K c.un) (g_callB (cr_gIsi c.K (F.isa hM)) rfl F.n_isinstance boot_isinstance (g_acons (g_var (i := 0) rfl (.inr (.inl rfl)) rfl rfl) (g_acons (g_con (pe_bltn (v := .ty "str") rfl F.n_str boot_str rfl) fun _ _ => .ty _) g_anil rfl) rfl) (by decide) rfl rfl rfl) (g_callB (cr_gIsi c.K (F.isa hM)) rfl F.n_isinstance boot_isinstance (g_acons (g_var (i := 1) rfl (.inr (.inl rfl)) rfl rfl) (g_acons (g_con (pe_bltn (v := .ty "str") rfl F.n_str boot_str rfl) fun _ _ => .ty _) g_anil rfl) rfl) (by decide) rfl rfl rfl) (nomark _))))))
  g_nil)
  (g_one (g_ret (g_and (g_callB (cr_gIsi c.K (F.isa hM)) rfl F.n_isinstance boot_isinstance (g_acons (g_var (i := 0) rfl (.inr (.inl rfl)) rfl rfl) (g_acons (g_con (pe_bltn (v := .ty "int") rfl F.n_int boot_int rfl) fun _ _ => .ty _) g_anil rfl) rfl) (by decide) rfl rfl rfl) (g_and (g_cmp (op_gEq c.K c.un) (g_callB (cr_gIsi c.K (F.isa hM)) rfl F.n_isinstance boot_isinstance (g_acons (g_var (i := 0) rfl (.inr (.inl rfl)) rfl rfl) (g_acons (g_con (pe_bltn (v := .ty "bool") rfl F.n_bool boot_bool rfl) fun _ _ => .ty _) g_anil rfl) rfl) (by decide) rfl rfl rfl) (g_callB (cr_gIsi c.K (F.isa hM)) rfl F.n_isinstance boot_isinstance (g_acons (g_var (i := 1) rfl (.inr (.inl rfl)) rfl rfl) (g_acons (g_con (pe_bltn (v := .ty "bool") rfl F.n_bool boot_bool rfl) fun _ _ => .ty _) g_anil rfl) rfl) (by decide) rfl rfl rfl) (nomark _)) (g_one' (g_cmp (op_gEq c.K c.un) (g_var (i := 0) rfl (.inr (.inl rfl)) rfl rfl) (g_var (i := 1) rfl (.inr (.inl rfl)) rfl rfl) (nomark _)))))))))
set_option maxRecDepth 100000 in
theorem ok__law_same : CalF M (2 * (n + 1) + 2) "_law_same" 2 (callN tab (n + 1) (.fn "_law_same")) := by
  obtain ⟨fd, D⟩ := F.d.def_ 14 (d := dd__law_same) rfl
  refine ⟨_, fd, ["found", "due"], F.g__law_same, D.kp, D.bindsN (ps := ["found", "due"]) fun _ _ _ _ _ _ us hl => match us, hl with | [_, _], _ => rfl, (g_fn (k := 2 * n + 3) (N := N__law_same) (ps := ["found", "due"]) (nN := 2) (np := 2) (body := sh__law_same (callN tab n)) D sc__law_same rfl rfl (fun gs S h => callN_eq tab__law_same n gs S h) fun cdv A0 outer s H E r hcd hM hr c hX hp => ?_).mono (by omega)⟩
  have S := sc__law_same
  have call := callN tab n
  exact (g_one (g_ret (g_cmp (op_gEq c.K c.un) (g_callB (cr_gRepr c.K c.un c.gu) rfl F.n_repr boot_repr (g_acons (g_var (i := 0) rfl (.inl rfl) rfl rfl) g_anil rfl) (by decide) rfl rfl rfl) (g_callB (cr_gRepr c.K c.un c.gu) rfl F.n_repr boot_repr (g_acons (g_var (i := 1) rfl (.inl rfl) rfl rfl) g_anil rfl) (by decide) rfl rfl rfl) (nomark _))))
set_option maxRecDepth 100000 in
theorem ok__law_odd : CalF M (2 * (n + 1) + 2) "_law_odd" 1 (callN tab (n + 1) (.fn "_law_odd")) := by
  obtain ⟨fd, D⟩ := F.d.def_ 15 (d := dd__law_odd) rfl
  refine ⟨_, fd, ["row"], F.g__law_odd, D.kp, D.bindsN (ps := ["row"]) fun _ _ _ _ _ _ us hl => match us, hl with | [_], _ => rfl, (g_fn (k := 2 * n + 3) (N := N__law_odd) (ps := ["row"]) (nN := 2) (np := 1) (body := sh__law_odd (callN tab n)) D sc__law_odd rfl rfl (fun gs S h => callN_eq tab__law_odd n gs S h) fun cdv A0 outer s H E r hcd hM hr c hX hp => ?_).mono (by omega)⟩
  have S := sc__law_odd
  have call := callN tab n
  exact (g_cons (g_set (i := 1) S.nd rfl (.inl rfl) (g_lst (g_acons (g_con pe_non fun _ _ => .non) (g_acons (g_con pe_bl fun _ _ => .bl _) (g_acons (g_con pe_bl fun _ _ => .bl _) (g_acons (g_neg (g_con pe_int fun _ _ => .int _)) (g_acons (g_bin (op_gPow) (g_con pe_int fun _ _ => .int _) (g_con pe_int fun _ _ => .int _)) (g_acons (g_con pe_str fun _ _ => .str _) (g_acons (g_con pe_str fun _ _ => .str _) (g_acons (g_con pe_str fun _ _ => .str _) (g_acons (g_con pe_str fun _ _ => .str _) (g_acons (g_lst g_anil) (g_acons (g_lst (g_acons (g_con pe_int fun _ _ => .int _) g_anil rfl)) (g_acons g_td0 (g_acons g_td1 (g_acons (g_con pe_str fun _ _ => .str _) (g_acons (g_con pe_int fun _ _ => .int _) (g_acons (g_con pe_str fun _ _ => .str _) g_anil rfl) rfl) rfl) rfl) rfl) rfl) rfl) rfl) rfl) rfl) rfl) rfl) rfl) rfl) rfl) rfl)) rfl (.inl rfl))
  (g_one (g_ret (g_callF c hX hM (A.fn "_law_pick" _ tab__law_pick) (arity tab__law_pick n) (hr.mono (Nat.le_succ _)) rfl (g_acons (g_var (i := 0) rfl (.inl rfl) rfl rfl) (g_acons (g_var (i := 1) rfl (.inl rfl) rfl rfl) g_anil rfl) rfl) rfl rfl rfl))))
set_option maxRecDepth 100000 in
theorem ok__law_refusal : CalH M (2 * (n + 1) + 2) "_law_refusal" (callN tab (n + 1) (.fh "_law_refusal")) := by
  obtain ⟨fd, D⟩ := F.d.def_ 16 (d := dd__law_refusal) rfl
  refine (g_fnH (k := 2 * n + 3) (N := N__law_refusal) (ps := ["e"]) (nN := 4) (body := sh__law_refusal (callN tab n)) D sc__law_refusal rfl rfl F.g__law_refusal D.kp (D.bindsN (ps := ["e"]) fun _ _ _ _ _ _ us hl => match us, hl with | [_], _ => rfl) (fun gs S h => callN_eq tab_fh__law_refusal n gs S h) fun cdv A0 outer s H p r hcd c hX => ?_)
  have S := sc__law_refusal
  exact (g_cons (g_set (i := 1) S.nd rfl (.inl rfl) (g_lst (g_acons (g_con pe_str fun _ _ => .str _) (g_acons (g_con pe_str fun _ _ => .str _) (g_acons (g_con pe_str fun _ _ => .str _) (g_acons (g_con pe_str fun _ _ => .str _) (g_acons (g_con pe_str fun _ _ => .str _) (g_acons (g_con pe_str fun _ _ => .str _) (g_acons (g_con pe_str fun _ _ => .str _) (g_acons (g_con pe_str fun _ _ => .str _) (g_acons (g_con pe_str fun _ _ => .str _) (g_acons (g_con pe_str fun _ _ => .str _) (g_acons (g_con pe_str fun _ _ => .str _) (g_acons (g_con pe_str fun _ _ => .str _) (g_acons (g_con pe_str fun _ _ => .str _) (g_acons (g_con pe_str fun _ _ => .str _) (g_acons (g_con pe_str fun _ _ => .str _) (g_acons (g_con pe_str fun _ _ => .str _) g_anil rfl) rfl) rfl) rfl) rfl) rfl) rfl) rfl) rfl) rfl) rfl) rfl) rfl) rfl) rfl) rfl)) rfl (.inl rfl))
  (g_cons (g_set (i := 2) S.nd rfl (.inl rfl) (g_lst (g_acons (g_callB (cr_gIsiX c F.xt) rfl F.n_isinstance boot_isinstance (g_acons (g_var (i := 0) rfl (.inl rfl) rfl rfl) (g_acons (g_globH c hX rfl F.g_BadKeep rfl) g_anil rfl) rfl) (by decide) rfl rfl rfl) (g_acons (g_callB (cr_gIsiX c F.xt) rfl F.n_isinstance boot_isinstance (g_acons (g_var (i := 0) rfl (.inl rfl) rfl rfl) (g_acons (g_globH c hX rfl F.g_BadNumber rfl) g_anil rfl) rfl) (by decide) rfl rfl rfl) (g_acons (g_callB (cr_gIsiX c F.xt) rfl F.n_isinstance boot_isinstance (g_acons (g_var (i := 0) rfl (.inl rfl) rfl rfl) (g_acons (g_globH c hX rfl F.g_UnknownPolder rfl) g_anil rfl) rfl) (by decide) rfl rfl rfl) (g_acons (g_callB (cr_gIsiX c F.xt) rfl F.n_isinstance boot_isinstance (g_acons (g_var (i := 0) rfl (.inl rfl) rfl rfl) (g_acons (g_globH c hX rfl F.g_UnknownArea rfl) g_anil rfl) rfl) (by decide) rfl rfl rfl) (g_acons (g_callB (cr_gIsiX c F.xt) rfl F.n_isinstance boot_isinstance (g_acons (g_var (i := 0) rfl (.inl rfl) rfl rfl) (g_acons (g_globH c hX rfl F.g_BadRule rfl) g_anil rfl) rfl) (by decide) rfl rfl rfl) (g_acons (g_callB (cr_gIsiX c F.xt) rfl F.n_isinstance boot_isinstance (g_acons (g_var (i := 0) rfl (.inl rfl) rfl rfl) (g_acons (g_globH c hX rfl F.g_BadCourse rfl) g_anil rfl) rfl) (by decide) rfl rfl rfl) (g_acons (g_callB (cr_gIsiX c F.xt) rfl F.n_isinstance boot_isinstance (g_acons (g_var (i := 0) rfl (.inl rfl) rfl rfl) (g_acons (g_globH c hX rfl F.g_BadDikes rfl) g_anil rfl) rfl) (by decide) rfl rfl rfl) (g_acons (g_callB (cr_gIsiX c F.xt) rfl F.n_isinstance boot_isinstance (g_acons (g_var (i := 0) rfl (.inl rfl) rfl rfl) (g_acons (g_globH c hX rfl F.g_BadAreas rfl) g_anil rfl) rfl) (by decide) rfl rfl rfl) (g_acons (g_callB (cr_gIsiX c F.xt) rfl F.n_isinstance boot_isinstance (g_acons (g_var (i := 0) rfl (.inl rfl) rfl rfl) (g_acons (g_globH c hX rfl F.g_BadRain rfl) g_anil rfl) rfl) (by decide) rfl rfl rfl) (g_acons (g_callB (cr_gIsiX c F.xt) rfl F.n_isinstance boot_isinstance (g_acons (g_var (i := 0) rfl (.inl rfl) rfl rfl) (g_acons (g_globH c hX rfl F.g_BadPrices rfl) g_anil rfl) rfl) (by decide) rfl rfl rfl) (g_acons (g_callB (cr_gIsiX c F.xt) rfl F.n_isinstance boot_isinstance (g_acons (g_var (i := 0) rfl (.inl rfl) rfl rfl) (g_acons (g_globH c hX rfl F.g_TooMany rfl) g_anil rfl) rfl) (by decide) rfl rfl rfl) (g_acons (g_callB (cr_gIsiX c F.xt) rfl F.n_isinstance boot_isinstance (g_acons (g_var (i := 0) rfl (.inl rfl) rfl rfl) (g_acons (g_globH c hX rfl F.g_BadText rfl) g_anil rfl) rfl) (by decide) rfl rfl rfl) (g_acons (g_callB (cr_gIsiX c F.xt) rfl F.n_isinstance boot_isinstance (g_acons (g_var (i := 0) rfl (.inl rfl) rfl rfl) (g_acons (g_globH c hX rfl F.g_BadLine rfl) g_anil rfl) rfl) (by decide) rfl rfl rfl) (g_acons (g_callB (cr_gIsiX c F.xt) rfl F.n_isinstance boot_isinstance (g_acons (g_var (i := 0) rfl (.inl rfl) rfl rfl) (g_acons (g_globH c hX rfl F.g_NotKept rfl) g_anil rfl) rfl) (by decide) rfl rfl rfl) (g_acons (g_callB (cr_gIsiX c F.xt) rfl F.n_isinstance boot_isinstance (g_acons (g_var (i := 0) rfl (.inl rfl) rfl rfl) (g_acons (g_globH c hX rfl F.g_BadClaim rfl) g_anil rfl) rfl) (by decide) rfl rfl rfl) (g_acons (g_callB (cr_gIsiX c F.xt) rfl F.n_isinstance boot_isinstance (g_acons (g_var (i := 0) rfl (.inl rfl) rfl rfl) (g_acons (g_globH c hX rfl F.g_NothingDone rfl) g_anil rfl) rfl) (by decide) rfl rfl rfl) g_anil rfl) rfl) rfl) rfl) rfl) rfl) rfl) rfl) rfl) rfl) rfl) rfl) rfl) rfl) rfl) rfl)) rfl (.inl rfl))
  (g_cons (g_if (PW.pt (g_tor (g_tcmp (op_gNe c.K c.un) (g_mq c.K ty_list PySem.F.plainAttrs_list PySem.F.slot_list_count PySem.F.type_list_count (mt_gCount c.K) (g_var (i := 2) rfl (.inl rfl) rfl rfl) (g_acons (g_con pe_bl fun _ _ => .bl _) g_anil rfl) rfl rfl rfl rfl rfl) (g_con pe_int fun _ _ => .int _) (nomark _)) (g_tor1 (g_tnot (g_tval (g_callB (cr_gIsiX c F.xt) rfl F.n_isinstance boot_isinstance (g_acons (g_var (i := 0) rfl (.inl rfl) rfl rfl) (g_acons (g_con (pe_bltn (v := .ty "ValueError") rfl F.n_ValueError boot_ValueError rfl) fun _ _ => .ty _) g_anil rfl) rfl) (by decide) rfl rfl rfl) fun _ => rfl)))))
  (g_one (g_ret (g_tup (g_acons (g_con pe_str fun _ _ => .str _) g_anil rfl))))
  g_nil)
  (g_cons (g_set (i := 3) S.nd rfl (.inl rfl) (g_ix (ix_gIx c.K) (g_var (i := 1) rfl (.inl rfl) rfl rfl) (g_mq c.K ty_list PySem.F.plainAttrs_list PySem.F.slot_list_index PySem.F.type_list_index (mt_gIndexL c.K) (g_var (i := 2) rfl (.inl rfl) rfl rfl) (g_acons (g_con pe_bl fun _ _ => .bl _) g_anil rfl) rfl rfl rfl rfl rfl) fun _ _ => rfl) rfl (.inl rfl))
  (g_cons (g_if (g_tcmp (op_gEq c.K c.un) (g_var (i := 3) rfl (.inl rfl) rfl rfl) (g_con pe_str fun _ _ => .str _) (nomark _))
  (g_one (g_ret (g_tup (g_acons (g_var (i := 3) rfl (.inl rfl) rfl rfl) (g_acons (g_fldX c F.xt (g_var (i := 0) rfl (.inl rfl) rfl rfl) rfl) (g_acons (g_fldX c F.xt (g_var (i := 0) rfl (.inl rfl) rfl rfl) rfl) g_anil rfl) rfl) rfl))))
  g_nil)
  (g_cons (g_if (g_tcmp (op_gEq c.K c.un) (g_var (i := 3) rfl (.inl rfl) rfl rfl) (g_con pe_str fun _ _ => .str _) (nomark _))
  (g_one (g_ret (g_tup (g_acons (g_var (i := 3) rfl (.inl rfl) rfl rfl) (g_acons (g_fldX c F.xt (g_var (i := 0) rfl (.inl rfl) rfl rfl) rfl) g_anil rfl) rfl))))
  g_nil)
  (g_cons (g_if (g_tcmp (op_gIn c.K) (g_var (i := 3) rfl (.inl rfl) rfl rfl) (g_tup (g_acons (g_con pe_str fun _ _ => .str _) (g_acons (g_con pe_str fun _ _ => .str _) g_anil rfl) rfl)) (by with_unfolding_all rfl))
  (g_one (g_ret (g_tup (g_acons (g_var (i := 3) rfl (.inl rfl) rfl rfl) (g_acons (g_fldX c F.xt (g_var (i := 0) rfl (.inl rfl) rfl rfl) rfl) g_anil rfl) rfl))))
  g_nil)
  (g_cons (g_if (g_tcmp (op_gEq c.K c.un) (g_var (i := 3) rfl (.inl rfl) rfl rfl) (g_con pe_str fun _ _ => .str _) (nomark _))
  (g_one (g_ret (g_tup (g_acons (g_var (i := 3) rfl (.inl rfl) rfl rfl) (g_acons (g_fldX c F.xt (g_var (i := 0) rfl (.inl rfl) rfl rfl) rfl) g_anil rfl) rfl))))
  g_nil)
  (g_cons (g_if (g_tcmp (op_gIn c.K) (g_var (i := 3) rfl (.inl rfl) rfl rfl) (g_tup (g_acons (g_con pe_str fun _ _ => .str _) (g_acons (g_con pe_str fun _ _ => .str _) g_anil rfl) rfl)) (by with_unfolding_all rfl))
  (g_one (g_ret (g_tup (g_acons (g_var (i := 3) rfl (.inl rfl) rfl rfl) (g_acons (g_fldX c F.xt (g_var (i := 0) rfl (.inl rfl) rfl rfl) rfl) g_anil rfl) rfl))))
  g_nil)
  (g_cons (g_if (g_tcmp (op_gIn c.K) (g_var (i := 3) rfl (.inl rfl) rfl rfl) (g_tup (g_acons (g_con pe_str fun _ _ => .str _) (g_acons (g_con pe_str fun _ _ => .str _) (g_acons (g_con pe_str fun _ _ => .str _) g_anil rfl) rfl) rfl)) (by with_unfolding_all rfl))
  (g_one (g_ret (g_tup (g_acons (g_var (i := 3) rfl (.inl rfl) rfl rfl) g_anil rfl))))
  g_nil)
  (g_one (g_ret (g_tup (g_acons (g_var (i := 3) rfl (.inl rfl) rfl rfl) (g_acons (g_fldX c F.xt (g_var (i := 0) rfl (.inl rfl) rfl rfl) rfl) g_anil rfl) rfl))))))))))))))
set_option maxRecDepth 100000 in
theorem ok__law_told : CalF M (2 * (n + 1) + 2) "_law_told" 1 (callN tab (n + 1) (.fn "_law_told")) := by
  obtain ⟨fd, D⟩ := F.d.def_ 17 (d := dd__law_told) rfl
  refine ⟨_, fd, ["call"], F.g__law_told, D.kp, D.bindsN (ps := ["call"]) fun _ _ _ _ _ _ us hl => match us, hl with | [_], _ => rfl, (g_fn (k := 2 * n + 3) (N := N__law_told) (ps := ["call"]) (nN := 2) (np := 1) (body := sh__law_told (callN tab n)) D sc__law_told rfl rfl (fun gs S h => callN_eq tab__law_told n gs S h) fun cdv A0 outer s H E r hcd hM hr c hX hp => ?_).mono (by omega)⟩
  have S := sc__law_told
  have call := callN tab n
  exact (g_one (g_told (i := 1) (n := "e") c hX hM F.xt (hr.mono (Nat.le_succ _)) (A.fh "_law_refusal" _ tab_fh__law_refusal) rfl rfl S.nd rfl rfl (.inl rfl) rfl rfl rfl rfl rfl rfl F.g_PolderError rfl (fun W2 pn2 xe2 c hX => (g_one g_bad))))
set_option maxRecDepth 100000 in
theorem ok__law_rule : CalF M (2 * (n + 1) + 2) "_law_rule" 1 (callN tab (n + 1) (.fn "_law_rule")) := by
  obtain ⟨fd, D⟩ := F.d.def_ 18 (d := dd__law_rule) rfl
  refine ⟨_, fd, ["row"], F.g__law_rule, D.kp, D.bindsN (ps := ["row"]) fun _ _ _ _ _ _ us hl => match us, hl with | [_], _ => rfl, (g_fn (k := 2 * n + 3) (N := N__law_rule) (ps := ["row"]) (nN := 3) (np := 1) (body := sh__law_rule (callN tab n)) D sc__law_rule rfl rfl (fun gs S h => callN_eq tab__law_rule n gs S h) fun cdv A0 outer s H E r hcd hM hr c hX hp => ?_).mono (by omega)⟩
  have S := sc__law_rule
  have call := callN tab n
  exact (g_cons (g_set (i := 1) S.nd rfl (.inl rfl) (g_sl c.K (g_lc c.K c.calm S.nd (pi_itR2 rfl F.n_range (g_acons (g_con pe_int fun _ _ => .int _) (g_acons (g_con pe_int fun _ _ => .int _) g_anil rfl) rfl) rfl rfl) (own := [("level", 2)]) (blkOk_by rfl) (by decide) (fun _ _ _ _ _ => (g_tn (i := 2) S.nd rfl (.inl rfl) (.inr rfl))) (fun _ _ _ _ _ => (pts_one (PT_any fun _ => (g_tcmp (op_gEq (Ctx.blk c).K c.un) (g_callF (Ctx.blk c) hX hM (A.fn "_law_taken" _ tab__law_taken) (arity tab__law_taken n) (hr.mono (Nat.le_succ _)) rfl (g_acons (g_var (i := 0) rfl (.inr (.inl rfl)) rfl rfl) (g_acons (g_con pe_int fun _ _ => .int _) g_anil rfl) rfl) rfl rfl rfl) (g_con pe_int fun _ _ => .int _) (nomark _))))) (fun _ _ _ _ _ => PE_any fun _ => (g_var (i := 2) rfl (.inl rfl) rfl rfl)) fun _ => rfl) g_ono (g_oso (g_con pe_int fun _ _ => .int _))) rfl (.inl rfl))
  (g_one (g_ret (g_callTy (cr_gTuple c.K) rfl F.n_tuple boot_tuple (g_acons (g_lc c.K c.calm S.nd (pi_itV c.K (g_var (i := 1) rfl (.inl rfl) rfl rfl)) (own := [("level", 2)]) (blkOk_by rfl) (by decide) (fun _ _ _ _ _ => (g_tn (i := 2) S.nd rfl (.inl rfl) (.inr rfl))) (fun _ _ _ _ _ => pts_tYes) (fun _ _ _ _ _ => PE_any fun _ => (g_tup (g_acons (g_var (i := 2) rfl (.inl rfl) rfl rfl) (g_acons (g_callF (Ctx.blk c) hX hM (A.fn "_law_taken" _ tab__law_taken) (arity tab__law_taken n) (hr.mono (Nat.le_succ _)) rfl (g_acons (g_var (i := 0) rfl (.inr (.inl rfl)) rfl rfl) (g_acons (g_callF (Ctx.blk c) hX hM (A.fn "_law_pick" _ tab__law_pick) (arity tab__law_pick n) (hr.mono (Nat.le_succ _)) rfl (g_acons (g_var (i := 0) rfl (.inr (.inl rfl)) rfl rfl) (g_acons (g_lst (g_acons (g_con pe_int fun _ _ => .int _) (g_acons (g_con pe_int fun _ _ => .int _) g_anil rfl) rfl)) g_anil rfl) rfl) rfl rfl rfl) g_anil rfl) rfl) rfl rfl rfl) g_anil rfl) rfl))) fun _ => rfl) g_anil rfl) (by decide) rfl rfl rfl))))
set_option maxRecDepth 100000 in
theorem ok__law_read : CalF M (2 * (n + 1) + 2) "_law_read" 1 (callN tab (n + 1) (.fn "_law_read")) := by
  obtain ⟨fd, D⟩ := F.d.def_ 19 (d := dd__law_read) rfl
  refine ⟨_, fd, ["line"], F.g__law_read, D.kp, D.bindsN (ps := ["line"]) fun _ _ _ _ _ _ us hl => match us, hl with | [_], _ => rfl, (g_fn (k := 2 * n + 3) (N := N__law_read) (ps := ["line"]) (nN := 6) (np := 1) (body := sh__law_read (callN tab n)) D sc__law_read rfl rfl (fun gs S h => callN_eq tab__law_read n gs S h) fun cdv A0 outer s H E r hcd hM hr c hX hp => ?_).mono (by omega)⟩
  have S := sc__law_read
  have call := callN tab n
  exact (g_cons (g_if (PW.pt (g_tor (g_tnot (g_tval (g_callB (cr_gIsi c.K (F.isa hM)) rfl F.n_isinstance boot_isinstance (g_acons (g_var (i := 0) rfl (.inl rfl) rfl rfl) (g_acons (g_con (pe_bltn (v := .ty "str") rfl F.n_str boot_str rfl) fun _ _ => .ty _) g_anil rfl) rfl) (by decide) rfl rfl rfl) fun _ => rfl)) (g_tor1 (g_tcmp (op_gGt) (g_callB (cr_gLen c.K) rfl F.n_len boot_len (g_acons (g_var (i := 0) rfl (.inl rfl) rfl rfl) g_anil rfl) (by decide) rfl rfl rfl) (g_con pe_int fun _ _ => .int _) (nomark _)))))
  (g_one (g_ret (g_tup (g_acons (g_con pe_str fun _ _ => .str _) (g_acons (g_con pe_non fun _ _ => .non) g_anil rfl) rfl))))
  g_nil)
  (g_cons (g_par c.calm S.nd (i := 1) (j := 2) rfl rfl (by decide) rfl rfl (g_lstA g_anil) (g_ife (g_tcmp (op_gEq c.K c.un) (g_var (i := 0) rfl (.inl rfl) rfl rfl) (g_con pe_str fun _ _ => .str _) (nomark _)) (g_lst g_anil) (g_mq c.K ty_str PySem.F.plainAttrs_str PySem.F.slot_str_split PySem.F.type_str_split (mt_gSplit) (g_var (i := 0) rfl (.inl rfl) rfl rfl) (g_acons (g_con pe_str fun _ _ => .str _) g_anil rfl) rfl rfl rfl rfl rfl)) rfl rfl rfl rfl)
  (g_cons (g_for c.K hp c.calm (pi_itR1 rfl F.n_range (g_acons (g_callB (cr_gLen c.K) rfl F.n_len boot_len (g_acons (g_var (i := 2) rfl (.inl rfl) rfl rfl) g_anil rfl) (by decide) rfl rfl rfl) g_anil rfl) rfl) (g_tn (i := 3) S.nd rfl (.inl rfl) (.inl rfl))
  (g_cons (g_set (i := 4) S.nd rfl (.inl rfl) (g_ix (ix_gIx c.K) (g_var (i := 2) rfl (.inl rfl) rfl rfl) (g_var (i := 3) rfl (.inl rfl) rfl rfl) fun _ _ => rfl) rfl (.inl rfl))
  (g_cons (g_set (i := 5) S.nd rfl (.inl rfl) (g_and (g_cmp (op_gEq c.K c.un) (g_callB (cr_gLen c.K) rfl F.n_len boot_len (g_acons (g_var (i := 4) rfl (.inl rfl) rfl rfl) g_anil rfl) (by decide) rfl rfl rfl) (g_con pe_int fun _ _ => .int _) (nomark _)) (g_and (g_cmp (op_gEq c.K c.un) (g_ix (ix_gIx c.K) (g_var (i := 4) rfl (.inl rfl) rfl rfl) (g_con pe_int fun _ _ => .int _) fun _ _ => rfl) (g_con pe_str fun _ _ => .str _) (nomark _)) (g_and (g_cmp (op_gIn c.K) (g_ix (ix_gIx c.K) (g_var (i := 4) rfl (.inl rfl) rfl rfl) (g_con pe_int fun _ _ => .int _) fun _ _ => rfl) (g_con pe_str fun _ _ => .str _) (by with_unfolding_all rfl)) (g_and (g_cmp (op_gIn c.K) (g_ix (ix_gIx c.K) (g_var (i := 4) rfl (.inl rfl) rfl rfl) (g_con pe_int fun _ _ => .int _) fun _ _ => rfl) (g_con pe_str fun _ _ => .str _) (by with_unfolding_all rfl)) (g_one' (g_cmp (op_gLt) (g_var (i := 3) rfl (.inl rfl) rfl rfl) (g_con pe_int fun _ _ => .int _) (nomark _))))))) rfl (.inl rfl))
  (g_cons (g_if (PW.pt (g_tor (g_tnot (g_tval (g_var (i := 5) rfl (.inl rfl) rfl rfl) fun _ => rfl)) (g_tor1 (PW.pt (g_tand (g_tcmp (op_gNe c.K c.un) (g_var (i := 1) rfl (.inl rfl) rfl rfl) (g_lst g_anil) (nomark _)) (g_tand1 (g_tcmp (op_gGe) (g_ix (ix_gIx c.K) (g_ix (ix_gIx c.K) (g_var (i := 1) rfl (.inl rfl) rfl rfl) (g_neg (g_con pe_int fun _ _ => .int _)) fun _ _ => rfl) (g_con pe_int fun _ _ => .int _) fun _ _ => rfl) (g_callTy (cr_gInt) rfl F.n_int boot_int (g_acons (g_ix (ix_gIx c.K) (g_var (i := 4) rfl (.inl rfl) rfl rfl) (g_con pe_int fun _ _ => .int _) fun _ _ => rfl) g_anil rfl) (by decide) rfl rfl rfl) (nomark _))))))))
  (g_one (g_ret (g_tup (g_acons (g_con pe_str fun _ _ => .str _) (g_acons (g_var (i := 3) rfl (.inl rfl) rfl rfl) g_anil rfl) rfl))))
  g_nil)
  (g_one (g_expr (g_ml c.K PySem.F.slot_list_append PySem.F.type_list_append mt_gApp (g_var (i := 1) rfl (.inl rfl) rfl rfl) (g_acons (g_tup (g_acons (g_callTy (cr_gInt) rfl F.n_int boot_int (g_acons (g_ix (ix_gIx c.K) (g_var (i := 4) rfl (.inl rfl) rfl rfl) (g_con pe_int fun _ _ => .int _) fun _ _ => rfl) g_anil rfl) (by decide) rfl rfl rfl) (g_acons (g_callTy (cr_gInt) rfl F.n_int boot_int (g_acons (g_ix (ix_gIx c.K) (g_var (i := 4) rfl (.inl rfl) rfl rfl) (g_con pe_int fun _ _ => .int _) fun _ _ => rfl) g_anil rfl) (by decide) rfl rfl rfl) g_anil rfl) rfl)) g_anil rfl) rfl rfl rfl rfl rfl) rfl))))) fun _ => rfl)
  (g_one (g_ret (g_tup (g_acons (g_con pe_str fun _ _ => .str _) (g_acons (g_callTy (cr_gTuple c.K) rfl F.n_tuple boot_tuple (g_acons (g_var (i := 1) rfl (.inl rfl) rfl rfl) g_anil rfl) (by decide) rfl rfl rfl) g_anil rfl) rfl)))))))
theorem ok_lawG {fd : FuncData} (D : FunD M.K dd_law.name dd_law.qual dd_law.params dd_law.body dd_law.scope (He.DefD.dvs M.K dd_law) (He.DefD.kws M.K dd_law) (He.fAd M.K dd_law.at_) fd) :
    GFn M (2 * (n + 1) + 2) (He.fAd M.K dd_law.at_) fd ["script"] (spG M 1 (callN tab (n + 1) (.fn "law"))) := by
  refine (g_fn (k := 2 * n + 3) (N := N_law) (ps := ["script"]) (nN := 13) (np := 1) (body := sh_law (callN tab n)) D sc_law rfl rfl (fun gs S h => callN_eq tab_law n gs S h) fun cdv A0 outer s H E r hcd hM hr c hX hp => ?_).mono (by omega)
  have S := sc_law
  have hcode := F.cd_law D hcd
  have TB := F.tb ("law", none) (by simp [tfL])
  have hmT : ((He.cT M.K ("law", none)).2, ("law.<locals>.<lambda>" : Str)) ∈ M.T := by rw [F.T]; simp
  have huT : ∀ p ∈ M.T, p.1 = (He.cT M.K ("law", none)).2 → p.2 = "law.<locals>.<lambda>" := fun p hp e => by
    rw [F.T] at hp
    simp only [List.mem_cons, List.not_mem_nil, or_false] at hp
    subst hp; rfl
  have call := callN tab n
  exact (g_cons (g_set (i := 1) S.nd rfl (.inl rfl) (g_lstA (g_acons (g_var (i := 0) rfl (.inl rfl) rfl rfl) (g_acons (g_con pe_int fun _ _ => .int _) (g_acons (g_con pe_int fun _ _ => .int _) (g_acons (g_con pe_int fun _ _ => .int _) g_anil rfl) rfl) rfl) rfl)) rfl (.inl rfl))
  (g_cons (g_for c.K hp c.calm (pi_itR1 rfl F.n_range (g_acons (g_con pe_int fun _ _ => .int _) g_anil rfl) rfl) (g_tn (i := 2) S.nd rfl (.inl rfl) (.inl rfl))
  (g_cons (g_set (i := 3) S.nd rfl (.inl rfl) (g_callF c hX hM (A.fn "_law_rule" _ tab__law_rule) (arity tab__law_rule n) (hr.mono (Nat.le_succ _)) rfl (g_acons (g_var (i := 1) rfl (.inl rfl) rfl rfl) g_anil rfl) rfl rfl rfl) rfl (.inl rfl))
  (g_cons (g_set (i := 4) S.nd rfl (.inl rfl) (g_ife (g_tcmp (op_gNe c.K c.un) (g_var (i := 3) rfl (.inl rfl) rfl rfl) (g_tup g_anil) (nomark _)) (g_mq c.K ty_str PySem.F.plainAttrs_str PySem.F.slot_str_join PySem.F.type_str_join (mt_gJoin c.K) (g_con pe_str fun _ _ => .str _) (g_acons (g_lc c.K c.calm S.nd (pi_itV c.K (g_var (i := 3) rfl (.inl rfl) rfl rfl)) (own := [("level", 5), ("many", 6)]) (blkOk_by rfl) (by decide) (fun _ _ _ _ _ => (g_ttp c.calm (g_tgcons (g_tnm0 (i := 5) S.nd rfl (.inl rfl) (.inr rfl)) (g_tgcons (g_tnm0 (i := 6) S.nd rfl (.inl rfl) (.inr rfl)) g_tgnil rfl) rfl) rfl rfl)) (fun _ _ _ _ _ => pts_tYes) (fun _ _ _ _ _ => PE_any fun _ => (g_bin (op_gAddA (Ctx.blk c).K) (g_bin (op_gAddA (Ctx.blk c).K) (g_callTy (cr_gStr) rfl F.n_str boot_str (g_acons (g_var (i := 5) rfl (.inl rfl) rfl rfl) g_anil rfl) (by decide) rfl rfl rfl) (g_con pe_str fun _ _ => .str _)) (g_callTy (cr_gStr) rfl F.n_str boot_str (g_acons (g_var (i := 6) rfl (.inl rfl) rfl rfl) g_anil rfl) (by decide) rfl rfl rfl))) fun _ => rfl) g_anil rfl) rfl rfl rfl rfl rfl) (g_con pe_str fun _ _ => .str _)) rfl (.inl rfl))
  (g_cons (g_if (g_tnot (g_tval (g_callF c hX hM (A.fn "_law_alike" _ tab__law_alike) (arity tab__law_alike n) (hr.mono (Nat.le_succ _)) rfl (g_acons (g_tup (g_acons (g_callF c hX hM (A.fn "rule_line" _ tab_rule_line) (arity tab_rule_line n) (hr.mono (Nat.le_succ _)) rfl (g_acons (g_var (i := 3) rfl (.inl rfl) rfl rfl) g_anil rfl) rfl rfl rfl) (g_acons (g_callF c hX hM (A.fn "read_rule" _ tab_read_rule) (arity tab_read_rule n) (hr.mono (Nat.le_succ _)) rfl (g_acons (g_var (i := 4) rfl (.inl rfl) rfl rfl) g_anil rfl) rfl rfl rfl) g_anil rfl) rfl)) (g_acons (g_tup (g_acons (g_var (i := 4) rfl (.inl rfl) rfl rfl) (g_acons (g_var (i := 3) rfl (.inl rfl) rfl rfl) g_anil rfl) rfl)) g_anil rfl) rfl) rfl rfl rfl) fun _ => rfl))
  (g_one (g_ret (g_con pe_bl fun _ _ => .bl _)))
  g_nil)
  (g_cons (g_set (i := 7) S.nd rfl (.inl rfl) (g_mq c.K ty_str PySem.F.plainAttrs_str PySem.F.slot_str_split PySem.F.type_str_split (mt_gSplit) (g_var (i := 4) rfl (.inl rfl) rfl rfl) (g_acons (g_con pe_str fun _ _ => .str _) g_anil rfl) rfl rfl rfl rfl rfl) rfl (.inl rfl))
  (g_cons (g_for c.K hp c.calm (pi_itR1 rfl F.n_range (g_acons (g_con pe_int fun _ _ => .int _) g_anil rfl) rfl) (g_tn (i := 8) S.nd rfl (.inl rfl) (.inl rfl))
  (g_cons (g_set (i := 9) S.nd rfl (.inl rfl) (g_callF c hX hM (A.fn "_law_taken" _ tab__law_taken) (arity tab__law_taken n) (hr.mono (Nat.le_succ _)) rfl (g_acons (g_var (i := 1) rfl (.inl rfl) rfl rfl) (g_acons (g_bin (op_gAddA c.K) (g_callB (cr_gLen c.K) rfl F.n_len boot_len (g_acons (g_var (i := 7) rfl (.inl rfl) rfl rfl) g_anil rfl) (by decide) rfl rfl rfl) (g_con pe_int fun _ _ => .int _)) g_anil rfl) rfl) rfl rfl rfl) rfl (.inl rfl))
  (g_cons (g_set (i := 10) S.nd rfl (.inl rfl) (g_bin (op_gAddA c.K) (g_bin (op_gAddA c.K) (g_sl c.K (g_var (i := 7) rfl (.inl rfl) rfl rfl) g_ono (g_oso (g_var (i := 9) rfl (.inl rfl) rfl rfl))) (g_lst (g_acons (g_callF c hX hM (A.fn "_law_pick" _ tab__law_pick) (arity tab__law_pick n) (hr.mono (Nat.le_succ _)) rfl (g_acons (g_var (i := 1) rfl (.inl rfl) rfl rfl) (g_acons (g_lst (g_acons (g_con pe_str fun _ _ => .str _) (g_acons (g_con pe_str fun _ _ => .str _) (g_acons (g_con pe_str fun _ _ => .str _) (g_acons (g_con pe_str fun _ _ => .str _) (g_acons (g_con pe_str fun _ _ => .str _) (g_acons (g_con pe_str fun _ _ => .str _) (g_acons (g_con pe_str fun _ _ => .str _) (g_acons (g_con pe_str fun _ _ => .str _) (g_acons (g_con pe_str fun _ _ => .str _) (g_acons (g_con pe_str fun _ _ => .str _) (g_acons (g_con pe_str fun _ _ => .str _) (g_acons (g_con pe_str fun _ _ => .str _) (g_acons (g_con pe_str fun _ _ => .str _) (g_acons (g_ix (ix_gIx c.K) (g_var (i := 7) rfl (.inl rfl) rfl rfl) (g_con pe_int fun _ _ => .int _) fun _ _ => rfl) g_anil rfl) rfl) rfl) rfl) rfl) rfl) rfl) rfl) rfl) rfl) rfl) rfl) rfl) rfl)) g_anil rfl) rfl) rfl rfl rfl) g_anil rfl))) (g_sl c.K (g_var (i := 7) rfl (.inl rfl) rfl rfl) (g_oso (g_bin (op_gAddA c.K) (g_var (i := 9) rfl (.inl rfl) rfl rfl) (g_callF c hX hM (A.fn "_law_taken" _ tab__law_taken) (arity tab__law_taken n) (hr.mono (Nat.le_succ _)) rfl (g_acons (g_var (i := 1) rfl (.inl rfl) rfl rfl) (g_acons (g_con pe_int fun _ _ => .int _) g_anil rfl) rfl) rfl rfl rfl))) g_ono)) rfl (.inl rfl))
  (g_cons (g_set (i := 11) S.nd rfl (.inr rfl) (g_mq c.K ty_str PySem.F.plainAttrs_str PySem.F.slot_str_join PySem.F.type_str_join (mt_gJoin c.K) (g_con pe_str fun _ _ => .str _) (g_acons (g_var (i := 10) rfl (.inl rfl) rfl rfl) g_anil rfl) rfl rfl rfl rfl rfl) rfl (.inl rfl))
  (g_one (g_if (g_tnot (g_tval (g_callF c hX hM (A.fn "_law_same" _ tab__law_same) (arity tab__law_same n) (hr.mono (Nat.le_succ _)) rfl (g_acons (g_callFC c hX hM (A.fc "_law_told" _ tab_fc__law_told) (arity tab_fc__law_told n) (hr.mono (Nat.le_succ _)) rfl (fun _ => rfl) (lamTx_by (lam := lamT) (ln := 0) (L := lamD0) (js := [11]) (C8.fnScope st_law) rfl rfl rfl rfl rfl rfl (by kernel_rfl) rfl) (g_al1 (g_lamCF TB hcode hmT huT rfl rfl (lamTx_by (lam := lamT) (ln := 0) (L := lamD0) (js := [11]) (C8.fnScope st_law) rfl rfl rfl rfl rfl rfl (by kernel_rfl) rfl)) rfl) rfl rfl rfl) (g_acons (g_callF c hX hM (A.fn "_law_read" _ tab__law_read) (arity tab__law_read n) (hr.mono (Nat.le_succ _)) rfl (g_acons (g_var (i := 11) rfl (.inr (.inl rfl)) rfl rfl) g_anil rfl) rfl rfl rfl) g_anil rfl) rfl) rfl rfl rfl) fun _ => rfl))
  (g_one (g_ret (g_con pe_bl fun _ _ => .bl _)))
  g_nil))))) fun _ => rfl)
  (g_cons (g_set (i := 12) S.nd rfl (.inr rfl) (g_callF c hX hM (A.fn "_law_pick" _ tab__law_pick) (arity tab__law_pick n) (hr.mono (Nat.le_succ _)) rfl (g_acons (g_var (i := 1) rfl (.inl rfl) rfl rfl) (g_acons (g_lst (g_acons (g_con pe_non fun _ _ => .non) (g_acons (g_con pe_int fun _ _ => .int _) (g_acons (g_lst (g_acons (g_con pe_str fun _ _ => .str _) g_anil rfl)) (g_acons (g_bin (op_gMulA c.K) (g_con pe_str fun _ _ => .str _) (g_con pe_int fun _ _ => .int _)) (g_acons (g_con pe_str fun _ _ => .str _) (g_acons (g_con pe_str fun _ _ => .str _) (g_acons (g_callF c hX hM (A.fn "_law_odd" _ tab__law_odd) (arity tab__law_odd n) (hr.mono (Nat.le_succ _)) rfl (g_acons (g_var (i := 1) rfl (.inl rfl) rfl rfl) g_anil rfl) rfl rfl rfl) g_anil rfl) rfl) rfl) rfl) rfl) rfl) rfl)) g_anil rfl) rfl) rfl rfl rfl) rfl (.inl rfl))
  (g_one (g_if (g_tnot (g_tval (g_callF c hX hM (A.fn "_law_same" _ tab__law_same) (arity tab__law_same n) (hr.mono (Nat.le_succ _)) rfl (g_acons (g_callFC c hX hM (A.fc "_law_told" _ tab_fc__law_told) (arity tab_fc__law_told n) (hr.mono (Nat.le_succ _)) rfl (fun _ => rfl) (lamTx_by (lam := lamT) (ln := 1) (L := lamD1) (js := [12]) (C8.fnScope st_law) rfl rfl rfl rfl rfl rfl (by kernel_rfl) rfl) (g_al1 (g_lamCF TB hcode hmT huT rfl rfl (lamTx_by (lam := lamT) (ln := 1) (L := lamD1) (js := [12]) (C8.fnScope st_law) rfl rfl rfl rfl rfl rfl (by kernel_rfl) rfl)) rfl) rfl rfl rfl) (g_acons (g_callF c hX hM (A.fn "_law_read" _ tab__law_read) (arity tab__law_read n) (hr.mono (Nat.le_succ _)) rfl (g_acons (g_var (i := 12) rfl (.inr (.inl rfl)) rfl rfl) g_anil rfl) rfl rfl rfl) g_anil rfl) rfl) rfl rfl rfl) fun _ => rfl))
  (g_one (g_ret (g_con pe_bl fun _ _ => .bl _)))
  g_nil)))))))) fun _ => rfl)
  (g_one (g_ret (g_con pe_bl fun _ _ => .bl _)))))
theorem ok_law : CalF M (2 * (n + 1) + 2) "law" 1 (callN tab (n + 1) (.fn "law")) := by
  obtain ⟨fd, D⟩ := F.d.def_ 20 (d := dd_law) rfl
  exact ⟨_, fd, ["script"], F.g_law, D.kp, D.bindsN (ps := ["script"]) fun _ _ _ _ _ _ us hl => match us, hl with | [_], _ => rfl, ok_lawG F A D⟩
set_option maxRecDepth 100000 in
theorem ok_fc__law_told : CalFC M lamT (2 * (n + 1) + 2) "_law_told" 1 (callN tab (n + 1) (.fc "_law_told")) := by
  obtain ⟨fd, D⟩ := F.d.def_ 17 (d := dd__law_told) rfl
  refine (g_fnC (k := 2 * n + 3) (N := N__law_told) (ps := ["call"]) (nN := 2) (np := 1) (body := sh_fc__law_told (callN tab n)) D sc__law_told rfl rfl F.g__law_told D.kp (D.bindsN (ps := ["call"]) fun _ _ _ _ _ _ us hl => match us, hl with | [_], _ => rfl) (fun gs S cv h hl => by rw [cn_fc__law_told n gs S h, List.getLastD_eq_getLast?, hl]; rfl) fun cv cdv A0 outer s H E r hcd hM hr c hX hp hH hC => ?_)
  have S := sc__law_told
  exact (g_one (g_told (i := 1) (n := "e") c hX hM F.xt (hr.mono (Nat.le_succ _)) (A.fh "_law_refusal" _ tab_fh__law_refusal) rfl rfl S.nd rfl rfl (.inl rfl) rfl rfl rfl rfl rfl rfl F.g_PolderError rfl (fun W2 pn2 xe2 c hX => (g_one (g_ret (g_tup (g_acons (g_con pe_str fun _ _ => .str _) (g_acons (g_callClo0 c hX hM (hr.mono (Nat.le_succ _)) rfl hH hC A.locK (i := 0) rfl (.inl rfl) rfl rfl) g_anil rfl) rfl)))))))
abbrev N_lam0 : List Str := ["text"]
omit F A in
theorem sc_lam0 : NdefX.NScope N_lam0 [] ["text"] (lamSco lx_0) := NdefX.nscope_by (by kernel_rfl)
theorem ok_lam0 : CalK M lamT (2 * (n + 1) + 2) 0 1 (callN tab (n + 1) (.la 0 1)) := by
  have S := sc_lam0
  refine (g_lamcalC (k := 2 * n + 3) (L := lamD0) (N := N_lam0) (ps := []) (nN := 1) (np := 1) (fe := she_lam0 (callN tab n)) rfl rfl S rfl rfl (fun _ _ _ _ _ us hl => match us, hl with | [], _ => rfl) (fun gs S h => (callN_eq tab_lam0 n gs S h).trans bodyR_ret) fun clo f c' A0 outer s H E r hM hr c hX => ?_)
  exact (g_callF c hX hM (A.fn "read_rule" _ tab_read_rule) (arity tab_read_rule n) (hr.mono (Nat.le_succ _)) rfl (g_acons (g_var (i := 0) rfl (.inr (.inr rfl)) rfl rfl) g_anil rfl) rfl rfl rfl)
abbrev N_lam1 : List Str := ["odd"]
omit F A in
theorem sc_lam1 : NdefX.NScope N_lam1 [] ["odd"] (lamSco lx_1) := NdefX.nscope_by (by kernel_rfl)
theorem ok_lam1 : CalK M lamT (2 * (n + 1) + 2) 1 1 (callN tab (n + 1) (.la 1 1)) := by
  have S := sc_lam1
  refine (g_lamcalC (k := 2 * n + 3) (L := lamD1) (N := N_lam1) (ps := []) (nN := 1) (np := 1) (fe := she_lam1 (callN tab n)) rfl rfl S rfl rfl (fun _ _ _ _ _ us hl => match us, hl with | [], _ => rfl) (fun gs S h => (callN_eq tab_lam1 n gs S h).trans bodyR_ret) fun clo f c' A0 outer s H E r hM hr c hX => ?_)
  exact (g_callF c hX hM (A.fn "read_rule" _ tab_read_rule) (arity tab_read_rule n) (hr.mono (Nat.le_succ _)) rfl (g_acons (g_var (i := 0) rfl (.inr (.inr rfl)) rfl rfl) g_anil rfl) rfl rfl rfl)
end
section
variable {M : Md} (F : Fx M)
include F
theorem ok0_is_whole : CalF M (2 * 0 + 2) "is_whole" 1 (fun _ _ => .bad) := by
  obtain ⟨fd, D⟩ := F.d.def_ 0 (d := dd_is_whole) rfl
  exact ⟨_, fd, ["value"], F.g_is_whole, D.kp, D.bindsN (ps := ["value"]) fun _ _ _ _ _ _ us hl => match us, hl with | [_], _ => rfl, GFn.zero (k := 2 * 0 + 2) (np := 1) rfl⟩
theorem ok0_is_within : CalF M (2 * 0 + 2) "is_within" 3 (fun _ _ => .bad) := by
  obtain ⟨fd, D⟩ := F.d.def_ 1 (d := dd_is_within) rfl
  exact ⟨_, fd, ["value", "least", "most"], F.g_is_within, D.kp, D.bindsN (ps := ["value", "least", "most"]) fun _ _ _ _ _ _ us hl => match us, hl with | [_, _, _], _ => rfl, GFn.zero (k := 2 * 0 + 2) (np := 3) rfl⟩
theorem ok0_is_row : CalF M (2 * 0 + 2) "is_row" 2 (fun _ _ => .bad) := by
  obtain ⟨fd, D⟩ := F.d.def_ 2 (d := dd_is_row) rfl
  exact ⟨_, fd, ["value", "size"], F.g_is_row, D.kp, D.bindsN (ps := ["value", "size"]) fun _ _ _ _ _ _ us hl => match us, hl with | [_, _], _ => rfl, GFn.zero (k := 2 * 0 + 2) (np := 2) rfl⟩
theorem ok0_first_wrong : CalF M (2 * 0 + 2) "first_wrong" 4 (fun _ _ => .bad) := by
  obtain ⟨fd, D⟩ := F.d.def_ 3 (d := dd_first_wrong) rfl
  exact ⟨_, fd, ["value", "least", "most", "judge"], F.g_first_wrong, D.kp, D.bindsN (ps := ["value", "least", "most", "judge"]) fun _ _ _ _ _ _ us hl => match us, hl with | [_, _, _, _], _ => rfl, GFn.zero (k := 2 * 0 + 2) (np := 4) rfl⟩
theorem ok0_place_told : CalF M (2 * 0 + 2) "place_told" 1 (fun _ _ => .bad) := by
  obtain ⟨fd, D⟩ := F.d.def_ 4 (d := dd_place_told) rfl
  exact ⟨_, fd, ["place"], F.g_place_told, D.kp, D.bindsN (ps := ["place"]) fun _ _ _ _ _ _ us hl => match us, hl with | [_], _ => rfl, GFn.zero (k := 2 * 0 + 2) (np := 1) rfl⟩
theorem ok0_is_pair : CalF M (2 * 0 + 2) "is_pair" 2 (fun _ _ => .bad) := by
  obtain ⟨fd, D⟩ := F.d.def_ 5 (d := dd_is_pair) rfl
  exact ⟨_, fd, ["row", "ahead"], F.g_is_pair, D.kp, D.bindsN (ps := ["row", "ahead"]) fun _ _ _ _ _ _ us hl => match us, hl with | [_, _], _ => rfl, GFn.zero (k := 2 * 0 + 2) (np := 2) rfl⟩
theorem ok0_wrong_place : CalF M (2 * 0 + 2) "wrong_place" 1 (fun _ _ => .bad) := by
  obtain ⟨fd, D⟩ := F.d.def_ 6 (d := dd_wrong_place) rfl
  exact ⟨_, fd, ["rule"], F.g_wrong_place, D.kp, D.bindsN (ps := ["rule"]) fun _ _ _ _ _ _ us hl => match us, hl with | [_], _ => rfl, GFn.zero (k := 2 * 0 + 2) (np := 1) rfl⟩
theorem ok0_require_rule : CalF M (2 * 0 + 2) "require_rule" 1 (fun _ _ => .bad) := by
  obtain ⟨fd, D⟩ := F.d.def_ 7 (d := dd_require_rule) rfl
  exact ⟨_, fd, ["rule"], F.g_require_rule, D.kp, D.bindsN (ps := ["rule"]) fun _ _ _ _ _ _ us hl => match us, hl with | [_], _ => rfl, GFn.zero (k := 2 * 0 + 2) (np := 1) rfl⟩
theorem ok0_rule_line : CalF M (2 * 0 + 2) "rule_line" 1 (fun _ _ => .bad) := by
  obtain ⟨fd, D⟩ := F.d.def_ 8 (d := dd_rule_line) rfl
  exact ⟨_, fd, ["rule"], F.g_rule_line, D.kp, D.bindsN (ps := ["rule"]) fun _ _ _ _ _ _ us hl => match us, hl with | [_], _ => rfl, GFn.zero (k := 2 * 0 + 2) (np := 1) rfl⟩
theorem ok0_pair_in : CalF M (2 * 0 + 2) "pair_in" 1 (fun _ _ => .bad) := by
  obtain ⟨fd, D⟩ := F.d.def_ 9 (d := dd_pair_in) rfl
  exact ⟨_, fd, ["word"], F.g_pair_in, D.kp, D.bindsN (ps := ["word"]) fun _ _ _ _ _ _ us hl => match us, hl with | [_], _ => rfl, GFn.zero (k := 2 * 0 + 2) (np := 1) rfl⟩
theorem ok0_read_rule : CalF M (2 * 0 + 2) "read_rule" 1 (fun _ _ => .bad) := by
  obtain ⟨fd, D⟩ := F.d.def_ 10 (d := dd_read_rule) rfl
  exact ⟨_, fd, ["line"], F.g_read_rule, D.kp, D.bindsN (ps := ["line"]) fun _ _ _ _ _ _ us hl => match us, hl with | [_], _ => rfl, GFn.zero (k := 2 * 0 + 2) (np := 1) rfl⟩
theorem ok0__law_taken : CalF M (2 * 0 + 2) "_law_taken" 2 (fun _ _ => .bad) := by
  obtain ⟨fd, D⟩ := F.d.def_ 11 (d := dd__law_taken) rfl
  exact ⟨_, fd, ["row", "many"], F.g__law_taken, D.kp, D.bindsN (ps := ["row", "many"]) fun _ _ _ _ _ _ us hl => match us, hl with | [_, _], _ => rfl, GFn.zero (k := 2 * 0 + 2) (np := 2) rfl⟩
theorem ok0__law_pick : CalF M (2 * 0 + 2) "_law_pick" 2 (fun _ _ => .bad) := by
  obtain ⟨fd, D⟩ := F.d.def_ 12 (d := dd__law_pick) rfl
  exact ⟨_, fd, ["row", "things"], F.g__law_pick, D.kp, D.bindsN (ps := ["row", "things"]) fun _ _ _ _ _ _ us hl => match us, hl with | [_, _], _ => rfl, GFn.zero (k := 2 * 0 + 2) (np := 2) rfl⟩
theorem ok0__law_alike : CalF M (2 * 0 + 2) "_law_alike" 2 (fun _ _ => .bad) := by
  obtain ⟨fd, D⟩ := F.d.def_ 13 (d := dd__law_alike) rfl
  exact ⟨_, fd, ["found", "due"], F.g__law_alike, D.kp, D.bindsN (ps := ["found", "due"]) fun _ _ _ _ _ _ us hl => match us, hl with | [_, _], _ => rfl, GFn.zero (k := 2 * 0 + 2) (np := 2) rfl⟩
theorem ok0__law_same : CalF M (2 * 0 + 2) "_law_same" 2 (fun _ _ => .bad) := by
  obtain ⟨fd, D⟩ := F.d.def_ 14 (d := dd__law_same) rfl
  exact ⟨_, fd, ["found", "due"], F.g__law_same, D.kp, D.bindsN (ps := ["found", "due"]) fun _ _ _ _ _ _ us hl => match us, hl with | [_, _], _ => rfl, GFn.zero (k := 2 * 0 + 2) (np := 2) rfl⟩
theorem ok0__law_odd : CalF M (2 * 0 + 2) "_law_odd" 1 (fun _ _ => .bad) := by
  obtain ⟨fd, D⟩ := F.d.def_ 15 (d := dd__law_odd) rfl
  exact ⟨_, fd, ["row"], F.g__law_odd, D.kp, D.bindsN (ps := ["row"]) fun _ _ _ _ _ _ us hl => match us, hl with | [_], _ => rfl, GFn.zero (k := 2 * 0 + 2) (np := 1) rfl⟩
theorem ok0__law_refusal : CalH M (2 * 0 + 2) "_law_refusal" (fun _ _ => .bad) := by
  obtain ⟨fd, D⟩ := F.d.def_ 16 (d := dd__law_refusal) rfl
  exact CalH.zero F.g__law_refusal D.kp (D.bindsN (ps := ["e"]) fun _ _ _ _ _ _ us hl => match us, hl with | [_], _ => rfl) rfl
theorem ok0__law_told : CalF M (2 * 0 + 2) "_law_told" 1 (fun _ _ => .bad) := by
  obtain ⟨fd, D⟩ := F.d.def_ 17 (d := dd__law_told) rfl
  exact ⟨_, fd, ["call"], F.g__law_told, D.kp, D.bindsN (ps := ["call"]) fun _ _ _ _ _ _ us hl => match us, hl with | [_], _ => rfl, GFn.zero (k := 2 * 0 + 2) (np := 1) rfl⟩
theorem ok0__law_rule : CalF M (2 * 0 + 2) "_law_rule" 1 (fun _ _ => .bad) := by
  obtain ⟨fd, D⟩ := F.d.def_ 18 (d := dd__law_rule) rfl
  exact ⟨_, fd, ["row"], F.g__law_rule, D.kp, D.bindsN (ps := ["row"]) fun _ _ _ _ _ _ us hl => match us, hl with | [_], _ => rfl, GFn.zero (k := 2 * 0 + 2) (np := 1) rfl⟩
theorem ok0__law_read : CalF M (2 * 0 + 2) "_law_read" 1 (fun _ _ => .bad) := by
  obtain ⟨fd, D⟩ := F.d.def_ 19 (d := dd__law_read) rfl
  exact ⟨_, fd, ["line"], F.g__law_read, D.kp, D.bindsN (ps := ["line"]) fun _ _ _ _ _ _ us hl => match us, hl with | [_], _ => rfl, GFn.zero (k := 2 * 0 + 2) (np := 1) rfl⟩
theorem ok0_law : CalF M (2 * 0 + 2) "law" 1 (fun _ _ => .bad) := by
  obtain ⟨fd, D⟩ := F.d.def_ 20 (d := dd_law) rfl
  exact ⟨_, fd, ["script"], F.g_law, D.kp, D.bindsN (ps := ["script"]) fun _ _ _ _ _ _ us hl => match us, hl with | [_], _ => rfl, GFn.zero (k := 2 * 0 + 2) (np := 1) rfl⟩
theorem ok0_fc__law_told : CalFC M lamT (2 * 0 + 2) "_law_told" 1 (fun _ _ => .bad) := by
  obtain ⟨fd, D⟩ := F.d.def_ 17 (d := dd__law_told) rfl
  exact CalFC.zero F.g__law_told D.kp (D.bindsN (ps := ["call"]) fun _ _ _ _ _ _ us hl => match us, hl with | [_], _ => rfl) rfl
theorem allOk : ∀ n, AllOk M tab lamT n
  | 0 => allOk_of (l := tabL) (fun _ => rfl) (all_cons (OkAt.fn (ok0_is_whole F)) (all_cons (OkAt.fn (ok0_is_within F)) (all_cons (OkAt.fn (ok0_is_row F)) (all_cons (OkAt.fn (ok0_first_wrong F)) (all_cons (OkAt.fn (ok0_place_told F)) (all_cons (OkAt.fn (ok0_is_pair F)) (all_cons (OkAt.fn (ok0_wrong_place F)) (all_cons (OkAt.fn (ok0_require_rule F)) (all_cons (OkAt.fn (ok0_rule_line F)) (all_cons (OkAt.fn (ok0_pair_in F)) (all_cons (OkAt.fn (ok0_read_rule F)) (all_cons (OkAt.fn (ok0__law_taken F)) (all_cons (OkAt.fn (ok0__law_pick F)) (all_cons (OkAt.fn (ok0__law_alike F)) (all_cons (OkAt.fn (ok0__law_same F)) (all_cons (OkAt.fn (ok0__law_odd F)) (all_cons (OkAt.fh (ok0__law_refusal F)) (all_cons (OkAt.fn (ok0__law_told F)) (all_cons (OkAt.fn (ok0__law_rule F)) (all_cons (OkAt.fn (ok0__law_read F)) (all_cons (OkAt.fn (ok0_law F)) (all_cons (OkAt.fc (ok0_fc__law_told F)) (all_cons (OkAt.lk CalK.zero) (all_cons (OkAt.lk CalK.zero) (all_nil)))))))))))))))))))))))))
  | n + 1 => allOk_of (l := tabL) (fun _ => rfl) (have A := allOk n; all_cons (OkAt.fn (ok_is_whole F A)) (all_cons (OkAt.fn (ok_is_within F A)) (all_cons (OkAt.fn (ok_is_row F A)) (all_cons (OkAt.fn (ok_first_wrong F A)) (all_cons (OkAt.fn (ok_place_told F A)) (all_cons (OkAt.fn (ok_is_pair F A)) (all_cons (OkAt.fn (ok_wrong_place F A)) (all_cons (OkAt.fn (ok_require_rule F A)) (all_cons (OkAt.fn (ok_rule_line F A)) (all_cons (OkAt.fn (ok_pair_in F A)) (all_cons (OkAt.fn (ok_read_rule F A)) (all_cons (OkAt.fn (ok__law_taken F A)) (all_cons (OkAt.fn (ok__law_pick F A)) (all_cons (OkAt.fn (ok__law_alike F A)) (all_cons (OkAt.fn (ok__law_same F A)) (all_cons (OkAt.fn (ok__law_odd F A)) (all_cons (OkAt.fh (ok__law_refusal F A)) (all_cons (OkAt.fn (ok__law_told F A)) (all_cons (OkAt.fn (ok__law_rule F A)) (all_cons (OkAt.fn (ok__law_read F A)) (all_cons (OkAt.fn (ok_law F A)) (all_cons (OkAt.fc (ok_fc__law_told F A)) (all_cons (OkAt.lk (ok_lam0 F A)) (all_cons (OkAt.lk (ok_lam1 F A)) (all_nil)))))))))))))))))))))))))
end
theorem facts {w : World} {K : PySem.W.Frag} {h : Heap} {mg : Str → Option Value} {f : Addr} (KX : K.In h) (hG : h.Ns mainGlobals mg) (hfa : mg ("law" : Str) = some (.ref f)) (c : He.SaysX fa fnL [] tfL ex w h K)
    (plain : ∀ ns : List Int, ns.length ≤ 63 → (∀ z ∈ ns, Builtin.Int.intBits z ≤ 1048576) → ∃ S', callN tab 100 (.fn "law") [.fz (ns.map .int)] [] = .ok (.bl true) S') :
    ∃ (K : PySem.W.Frag) (cs : List (Addr × Addr)) (fd : FuncData) (T : List (Addr × Str)) (isClo : Nat → Obj → List (Str × Addr) → Option Addr → Addr → Str → Prop) (cl : List G → Sto → R G),
      K.In h ∧ (∀ p ∈ cs, h.get? p.2 = some { cls := .none, data := .fields #[] }) ∧ (∀ p ∈ cs, K.lookup p.2 = none) ∧ (∀ p ∈ cs, PySem.W.CodeHd h p.1 p.2) ∧ (∀ p ∈ T, p.1 ∈ cs.map (·.2)) ∧ (∀ (s : Shared) (u : Value), BindsTo s fd ⟨[u], []⟩ [("script", u)]) ∧
        (∀ ns : List Int, ns.length ≤ 63 → (∀ z ∈ ns, Builtin.Int.intBits z ≤ 1048576) → ∃ S', cl [.fz (ns.map .int)] [] = .ok (.bl true) S') ∧
        ∀ base : Heap, K.In base → base.Ns mainGlobals mg → (∀ p ∈ cs, TabB base mg p.1 p.2) → GFn ⟨prog, w, K, mg, base, T, isClo⟩ 202 f fd ["script"] (spG ⟨prog, w, K, mg, base, T, isClo⟩ 1 cl) := by
  obtain ⟨fd, D⟩ := c.t.d.def_ 20 (d := dd_law) rfl
  have e := hfa.symm.trans (He.glo_ok KX hG (c.t.d.fact 37 (f := .glo "law") rfl))
  cases e
  have b := FunD.bindsA (ps := ["script"]) D fun _ _ _ _ _ _ us hl => match us, hl with | [_], _ => rfl
  refine ⟨K, tfL.map (He.cT K), fd, [((He.cT K ("law", none)).2, "law.<locals>.<lambda>")], loIs lamT, callN tab 100 (.fn "law"), KX, fun p hp => ?_, fun p hp => ?_, fun p hp => ?_, fun p hp => ?_, fun s v => b s [v] rfl, plain, fun base h1 h2 h3 => ?_⟩
  · obtain ⟨q, hq, rfl⟩ := List.mem_map.mp hp
    exact c.empty q hq
  · obtain ⟨q, hq, rfl⟩ := List.mem_map.mp hp
    exact c.out q hq
  · obtain ⟨q, hq, rfl⟩ := List.mem_map.mp hp
    exact PySem.W.codeHd_of_K KX (c.hd q hq)
  · revert p; simp [tfL]
  · have F : Fx ⟨prog, w, K, mg, base, [((He.cT K ("law", none)).2, "law.<locals>.<lambda>")], loIs lamT⟩ := ⟨h1, h2, c.t.d, c.more, fun p hp => h3 _ (List.mem_map_of_mem hp), rfl, rfl, rfl⟩
    exact ok_lawG F (allOk F 99) D
abbrev Rw : PySem.W.OpenRow := PySem.W.OpenLaw.row PySem.Challenge.rw_polderkeep_k02_whole_lines_of_rules
abbrev qv : Program := PySem.W.view Rw.prog [48]
abbrev hk : PySem.W.Hook := GL.hookZ [cStatics] 4 fa fnL [] tfL ex
def ob (s : PySem.W.SharedT) : He.AlX := GL.obsZ [cStatics] 4 fa fnL [] tfL ex (HandSHeadRun.getT s)
theorem ob_eq (s : PySem.W.SharedT) : ob s = hk.obs s.abs := GL.obsZ_eq (HandSHeadRun.getT_eq s)
def names0 : List Str := [PySem.Str.ofString "is_whole", PySem.Str.ofString "is_within", PySem.Str.ofString "is_row", PySem.Str.ofString "first_wrong", PySem.Str.ofString "place_told", PySem.Str.ofString "PolderError", PySem.Str.ofString "BadKeep", PySem.Str.ofString "BadNumber", PySem.Str.ofString "UnknownPolder", PySem.Str.ofString "UnknownArea", PySem.Str.ofString "BadRule", PySem.Str.ofString "BadCourse", PySem.Str.ofString "BadDikes", PySem.Str.ofString "BadAreas", PySem.Str.ofString "BadRain", PySem.Str.ofString "BadPrices", PySem.Str.ofString "TooMany", PySem.Str.ofString "BadText", PySem.Str.ofString "BadLine", PySem.Str.ofString "NotKept", PySem.Str.ofString "BadClaim", PySem.Str.ofString "NothingDone", PySem.Str.ofString "MOST_PAIRS", PySem.Str.ofString "MOST_LEVEL", PySem.Str.ofString "MOST_PUMPED", PySem.Str.ofString "BLANK", PySem.Str.ofString "COLON", PySem.Str.ofString "NONE", PySem.Str.ofString "DIGITS", PySem.Str.ofString "is_pair", PySem.Str.ofString "wrong_place", PySem.Str.ofString "require_rule", PySem.Str.ofString "rule_line", PySem.Str.ofString "pair_in", PySem.Str.ofString "read_rule", PySem.Str.ofString "_law_taken", PySem.Str.ofString "_law_pick", PySem.Str.ofString "_law_alike", PySem.Str.ofString "_law_same", PySem.Str.ofString "_law_odd"]
def names1 : List Str := [PySem.Str.ofString "_law_refusal", PySem.Str.ofString "_law_told", PySem.Str.ofString "_law_rule", PySem.Str.ofString "_law_read"]
def names : List Str := names0 ++ names1
theorem run (w : World) : HandSHeadRun.RunEq Rw qv hk ob 20000 names w := by
  intro os
  kernel_rfl
end Lk02
open PySem PySem.W PySem.Calls PyProof.Rows
theorem Lk02.holds (plain : ∀ ns : List Int, ns.length ≤ 63 → (∀ z ∈ ns, Builtin.Int.intBits z ≤ 1048576) → ∃ S', GL.callN Lk02.tab 100 (.fn "law") [.fz (ns.map .int)] [] = .ok (.bl true) S') : PySem.Challenge.rw_polderkeep_k02_whole_lines_of_rules.Holds := by
  w_on; o_law
  refine HandSHeadRun.head_any (r := Lk02.Rw) (q := Lk02.qv) (H := Lk02.hk) (ob := Lk02.ob) (M := 20000) (loose := Lk02.names) (d := HandSHeadRun.topDef Lk02.Rw.prog 48) (kwd := []) Lk02.ob_eq
    (by kernel_rfl) (fun s => by kernel_rfl) Lk02.run (by kernel_rfl) (by kernel_rfl) (by kernel_rfl) (by rfl) (by first | assumption | decide +kernel) (by decide +kernel) ⟨rfl, rfl, rfl, rfl, rfl, by decide +kernel⟩ ?hw ?hc
  case hw => w_witness2
  case hc =>
    refine GL.walk_G (l := PySem.Challenge.rw_polderkeep_k02_whole_lines_of_rules) (n := 63) (k := 202) (x := "script") rfl (by decide) (by kernel_rfl) ⟨rfl, by decide, by decide⟩ ?F
    intro w mg fa h Y G hmg0
    obtain ⟨K, KX, c⟩ := Y
    have hmg : mg ("law" : PySem.Str) = some (.ref fa) := by
      have e : (HandSHeadRun.topDef Lk02.Rw.prog 48).name = ("law" : PySem.Str) := by kernel_rfl
      rw [← e]
      exact hmg0
    exact Lk02.facts KX G hmg c plain

end

section
namespace Lk02
end Lk02
theorem PySem.Challenge.cw_polderkeep_k02_whole_lines_of_rules_holds : PySem.Challenge.rw_polderkeep_k02_whole_lines_of_rules.Holds :=
  Lk02.holds fun ns _ _ => Lk02.plain ns

end
